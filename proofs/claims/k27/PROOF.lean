import PyProof.Rows.All
import Wide.All
import OpenK.AllK
import Wide.FinOn
import PyProof.EqAt
import PyProof.EqKinds
import PyProof.TupleCall
import HandS.Conv
import HandS.ForMost
import HandS.ForExc
import HandS.IsInst
import HandS.ExcIs
import HandS.ExcValue
import HandS.Wide
import PyProof.NoPylong
import HandS.Zip
import HandS.Flow
import HandS.TupAny
import HandS.Deep
import HandS.EndBits
import HandS.WideBits
import HandS.TupLe
import HandS.TupSets
import HandS.Style
import PyProof.Draws
import HandS.TryOnly
import PySem.Challenge.RW_roundsides_k27_worths_of_tables
set_option Elab.async false
set_option linter.all false
set_option autoImplicit false
set_option maxRecDepth 100000
set_option maxHeartbeats 8000000
/-! The data layer, part A: plain data, a small syntax, what it computes. -/
namespace Dl
open PySem

/-- how many error classes the law's text has -/
class NC where
  n : Nat
/-- plain data; exc c: a caught error of class number c; ref a: a list that may change, told by the store; dct: a dict that stays -/
inductive D where
  | non | bl (b : Bool) | int (i : Int) | str (x : Str) | tup (xs : List D) | lst (xs : List D) | exc (c : Nat) | ref (a : Addr) | dct (ks : List Int) (vs : List D)
deriving Inhabited

mutual
def D.py : D → PyData
  | .non => .none
  | .bl b => .bool b
  | .int i => .int i
  | .str x => .str x
  | .tup xs => .tuple (pys xs)
  | .lst xs => .list (pys xs)
  | .exc _ => .none
  | .ref _ => .none
  | .dct _ _ => .none
def pys : List D → List PyData
  | [] => []
  | x :: xs => x.py :: pys xs
end
/-- data that == may look at: no errors, no references, at most n deep -/
def fit : Nat → D → Bool
  | _, .non => true
  | _, .bl _ => true
  | _, .int _ => true
  | _, .str x => PyData.strOk x
  | n + 1, .tup xs => xs.all (fit n)
  | n + 1, .lst xs => xs.all (fit n)
  | _, _ => false
def deq (a b : D) : Bool := PyData.eqv a.py b.py

abbrev Mu := Addr → Option (List D)
def mset (μ : Mu) (a : Addr) (ds : List D) : Mu := fun b => if b = a then some ds else μ b
def mdel (μ : Mu) (a : Addr) : Mu := fun b => if b = a then none else μ b
theorem mset_same (μ : Mu) (a : Addr) (ds : List D) : mset μ a ds a = some ds := by unfold mset; rw [if_pos rfl]
theorem mset_ne (μ : Mu) {a b : Addr} (ds : List D) (h : b ≠ a) : mset μ a ds b = μ b := by unfold mset; rw [if_neg h]
theorem mset_mset (μ : Mu) (a : Addr) (ds es : List D) : mset (mset μ a ds) a es = mset μ a es := by
  funext b; unfold mset; split <;> rfl
theorem mdel_same (μ : Mu) (a : Addr) : mdel μ a a = none := by unfold mdel; rw [if_pos rfl]
theorem mdel_ne (μ : Mu) {a b : Addr} (h : b ≠ a) : mdel μ a b = μ b := by unfold mdel; rw [if_neg h]
theorem mdel_mset (μ : Mu) (a : Addr) (ds : List D) (h : μ a = none) : mdel (mset μ a ds) a = μ := by
  funext b; unfold mdel mset
  by_cases e : b = a
  · rw [if_pos e, e, h]
  · rw [if_neg e, if_neg e]
abbrev Rho := List (Option D)
abbrev Pst := D → Mu → Prop
abbrev Xst := Nat → Mu → Prop
/-- a def's promise over data -/
abbrev DSp := List D → Mu → Pst → Xst → Prop

def rg : Rho → Nat → Option D
  | [], _ => none
  | o :: _, 0 => o
  | _ :: r, n + 1 => rg r n
def rs : Rho → Nat → Option D → Rho
  | [], _, _ => []
  | _ :: r, 0, v => v :: r
  | o :: r, n + 1, v => o :: rs r n v

inductive Ty where
  | int | bool | tuple | list | str | cls (c : Nat) | vErr
inductive Op2 where
  | add | sub | mul | fdiv | mod | pow | shl
inductive Cop where
  | eq | ne | lt | le | gt | ge | in_ | notin | is_ | isnt | eqm | nem | inT | notinT | ner
inductive Bl1 where
  | len | abs | sum | all | any | tuple | list | listM | int | str
inductive Bl2 where
  | max | min
/-- methods of a list that may change, without arguments -/
inductive Mth where
  | clear | reverse
inductive MT where
  | name (i : Nat) | tup (is : List Nat)

mutual
inductive ME where
  | var (i : Nat)
  | non | bl (b : Bool) | int (i : Int) | str (x : Str)
  | glob (x : Str) (d : D)
  | bin (o : Op2) (a b : ME)
  | neg (a : ME)
  | tup (a : MA) | lst (a : MA) | newl (a : MA)
  | ixc (a : ME) (n : Nat) | ix (a i : ME)
  | slc (a : ME) (lo hi : MO)
  | call (x : Str) (S : DSp) (a : MA)
  | bl1 (f : Bl1) (a : ME) | bl2 (f : Bl2) (a b : ME)
  | isi (a : ME) (t : Ty)
  | cmp (o : Cop) (a b : ME)
  | isN (yes : Bool) (a : ME)
  | bop (isAnd : Bool) (a : MA)
  | nt (a : ME)
  | ife (t a b : ME)
  | lc (mu : Bool) (tg : MT) (it : MI) (c : MO) (e : ME)
  | bits (a : ME)
  | callAt (fl : List (Str × DSp)) (i : ME) (a : MA)
  | rev (a : ME)
  | join (s : Str) (a : ME)
  | split (a : ME) (s : Str)
  | setl (a : ME)
  | cat (mu : Bool) (a b : ME)
  | isl (a : ME)
  | lcr (mu : Bool) (tg : MT) (a : ME) (c : MO) (e : ME)
  | frz (a : ME)
  | rgl (a b : ME)
  | idx (a e : ME)
  | cnt (a e : ME)
  | dix (a i : ME)
  | lcz (tg : MT) (a b : ME) (c : MO) (e : ME)
  | zpl (a b : ME)
  | rg1 (b : ME)
inductive MA where
  | nil | cons (e : ME) (a : MA)
inductive MO where
  | no | so (e : ME)
inductive MI where
  | seq (e : ME) | rng1 (a : ME) | rng2 (a b : ME) | zip (a b : ME)
end
mutual
inductive MS where
  | pas
  | asg (t : MT) (e : ME)
  | asgr (is : List Nat) (e : ME)
  | par (i j : Nat) (a b : ME)
  | par3 (i j l : Nat) (a b c : ME)
  | setix (o i e : ME)
  | set2 (o i p j e : ME)
  | app (o e : ME)
  | ext (o e : ME)
  | mth (f : Mth) (o : ME)
  | pop (o : ME)
  | rem (o e : ME)
  | expr (e : ME)
  | ret (e : ME)
  | retN
  | ite (t : ME) (a b : MB)
  | loop (t : MT) (it : MI) (b : MB)
  | loopr (t : MT) (a : ME) (b : MB)
  | whl (t : ME) (b : MB)
  | brk | cnt
  | rais (c : Nat)
  | try1 (c : Nat) (b : MB) (i j : Nat)
  | try0 (c : Nat) (b : MB) (j : Nat)
inductive MB where
  | nil | cons (s : MS) (b : MB)
  | dctL (i j : Nat) (it : MI) (e : ME) (b : MB)
end

/-! ### what it computes -/
def ifD : Option D → (D → Prop) → Prop
  | some d, p => p d
  | none, _ => False
def ifB : Option Bool → (Bool → Prop) → Prop
  | some d, p => p d
  | none, _ => False
def ifL : Option (List D) → (List D → Prop) → Prop
  | some d, p => p d
  | none, _ => False
def asI : D → (Int → Prop) → Prop
  | .int i, p => p i
  | _, _ => False
def asB : D → (Bool → Prop) → Prop
  | .bl i, p => p i
  | _, _ => False
def isNon : D → Bool
  | .non => true
  | _ => false
/-- the items of a list or a tuple -/
def itemsOf : D → Mu → Option (List D)
  | .tup ds, _ => some ds
  | .lst ds, _ => some ds
  | .ref p, μ => μ p
  | _, _ => none
def itemsF : D → Option (List D)
  | .tup ds => some ds
  | .lst ds => some ds
  | _ => none
def strAt (z : Str) (n : Nat) : Option D := if z.length ≤ 100000 then (z.cps.toList[n]?).map fun c => D.str ⟨#[c]⟩ else none
def strAtI (z : Str) (n : Int) : Option D := if z.length ≤ 100000 then (L2.atI z.cps.toList n).map fun c => D.str ⟨#[c]⟩ else none
def selN : D → Mu → Nat → Option D
  | .tup ds, _, n => ds[n]?
  | .lst ds, _, n => ds[n]?
  | .ref p, μ, n => (μ p).bind fun ds => ds[n]?
  | .str z, _, n => strAt z n
  | _, _, _ => none
def selI : D → Mu → Int → Option D
  | .tup ds, _, n => L2.atI ds n
  | .lst ds, _, n => L2.atI ds n
  | .ref p, μ, n => (μ p).bind fun ds => L2.atI ds n
  | .str z, _, n => strAtI z n
  | _, _, _ => none
def truD : D → Mu → Option Bool
  | .bl b, _ => some b
  | .int i, _ => some (i != 0)
  | .non, _ => some false
  | .tup ds, _ => some (!ds.isEmpty)
  | .lst ds, _ => some (!ds.isEmpty)
  | .ref p, μ => (μ p).map fun ds => !ds.isEmpty
  | .str z, _ => if z.length ≤ 100000 then some (z.length != 0) else none
  | _, _ => none
def divOk (j : Int) : Prop := j ≠ 0
def mulOk (i j : Int) : Prop := i.natAbs.log2 + j.natAbs.log2 < 130000000
def powOk (i j : Int) : Prop := 0 ≤ j ∧ j ≤ 1000000 ∧ i.natAbs < 2 ^ 64
def opD : Op2 → D → D → Mu → Pst → Prop
  | .add, .int i, .int j, μ, Q => Q (.int (i + j)) μ
  | .add, .str x, .str y, μ, Q => x.length + y.length ≤ 100000 ∧ Q (.str (x ++ y)) μ
  | .add, .lst xs, .lst ys, μ, Q => xs.length + ys.length ≤ 100000 ∧ Q (.lst (xs ++ ys)) μ
  | .add, .tup xs, .tup ys, μ, Q => xs.length + ys.length ≤ 100000 ∧ Q (.tup (xs ++ ys)) μ
  | .sub, .int i, .int j, μ, Q => Q (.int (i - j)) μ
  | .mul, .int i, .int j, μ, Q => mulOk i j ∧ Q (.int (i * j)) μ
  | .mul, .lst xs, .int n, μ, Q => n ≤ 100000 ∧ xs.length * n.toNat ≤ 100000 ∧ -100000 ≤ n ∧ Q (.lst (List.replicate n.toNat xs).flatten) μ
  | .fdiv, .int i, .int j, μ, Q => divOk j ∧ Q (.int (i.fdiv j)) μ
  | .mod, .int i, .int j, μ, Q => j ≠ 0 ∧ Q (.int (i.fmod j)) μ
  | .pow, .int i, .int j, μ, Q => powOk i j ∧ Q (.int (i ^ j.toNat)) μ
  | .shl, .int i, .int j, μ, Q => powOk i j ∧ Q (.int (i * 2 ^ j.toNat)) μ
  | _, _, _, _, _ => False
def cutD (xs : List D) (lo hi : Option Int) : List D := (xs.drop (HT.sIx xs.length 0 lo)).take (HT.sIx xs.length xs.length hi - HT.sIx xs.length 0 lo)
def slcD : D → Option Int → Option Int → Mu → Pst → Prop
  | .lst ds, lo, hi, μ, Q => Q (.lst (cutD ds lo hi)) μ
  | .tup ds, lo, hi, μ, Q => Q (.tup (cutD ds lo hi)) μ
  | .ref p, lo, hi, μ, Q => ifL (μ p) fun ds => Q (.lst (cutD ds lo hi)) μ
  | .str z, lo, hi, μ, Q => z.length ≤ 100000 ∧ Q (.str (L2.cutS z lo hi)) μ
  | _, _, _, _, _ => False
def intsD : List D → Option (List Int)
  | [] => some []
  | .int i :: r => (intsD r).map (i :: ·)
  | _ :: _ => none
def blsD : List D → Option (List Bool)
  | [] => some []
  | .bl i :: r => (blsD r).map (i :: ·)
  | _ :: _ => none
def ifIs : Option (List Int) → (List Int → Prop) → Prop
  | some d, p => p d
  | none, _ => False
def ifBs : Option (List Bool) → (List Bool → Prop) → Prop
  | some d, p => p d
  | none, _ => False
def b1D : Bl1 → D → Mu → Pst → Prop
  | .len, .str z, μ, Q => z.length ≤ 100000 ∧ Q (.int z.length) μ
  | .len, d, μ, Q => ifL (itemsOf d μ) fun ds => Q (.int ds.length) μ
  | .abs, .int i, μ, Q => Q (.int (i.natAbs : Nat)) μ
  | .sum, .lst ds, μ, Q => ifIs (intsD ds) fun ns => Q (.int ns.sum) μ
  | .all, .lst ds, μ, Q => ifBs (blsD ds) fun bs => Q (.bl (bs.all id)) μ
  | .any, .lst ds, μ, Q => ifBs (blsD ds) fun bs => Q (.bl (bs.any id)) μ
  | .tuple, d, μ, Q => ifL (itemsOf d μ) fun ds => Q (.tup ds) μ
  | .list, d, μ, Q => ifL (itemsOf d μ) fun ds => Q (.lst ds) μ
  | .listM, d, μ, Q => ifL (itemsOf d μ) fun ds => ∀ p, μ p = none → Q (.ref p) (mset μ p ds)
  | .int, .int i, μ, Q => Q (.int i) μ
  | .int, .bl b, μ, Q => Q (.int (if b then 1 else 0)) μ
  | .str, .int i, μ, Q => i.natAbs.log2 < 1920 ∧ Q (.str (toString i)) μ
  | .str, .str x, μ, Q => Q (.str x) μ
  | .str, d, μ, Q => fit 60 d = true ∧ d.py.showable = true ∧ d.py.shown.length ≤ 100000 ∧ Q (.str d.py.shown) μ
  | _, _, _, _ => False
def b2D : Bl2 → D → D → Mu → Pst → Prop
  | .max, .int i, .int j, μ, Q => Q (.int (if j > i then j else i)) μ
  | .min, .int i, .int j, μ, Q => Q (.int (if j < i then j else i)) μ
  | _, _, _, _, _ => False
/-- class number 0 is the base of all -/
def subC (c' c : Nat) : Bool := c == 0 || c' == c
def isiD [NC] : D → Ty → Option Bool
  | .int _, .int => some true
  | .bl _, .int => some true
  | .bl _, .bool => some true
  | .tup _, .tuple => some true
  | .lst _, .list => some true
  | .str _, .str => some true
  | .exc c', .cls c => if c' < NC.n then some (subC c' c) else none
  | .exc c', .vErr => if c' < NC.n then some true else none
  | .exc _, _ => none
  | .ref _, _ => none
  | _, .cls _ => none
  | _, .vErr => none
  | _, _ => some false
def flatD : D → Bool
  | .non => true
  | .bl _ => true
  | .int _ => true
  | .str _ => true
  | _ => false
/-- lists that may change, as they are by now -/
def derefs : List D → Mu → Option (List D)
  | [], _ => some []
  | .ref p :: r, μ => (μ p).bind fun ds => (derefs r μ).map (.lst ds :: ·)
  | _ :: _, _ => none
def lstO : D → Option (List D)
  | .lst ds => some ds
  | _ => none
def lookK : List Int → List D → Int → Option D
  | k :: ks, v :: vs, n => if k = n then some v else lookK ks vs n
  | _, _, _ => none
def dctAt : D → Int → Option D
  | .dct ks vs, n => lookK ks vs n
  | _, _ => none
def cmpD : Cop → D → D → Mu → Pst → Prop
  | .eq, a, b, μ, Q => fit 60 a = true ∧ fit 60 b = true ∧ Q (.bl (deq a b)) μ
  | .ne, a, b, μ, Q => fit 60 a = true ∧ fit 60 b = true ∧ Q (.bl (!deq a b)) μ
  | .lt, .int i, .int j, μ, Q => Q (.bl (decide (i < j))) μ
  | .le, .int i, .int j, μ, Q => Q (.bl (decide (i ≤ j))) μ
  | .gt, .int i, .int j, μ, Q => Q (.bl (decide (j < i))) μ
  | .ge, .int i, .int j, μ, Q => Q (.bl (decide (j ≤ i))) μ
  | .in_, a, .lst ds, μ, Q => fit 60 a = true ∧ fit 60 (.lst ds) = true ∧ Q (.bl (ds.any fun z => deq z a)) μ
  | .notin, a, .lst ds, μ, Q => fit 60 a = true ∧ fit 60 (.lst ds) = true ∧ Q (.bl (!ds.any fun z => deq z a)) μ
  | .in_, a, .ref p, μ, Q => ifL (μ p) fun ds => fit 60 a = true ∧ fit 60 (.lst ds) = true ∧ Q (.bl (ds.any fun z => deq z a)) μ
  | .notin, a, .ref p, μ, Q => ifL (μ p) fun ds => fit 60 a = true ∧ fit 60 (.lst ds) = true ∧ Q (.bl (!ds.any fun z => deq z a)) μ
  | .is_, .bl a, .bl b, μ, Q => Q (.bl (decide (a = b))) μ
  | .is_, .non, .bl _, μ, Q => Q (.bl false) μ
  | .is_, .tup _, .bl _, μ, Q => Q (.bl false) μ
  | .inT, a, .tup ds, μ, Q => flatD a = true ∧ ds.all flatD = true ∧ Q (.bl (ds.any fun z => deq z a)) μ
  | .notinT, a, .tup ds, μ, Q => flatD a = true ∧ ds.all flatD = true ∧ Q (.bl (!ds.any fun z => deq z a)) μ
  | .isnt, .bl a, .bl b, μ, Q => Q (.bl (!decide (a = b))) μ
  | .eqm, .ref p, b, μ, Q => ifL (μ p) fun ds => fit 60 (.lst ds) = true ∧ fit 60 b = true ∧ Q (.bl (deq (.lst ds) b)) μ
  | .ner, .ref p, .ref q, μ, Q => ifL (μ p) fun ds => ifL (μ q) fun es => fit 60 (.lst ds) = true ∧ fit 60 (.lst es) = true ∧ Q (.bl (!deq (.lst ds) (.lst es))) μ
  | .nem, .ref p, b, μ, Q => ifL (μ p) fun ds => fit 60 (.lst ds) = true ∧ fit 60 b = true ∧ Q (.bl (!deq (.lst ds) b)) μ
  | .nem, .lst xs, b, μ, Q => ifL (derefs xs μ) fun ds => fit 60 (.lst ds) = true ∧ fit 60 b = true ∧ Q (.bl (!deq (.lst ds) b)) μ
  | _, _, _, _, _ => False
def bindAll : List Nat → List D → Rho → Option Rho
  | [], [], ρ => some ρ
  | i :: is, d :: ds, ρ => bindAll is ds (rs ρ i (some d))
  | _, _, _ => none
def ifR : Option Rho → (Rho → Prop) → Prop
  | some d, p => p d
  | none, _ => False
def bindT : MT → D → Rho → (Rho → Prop) → Prop
  | .name i, d, ρ, k => k (rs ρ i (some d))
  | .tup is, d, ρ, k => ifL (itemsF d) fun ds => ifR (bindAll is ds ρ) k
def MT.slots : MT → List Nat
  | .name i => [i]
  | .tup is => is
def wipeD (ρ : Rho) : List Nat → Rho
  | [] => ρ
  | i :: is => rs (wipeD ρ is) i none
def lcW (f : D → Mu → (Option D → Mu → Prop) → Prop) : List D → List D → Mu → (List D → Mu → Prop) → Prop
  | [], acc, μ, Q => Q acc μ
  | d :: ds, acc, μ, Q => f d μ fun o μ' => lcW f ds (acc ++ o.toList) μ' Q
/-- a comprehension's list: data, or a list that may change -/
def lcEnd : Bool → Pst → List D → Mu → Prop
  | false, Q, acc, μ => Q (.lst acc) μ
  | true, Q, acc, μ => ∀ p, μ p = none → Q (.ref p) (mset μ p acc)
/-- a list that may change is taken as it is from here on -/
def frzD : D → Mu → Pst → Prop
  | .ref p, μ, Q => ifL (μ p) fun ds => Q (.lst ds) (mdel μ p)
  | .lst ds, μ, Q => Q (.lst ds) μ
  | _, _, _ => False
/-- the items of a list, that may change or not -/
def itemsL : D → Mu → Option (List D)
  | .lst ds, _ => some ds
  | .ref p, μ => μ p
  | _, _ => none
/-- two lists put together -/
def catD (mu : Bool) (d1 d2 : D) (μ : Mu) (Q : Pst) : Prop := ifL (itemsL d1 μ) fun xs => ifL (itemsL d2 μ) fun ys => xs.length + ys.length ≤ 100000 ∧ lcEnd mu Q (xs ++ ys) μ
def strsD : List D → Option (List Str)
  | [] => some []
  | .str x :: r => (strsD r).map (x :: ·)
  | _ :: _ => none
def ifSs : Option (List Str) → (List Str → Prop) → Prop
  | some d, p => p d
  | none, _ => False
def joinD (s : Str) : D → Mu → Pst → Prop
  | .lst ds, μ, Q => ifSs (strsD ds) fun ys => (ys.map (·.length)).sum + ys.length * s.length ≤ 100000 ∧ Q (.str (Txt.join s ys)) μ
  | .tup ds, μ, Q => ifSs (strsD ds) fun ys => (ys.map (·.length)).sum + ys.length * s.length ≤ 100000 ∧ Q (.str (Txt.join s ys)) μ
  | _, _, _ => False
def splitD (s : Str) : D → Mu → Pst → Prop
  | .str z, μ, Q => (s.length == 0) = false ∧ z.length + 2 ≤ 100000 ∧ Q (.lst ((Txt.split z s).map .str)) μ
  | _, _, _ => False
/-- rows of whole numbers -/
def rowsD : List D → Option (List (List Int))
  | [] => some []
  | .tup ds :: r => (intsD ds).bind fun ns => (rowsD r).map (ns :: ·)
  | _ :: _ => none
/-- how many unlike rows -/
def setlD : D → Mu → Pst → Prop
  | .lst ds, μ, Q => ∃ L, rowsD ds = some L ∧ ds.length < 64 ∧ Q (.int L.eraseDups.length) μ
  | _, _, _ => False
/-- the first place of an equal one -/
def idxAt (ds : List D) (d : D) (j : Nat) : Prop := ∃ z, ds[j]? = some z ∧ deq z d = true ∧ ∀ (m : Nat) (z' : D), m < j → ds[m]? = some z' → deq z' d = false
def lstP : D → Prop → Prop
  | .lst _, p => p
  | _, _ => False
def idxD : D → D → Mu → Pst → Prop
  | .lst ds, d, μ, Q => fit 60 (.lst ds) = true ∧ fit 60 d = true ∧ ∃ j, idxAt ds d j ∧ Q (.int (j : Nat)) μ
  | _, _, _, _ => False
/-- how many equal ones -/
def couD : D → D → Mu → Pst → Prop
  | .lst ds, d, μ, Q => fit 60 (.lst ds) = true ∧ fit 60 d = true ∧ Q (.int ((ds.countP fun z => deq z d : Nat))) μ
  | _, _, _, _ => False
def mthL : Mth → List D → List D
  | .clear, _ => []
  | .reverse, ds => ds.reverse
def revD : D → Mu → Pst → Prop
  | .lst ds, μ, Q => Q (.lst ds.reverse) μ
  | .tup ds, μ, Q => Q (.tup ds.reverse) μ
  | .ref p, μ, Q => ifL (μ p) fun ds => Q (.lst ds.reverse) μ
  | _, _, _ => False
def rngD (lo : Int) (n : Nat) : List D := (List.range n).map fun (k : Nat) => D.int (lo + (k : Int))
def zipD (xs ys : List D) : List D := List.zipWith (fun x y => D.tup [x, y]) xs ys

section
variable [NC]
mutual
def wpE : ME → Rho → Mu → Pst → Xst → Prop
  | .var i, ρ, μ, Q, _ => ifD (rg ρ i) fun d => Q d μ
  | .non, _, μ, Q, _ => Q .non μ
  | .bl b, _, μ, Q, _ => Q (.bl b) μ
  | .int i, _, μ, Q, _ => Q (.int i) μ
  | .str x, _, μ, Q, _ => Q (.str x) μ
  | .glob _ d, _, μ, Q, _ => Q d μ
  | .bin o a b, ρ, μ, Q, X => wpE a ρ μ (fun d1 μ1 => wpE b ρ μ1 (fun d2 μ2 => opD o d1 d2 μ2 Q) X) X
  | .neg a, ρ, μ, Q, X => wpE a ρ μ (fun d1 μ1 => asI d1 fun i => Q (.int (-i)) μ1) X
  | .tup a, ρ, μ, Q, X => wpA a ρ μ (fun ds μ1 => Q (.tup ds) μ1) X
  | .lst a, ρ, μ, Q, X => wpA a ρ μ (fun ds μ1 => Q (.lst ds) μ1) X
  | .newl a, ρ, μ, Q, X => wpA a ρ μ (fun ds μ1 => ∀ p, μ1 p = none → Q (.ref p) (mset μ1 p ds)) X
  | .ixc a n, ρ, μ, Q, X => wpE a ρ μ (fun d μ1 => ifD (selN d μ1 n) fun x => Q x μ1) X
  | .ix a i, ρ, μ, Q, X => wpE a ρ μ (fun d μ1 => wpE i ρ μ1 (fun j μ2 => asI j fun n => ifD (selI d μ2 n) fun x => Q x μ2) X) X
  | .dix a i, ρ, μ, Q, X => wpE a ρ μ (fun d μ1 => wpE i ρ μ1 (fun j μ2 => asI j fun n => ifD (dctAt d n) fun x => Q x μ2) X) X
  | .rg1 b, ρ, μ, Q, X => wpE b ρ μ (fun d2 μ2 => asI d2 fun n => (-(2 ^ 62) ≤ n ∧ n < 2 ^ 62 ∧ n.toNat ≤ 2 ^ 24) ∧ Q (.lst (rngD 0 n.toNat)) μ2) X
  | .zpl a b, ρ, μ, Q, X => wpE a ρ μ (fun d1 μ1 => wpE b ρ μ1 (fun d2 μ2 => ifL (lstO d1) fun xs => ifL (lstO d2) fun ys => xs.length ≤ 100000 ∧ Q (.lst (zipD xs ys)) μ2) X) X
  | .slc a lo hi, ρ, μ, Q, X => wpE a ρ μ (fun d μ1 => wpO lo ρ μ1 (fun l μ2 => wpO hi ρ μ2 (fun h μ3 => slcD d l h μ3 Q) X) X) X
  | .call _ S a, ρ, μ, Q, X => wpA a ρ μ (fun ds μ1 => S ds μ1 Q X) X
  | .bl1 f a, ρ, μ, Q, X => wpE a ρ μ (fun d μ1 => b1D f d μ1 Q) X
  | .bl2 f a b, ρ, μ, Q, X => wpE a ρ μ (fun d1 μ1 => wpE b ρ μ1 (fun d2 μ2 => b2D f d1 d2 μ2 Q) X) X
  | .isi a t, ρ, μ, Q, X => wpE a ρ μ (fun d μ1 => ifB (isiD d t) fun b => Q (.bl b) μ1) X
  | .cmp o a b, ρ, μ, Q, X => wpE a ρ μ (fun d1 μ1 => wpE b ρ μ1 (fun d2 μ2 => cmpD o d1 d2 μ2 Q) X) X
  | .isN yes a, ρ, μ, Q, X => wpE a ρ μ (fun d μ1 => Q (.bl (isNon d == yes)) μ1) X
  | .bop isAnd a, ρ, μ, Q, X => wpL isAnd a ρ μ Q X
  | .nt a, ρ, μ, Q, X => wpE a ρ μ (fun d μ1 => ifB (truD d μ1) fun b => Q (.bl (!b)) μ1) X
  | .ife t a b, ρ, μ, Q, X => wpE t ρ μ (fun d μ1 => ifB (truD d μ1) fun c => if c = true then wpE a ρ μ1 Q X else wpE b ρ μ1 Q X) X
  | .callAt fl i a, ρ, μ, Q, X => wpE i ρ μ (fun d μ1 => asI d fun n => ∃ p, L2.atI fl n = some p ∧ wpA a ρ μ1 (fun ds μ2 => p.2 ds μ2 Q X) X) X
  | .bits a, ρ, μ, Q, X => wpE a ρ μ (fun d μ1 => asI d fun i => Q (.int (Builtin.Int.intBits i : Nat)) μ1) X
  | .rev a, ρ, μ, Q, X => wpE a ρ μ (fun d μ1 => revD d μ1 Q) X
  | .join s a, ρ, μ, Q, X => wpE a ρ μ (fun d μ1 => joinD s d μ1 Q) X
  | .split a s, ρ, μ, Q, X => wpE a ρ μ (fun d μ1 => splitD s d μ1 Q) X
  | .idx a e, ρ, μ, Q, X => wpE a ρ μ (fun d1 μ1 => lstP d1 (wpE e ρ μ1 (fun d2 μ2 => idxD d1 d2 μ2 Q) X)) X
  | .cnt a e, ρ, μ, Q, X => wpE a ρ μ (fun d1 μ1 => lstP d1 (wpE e ρ μ1 (fun d2 μ2 => couD d1 d2 μ2 Q) X)) X
  | .cat mu a b, ρ, μ, Q, X => wpE a ρ μ (fun d1 μ1 => wpE b ρ μ1 (fun d2 μ2 => catD mu d1 d2 μ2 Q) X) X
  | .setl a, ρ, μ, Q, X => wpE a ρ μ (fun d μ1 => setlD d μ1 Q) X
  | .lc mu tg it c e, ρ, μ, Q, X => wpI it ρ μ (fun ds μ1 => ds.length ≤ 100000 ∧
      lcW (fun d μ2 k => bindT tg d (wipeD ρ tg.slots) fun ρ1 => wpC c ρ1 μ2 (fun b μ3 => if b = true then wpE e ρ1 μ3 (fun y μ4 => k (some y) μ4) (fun _ _ => False) else k none μ3) (fun _ _ => False)) ds [] μ1 (lcEnd mu Q)) X
  | .isl a, ρ, μ, Q, X => wpE a ρ μ (fun d μ1 => match d with
      | .ref p => (μ1 p).isSome = true ∧ Q (.bl true) μ1
      | d => ifB (isiD d .list) fun b => Q (.bl b) μ1) X
  | .lcr mu tg a c e, ρ, μ, Q, X => wpE a ρ μ (fun d μ1 => match d with
      | .ref p => ifL (μ1 p) fun ds => ds.length ≤ 100000 ∧
        lcW (fun d μ2 k => μ2 p = some ds ∧ bindT tg d (wipeD ρ tg.slots) fun ρ1 => wpC c ρ1 μ2 (fun b μ3 => if b = true then wpE e ρ1 μ3 (fun y μ4 => k (some y) μ4) (fun _ _ => False) else k none μ3) (fun _ _ => False)) ds [] μ1 (fun acc μ' => μ' p = some ds ∧ lcEnd mu Q acc μ')
      | .lst ds => ds.length ≤ 100000 ∧ lcW (fun d μ2 k => bindT tg d (wipeD ρ tg.slots) fun ρ1 => wpC c ρ1 μ2 (fun b μ3 => if b = true then wpE e ρ1 μ3 (fun y μ4 => k (some y) μ4) (fun _ _ => False) else k none μ3) (fun _ _ => False)) ds [] μ1 (lcEnd mu Q)
      | _ => False) X
  | .lcz tg a b c e, ρ, μ, Q, X => wpE a ρ μ (fun d1 μ1 => wpE b ρ μ1 (fun d2 μ2 => ifL (itemsL d1 μ2) fun xs => ifL (lstO d2) fun ys => ys.length ≤ 100000 ∧
      lcW (fun d μ3 k => itemsL d1 μ3 = some xs ∧ bindT tg d (wipeD ρ tg.slots) fun ρ1 => wpC c ρ1 μ3 (fun b μ3 => if b = true then wpE e ρ1 μ3 (fun y μ4 => k (some y) μ4) (fun _ _ => False) else k none μ3) (fun _ _ => False)) (zipD xs ys) [] μ2 (fun acc μ' => itemsL d1 μ' = some xs ∧ Q (.lst acc) μ')) X) X
  | .frz a, ρ, μ, Q, X => wpE a ρ μ (fun d μ1 => frzD d μ1 Q) X
  | .rgl a b, ρ, μ, Q, X => wpE a ρ μ (fun d μ1 => wpE b ρ μ1 (fun d2 μ2 => asI d fun m => asI d2 fun n => (-(2 ^ 62) ≤ m ∧ m < 2 ^ 62 ∧ -(2 ^ 62) ≤ n ∧ n < 2 ^ 62 ∧ (n - m).toNat ≤ 2 ^ 24) ∧ Q (.lst (rngD m (n - m).toNat)) μ2) X) X
def wpA : MA → Rho → Mu → (List D → Mu → Prop) → Xst → Prop
  | .nil, _, μ, Q, _ => Q [] μ
  | .cons e a, ρ, μ, Q, X => wpE e ρ μ (fun d μ1 => wpA a ρ μ1 (fun ds μ2 => Q (d :: ds) μ2) X) X
def wpO : MO → Rho → Mu → (Option Int → Mu → Prop) → Xst → Prop
  | .no, _, μ, Q, _ => Q none μ
  | .so e, ρ, μ, Q, X => wpE e ρ μ (fun d μ1 => asI d fun i => Q (some i) μ1) X
/-- a comprehension's test -/
def wpC : MO → Rho → Mu → (Bool → Mu → Prop) → Xst → Prop
  | .no, _, μ, Q, _ => Q true μ
  | .so e, ρ, μ, Q, X => wpE e ρ μ (fun d μ1 => ifB (truD d μ1) fun b => Q b μ1) X
def wpL : Bool → MA → Rho → Mu → Pst → Xst → Prop
  | _, .nil, _, _, _, _ => False
  | _, .cons e .nil, ρ, μ, Q, X => wpE e ρ μ Q X
  | k, .cons e (.cons e2 a), ρ, μ, Q, X => wpE e ρ μ (fun d μ1 => ifB (truD d μ1) fun b => if b = k then wpL k (.cons e2 a) ρ μ1 Q X else Q d μ1) X
def wpI : MI → Rho → Mu → (List D → Mu → Prop) → Xst → Prop
  | .seq e, ρ, μ, Q, X => wpE e ρ μ (fun d μ1 => ifL (itemsF d) fun ds => Q ds μ1) X
  | .rng1 a, ρ, μ, Q, X => wpE a ρ μ (fun d μ1 => asI d fun n => (-(2 ^ 62) ≤ n ∧ n < 2 ^ 62) ∧ Q (rngD 0 n.toNat) μ1) X
  | .rng2 a b, ρ, μ, Q, X => wpE a ρ μ (fun d μ1 => wpE b ρ μ1 (fun d2 μ2 => asI d fun m => asI d2 fun n => (-(2 ^ 62) ≤ m ∧ m < 2 ^ 62 ∧ -(2 ^ 62) ≤ n ∧ n < 2 ^ 62) ∧ Q (rngD m (n - m).toNat) μ2) X) X
  | .zip a b, ρ, μ, Q, X => wpE a ρ μ (fun d μ1 => wpE b ρ μ1 (fun d2 μ2 => match d, d2 with
      | .lst xs, .lst ys => Q (zipD xs ys) μ2
      | .tup xs, .tup ys => Q (zipD xs ys) μ2
      | .lst xs, .tup ys => Q (zipD xs ys) μ2
      | _, _ => False) X) X
end
end

structure En where
  nx : Rho → Mu → Prop
  rt : Pst
  bk : Rho → Mu → Prop
  ct : Rho → Mu → Prop
  xx : Nat → Rho → Mu → Prop
def forW (f : D → Rho → Mu → (Rho → Mu → Prop) → Prop) : List D → Rho → Mu → (Rho → Mu → Prop) → Prop
  | [], ρ, μ, Q => Q ρ μ
  | d :: ds, ρ, μ, Q => f d ρ μ fun ρ' μ' => forW f ds ρ' μ' Q
/-- a dict that a loop fills -/
def dctW (f : D → Mu → Pst → Prop) : List D → List Int → List D → Mu → (List Int → List D → Mu → Prop) → Prop
  | [], ks, vs, μ, Q => Q ks vs μ
  | .int n :: ds, ks, vs, μ, Q => n ∉ ks ∧ f (.int n) μ fun v μ' => dctW f ds (ks ++ [n]) (vs ++ [v]) μ' Q
  | _ :: _, _, _, _, _ => False
def whW (f : Rho → Mu → (Rho → Mu → Prop) → Prop) : Nat → Rho → Mu → Prop
  | 0, _, _ => False
  | n + 1, ρ, μ => f ρ μ (whW f n)
section
variable [NC]
mutual
def wpS : MS → Rho → Mu → En → Prop
  | .pas, ρ, μ, K => K.nx ρ μ
  | .asg t e, ρ, μ, K => wpE e ρ μ (fun d μ1 => bindT t d ρ fun ρ1 => K.nx ρ1 μ1) (fun c μ1 => K.xx c ρ μ1)
  | .asgr is e, ρ, μ, K => wpE e ρ μ (fun d μ1 => ifL (itemsOf d μ1) fun ds => ifR (bindAll is ds ρ) fun ρ1 => K.nx ρ1 μ1) (fun c μ1 => K.xx c ρ μ1)
  | .par i j a b, ρ, μ, K => wpE a ρ μ (fun d1 μ1 => wpE b ρ μ1 (fun d2 μ2 => K.nx (rs (rs ρ i (some d1)) j (some d2)) μ2) (fun c μ1 => K.xx c ρ μ1)) (fun c μ1 => K.xx c ρ μ1)
  | .par3 i j l a b c, ρ, μ, K => wpE a ρ μ (fun d1 μ1 => wpE b ρ μ1 (fun d2 μ2 => wpE c ρ μ2 (fun d3 μ3 => K.nx (rs (rs (rs ρ i (some d1)) j (some d2)) l (some d3)) μ3) (fun c μ1 => K.xx c ρ μ1)) (fun c μ1 => K.xx c ρ μ1)) (fun c μ1 => K.xx c ρ μ1)
  | .setix o i e, ρ, μ, K => wpE e ρ μ (fun d μ1 => wpE o ρ μ1 (fun p μ2 => wpE i ρ μ2 (fun j μ3 => match p, j with
      | .ref a, .int n => ifL (μ3 a) fun ds => ∃ k, L2.ixN ds.length n = some k ∧ K.nx ρ (mset μ3 a (ds.set k d))
      | _, _ => False) (fun c μ1 => K.xx c ρ μ1)) (fun c μ1 => K.xx c ρ μ1)) (fun c μ1 => K.xx c ρ μ1)
  | .set2 o i p j e, ρ, μ, K => wpE e ρ μ (fun d μ1 => match d with
      | .tup [d1, d2] => wpE o ρ μ1 (fun x1 μ2 => wpE i ρ μ2 (fun y1 μ3 => match x1, y1 with
        | .ref a, .int n => ifL (μ3 a) fun ds => ∃ k, L2.ixN ds.length n = some k ∧ wpE p ρ (mset μ3 a (ds.set k d1)) (fun x2 μ4 => wpE j ρ μ4 (fun y2 μ5 => match x2, y2 with
          | .ref b, .int m => ifL (μ5 b) fun es => ∃ l, L2.ixN es.length m = some l ∧ K.nx ρ (mset μ5 b (es.set l d2))
          | _, _ => False) (fun c μ1 => K.xx c ρ μ1)) (fun c μ1 => K.xx c ρ μ1)
        | _, _ => False) (fun c μ1 => K.xx c ρ μ1)) (fun c μ1 => K.xx c ρ μ1)
      | _ => False) (fun c μ1 => K.xx c ρ μ1)
  | .app o e, ρ, μ, K => wpE o ρ μ (fun p μ1 => match p with
      | .ref a => (μ1 a).isSome = true ∧ wpE e ρ μ1 (fun d μ2 => ifL (μ2 a) fun ds => ds.length < 100000 ∧ K.nx ρ (mset μ2 a (ds ++ [d]))) (fun c μ1 => K.xx c ρ μ1)
      | _ => False) (fun c μ1 => K.xx c ρ μ1)
  | .ext o e, ρ, μ, K => wpE o ρ μ (fun p μ1 => match p with
      | .ref a => (μ1 a).isSome = true ∧ wpE e ρ μ1 (fun d μ2 => ifL (μ2 a) fun ds => ifL (lstO d) fun es => ds.length + es.length ≤ 100000 ∧ K.nx ρ (mset μ2 a (ds ++ es))) (fun c μ1 => K.xx c ρ μ1)
      | _ => False) (fun c μ1 => K.xx c ρ μ1)
  | .mth f o, ρ, μ, K => wpE o ρ μ (fun p μ1 => match p with
      | .ref a => ifL (μ1 a) fun ds => K.nx ρ (mset μ1 a (mthL f ds))
      | _ => False) (fun c μ1 => K.xx c ρ μ1)
  | .pop o, ρ, μ, K => wpE o ρ μ (fun p μ1 => match p with
      | .ref a => ifL (μ1 a) fun ds => ds ≠ [] ∧ K.nx ρ (mset μ1 a ds.dropLast)
      | _ => False) (fun c μ1 => K.xx c ρ μ1)
  | .rem o e, ρ, μ, K => wpE o ρ μ (fun p μ1 => match p with
      | .ref a => (μ1 a).isSome = true ∧ wpE e ρ μ1 (fun d μ2 => ifL (μ2 a) fun ds => fit 60 (.lst ds) = true ∧ fit 60 d = true ∧ ∃ j, idxAt ds d j ∧ K.nx ρ (mset μ2 a (ds.eraseIdx j))) (fun c μ1 => K.xx c ρ μ1)
      | _ => False) (fun c μ1 => K.xx c ρ μ1)
  | .expr e, ρ, μ, K => wpE e ρ μ (fun _ μ1 => K.nx ρ μ1) (fun c μ1 => K.xx c ρ μ1)
  | .ret e, ρ, μ, K => wpE e ρ μ K.rt (fun c μ1 => K.xx c ρ μ1)
  | .retN, _, μ, K => K.rt .non μ
  | .ite t a b, ρ, μ, K => wpE t ρ μ (fun d μ1 => ifB (truD d μ1) fun c => if c = true then wpB a ρ μ1 K else wpB b ρ μ1 K) (fun c μ1 => K.xx c ρ μ1)
  | .loop t it b, ρ, μ, K => wpI it ρ μ (fun ds μ1 => forW (fun d ρ1 μ2 k => bindT t d ρ1 fun ρ2 => wpB b ρ2 μ2 { nx := k, ct := k, bk := K.nx, rt := K.rt, xx := K.xx }) ds ρ μ1 K.nx) (fun c μ1 => K.xx c ρ μ1)
  | .loopr t a b, ρ, μ, K => wpE a ρ μ (fun d μ1 => ifL (itemsOf d μ1) fun ds => forW (fun x ρ1 μ2 k => itemsOf d μ2 = some ds ∧ bindT t x ρ1 fun ρ2 => wpB b ρ2 μ2 { nx := k, ct := k, bk := K.nx, rt := K.rt, xx := K.xx }) ds ρ μ1 (fun ρ' μ' => itemsOf d μ' = some ds ∧ K.nx ρ' μ')) (fun c μ1 => K.xx c ρ μ1)
  | .whl t b, ρ, μ, K => ∃ n, whW (fun ρ1 μ1 k => wpE t ρ1 μ1 (fun d μ2 => ifB (truD d μ2) fun c => if c = true then wpB b ρ1 μ2 { nx := k, ct := k, bk := K.nx, rt := K.rt, xx := K.xx } else K.nx ρ1 μ2) (fun c μ2 => K.xx c ρ1 μ2)) n ρ μ
  | .brk, ρ, μ, K => K.bk ρ μ
  | .cnt, ρ, μ, K => K.ct ρ μ
  | .rais c, ρ, μ, K => K.xx c ρ μ
  | .try1 c b i j, ρ, μ, K => wpB b ρ μ { K with xx := fun c' ρ1 μ1 => c' < NC.n ∧ if subC c' c = true then K.nx (rs (rs ρ1 j (some (.exc c'))) i none) μ1 else K.xx c' ρ1 μ1 }
  | .try0 c b j, ρ, μ, K => wpB b ρ μ { K with xx := fun c' ρ1 μ1 => c' < NC.n ∧ if subC c' c = true then K.nx (rs ρ1 j (some .non)) μ1 else K.xx c' ρ1 μ1 }
def wpB : MB → Rho → Mu → En → Prop
  | .nil, ρ, μ, K => K.nx ρ μ
  | .cons s b, ρ, μ, K => wpS s ρ μ { K with nx := fun ρ1 μ1 => wpB b ρ1 μ1 K }
  | .dctL i j it e b, ρ, μ, K => (i < ρ.length ∧ j < ρ.length) ∧ wpI it (rs ρ i none) μ (fun ds μ1 => ds.length ≤ 1000 ∧
      dctW (fun d μ2 Q => wpE e (rs (rs ρ i none) j (some d)) μ2 Q (fun _ _ => False)) ds [] [] μ1 (fun ks vs μ' => wpB b (rs (rs ρ i (some (.dct ks vs))) j none) μ' K)) (fun _ _ => False)
end
end
end Dl

/-! The data layer, part B: data in the heap. -/
namespace Dl
open PySem L2

/-- a caught error of the class at C -/
def ExI (C a : Addr) : HO := .ext fun h => ∃ (oe : Obj) (vs : Array Value), h.get? a = some oe ∧ Zc (.ref C) none oe ∧ oe.data = .fields vs

mutual
inductive Dx (K : PySem.W.Frag) (CA : Nat → Addr) (F : Hp) : V → D → Prop
  | non : Dx K CA F .non .non
  | bl (b : Bool) : Dx K CA F (.bl b) (.bl b)
  | int (i : Int) : Dx K CA F (.int i) (.int i)
  | str (x : Str) : Dx K CA F (.str x) (.str x)
  | tup {a : Addr} {vs : List V} {ds : List D} : SqT K F a vs → DxA K CA F vs ds → Dx K CA F (.ref a) (.tup ds)
  | lst {a : Addr} {vs : List V} {ds : List D} : SqL K F a vs → DxA K CA F vs ds → Dx K CA F (.ref a) (.lst ds)
  | exc {a : Addr} {c : Nat} : F a = some (ExI (CA c) a) → Dx K CA F (.ref a) (.exc c)
  | ref (a : Addr) : Dx K CA F (.ref a) (.ref a)
  | dct {a : Addr} {kvs : List (Key × V)} {ks : List Int} {ds : List D} : F a = some (.dK kvs) → kvs.map (·.1) = ks.map Sum.inl → DxA K CA F (kvs.map (·.2)) ds → Dx K CA F (.ref a) (.dct ks ds)
inductive DxA (K : PySem.W.Frag) (CA : Nat → Addr) (F : Hp) : List V → List D → Prop
  | nil : DxA K CA F [] []
  | cons {v : V} {vs : List V} {d : D} {ds : List D} : Dx K CA F v d → DxA K CA F vs ds → DxA K CA F (v :: vs) (d :: ds)
end
theorem seqT {K : PySem.W.Frag} {H H' : Hp} {a : Addr} {xs : List V} (e : Same H H') (h : SqT K H a xs) : SqT K H' a xs := by
  rcases h with (h | ⟨o, h⟩) | h
  · exact .inl (.inl (e _ _ h))
  · exact .inl (.inr ⟨o, e _ _ h⟩)
  · exact .inr h
section
variable {K : PySem.W.Frag} {CA : Nat → Addr} {F F' F2 R H H' : Hp} {μ : Mu}
mutual
theorem Dx.mono (s : Same F F') : ∀ {v : V} {d : D}, Dx K CA F v d → Dx K CA F' v d
  | _, _, .non => .non
  | _, _, .bl b => .bl b
  | _, _, .int b => .int b
  | _, _, .str b => .str b
  | _, _, .tup h a => .tup (seqT s h) (DxA.mono s a)
  | _, _, .lst h a => .lst (s.seq h) (DxA.mono s a)
  | _, _, .exc h => .exc (s _ _ h)
  | _, _, .ref a => .ref a
  | _, _, .dct h e a => .dct (s _ _ h) e (DxA.mono s a)
theorem DxA.mono (s : Same F F') : ∀ {v : List V} {d : List D}, DxA K CA F v d → DxA K CA F' v d
  | _, _, .nil => .nil
  | _, _, .cons h a => .cons (Dx.mono s h) (DxA.mono s a)
end
theorem DxA.length : ∀ {vs : List V} {ds : List D}, DxA K CA F vs ds → vs.length = ds.length
  | _, _, .nil => rfl
  | _, _, .cons _ t => by simp [DxA.length t]
theorem DxA.get : ∀ {vs : List V} {ds : List D} {i : Nat} {d : D}, DxA K CA F vs ds → ds[i]? = some d → ∃ v, vs[i]? = some v ∧ Dx K CA F v d
  | _, _, _, _, .nil, e => by simp at e
  | _, _, 0, _, .cons h _, e => by simp at e; subst e; exact ⟨_, rfl, h⟩
  | _, _, i + 1, d, .cons _ t, e => by
    obtain ⟨v, h1, h2⟩ := DxA.get (i := i) (d := d) t (by simpa using e)
    exact ⟨v, by simpa using h1, h2⟩
theorem DxA.append : ∀ {vs ws : List V} {ds es : List D}, DxA K CA F vs ds → DxA K CA F ws es → DxA K CA F (vs ++ ws) (ds ++ es)
  | _, _, _, _, .nil, h => h
  | _, _, _, _, .cons a b, h => .cons a (DxA.append b h)
theorem DxA.rep {vs : List V} {ds : List D} (h : DxA K CA F vs ds) : ∀ n : Nat, DxA K CA F (List.replicate n vs).flatten (List.replicate n ds).flatten
  | 0 => .nil
  | n + 1 => by
    rw [List.replicate_succ, List.replicate_succ, List.flatten_cons, List.flatten_cons]
    exact h.append (DxA.rep h n)
theorem DxA.dropLast : ∀ {vs : List V} {ds : List D}, DxA K CA F vs ds → DxA K CA F vs.dropLast ds.dropLast
  | [], [], .nil => .nil
  | [_], [_], .cons a .nil => .nil
  | _ :: _ :: _, _ :: _ :: _, .cons a (.cons b c) => .cons a (DxA.dropLast (.cons b c))
theorem DxA.eraseIdx : ∀ {vs : List V} {ds : List D} (j : Nat), DxA K CA F vs ds → DxA K CA F (vs.eraseIdx j) (ds.eraseIdx j)
  | [], [], _, .nil => .nil
  | _ :: _, _ :: _, 0, .cons _ b => b
  | _ :: _, _ :: _, j + 1, .cons a b => .cons a (b.eraseIdx j)
theorem DxA.reverse : ∀ {vs : List V} {ds : List D}, DxA K CA F vs ds → DxA K CA F vs.reverse ds.reverse
  | [], [], _ => .nil
  | _ :: _, _ :: _, .cons a b => by rw [List.reverse_cons, List.reverse_cons]; exact b.reverse.append (.cons a .nil)
theorem DxA.drop : ∀ {vs : List V} {ds : List D} (n : Nat), DxA K CA F vs ds → DxA K CA F (vs.drop n) (ds.drop n)
  | _, _, 0, h => h
  | _, _, _ + 1, .nil => .nil
  | _, _, n + 1, .cons _ t => DxA.drop n t
theorem DxA.take : ∀ {vs : List V} {ds : List D} (n : Nat), DxA K CA F vs ds → DxA K CA F (vs.take n) (ds.take n)
  | _, _, 0, _ => .nil
  | _, _, _ + 1, .nil => .nil
  | _, _, n + 1, .cons a t => .cons a (DxA.take n t)
theorem DxA.set {v : V} {d : D} (h : Dx K CA F v d) : ∀ {vs : List V} {ds : List D} (n : Nat), DxA K CA F vs ds → DxA K CA F (vs.set n v) (ds.set n d)
  | _, _, _, .nil => .nil
  | _, _, 0, .cons _ t => .cons h t
  | _, _, n + 1, .cons a t => .cons a (DxA.set h n t)
theorem DxA.cut {vs : List V} {ds : List D} (h : DxA K CA F vs ds) (lo hi : Option Int) : DxA K CA F (cutV vs lo hi) (cutD ds lo hi) := by
  unfold cutV cutD
  rw [h.length]
  exact (h.drop _).take _
theorem DxA.ints : ∀ {vs : List V} {ds : List D} {ns : List Int}, DxA K CA F vs ds → intsD ds = some ns → vs = ns.map V.int
  | _, _, ns, .nil, e => by
    have e' : ([] : List Int) = ns := Option.some.inj e
    subst e'; rfl
  | _, _, ns, .cons h t, e => by
    cases h with
    | int i =>
      obtain ⟨ms, e1, e2⟩ := Option.map_eq_some_iff.mp e
      subst e2
      rw [DxA.ints t e1]; rfl
    | _ => cases e
theorem DxA.bls : ∀ {vs : List V} {ds : List D} {ns : List Bool}, DxA K CA F vs ds → blsD ds = some ns → vs = ns.map V.bl
  | _, _, ns, .nil, e => by
    have e' : ([] : List Bool) = ns := Option.some.inj e
    subst e'; rfl
  | _, _, ns, .cons h t, e => by
    cases h with
    | bl i =>
      obtain ⟨ms, e1, e2⟩ := Option.map_eq_some_iff.mp e
      subst e2
      rw [DxA.bls t e1]; rfl
    | _ => cases e
theorem DxA.of_ints (ns : List Int) : DxA K CA F (ns.map V.int) (ns.map D.int) := by
  induction ns with
  | nil => exact .nil
  | cons n r ih => exact .cons (.int n) ih

/-! ### data that == looks at -/
mutual
theorem Dx.dp : ∀ {v : V} {d : D} (n : Nat), Dx K CA F v d → fit n d = true → Dp K F v d.py
  | _, _, _, .non, _ => .non
  | _, _, _, .bl b, _ => .bl b
  | _, _, _, .int b, _ => .int b
  | _, _, _, .str b, _ => .str b
  | _, _, 0, .tup h a, e => by simp [fit] at e
  | _, _, n + 1, .tup h a, e => by
    simp only [fit] at e
    simp only [D.py]
    exact .tup h (DxA.dp n a e)
  | _, _, 0, .lst h a, e => by simp [fit] at e
  | _, _, n + 1, .lst h a, e => by
    simp only [fit] at e
    simp only [D.py]
    exact .lst h (DxA.dp n a e)
  | _, _, n, .exc h, e => by cases n <;> simp [fit] at e
  | _, _, n, .ref h, e => by cases n <;> simp [fit] at e
  | _, _, n, .dct _ _ _, e => by cases n <;> simp [fit] at e
theorem DxA.dp : ∀ {v : List V} {d : List D} (n : Nat), DxA K CA F v d → d.all (fit n) = true → DpAll K F v (pys d)
  | _, _, _, .nil, _ => by simp only [pys]; exact .nil
  | _, _, n, .cons h a, e => by
    simp only [List.all_cons, Bool.and_eq_true] at e
    simp only [pys]
    exact .cons (Dx.dp n h e.1) (DxA.dp n a e.2)
end
theorem fit_lay (n : Nat) : ∀ d : D, fit n d = true → (d.py).canLay0 = true ∧ (d.py).depth ≤ n := by
  have key : ∀ (n : Nat), (∀ d : D, fit n d = true → (d.py).canLay0 = true ∧ (d.py).depth ≤ n) → ∀ xs : List D, xs.all (fit n) = true → PyData.canLayAll0 (pys xs) = true ∧ PyData.depthAll (pys xs) ≤ n := by
    intro n ih xs
    induction xs with
    | nil => intro _; simp [pys, PyData.canLayAll0, PyData.depthAll]
    | cons x r ihr =>
      intro e
      simp only [List.all_cons, Bool.and_eq_true] at e
      obtain ⟨a1, a2⟩ := ih x e.1
      obtain ⟨b1, b2⟩ := ihr e.2
      simp only [pys, PyData.canLayAll0, PyData.depthAll, a1, b1, Bool.and_self, true_and]
      omega
  induction n with
  | zero =>
    intro d e
    cases d <;> simp [fit] at e <;> simp [D.py, PyData.canLay0, PyData.depth, e]
  | succ n ih =>
    intro d e
    cases d with
    | tup xs =>
      simp only [fit] at e
      obtain ⟨a, b⟩ := key n ih xs e
      simp only [D.py, PyData.canLay0, PyData.depth, a, true_and]
      omega
    | lst xs =>
      simp only [fit] at e
      obtain ⟨a, b⟩ := key n ih xs e
      simp only [D.py, PyData.canLay0, PyData.depth, a, true_and]
      omega
    | exc c => simp [fit] at e
    | ref c => simp [fit] at e
    | dct _ _ => simp [fit] at e
    | str c => simp only [fit] at e; simp [D.py, PyData.canLay0, PyData.depth, e]
    | _ => simp [D.py, PyData.canLay0, PyData.depth]
theorem fit_shaped {d : D} (h : fit 60 d = true) : SeqAt.shaped d.py = true := by
  obtain ⟨a, b⟩ := fit_lay 60 d h
  unfold SeqAt.shaped
  rw [a, Bool.true_and]
  exact decide_eq_true (by omega)

/-! ### the heap's parts: F what is told as data, R what is hidden, the store -/
structure Hs (K : PySem.W.Frag) (CA : Nat → Addr) (F R : Hp) (μ : Mu) (H : Hp) : Prop where
  f : Same F H
  r : Same R H
  fr : ∀ a o, F a = some o → R a = none
  m : ∀ a ds, μ a = some ds → F a = none ∧ R a = none ∧ ∃ vs, H a = some (.lst vs) ∧ DxA K CA F vs ds
theorem same_new {p : Addr} {o : HO} (h : F p = none) : Same F (upd F p o) := fun a u e => by
  rw [upd_ne (ne_of_none e h)]; exact e
theorem Hs.ff (s : Hs K CA F R μ H) {p : Addr} (h : H p = none) : F p = none := s.f.free h
theorem Hs.rf (s : Hs K CA F R μ H) {p : Addr} (h : H p = none) : R p = none := s.r.free h
theorem Hs.mf (s : Hs K CA F R μ H) {p : Addr} (h : H p = none) : μ p = none := by
  cases e : μ p with
  | none => rfl
  | some ds =>
    obtain ⟨_, _, vs, z, _⟩ := s.m p ds e
    rw [h] at z; cases z
theorem same_upd {p : Addr} {o : HO} (s : Same F H) (h : F p = none) : Same F (upd H p o) := fun a u e => by
  rw [upd_ne (ne_of_none e h)]; exact s a u e
theorem Hs.new (s : Hs K CA F R μ H) {p : Addr} {o : HO} (h : H p = none) : Hs K CA (upd F p o) R μ (upd H p o) where
  f := fun a u e => by
    by_cases q : a = p
    · subst q; rw [upd_same] at e ⊢; exact e
    · rw [upd_ne q] at e ⊢; exact s.f a u e
  r := same_upd s.r (s.rf h)
  fr := fun a u e => by
    by_cases q : a = p
    · subst q; exact s.rf h
    · rw [upd_ne q] at e; exact s.fr a u e
  m := fun a ds e => by
    obtain ⟨h1, h2, vs, h3, h4⟩ := s.m a ds e
    have q : a ≠ p := ne_of_none h3 h
    exact ⟨by rw [upd_ne q]; exact h1, h2, vs, by rw [upd_ne q]; exact h3, h4.mono (same_new (s.ff h))⟩
theorem Hs.newM (s : Hs K CA F R μ H) {p : Addr} {vs : List V} {ds : List D} (h : H p = none) (x : DxA K CA F vs ds) : Hs K CA F R (mset μ p ds) (upd H p (.lst vs)) where
  f := same_upd s.f (s.ff h)
  r := same_upd s.r (s.rf h)
  fr := s.fr
  m := fun a es e => by
    by_cases q : a = p
    · subst q
      rw [mset_same] at e; cases e
      exact ⟨s.ff h, s.rf h, vs, upd_same, x⟩
    · rw [mset_ne _ _ q] at e
      obtain ⟨h1, h2, us, h3, h4⟩ := s.m a es e
      exact ⟨h1, h2, us, by rw [upd_ne q]; exact h3, h4⟩
theorem Hs.set (s : Hs K CA F R μ H) {p : Addr} {vs : List V} {ds es : List D} (h : μ p = some es) (x : DxA K CA F vs ds) : Hs K CA F R (mset μ p ds) (upd H p (.lst vs)) := by
  obtain ⟨f1, r1, us, hu, _⟩ := s.m p es h
  refine ⟨same_upd s.f f1, same_upd s.r r1, s.fr, fun a ds' e => ?_⟩
  by_cases q : a = p
  · subst q
    rw [mset_same] at e; cases e
    exact ⟨f1, r1, vs, upd_same, x⟩
  · rw [mset_ne _ _ q] at e
    obtain ⟨h1, h2, us, h3, h4⟩ := s.m a ds' e
    exact ⟨h1, h2, us, by rw [upd_ne q]; exact h3, h4⟩
theorem Hs.freeze (s : Hs K CA F R μ H) {p : Addr} {ds : List D} (h : μ p = some ds) : ∃ vs, Hs K CA (upd F p (.lst vs)) R (mdel μ p) H ∧ DxA K CA F vs ds ∧ F p = none := by
  obtain ⟨f1, r1, us, hu, x⟩ := s.m p ds h
  refine ⟨us, ⟨fun a u e => ?_, s.r, fun a u e => ?_, fun a es e => ?_⟩, x, f1⟩
  · by_cases q : a = p
    · subst q; rw [upd_same] at e; cases e; exact hu
    · rw [upd_ne q] at e; exact s.f a u e
  · by_cases q : a = p
    · subst q; exact r1
    · rw [upd_ne q] at e; exact s.fr a u e
  · have q : a ≠ p := fun z => by subst z; rw [mdel_same] at e; cases e
    rw [mdel_ne _ q] at e
    obtain ⟨h1, h2, vs, h3, h4⟩ := s.m a es e
    exact ⟨by rw [upd_ne q]; exact h1, h2, vs, h3, h4.mono (same_new f1)⟩
/-- a hidden new thing -/
theorem Hs.hideO (s : Hs K CA F R μ H) {p : Addr} {o : HO} (h : H p = none) : Hs K CA F (upd R p o) μ (upd H p o) where
  f := same_upd s.f (s.ff h)
  r := fun a u e => by
    by_cases q : a = p
    · subst q; rw [upd_same] at e ⊢; exact e
    · rw [upd_ne q] at e ⊢; exact s.r a u e
  fr := fun a u e => by
    have q : a ≠ p := ne_of_none (s.f a u e) h
    rw [upd_ne q]; exact s.fr a u e
  m := fun a ds e => by
    obtain ⟨h1, h2, us, h3, h4⟩ := s.m a ds e
    have q : a ≠ p := ne_of_none h3 h
    exact ⟨h1, by rw [upd_ne q]; exact h2, us, by rw [upd_ne q]; exact h3, h4⟩
theorem Hs.hsetO {p : Addr} {o o' : HO} (s : Hs K CA F (upd R p o) μ H) : Hs K CA F (upd R p o') μ (upd H p o') := by
  have fp : F p = none := by
    cases e : F p with
    | none => rfl
    | some o =>
      have z := s.fr p o e
      rw [upd_same] at z; cases z
  refine ⟨same_upd s.f fp, fun a u e => ?_, fun a u e => ?_, fun a ds e => ?_⟩
  · by_cases q : a = p
    · subst q; rw [upd_same] at e ⊢; exact e
    · rw [upd_ne q] at e ⊢
      exact s.r a u (by rw [upd_ne q]; exact e)
  · have q : a ≠ p := fun z => by subst z; rw [fp] at e; cases e
    have z := s.fr a u e
    rw [upd_ne q] at z ⊢; exact z
  · obtain ⟨h1, h2, us, h3, h4⟩ := s.m a ds e
    have q : a ≠ p := fun z => by subst z; rw [upd_same] at h2; cases h2
    rw [upd_ne q] at h2
    exact ⟨h1, by rw [upd_ne q]; exact h2, us, by rw [upd_ne q]; exact h3, h4⟩
theorem Hs.bareO {p : Addr} {o : HO} (s : Hs K CA F (upd R p o) μ H) (hR : R p = none) : Hs K CA (upd F p o) R μ H ∧ F p = none ∧ H p = some o := by
  have fp : F p = none := by
    cases e : F p with
    | none => rfl
    | some o =>
      have z := s.fr p o e
      rw [upd_same] at z; cases z
  have hp : H p = some o := s.r p _ upd_same
  refine ⟨⟨fun a u e => ?_, fun a u e => ?_, fun a u e => ?_, fun a ds e => ?_⟩, fp, hp⟩
  · by_cases q : a = p
    · subst q; rw [upd_same] at e; cases e; exact hp
    · rw [upd_ne q] at e; exact s.f a u e
  · have q : a ≠ p := fun z => by subst z; rw [hR] at e; cases e
    exact s.r a u (by rw [upd_ne q]; exact e)
  · by_cases q : a = p
    · subst q; exact hR
    · rw [upd_ne q] at e
      have z := s.fr a u e
      rw [upd_ne q] at z; exact z
  · obtain ⟨h1, h2, us, h3, h4⟩ := s.m a ds e
    have q : a ≠ p := fun z => by subst z; rw [upd_same] at h2; cases h2
    rw [upd_ne q] at h2
    exact ⟨by rw [upd_ne q]; exact h1, h2, us, h3, h4.mono (same_new fp)⟩
/-- a hidden new list -/
theorem Hs.hide (s : Hs K CA F R μ H) {p : Addr} {vs : List V} (h : H p = none) : Hs K CA F (upd R p (.lst vs)) μ (upd H p (.lst vs)) where
  f := same_upd s.f (s.ff h)
  r := fun a u e => by
    by_cases q : a = p
    · subst q; rw [upd_same] at e ⊢; exact e
    · rw [upd_ne q] at e ⊢; exact s.r a u e
  fr := fun a u e => by
    have q : a ≠ p := ne_of_none (s.f a u e) h
    rw [upd_ne q]; exact s.fr a u e
  m := fun a ds e => by
    obtain ⟨h1, h2, us, h3, h4⟩ := s.m a ds e
    have q : a ≠ p := ne_of_none h3 h
    exact ⟨h1, by rw [upd_ne q]; exact h2, us, by rw [upd_ne q]; exact h3, h4⟩
theorem Hs.hset {p : Addr} {vs ws : List V} (s : Hs K CA F (upd R p (.lst vs)) μ H) : Hs K CA F (upd R p (.lst ws)) μ (upd H p (.lst ws)) := by
  have fp : F p = none := by
    cases e : F p with
    | none => rfl
    | some o =>
      have z := s.fr p o e
      rw [upd_same] at z; cases z
  refine ⟨same_upd s.f fp, fun a u e => ?_, fun a u e => ?_, fun a ds e => ?_⟩
  · by_cases q : a = p
    · subst q; rw [upd_same] at e ⊢; exact e
    · rw [upd_ne q] at e ⊢
      exact s.r a u (by rw [upd_ne q]; exact e)
  · have q : a ≠ p := fun z => by subst z; rw [fp] at e; cases e
    have z := s.fr a u e
    rw [upd_ne q] at z ⊢; exact z
  · obtain ⟨h1, h2, us, h3, h4⟩ := s.m a ds e
    have q : a ≠ p := fun z => by subst z; rw [upd_same] at h2; cases h2
    rw [upd_ne q] at h2
    exact ⟨h1, by rw [upd_ne q]; exact h2, us, by rw [upd_ne q]; exact h3, h4⟩
/-- the hidden list becomes one of the store -/
theorem Hs.bareM {p : Addr} {vs : List V} {ds : List D} (s : Hs K CA F (upd R p (.lst vs)) μ H) (hR : R p = none) (x : DxA K CA F vs ds) : Hs K CA F R (mset μ p ds) H ∧ μ p = none := by
  have fp : F p = none := by
    cases e : F p with
    | none => rfl
    | some o =>
      have z := s.fr p o e
      rw [upd_same] at z; cases z
  have hp : H p = some (.lst vs) := s.r p _ upd_same
  refine ⟨⟨s.f, fun a u e => ?_, fun a u e => ?_, fun a es e => ?_⟩, ?_⟩
  · have q : a ≠ p := fun z => by subst z; rw [hR] at e; cases e
    exact s.r a u (by rw [upd_ne q]; exact e)
  · have q : a ≠ p := fun z => by subst z; rw [fp] at e; cases e
    have z := s.fr a u e
    rw [upd_ne q] at z; exact z
  · by_cases q : a = p
    · subst q
      rw [mset_same] at e; cases e
      exact ⟨fp, hR, vs, hp, x⟩
    · rw [mset_ne _ _ q] at e
      obtain ⟨h1, h2, us, h3, h4⟩ := s.m a es e
      rw [upd_ne q] at h2
      exact ⟨h1, h2, us, h3, h4⟩
  · cases e : μ p with
    | none => rfl
    | some es =>
      obtain ⟨h1, h2, us, h3, h4⟩ := s.m p es e
      rw [upd_same] at h2; cases h2
theorem Hs.bare {p : Addr} {vs : List V} (s : Hs K CA F (upd R p (.lst vs)) μ H) (hR : R p = none) : Hs K CA (upd F p (.lst vs)) R μ H ∧ F p = none ∧ H p = some (.lst vs) := by
  have fp : F p = none := by
    cases e : F p with
    | none => rfl
    | some o =>
      have z := s.fr p o e
      rw [upd_same] at z; cases z
  have hp : H p = some (.lst vs) := s.r p _ upd_same
  refine ⟨⟨fun a u e => ?_, fun a u e => ?_, fun a u e => ?_, fun a ds e => ?_⟩, fp, hp⟩
  · by_cases q : a = p
    · subst q; rw [upd_same] at e; cases e; exact hp
    · rw [upd_ne q] at e; exact s.f a u e
  · have q : a ≠ p := fun z => by subst z; rw [hR] at e; cases e
    exact s.r a u (by rw [upd_ne q]; exact e)
  · by_cases q : a = p
    · subst q; exact hR
    · rw [upd_ne q] at e
      have z := s.fr a u e
      rw [upd_ne q] at z; exact z
  · obtain ⟨h1, h2, us, h3, h4⟩ := s.m a ds e
    have q : a ≠ p := fun z => by subst z; rw [upd_same] at h2; cases h2
    rw [upd_ne q] at h2
    exact ⟨by rw [upd_ne q]; exact h1, h2, us, h3, h4.mono (same_new fp)⟩

/-! ### slots -/
structure Rp (K : PySem.W.Frag) (CA : Nat → Addr) (F : Hp) (ρ : Rho) (σ : L2.St) : Prop where
  len : ρ.length = σ.length
  at_ : ∀ i d, rg ρ i = some d → ∃ v, σ[i]? = some (some v) ∧ Dx K CA F v d
theorem Rp.mono {ρ : Rho} {σ : L2.St} (r : Rp K CA F ρ σ) (s : Same F F') : Rp K CA F' ρ σ := ⟨r.len, fun i d e => by
  obtain ⟨v, h1, h2⟩ := r.at_ i d e
  exact ⟨v, h1, h2.mono s⟩⟩
theorem rs_length : ∀ (ρ : Rho) (i : Nat) (v : Option D), (rs ρ i v).length = ρ.length
  | [], _, _ => rfl
  | _ :: _, 0, _ => rfl
  | _ :: r, i + 1, v => by simp [rs, rs_length r i v]
theorem rg_rs_same : ∀ {ρ : Rho} {i : Nat} {v : Option D} {d : D}, rg (rs ρ i v) i = some d → v = some d ∧ i < ρ.length
  | [], _, _, _, e => by simp [rs, rg] at e
  | _ :: _, 0, _, _, e => ⟨e, by simp⟩
  | _ :: r, i + 1, v, d, e => by
    obtain ⟨h1, h2⟩ := rg_rs_same (ρ := r) (i := i) (v := v) (d := d) e
    exact ⟨h1, by simp; omega⟩
theorem rg_rs_ne : ∀ {ρ : Rho} {i j : Nat} {v : Option D}, j ≠ i → rg (rs ρ i v) j = rg ρ j
  | [], _, _, _, _ => rfl
  | _ :: _, 0, 0, _, h => absurd rfl h
  | _ :: _, 0, j + 1, _, _ => rfl
  | _ :: _, i + 1, 0, _, _ => rfl
  | _ :: r, i + 1, j + 1, v, h => rg_rs_ne (ρ := r) (i := i) (j := j) (v := v) (by omega)
theorem Rp.set {ρ : Rho} {σ : L2.St} {v : V} {d : D} (r : Rp K CA F ρ σ) (i : Nat) (x : Dx K CA F v d) : Rp K CA F (rs ρ i (some d)) (σ.set i (some v)) where
  len := by rw [rs_length, List.length_set]; exact r.len
  at_ := fun j e h => by
    by_cases q : j = i
    · subst q
      obtain ⟨h1, h2⟩ := rg_rs_same h
      cases h1
      exact ⟨v, by rw [List.getElem?_set_self (by rw [← r.len]; exact h2)], x⟩
    · rw [rg_rs_ne q] at h
      obtain ⟨u, h1, h2⟩ := r.at_ j e h
      exact ⟨u, by rw [List.getElem?_set_ne (Ne.symm q)]; exact h1, h2⟩
theorem Rp.hid {ρ : Rho} {σ : L2.St} (r : Rp K CA F ρ σ) (i : Nat) (v : Option V) : Rp K CA F (rs ρ i none) (σ.set i v) where
  len := by rw [rs_length, List.length_set]; exact r.len
  at_ := fun j e h => by
    by_cases q : j = i
    · subst q
      obtain ⟨h1, h2⟩ := rg_rs_same h
      cases h1
    · rw [rg_rs_ne q] at h
      obtain ⟨u, h1, h2⟩ := r.at_ j e h
      exact ⟨u, by rw [List.getElem?_set_ne (Ne.symm q)]; exact h1, h2⟩
theorem Rp.drp {ρ : Rho} {σ : L2.St} (r : Rp K CA F ρ σ) (i : Nat) : Rp K CA F (rs ρ i none) σ where
  len := by rw [rs_length]; exact r.len
  at_ := fun j e h => by
    by_cases q : j = i
    · subst q
      obtain ⟨h1, h2⟩ := rg_rs_same h
      cases h1
    · rw [rg_rs_ne q] at h
      exact r.at_ j e h
theorem Rp.unset {ρ : Rho} {σ : L2.St} (r : Rp K CA F ρ σ) (i : Nat) : Rp K CA F (rs ρ i none) (σ.set i none) where
  len := by rw [rs_length, List.length_set]; exact r.len
  at_ := fun j e h => by
    by_cases q : j = i
    · subst q
      obtain ⟨h1, h2⟩ := rg_rs_same h
      cases h1
    · rw [rg_rs_ne q] at h
      obtain ⟨u, h1, h2⟩ := r.at_ j e h
      exact ⟨u, by rw [List.getElem?_set_ne (Ne.symm q)]; exact h1, h2⟩
theorem Rp.wipe {ρ : Rho} {σ : L2.St} (r : Rp K CA F ρ σ) : ∀ is : List Nat, Rp K CA F (wipeD ρ is) (L2.wipe σ is)
  | [] => r
  | i :: is => by
    unfold wipeD L2.wipe
    exact (Rp.wipe r is).unset i
theorem bindAll_ok : ∀ {is : List Nat} {ds : List D} {vs : List V} {ρ ρ' : Rho} {σ : L2.St}, bindAll is ds ρ = some ρ' → DxA K CA F vs ds → Rp K CA F ρ σ →
    is.length = vs.length ∧ Rp K CA F ρ' (((is.zip vs).foldl (fun s p => s.set p.1 (some p.2)) σ : L2.St))
  | [], [], _, ρ, ρ', σ, e, .nil, r => by
    have e' : ρ = ρ' := Option.some.inj e
    subst e'
    exact ⟨rfl, r⟩
  | i :: is, d :: ds, v :: vs, ρ, ρ', σ, e, .cons x t, r => by
    obtain ⟨h1, h2⟩ := bindAll_ok (is := is) (ds := ds) (vs := vs) (ρ := rs ρ i (some d)) (ρ' := ρ') (σ := σ.set i (some v)) e t (r.set i x)
    exact ⟨by simp [h1], h2⟩
  | [], _ :: _, _, _, _, _, e, _, _ => by cases e
  | _ :: _, [], _, _, _, _, e, _, _ => by cases e
end
end Dl

/-! The data layer, part Ba: the promise of a def that is called while no repr stands below (so that str of data may be told). -/
namespace Dl
open PySem L2 PyProof.Rows PySem.Spec
/-- as FnOk, and nothing is being shown -/
structure FnG (P : Program) (w : World) (K : PySem.W.Frag) (mg : Str → Option Value) (base : Heap) (CX : CXT) (k : Nat) (f : Addr) (fd : FuncData) (ps : List Str) (sp : Sp) : Prop where
  many : ∀ ⦃vs H Q E⦄, sp vs H Q E → vs.length = ps.length
  goes : ∀ ⦃A : Around⦄ ⦃outer : List Env⦄ ⦃s : Shared⦄ ⦃H : Hp⦄ ⦃args : Args⦄ ⦃us : List Value⦄ ⦃vs : List V⦄ ⦃Q : VK⦄ ⦃E : XK⦄, A.guards = some [] → Room k A → Env0 P w K mg base A outer s H →
    BindsTo s fd args (ps.zip us) → Vals vs us → sp vs H Q E → codeAny (model P w) A (.call (.ref f) args) (CR CX outer P w H s Q E) s
section
variable {P : Program} {w : World} {K : PySem.W.Frag} {mg : Str → Option Value} {base : Heap} {CX : CXT} {j k : Nat} {f : Addr} {fd : FuncData} {ps : List Str} {sp : Sp}
theorem FnG.mono (G : FnG P w K mg base CX j f fd ps sp) (l : j ≤ k) : FnG P w K mg base CX k f fd ps sp :=
  ⟨G.many, fun _ _ _ _ _ _ _ _ _ g hr => G.goes g (hr.mono l)⟩
end
/-- what a body's end says of the call's end -/
theorem ends_of {CX : CXT} {P : Program} {w : World} {K : PySem.W.Frag} {mg : Str → Option Value} {base : Heap} {N : List Str} {qual : Str} {scope : Scope} {f : Addr} {cdv : Value} {A : Around} {outer : List Env} {s s' : Shared} {H H' : Hp} {E : XK} {Q : VK} {σ' : L2.St} {v : V} {u : Value}
    (J : Inv (cxOf CX P w K mg base N qual scope f cdv A outer s H E) [] σ' H' s') (rv : RelV v u) (q : Q v H') : CE outer P w H s Q u s' := ⟨v, H', J.os, J.bare, J.base, J.hok, rv, q⟩
theorem def_g {x qual : Str} {st : Stmt} {f : Addr} {fd : FuncData} {CX : CXT} {P : Program} {w : World} {K : PySem.W.Frag} {mg : Str → Option Value} {base : Heap} {N ps : List Str} {k : Nat} {sp : Sp} (Fu : Fun K x qual st f fd) (sc : FnScope N ps (defScope st)) (many : ∀ ⦃vs H Q E⦄, sp vs H Q E → vs.length = ps.length)
    (body : ∀ (cdv : Value) (A : Around) (outer : List Env) (s : Shared) (H : Hp) (vs : List V) (Q : VK) (E : XK), A.guards = some [] → Room k (A.deeper (envOfC qual (defScope st) s.heap.objs.size f cdv)) → sp vs H Q E →
      ∃ t, PSs (cxOf CX P w K mg base N qual (defScope st) f cdv A outer s H E) (defBody st) t ∧ t { nx := fun _ H' => Q .non H', rt := Q } (start N vs) H) : FnG P w K mg base CX (k + 1) f fd ps sp := by
  obtain ⟨oc, od, kV, doc, pm, an, cdv, ct, osl, rfl, lk, hcd⟩ := Fu.ex
  refine ⟨many, ?_⟩
  intro A outer s H args us vs Q E gu hr e0 bi rv hsp
  have stay : ∀ b o, base.get? b = some o → s.heap.get? b = some o := fun b o e => (e0.bs b o e).1
  have inK : K.In s.heap := e0.mod.kin.keeps stay
  have kinds : ∀ z ∈ ps.zip us, (defScope st).names.lookup z.1 = some .local ∨ ((defScope st).names.lookup z.1 = some .cell ∧ ((cellsFrom (s.heap.objs.size + 1) (defScope st).names []).lookup z.1).isSome = true) := by
    intro z hz
    obtain ⟨n, v⟩ := z
    exact (sc.par n (List.of_mem_zip hz).1).imp id fun e => ⟨e, PySem.W.cellsFrom_some _ _ _ (.inl e)⟩
  refine codeAny_call_function hr.depth (inK _ _ lk) rfl sc.co sc.gen rfl (PySem.W.codeRec_of inK hcd) (bi _ _ _ _ (wpAny_newFunctionEnv_cells sc.kind kinds fun en ee s1 ic => ?_))
  subst ee
  obtain ⟨t, pt, tq⟩ := body cdv A outer s H vs Q E gu (hr.deeper _) hsp
  refine ⟨(e0.mod.nolimit.keeps stay).keeps ic.toInCall.keep, codeAny_func (wpAny_mono (pt.run [] s1 (start N vs) H _ (inv_start sc hr.hd e0 (many hsp) rv ic) tq) ?_ fun _ _ z => z)⟩
  rintro (_ | _ | u | _) s' z
  all_goals first
    | (obtain ⟨v, σ', H', J, r, q⟩ := z; exact ends_of J r q)
    | (obtain ⟨σ', H', J, q⟩ := z; exact ends_of (v := V.non) (u := Value.none) J rfl q)
    | (obtain ⟨_, _, _, q⟩ := z; exact q.elim)
section
variable {X : Cx} {CX : CXT} {k : Nat} {f : Addr} {fd : FuncData} {ps : List Str} {sp : Sp} {E : L2.St → XK} {x : Str} {p pos : Pos} {e : Expr} {es : List Expr} {t : TA}
theorem goes_g {pins : List (Addr × Obj)} {σ : L2.St} {H : Hp} {s : Shared} {Q : VK} {us : List Value} {vs : List V} (G : FnG X.prog X.w X.K X.mg X.base CX k f fd ps sp) (gu : X.A.guards = some []) (hr : Room k X.A) (bi : Binds X.K fd ps []) (px : PassesAt CX X σ (E σ)) (I : Inv X pins σ H s)
    (rv : Vals vs us) (q : sp vs H Q (E σ)) : wpAny (model X.prog X.w) X.A (call (.ref f) us) (EP X pins σ Q) X.xe s := by
  have bi2 : BindsTo s fd ⟨us, []⟩ (ps.zip us) := by
    have := bi s us I.kIn (by rw [List.append_nil, ← rv.length]; exact G.many q)
    rwa [List.append_nil] at this
  refine wpAny_call (codeAny_mono (G.goes gu hr I.env0 bi2 rv q) ?_)
  rintro (er | fl) s' z
  · exact px pins H s er s' I z
  · cases fl <;> first | exact False.elim z | exact I.after z
theorem pe_g (G : FnG X.prog X.w X.K X.mg X.base CX k f fd ps sp) (gu : X.A.guards = some []) (hr : Room k X.A) (hg : Gl X x) (hm : X.mg x = some (.ref f)) (hk : PySem.W.keepIn X.K (.ref f) = true) (bi : Binds X.K fd ps []) (px : ∀ σ, PassesAt CX X σ (E σ)) (pa : PA X (e :: es) t)
    (hdb : (x == ("__debug__" : Str)) = false) (st : starEach (e :: es) X.env = (false, eval e X.env) :: starEach es X.env) (no : (backTo pos (starEach es X.env)).any (·.1) = false) : PE X (.Call (.Name x p) (e :: es) [] pos) (tCallS sp E t) :=
  ⟨fun pins s σ H _ I h => wpAny_Call_Name_kw (ld_glob I hg hm (PySem.W.callWith_K (h₀ := X.base) I.ok.mod.kin hk (thn (pa.run pos pins s σ H _ I h) fun _ _ ⟨_, _, I1, rv, q⟩ => ⟨I1.kIn, goes_g G gu hr bi (px σ) I1 rv q⟩) st no) hdb)⟩
/-- a call of what an expression tells, a def -/
def tCallF (X : Cx) (CX : CXT) (k : Nat) (E : L2.St → XK) (tf : TE) (t : TA) : TE := fun σ H Q => tf σ H fun y H1 => ∃ f fd ps sp, y = .ref f ∧ FnG X.prog X.w X.K X.mg X.base CX k f fd ps sp ∧ PySem.W.keepIn X.K (.ref f) = true ∧ Binds X.K fd ps [] ∧ t σ H1 fun vs H2 => sp vs H2 Q (E σ)
theorem pe_fv {fe : Expr} {tf : TE} (hf : PE X fe tf) (gu : X.A.guards = some []) (hr : Room k X.A) (px : ∀ σ, PassesAt CX X σ (E σ)) (pa : PA X (e :: es) t)
    (ht : eval (.Call fe (e :: es) [] pos) X.env = (do callWith pos (← eval fe X.env) [] (backTo pos (starEach (e :: es) X.env)) (backToKw pos (keywordEach [] X.env))))
    (st : starEach (e :: es) X.env = (false, eval e X.env) :: starEach es X.env) (no : (backTo pos (starEach es X.env)).any (·.1) = false) : PE X (.Call fe (e :: es) [] pos) (tCallF X CX k E tf t) := by
  refine ⟨fun pins s σ H _ I h => Call_ (thn (hf.run pins s σ H _ I h) ?_) ht⟩
  rintro u s1 ⟨y, H1, I1, ry, f, fd, ps, sp, rfl, G, kp, bi, q⟩
  cases (show u = Value.ref f from ry)
  exact PySem.W.callWith_K (h₀ := X.base) I.ok.mod.kin kp (thn (pa.run pos pins s1 σ H1 _ I1 q) fun _ _ ⟨_, _, I2, rv, q2⟩ => ⟨I2.kIn, goes_g G gu hr bi (px σ) I2 rv q2⟩) st no
end
end Dl

/-! The data layer, part C: readings, the match of a text with the small syntax. -/
namespace Dl
open PySem L2
variable [NC]

/-! ### readings -/
structure Sx (K : PySem.W.Frag) (CA : Nat → Addr) (W : WX) (σ : L2.St) (F R : Hp) (ρ : Rho) (μ : Mu) (X : Xst) (H : Hp) : Prop where
  hs : Hs K CA F R μ H
  rp : Rp K CA F ρ σ
  xx : ∀ c μ' F' H', X c μ' → Same F F' → Hs K CA F' R μ' H' → W (.ref (CA c)) none σ H'
theorem Sx.go {K : PySem.W.Frag} {CA : Nat → Addr} {W : WX} {σ : L2.St} {F R : Hp} {ρ : Rho} {μ : Mu} {X : Xst} {H : Hp} (s : Sx K CA W σ F R ρ μ X H) {F' : Hp} {μ' : Mu} {H' : Hp} (f : Same F F') (h : Hs K CA F' R μ' H') : Sx K CA W σ F' R ρ μ' X H' :=
  ⟨h, s.rp.mono f, fun c m G J e g z => s.xx c m G J e (f.trans g) z⟩
def Gr (K : PySem.W.Frag) (CA : Nat → Addr) {α β : Type} (rel : Hp → β → α → Prop) (w : Rho → Mu → (α → Mu → Prop) → Xst → Prop) (W : WX) (σ : L2.St) (H : Hp) (Q : β → Hp → Prop) : Prop :=
  ∃ F R ρ μ X Qd, Sx K CA W σ F R ρ μ X H ∧ w ρ μ Qd X ∧ ∀ d μ' v F' H', Qd d μ' → Same F F' → Hs K CA F' R μ' H' → rel F' v d → Q v H'
theorem Gr.mk {K : PySem.W.Frag} {CA : Nat → Addr} {α β : Type} {rel : Hp → β → α → Prop} {w : Rho → Mu → (α → Mu → Prop) → Xst → Prop} {W : WX} {σ : L2.St} {H : Hp} {Q : β → Hp → Prop} {F R : Hp} {ρ : Rho} {μ : Mu} {X : Xst} {Qd : α → Mu → Prop}
    (s : Sx K CA W σ F R ρ μ X H) (h : w ρ μ Qd X) (k : ∀ d μ' v F' H', Qd d μ' → Same F F' → Sx K CA W σ F' R ρ μ' X H' → rel F' v d → Q v H') : Gr K CA rel w W σ H Q :=
  ⟨F, R, ρ, μ, X, Qd, s, h, fun d m v G J q f z x => k d m v G J q f (s.go f z) x⟩
def MA.len : MA → Nat
  | .nil => 0
  | .cons _ a => a.len + 1
/-- an iterator that yields the data ds, one behind the other -/
def Wk (K : PySem.W.Frag) (CA : Nat → Addr) (F0 : Hp) (J : It) (ds : List D) : Prop :=
  ∀ F R μ H, Same F0 F → Hs K CA F R μ H → ∀ i : Nat, (ds.length ≤ i → J.stop i H) ∧ ∀ d, ds[i]? = some d → J.go i H ∧ ∀ x H', J.yld i H x H' → ∃ F', Same F F' ∧ Hs K CA F' R μ H' ∧ Dx K CA F' x d
section
variable (K : PySem.W.Frag) (CA : Nat → Addr) (W : WX)
def tE (m : ME) : TE := Gr K CA (Dx K CA) (wpE m) W
def tA (m : MA) : TA := Gr K CA (fun F vs ds => DxA K CA F vs ds ∧ ds.length = m.len) (wpA m) W
def tT (m : ME) : TT := Gr K CA (fun _ (b : Bool) d => b = d) (fun ρ μ Q X => wpE m ρ μ (fun d μ1 => ifB (truD d μ1) fun b => Q b μ1) X) W
def tO (m : MO) : TO := Gr K CA (fun _ (b : Option Int) d => b = d) (wpO m) W
def tQ (m : MO) : TT := Gr K CA (fun _ (b : Bool) d => b = d) (wpC m) W
def tI (m : MI) : TI := Gr K CA (fun F J ds => Wk K CA F J ds) (wpI m) W
end

/-! ### the match -/
def visB (sc : Scope) (x : Str) : Bool := match sc.names.lookup x with
  | some .local => true
  | some .cell => true
  | some .free => true
  | _ => false
def locB (sc : Scope) (x : Str) : Bool := match sc.names.lookup x with
  | some .local => true
  | some .cell => true
  | _ => false
def lclB (sc : Scope) (x : Str) : Bool := match sc.names.lookup x with
  | some .local => true
  | _ => false
def glB (sc : Scope) (x : Str) : Bool := match sc.names.lookup x with
  | some .globalImplicit => true
  | _ => false
theorem visB_ok {sc : Scope} {x : Str} (h : visB sc x = true) : Vis sc x := by
  unfold visB at h
  split at h
  · exact .inl (by assumption)
  · exact .inr (.inl (by assumption))
  · exact .inr (.inr (by assumption))
  · cases h
theorem locB_ok {sc : Scope} {x : Str} (h : locB sc x = true) : Loc sc x := by
  unfold locB at h
  split at h
  · exact .inl (by assumption)
  · exact .inr (by assumption)
  · cases h
theorem lclB_ok {sc : Scope} {x : Str} (h : lclB sc x = true) : sc.names.lookup x = some .local := by
  unfold lclB at h
  split at h
  · assumption
  · cases h
theorem glB_ok {sc : Scope} {x : Str} (h : glB sc x = true) : sc.names.lookup x = some .globalImplicit := by
  unfold glB at h
  split at h
  · assumption
  · cases h
def notStar : Expr → Bool
  | .Starred _ _ => false
  | _ => true
theorem star_cons {e : Expr} (h : notStar e = true) (es : List Expr) (env : Env) : starEach (e :: es) env = (false, eval e env) :: starEach es env := by
  cases e <;> first | rfl | (simp [notStar] at h)
theorem star_none : ∀ {es : List Expr}, es.all notStar = true → ∀ (pos : Pos) (env : Env), (backTo pos (starEach es env)).any (·.1) = false
  | [], _, _, _ => rfl
  | e :: es, h, pos, env => by
    simp only [List.all_cons, Bool.and_eq_true] at h
    rw [star_cons h.1]
    show (false || (backTo pos (starEach es env)).any (·.1)) = false
    rw [star_none h.2 pos env]; rfl
/-- an expression whose test is its value's truth -/
def plainT : Expr → Bool
  | .UnaryOp .Not _ _ => false
  | .BoolOp _ _ _ => false
  | .IfExp _ _ _ _ => false
  | .Compare _ _ _ _ => false
  | _ => true
theorem plainT_ok {e : Expr} (h : plainT e = true) (env : Env) (whole : Sem Value) : isTrue e env whole = (do let v ← whole; standAt e.pos; holding [v] (truthy v)) := by
  cases e with
  | UnaryOp op a p => cases op <;> first | rfl | (simp [plainT] at h)
  | BoolOp => simp [plainT] at h
  | IfExp => simp [plainT] at h
  | Compare => simp [plainT] at h
  | _ => rfl
def notSl : Expr → Bool
  | .Slice _ _ _ _ => false
  | _ => true
theorem notSl_ok {e : Expr} (h : notSl e = true) : PlainIx e := by
  cases e <;> first | (intro _ _; rfl) | (simp [notSl] at h)
def notComp : Expr → Bool
  | .ListComp _ _ _ _ => false
  | .SetComp _ _ _ _ => false
  | .DictComp _ _ _ _ _ => false
  | _ => true
theorem notComp_ok {e : Expr} (h : notComp e = true) (t : Option Expr) (l : Nat) (env : Env) : swapsWith e t l env = pure false := by
  cases e <;> first | rfl | (simp [notComp] at h)
def notSet : Expr → Bool
  | .Set _ _ _ => false
  | _ => true
theorem notSet_ok {e : Expr} (h : notSet e = true) (env : Env) (x : Value) : foldedSetIterable e env x = pure x := by
  cases e <;> first | rfl | (simp [notSet] at h)
theorem notSet_in {e : Expr} (h : notSet e = true) (op : CmpOp) : behindInMarks op e = false := by
  cases e <;> first | rfl | (simp [notSet] at h)

def Op2.is : Op2 → Operator → Bool
  | .add, .Add => true
  | .sub, .Sub => true
  | .mul, .Mult => true
  | .fdiv, .FloorDiv => true
  | .mod, .Mod => true
  | .pow, .Pow => true
  | .shl, .LShift => true
  | _, _ => false
def Cop.is : Cop → CmpOp → Bool
  | .eq, .Eq => true
  | .ne, .NotEq => true
  | .lt, .Lt => true
  | .le, .LtE => true
  | .gt, .Gt => true
  | .ge, .GtE => true
  | .in_, .In => true
  | .notin, .NotIn => true
  | .is_, .Is => true
  | .isnt, .IsNot => true
  | .eqm, .Eq => true
  | .nem, .NotEq => true
  | .inT, .In => true
  | .notinT, .NotIn => true
  | .ner, .NotEq => true
  | _, _ => false
def Bl1.name : Bl1 → Str
  | .len => "len"
  | .abs => "abs"
  | .sum => "sum"
  | .all => "all"
  | .any => "any"
  | .tuple => "tuple"
  | .list => "list"
  | .listM => "list"
  | .int => "int"
  | .str => "str"
def Bl2.name : Bl2 → Str
  | .max => "max"
  | .min => "min"
def Ty.name (CN : Nat → Str) : Ty → Str
  | .int => "int"
  | .bool => "bool"
  | .tuple => "tuple"
  | .list => "list"
  | .str => "str"
  | .cls c => CN c
  | .vErr => "ValueError"
def names : List Str := ["len", "abs", "sum", "all", "any", "tuple", "list", "int", "str", "max", "min", "isinstance", "range", "zip", "bool", "ValueError", "set", "sorted"]
def dbg (x : Str) : Bool := !(x == ("__debug__" : Str))

def attrOk : Expr → Bool
  | .Call _ _ _ _ => false
  | _ => true
theorem attrOk_ok {o : Expr} (h : attrOk o = true) (nm : Str) (env : Env) (w : Sem Value) : attributeBase o nm env w = w := by
  cases o <;> first | (simp [attrOk] at h; done) | rfl
def bitsOf : Expr → Option (Expr × Pos × Pos)
  | .Call (.Attribute o nm ap) [] [] p => if nm = "bit_length" then some (o, ap, p) else none
  | _ => none
theorem bitsOf_ok {e o : Expr} {ap p : Pos} (h : bitsOf e = some (o, ap, p)) : e = .Call (.Attribute o "bit_length" ap) [] [] p := by
  unfold bitsOf at h
  split at h
  · split at h
    · rename_i hn; cases h; rw [hn]
    · cases h
  · cases h
/-- defs' names -/
def fnNames (sc : Scope) : List (Str × DSp) → List Expr → Bool
  | [], [] => true
  | p :: fs, .Name y _ :: es => decide (p.1 = y) && glB sc y && dbg y && fnNames sc fs es
  | _, _ => false
def callAtOf : Expr → Option (List Expr × Expr × Expr × List Expr)
  | .Call (.Subscript (.List ns _) s _) (e :: es) [] _ => some (ns, s, e, es)
  | _ => none
theorem callAtOf_ok {ex s e : Expr} {ns es : List Expr} (h : callAtOf ex = some (ns, s, e, es)) : ∃ p1 p2 p3, ex = .Call (.Subscript (.List ns p1) s p2) (e :: es) [] p3 := by
  unfold callAtOf at h
  split at h
  · cases h; exact ⟨_, _, _, rfl⟩
  · cases h
def revOf : Expr → Option Expr
  | .Subscript v (.Slice none none (some (.UnaryOp .USub (.Constant (.int 1) _ _) _)) _) _ => some v
  | _ => none
theorem revOf_ok {e v : Expr} (h : revOf e = some v) : ∃ k p1 p2 p3 p4, e = .Subscript v (.Slice none none (some (.UnaryOp .USub (.Constant (.int 1) k p1) p2)) p3) p4 := by
  unfold revOf at h
  split at h
  · cases h; exact ⟨_, _, _, _, _, rfl⟩
  · cases h
def joinOf : Expr → Option (Str × Expr × Pos × Pos)
  | .Call (.Attribute (.Constant (.str x) _ _) nm ap) [e] [] p => if nm = "join" then some (x, e, ap, p) else none
  | _ => none
theorem joinOf_ok {ex e : Expr} {x : Str} {ap p : Pos} (h : joinOf ex = some (x, e, ap, p)) : ∃ k p0, ex = .Call (.Attribute (.Constant (.str x) k p0) "join" ap) [e] [] p := by
  unfold joinOf at h
  split at h
  · split at h
    · rename_i hn; cases h; rw [hn]; exact ⟨_, _, rfl⟩
    · cases h
  · cases h
def splitOf : Expr → Option (Str × Expr × Pos × Pos)
  | .Call (.Attribute o nm ap) [.Constant (.str x) _ _] [] p => if nm = "split" then some (x, o, ap, p) else none
  | _ => none
theorem splitOf_ok {ex o : Expr} {x : Str} {ap p : Pos} (h : splitOf ex = some (x, o, ap, p)) : ∃ k p0, ex = .Call (.Attribute o "split" ap) [.Constant (.str x) k p0] [] p := by
  unfold splitOf at h
  split at h
  · split at h
    · rename_i hn; cases h; rw [hn]; exact ⟨_, _, rfl⟩
    · cases h
  · cases h
def setlOf : Expr → Option Expr
  | .Call (.Name y _) [.Call (.Name z _) [a] [] _] [] _ => if y = "len" ∧ z = "set" then some a else none
  | _ => none
theorem setlOf_ok {ex a : Expr} (h : setlOf ex = some a) : ∃ p1 p2 p3 p4, ex = .Call (.Name "len" p1) [.Call (.Name "set" p2) [a] [] p3] [] p4 := by
  unfold setlOf at h
  split at h
  · split at h
    · rename_i hn; cases h; rw [hn.1, hn.2]; exact ⟨_, _, _, _, rfl⟩
    · cases h
  · cases h
def rglOf : Expr → Option (Expr × Expr)
  | .Call (.Name y _) [.Call (.Name z _) [a, b] [] _] [] _ => if y = "list" ∧ z = "range" then some (a, b) else none
  | _ => none
theorem rglOf_ok {ex a b : Expr} (h : rglOf ex = some (a, b)) : ∃ p1 p2 p3 p4, ex = .Call (.Name "list" p1) [.Call (.Name "range" p2) [a, b] [] p3] [] p4 := by
  unfold rglOf at h
  split at h
  · split at h
    · rename_i hn; cases h; rw [hn.1, hn.2]; exact ⟨_, _, _, _, rfl⟩
    · cases h
  · cases h
def rg1Of : Expr → Option Expr
  | .Call (.Name y _) [.Call (.Name z _) [b] [] _] [] _ => if y = "list" ∧ z = "range" then some b else none
  | _ => none
theorem rg1Of_ok {ex b : Expr} (h : rg1Of ex = some b) : ∃ p1 p2 p3 p4, ex = .Call (.Name "list" p1) [.Call (.Name "range" p2) [b] [] p3] [] p4 := by
  unfold rg1Of at h
  split at h
  · split at h
    · rename_i hn; cases h; rw [hn.1, hn.2]; exact ⟨_, _, _, _, rfl⟩
    · cases h
  · cases h
def zplOf : Expr → Option (Expr × Expr)
  | .Call (.Name y _) [.Call (.Name z _) [a, b] [] _] [] _ => if y = "list" ∧ z = "zip" then some (a, b) else none
  | _ => none
theorem zplOf_ok {ex a b : Expr} (h : zplOf ex = some (a, b)) : ∃ p1 p2 p3 p4, ex = .Call (.Name "list" p1) [.Call (.Name "zip" p2) [a, b] [] p3] [] p4 := by
  unfold zplOf at h
  split at h
  · split at h
    · rename_i hn; cases h; rw [hn.1, hn.2]; exact ⟨_, _, _, _, rfl⟩
    · cases h
  · cases h
def matT (N : List Str) (sc : Scope) : MT → Expr → Bool
  | .name i, .Name x _ => decide (N[i]? = some x) && locB sc x
  | .tup is, .Tuple es _ _ => matTs is es
  | _, _ => false
where matTs : List Nat → List Expr → Bool
  | [], [] => true
  | i :: is, .Name x _ :: es => decide (N[i]? = some x) && locB sc x && matTs is es
  | _, _ => false
def ownOf : MT → Expr → List (Str × Nat)
  | .name i, .Name x _ => [(x, i)]
  | .tup is, .Tuple es _ _ => ownOfs is es
  | _, _ => []
where ownOfs : List Nat → List Expr → List (Str × Nat)
  | i :: is, .Name x _ :: es => (x, i) :: ownOfs is es
  | _, _ => []
def isTupE : Expr → Bool
  | .Tuple _ _ _ => true
  | _ => false
mutual
/-- may stand as a test -/
def tst : ME → Bool
  | .ife _ _ _ => false
  | .nt a => tst a
  | .bop _ a => tsts a
  | _ => true
def tsts : MA → Bool
  | .nil => true
  | .cons e a => tst e && tsts a
end
mutual
def matE (CN : Nat → Str) (N : List Str) (sc : Scope) : ME → Expr → Bool
  | .var i, ex => (match ex with | .Name x _ => decide (N[i]? = some x) && visB sc x | _ => false)
  | .non, ex => (match ex with | .Constant .none _ _ => true | _ => false)
  | .bl b, ex => (match ex with | .Constant (.bool c) _ _ => b == c | _ => false)
  | .int i, ex => (match ex with | .Constant (.int j) _ _ => i == j | _ => false)
  | .str x, ex => (match ex with | .Constant (.str y) _ _ => decide (x = y) | _ => false)
  | .glob x _, ex => (match ex with | .Name y _ => decide (x = y) && glB sc y && dbg y | _ => false)
  | .bin o a b, ex => (match ex with | .BinOp l op r _ => o.is op && matE CN N sc a l && matE CN N sc b r | _ => false)
  | .neg a, ex => (match ex with | .UnaryOp .USub l _ => matE CN N sc a l | _ => false)
  | .tup a, ex => (match ex with | .Tuple es _ _ => decide (a.len ≤ 1000) && matA CN N sc a es | _ => false)
  | .lst a, ex => (match ex with | .List es _ => decide (a.len ≤ 1000) && matA CN N sc a es | _ => false)
  | .newl a, ex => (match ex with | .List es _ => decide (a.len ≤ 1000) && matA CN N sc a es | _ => false)
  | .ixc a n, ex => (match ex with | .Subscript v (.Constant (.int i) _ _) _ => (i == (n : Int)) && matE CN N sc a v | _ => false)
  | .ix a i, ex => (match ex with | .Subscript v s _ => notSl s && matE CN N sc a v && matE CN N sc i s | _ => false)
  | .zpl a b, ex => (match zplOf ex with
    | some (e1, e2) => glB sc "list" && glB sc "zip" && notStar e1 && notStar e2 && matE CN N sc a e1 && matE CN N sc b e2
    | none => false)
  | .rg1 b, ex => (match rg1Of ex with
    | some e2 => glB sc "list" && glB sc "range" && notStar e2 && matE CN N sc b e2
    | none => false)
  | .dix a i, ex => (match ex with | .Subscript v s _ => notSl s && matE CN N sc a v && matE CN N sc i s | _ => false)
  | .lcz tg a b c e, ex => (match ex with | .ListComp elt [⟨t, .Call (.Name y _) [e1, e2] [] _, ifs, as⟩] scope _ => decide (as = 0) && matT N scope tg t && blkC N sc scope (ownOf tg t) && isTupE t && decide (y = "zip") && glB sc y && notStar e1 && notStar e2 && matE CN N sc a e1 && matE CN N sc b e2 && matC CN N (relS scope sc) c ifs && matE CN N (relS scope sc) e elt | _ => false)
  | .slc a lo hi, ex => (match ex with | .Subscript v (.Slice l u none _) _ => matE CN N sc a v && matO CN N sc lo l && matO CN N sc hi u | _ => false)
  | .call x _ a, ex => (match ex with | .Call (.Name y _) (e :: es) [] _ => decide (x = y) && glB sc y && dbg y && matA CN N sc a (e :: es) | _ => false)
  | .bl1 f a, ex => (match ex with | .Call (.Name y _) [e] [] _ => decide (f.name = y) && glB sc y && notStar e && matE CN N sc a e | _ => false)
  | .bl2 f a b, ex => (match ex with | .Call (.Name y _) [e, e2] [] _ => decide (f.name = y) && glB sc y && notStar e && notStar e2 && matE CN N sc a e && matE CN N sc b e2 | _ => false)
  | .isi a t, ex => (match ex with | .Call (.Name y _) [e, .Name z _] [] _ => decide (y = "isinstance") && decide (t.name CN = z) && glB sc y && glB sc z && dbg z && notStar e && matE CN N sc a e | _ => false)
  | .cmp o a b, ex => (match ex with | .Compare l [op] [r] _ => o.is op && notSet r && matE CN N sc a l && matE CN N sc b r | _ => false)
  | .isN b a, ex => (match b with
    | true => (match ex with | .Compare l [.Is] [.Constant .none _ _] _ => matE CN N sc a l | _ => false)
    | false => (match ex with | .Compare l [.IsNot] [.Constant .none _ _] _ => matE CN N sc a l | _ => false))
  | .bop b a, ex => (match b with
    | true => (match ex with | .BoolOp .And es _ => matA CN N sc a es | _ => false)
    | false => (match ex with | .BoolOp .Or es _ => matA CN N sc a es | _ => false))
  | .nt a, ex => (match ex with | .UnaryOp .Not l _ => matE CN N sc a l | _ => false)
  | .ife t a b, ex => (match ex with | .IfExp t' a' b' _ => tst t && matE CN N sc t t' && matE CN N sc a a' && matE CN N sc b b' | _ => false)
  | .callAt fl i a, ex => (match callAtOf ex with
    | some (ns, s, e, es) => fnNames sc fl ns && decide (fl.length ≤ 1000) && notSl s && matE CN N sc i s && matA CN N sc a (e :: es)
    | none => false)
  | .bits a, e => (match bitsOf e with
    | some (o, ap, p) => attrOk o && (ap.endLine == p.line) && matE CN N sc a o
    | none => false)
  | .rev a, e => (match revOf e with
    | some v => matE CN N sc a v
    | none => false)
  | .join s a, ex => (match joinOf ex with
    | some (x, e1, ap, p) => decide (x = s) && (ap.endLine == p.line) && notStar e1 && matE CN N sc a e1
    | none => false)
  | .split a s, ex => (match splitOf ex with
    | some (x, o, ap, p) => decide (x = s) && (ap.endLine == p.line) && attrOk o && matE CN N sc a o
    | none => false)
  | .idx a e, ex => (match ex with | .Call (.Attribute o nm ap) [e'] [] p => decide (nm = "index") && attrOk o && (ap.endLine == p.line) && notStar e' && matE CN N sc a o && matE CN N sc e e' | _ => false)
  | .cnt a e, ex => (match ex with | .Call (.Attribute o nm ap) [e'] [] p => decide (nm = "count") && attrOk o && (ap.endLine == p.line) && notStar e' && matE CN N sc a o && matE CN N sc e e' | _ => false)
  | .cat _ a b, ex => (match ex with | .BinOp l op r _ => Op2.is .add op && matE CN N sc a l && matE CN N sc b r | _ => false)
  | .setl a, ex => (match setlOf ex with
    | some e1 => glB sc "len" && glB sc "set" && notStar e1 && matE CN N sc a e1
    | none => false)
  | .isl a, ex => (match ex with | .Call (.Name y _) [e, .Name z _] [] _ => decide (y = "isinstance") && decide (z = "list") && glB sc y && glB sc z && dbg z && notStar e && matE CN N sc a e | _ => false)
  | .lcr _ tg a c e, ex => (match ex with | .ListComp elt [⟨t, i, ifs, as⟩] scope _ => decide (as = 0) && matT N scope tg t && blkC N sc scope (ownOf tg t) && matE CN N sc a i && notSet i && matC CN N (relS scope sc) c ifs && matE CN N (relS scope sc) e elt | _ => false)
  | .lc _ tg it c e, ex => (match ex with | .ListComp elt [⟨t, i, ifs, as⟩] scope _ => decide (as = 0) && matT N scope tg t && blkC N sc scope (ownOf tg t) && matI CN N sc it t i && notSet i && matC CN N (relS scope sc) c ifs && matE CN N (relS scope sc) e elt | _ => false)
  | .frz a, e => plainT e && matE CN N sc a e
  | .rgl a b, ex => (match rglOf ex with
    | some (e1, e2) => glB sc "list" && glB sc "range" && notStar e1 && notStar e2 && matE CN N sc a e1 && matE CN N sc b e2
    | none => false)
def matA (CN : Nat → Str) (N : List Str) (sc : Scope) : MA → List Expr → Bool
  | .nil, [] => true
  | .cons m a, e :: es => notStar e && matE CN N sc m e && matA CN N sc a es
  | _, _ => false
def matO (CN : Nat → Str) (N : List Str) (sc : Scope) : MO → Option Expr → Bool
  | .no, none => true
  | .so m, some e => matE CN N sc m e
  | _, _ => false
def matC (CN : Nat → Str) (N : List Str) (sc : Scope) : MO → List Expr → Bool
  | .no, [] => true
  | .so m, [e] => tst m && matE CN N sc m e
  | _, _ => false
def matI (CN : Nat → Str) (N : List Str) (sc : Scope) : MI → Expr → Expr → Bool
  | .seq m, _, e => matE CN N sc m e
  | .rng1 a, _, .Call (.Name y _) [e] [] _ => decide (y = "range") && glB sc y && notStar e && matE CN N sc a e
  | .rng2 a b, _, .Call (.Name y _) [e, e2] [] _ => decide (y = "range") && glB sc y && notStar e && notStar e2 && matE CN N sc a e && matE CN N sc b e2
  | .zip a b, t, .Call (.Name y _) [e, e2] [] _ => isTupE t && decide (y = "zip") && glB sc y && notStar e && notStar e2 && matE CN N sc a e && matE CN N sc b e2
  | _, _, _ => false
end
theorem matA_star {CN : Nat → Str} {N : List Str} {sc : Scope} : ∀ {a : MA} {es : List Expr}, matA CN N sc a es = true → es.all notStar = true
  | .nil, [], _ => rfl
  | .cons m a, e :: es, h => by
    simp only [matA, Bool.and_eq_true] at h
    simp only [List.all_cons, Bool.and_eq_true]
    exact ⟨h.1.1, matA_star h.2⟩
  | .nil, _ :: _, h => by simp [matA] at h
  | .cons _ _, [], h => by simp [matA] at h

/-! ### what a def promises, as a promise of the layer below -/
def spOf (K : PySem.W.Frag) (CA : Nat → Addr) (S : DSp) : Sp := fun vs H Q E =>
  ∃ F R μ ds X Qd, Hs K CA F R μ H ∧ DxA K CA F vs ds ∧ S ds μ Qd X ∧ (∀ d μ' v F' H', Qd d μ' → Same F F' → Hs K CA F' R μ' H' → Dx K CA F' v d → Q v H') ∧
    ∀ c μ' F' H', X c μ' → Same F F' → Hs K CA F' R μ' H' → E (.ref (CA c)) none H'
def FnS (CA : Nat → Addr) (P : Program) (w : World) (K : PySem.W.Frag) (mg : Str → Option Value) (base : Heap) (k : Nat) (x : Str) (S : DSp) : Prop :=
  ∃ f fd ps, FnG P w K mg base (L2.CX P w) k f fd ps (spOf K CA S) ∧ mg x = some (.ref f) ∧ PySem.W.keepIn K (.ref f) = true ∧ Binds K fd ps []
abbrev FnSat (CA : Nat → Addr) (X : Cx) (k : Nat) (x : Str) (S : DSp) : Prop := FnS CA X.prog X.w X.K X.mg X.base k x S
/-- a constant of the module -/
def GlS (CA : Nat → Addr) (K : PySem.W.Frag) (mg : Str → Option Value) (x : Str) (d : D) : Prop := ∃ u v, mg x = some u ∧ RelV v u ∧ ∀ F, Dx K CA F v d
abbrev GlSat (CA : Nat → Addr) (X : Cx) (x : Str) (d : D) : Prop := GlS CA X.K X.mg x d

/-- what stands behind the own classes -/
def veT : List Value := [.type "ValueError", .type "Exception", .type "BaseException", .type "object"]
/-- an own error class: number c, at CA c, beneath the class at CA 0 (or that one) -/
structure ClsOk (K : PySem.W.Frag) (mg : Str → Option Value) (CA : Nat → Addr) (CN : Nat → Str) (c : Nat) : Prop where
  g : mg (CN c) = some (.ref (CA c))
  mro : ∃ cd, PySem.W.clsIn K (CA c) = some cd ∧ cd.hasDict = true ∧ cd.mro = .ref (CA c) :: ((if c = 0 then [] else [.ref (CA 0)]) ++ veT)
  ty : PySem.W.typeIn K (.ref (CA c)) = some (.type "type")
  ex : PySem.W.excIn K (CA c) veT "ValueError.__new__" = true
  kp : PySem.W.keepIn K (.ref (CA c)) = true
  ga : PySem.W.findIn K (.ref (CA c)) "__getattribute__" = some (some (.builtin "BaseException.__getattribute__"))
  gg : PySem.W.findIn K (.ref (CA c)) "__getattr__" = some none
  cl : PySem.W.findIn K (.ref (CA c)) "__class__" = some (some (.builtin "object.__class__"))
  hn : PySem.W.specialIn K (.builtin "object.__class__") "__get__" = some (some (.builtin "getset_descriptor.__get__"))
  ht : PySem.W.takesIn K (.builtin "object.__class__") = some true
/-- the world around: built-ins as they are, nC error classes -/
structure WdS (K : PySem.W.Frag) (mg : Str → Option Value) (CA : Nat → Addr) (CN : Nat → Str) (nC : Nat) : Prop where
  blt : ∀ x ∈ names, mg x = none
  cls : ∀ c, c < nC → ClsOk K mg CA CN c
  inj : ∀ c c', c < nC → c' < nC → CA c = CA c' → c = c'
abbrev Wd (X : Cx) (CA : Nat → Addr) (CN : Nat → Str) (nC : Nat) : Prop := WdS X.K X.mg CA CN nC
mutual
def okE (nC : Nat) (fs : Str → DSp → Prop) (gs : Str → D → Prop) : ME → Prop
  | .glob x d => gs x d
  | .bin _ a b => okE nC fs gs a ∧ okE nC fs gs b
  | .neg a => okE nC fs gs a
  | .tup a => okA nC fs gs a
  | .lst a => okA nC fs gs a
  | .newl a => okA nC fs gs a
  | .ixc a _ => okE nC fs gs a
  | .ix a i => okE nC fs gs a ∧ okE nC fs gs i
  | .rg1 b => okE nC fs gs b
  | .dix a i => okE nC fs gs a ∧ okE nC fs gs i
  | .zpl a b => okE nC fs gs a ∧ okE nC fs gs b
  | .lcz _ a b c e => okE nC fs gs a ∧ okE nC fs gs b ∧ okO nC fs gs c ∧ okE nC fs gs e
  | .slc a lo hi => okE nC fs gs a ∧ okO nC fs gs lo ∧ okO nC fs gs hi
  | .call x S a => fs x S ∧ okA nC fs gs a
  | .bl1 _ a => okE nC fs gs a
  | .bl2 _ a b => okE nC fs gs a ∧ okE nC fs gs b
  | .isi a (.cls c) => nC = NC.n ∧ c < NC.n ∧ okE nC fs gs a
  | .isi a .vErr => nC = NC.n ∧ okE nC fs gs a
  | .isi a _ => okE nC fs gs a
  | .cmp _ a b => okE nC fs gs a ∧ okE nC fs gs b
  | .isN _ a => okE nC fs gs a
  | .bop _ a => okA nC fs gs a
  | .nt a => okE nC fs gs a
  | .ife t a b => okE nC fs gs t ∧ okE nC fs gs a ∧ okE nC fs gs b
  | .callAt fl i a => (∀ p ∈ fl, fs p.1 p.2) ∧ okE nC fs gs i ∧ okA nC fs gs a
  | .bits a => okE nC fs gs a
  | .rev a => okE nC fs gs a
  | .join _ a => okE nC fs gs a
  | .split a _ => okE nC fs gs a
  | .idx a e => okE nC fs gs a ∧ okE nC fs gs e
  | .cnt a e => okE nC fs gs a ∧ okE nC fs gs e
  | .setl a => okE nC fs gs a
  | .cat _ a b => okE nC fs gs a ∧ okE nC fs gs b
  | .isl a => okE nC fs gs a
  | .lcr _ _ a c e => okE nC fs gs a ∧ okO nC fs gs c ∧ okE nC fs gs e
  | .lc _ _ it c e => okI nC fs gs it ∧ okO nC fs gs c ∧ okE nC fs gs e
  | .frz a => okE nC fs gs a
  | .rgl a b => okE nC fs gs a ∧ okE nC fs gs b
  | _ => True
def okA (nC : Nat) (fs : Str → DSp → Prop) (gs : Str → D → Prop) : MA → Prop
  | .nil => True
  | .cons e a => okE nC fs gs e ∧ okA nC fs gs a
def okO (nC : Nat) (fs : Str → DSp → Prop) (gs : Str → D → Prop) : MO → Prop
  | .no => True
  | .so e => okE nC fs gs e
def okI (nC : Nat) (fs : Str → DSp → Prop) (gs : Str → D → Prop) : MI → Prop
  | .seq e => okE nC fs gs e
  | .rng1 a => okE nC fs gs a
  | .rng2 a b => okE nC fs gs a ∧ okE nC fs gs b
  | .zip a b => okE nC fs gs a ∧ okE nC fs gs b
end
/-- a great divisor may be met: there is room, and nobody looks on -/
structure Seer (X : Cx) : Prop where
  ns : X.base.NoSeer
  tree : X.prog.given.tree = none
  top : ∃ (env : Env) (l : List Env), X.stack = env :: l ∧ env.scope.isGenerator = false ∧ env.scope.isCoroutine = false ∧ env.builtins = builtinsNs ∧ env.globals = mainGlobals
  dep : X.A.depth + 100 < recursionLimit
theorem Seer.room {X : Cx} {pins : List (Addr × Obj)} {σ : L2.St} {H : Hp} {s : Shared} (S : Seer X) (I : Inv X pins σ H s) : PylongRoom (model X.prog X.w) X.A s := by
  obtain ⟨env, l, h1, h2, h3, h4, h5⟩ := S.top
  exact PylongRoom.of I.nolimit S.dep (SeerAt.of (S.ns.keeps I.bk) S.tree (I.ok.frames.trans (congrArg some h1)) h2 h3 h4 h5)
/-- where one stands -/
structure Gd (X : Cx) (k : Nat) (W : WX) (CA : Nat → Addr) (CN : Nat → Str) (nC : Nat) : Prop where
  calm : X.calm = true
  nd : X.N.Nodup
  room : Room k X.A
  grd : X.A.guards = some []
  tk : Takes X W
  pass : PassesOwn (model X.prog X.w) X.A X.env X.xe
  wd : Wd X CA CN nC
  dbg : ∀ x ∈ X.N, (x == ("__debug__" : Str)) = false ∧ (x == ("__classdict__" : Str)) = false
  seer : Seer X
end Dl

/-! The data layer, part D: operations on data, by values. -/
namespace Dl
open PySem L2 PyProof.Rows
variable [NC]

section
variable {K : PySem.W.Frag} {CA : Nat → Addr} {F F' R H H' : Hp} {μ : Mu} {v v1 v2 : V} {d d1 d2 : D} {Q : VK} {Qd : Pst}
theorem line_le {n : Nat} (h : n ≤ 100000) : n ≤ sizeLine := Nat.le_trans h (by decide)
theorem line_lt {n : Nat} (h : n < 100000) : n < sizeLine := Nat.lt_of_lt_of_le h (by decide)
/-- what follows a value -/
abbrev Kon (K : PySem.W.Frag) (CA : Nat → Addr) (F R : Hp) (Qd : Pst) (Q : VK) : Prop := ∀ d μ' v F' H', Qd d μ' → Same F F' → Hs K CA F' R μ' H' → Dx K CA F' v d → Q v H'

/-! ### binary operators -/
def rCatW (K : PySem.W.Frag) : R2 := fun x y H Q => ∃ l b xs zs, x = .ref l ∧ y = .ref b ∧ SqL K H l xs ∧ SqL K H b zs ∧ xs.length + zs.length ≤ sizeLine ∧ ∀ p, H p = none → Q (.ref p) (upd H p (.lst (xs ++ zs)))
theorem op_catW {X : Cx} : OpR X (binaryOp .Add) (rCatW X.K) := by
  intro pins s σ H x y v u Q I rx ry h
  obtain ⟨l, b, xs, zs, rfl, rfl, hA, hB, hz, q⟩ := h
  cases rx
  cases ry
  obtain ⟨us, r1, p1, _⟩ := I.list hA
  obtain ⟨ws, r2, p2, _⟩ := I.list hB
  obtain ⟨⟨c1, e1, t1, l1⟩, n1, g1, q1, _, k1⟩ := p1
  obtain ⟨⟨c2, e2, t2, l2⟩, n2, g2, q2, _, k2⟩ := p2
  simp only at q1 k1 q2 k2
  subst q1 k1 q2 k2
  have a1 := r1.length
  have a2 := r2.length
  have sz : us.toArray.size + ws.toArray.size ≤ sizeLine := by
    rw [List.size_toArray, List.size_toArray, ← a1, ← a2]; exact hz
  refine concat_meets ⟨_, g1, rfl⟩ ⟨_, g2, rfl⟩ noFill_list_add seq_list_add PySem.F.slot_list_add PySem.F.entry_list_add (PySem.F.args_list_add_2 _ _)
    (list_addW l b us.toArray ws.toArray n1 n2 e1 e2 l1 l2 sz) ⟨g1, g2, ?_⟩
  have jo : us.toArray ++ ws.toArray = (us ++ ws).toArray := by simp
  rw [jo]
  exact ⟨.ref _, _, I.lnew (t' := s.toks) (r1.append r2) (by rw [List.length_append]; exact hz), rfl, q _ I.fresh⟩
theorem list_mulW (l : Addr) (items : Array Value) (n : Nat) (dd : Option Addr) (sl : Array (Option Value)) (x : Int) (u : Tok) (hc0 : ¬(!Builtin.List.listFitsIndex x) = true) (hc1 : ¬items.size * x.toNat > (2 ^ 63 - 1) / 8) (hc2 : ¬Builtin.List.listTooLong (items.size * x.toNat) = true) :
    Meets (Builtin.«list.__mul__» ⟨[.ref l, .int x u], []⟩) (fun _ R s => s.heap.get? l = some { cls := .type "list", dict := dd, data := .seq items n, slots := sl } ∧ R (.ok (.ret (Value.ref s.heap.objs.size))) { s with heap := s.heap.push { cls := Value.type "list", data := Data.seq (List.foldl (fun x1 x2 => x1 ++ x2) #[] (List.replicate (if items.isEmpty = true then 0 else x.toNat) items)) }, toks := s.toks }) :=
  .of_wp fun prog w A R s h => by
    obtain ⟨hp, g, d, tk, os⟩ := s; obtain ⟨hl, h⟩ := h
    have hsz := AutoListH.joined_fits hc2
    wp_walk using AutoSeq1.wpAny_loadPart' hl; refine wpAny_ite_false (decide_eq_false (Nat.not_lt.mpr hsz)) ?_; wp_walk; exact ⟨_, rfl, h⟩
theorem int_rmulW (a : Int) (t : Tok) (l : Addr) (items : Array Value) (n : Nat) (dd : Option Addr) (sl : Array (Option Value)) :
    Meets (Builtin.«int.__rmul__» ⟨[.int a t, .ref l], []⟩) (fun _ R s => s.heap.get? l = some { cls := .type "list", dict := dd, data := .seq items n, slots := sl } ∧ R (.ok (.ret Value.notImplemented)) s) :=
  .of_wp fun prog w A R s h => by obtain ⟨hp, g, d, tk, os⟩ := s; obtain ⟨hl, h⟩ := h; wp_walk using AutoSeq1.wpAny_loadPart' hl; exact ⟨_, rfl, h⟩
def rRepW (K : PySem.W.Frag) : R2 := fun x y H Q => ∃ l k xs, x = .ref l ∧ y = .int k ∧ SqL K H l xs ∧ -(2 ^ 63) ≤ k ∧ k < 2 ^ 63 ∧ xs.length * k.toNat ≤ sizeLine ∧
  ∀ p, H p = none → Q (.ref p) (upd H p (.lst (List.replicate k.toNat xs).flatten))
theorem op_repW {X : Cx} : OpR X (binaryOp .Mult) (rRepW X.K) := by
  intro pins s σ H x y v u Q I rx ry h
  obtain ⟨l, k, xs, rfl, rfl, hA, h1, h2, hz, q⟩ := h
  cases rx
  obtain ⟨t, rfl⟩ := ry
  obtain ⟨its, r, p1, _⟩ := I.list hA
  obtain ⟨⟨c1, e1, t1, l1⟩, n, e, q1, _, k1⟩ := p1
  simp only at q1 k1
  subst q1 k1
  have hl := r.length
  have hlen : its.toArray.size * k.toNat ≤ sizeLine := by rw [List.size_toArray, ← hl]; exact hz
  have hcap : ¬ its.toArray.size * k.toNat > (2 ^ 63 - 1) / 8 := by
    have : (sizeLine : Nat) ≤ (2 ^ 63 - 1) / 8 := by decide
    omega
  have hfit : ¬ (!Builtin.List.listFitsIndex k) = true := by
    rw [fitsIndex_both h1 h2]
    exact Bool.false_ne_true
  have hlong : ¬ Builtin.List.listTooLong (its.toArray.size * k.toNat) = true := by
    rw [notLongL hlen]
    exact Bool.false_ne_true
  have hnew : List.foldl (fun x1 x2 => x1 ++ x2) #[] (List.replicate (if its.toArray.isEmpty = true then 0 else k.toNat) its.toArray) = (List.replicate k.toNat its).flatten.toArray := by
    have f0 : ∀ m : Nat, List.foldl (fun x1 x2 => x1 ++ x2) #[] (List.replicate m its.toArray) = (List.replicate m its).flatten.toArray := fun m => by
      have := foldl_rep its m []
      rw [List.nil_append] at this
      exact this
    rw [f0]
    cases its with
    | nil => simp
    | cons a r' => rw [if_neg (by simp)]
  refine wpAny_binaryOp_repeat_ref (T := "list") (U := "int") (by decide) ⟨_, e, rfl⟩ (fun s' => typeIs_int s' k t) noFill_list_mul F.fills_int_mul F.slot_int_rmul repeat_list F.slot_int_index.lookup
    (call_meets F.slot_int_rmul (typeIs_int s k t) F.entry_int_rmul (F.args_int_rmul_2 _ _) (int_rmulW k t l its.toArray n e1 l1)
      ⟨e, rfl, ⟨_, e, rfl⟩, call_meets F.slot_list_mul ⟨_, e, rfl⟩ F.entry_list_mul (F.args_list_mul_2 _ _) (list_mulW l its.toArray n e1 l1 k t hfit hcap hlong) ⟨e, ?_⟩⟩)
  rw [hnew]
  exact ⟨.ref _, _, I.lnew (t' := s.toks) (r.rep k.toNat) (by rw [PyProof.Rows.lm_len_rep_flat, Nat.mul_comm]; exact hz), rfl, q _ I.fresh⟩
theorem op_fdivA {X : Cx} (S : Seer X) : OpR X (binaryOp .FloorDiv) (rI (fun _ j => divOk j) fun i j => .int (i.fdiv j)) := by
  intro pins s σ H x y v u Q I rx ry h
  obtain ⟨i, j, rfl, rfl, hc, q⟩ := h
  obtain ⟨t, rfl⟩ := rx
  obtain ⟨t', rfl⟩ := ry
  exact floordiv_int hc ⟨.int (i.fdiv j), H, I.tok _, ⟨_, rfl⟩, q⟩ (.inr (S.room I))
def CMulX (i j : Int) : Prop := mulOk i j
theorem CMulX.ok {i j : Int} (h : CMulX i j) : PySem.IntMulOk i j := by
  have b : ∀ x : Int, Builtin.Int.intBits x ≤ x.natAbs.log2 + 1 := fun x => by
    unfold Builtin.Int.intBits
    split <;> omega
  have h1 := b i
  have h2 := b j
  have h3 : i.natAbs.log2 + j.natAbs.log2 < 130000000 := h
  have e : bitsLine = 134217728 := by decide
  unfold PySem.IntMulOk
  intro z
  rw [Bool.and_eq_true] at z
  have z2 := z.2
  unfold Builtin.Int.intTooBig at z2
  have z3 := of_decide_eq_true z2
  rw [e] at z3
  omega
theorem op_mulX {X : Cx} : OpR X (binaryOp .Mult) (rI CMulX fun i j => .int (i * j)) := opI fun _ _ _ _ _ _ _ hc q => mul_int q (CMulX.ok hc)
def rS2 : R2 := fun x y H Q => ∃ i j, x = .str i ∧ y = .str j ∧ i.length + j.length ≤ sizeLine ∧ Q (.str (i ++ j)) H
def rOp (K : PySem.W.Frag) : Op2 → R2
  | .add => fun x y H Q => rI0 (fun i j => .int (i + j)) x y H Q ∨ rS2 x y H Q ∨ rCatW K x y H Q ∨ rCatA K x y H Q
  | .sub => rI0 fun i j => .int (i - j)
  | .mul => fun x y H Q => rI CMulX (fun i j => .int (i * j)) x y H Q ∨ rRepW K x y H Q
  | .fdiv => rI (fun _ j => divOk j) fun i j => .int (i.fdiv j)
  | .mod => rI (fun _ j => j ≠ 0) fun i j => .int (i.fmod j)
  | .pow => rI CPow fun i j => .int (i ^ j.toNat)
  | .shl => rI CPow fun i j => .int (i * 2 ^ j.toNat)
theorem rOp_ok {X : Cx} (S : Seer X) {o : Op2} {op : Operator} (h : o.is op = true) : OpR X (binaryOp op) (rOp X.K o) := by
  cases o <;> cases op <;> first | (simp [Op2.is] at h; done) | skip
  · exact op_add.or (OpR.or (show OpR X (binaryOp .Add) rS2 from op_add_str) (op_catW.or op_catA))
  · exact op_sub
  · exact op_mulX.or op_repW
  · exact op_fdivA S
  · exact op_modN
  · exact op_pow
  · exact op_shl
theorem opD_ok {o : Op2} (h : opD o d1 d2 μ Qd) (x1 : Dx K CA F v1 d1) (x2 : Dx K CA F v2 d2) (s : Hs K CA F R μ H) (k : Kon K CA F R Qd Q) : rOp K o v1 v2 H Q := by
  cases o with
  | add =>
    cases x1 with
    | int i =>
      cases x2 <;> first | exact h.elim | skip
      exact .inl ⟨_, _, rfl, rfl, k _ _ _ _ _ h (Same.refl F) s (.int _)⟩
    | str i =>
      cases x2 <;> first | exact h.elim | skip
      obtain ⟨h1, h2⟩ := h
      exact .inr (.inl ⟨_, _, rfl, rfl, line_le h1, k _ _ _ _ _ h2 (Same.refl F) s (.str _)⟩)
    | lst a1 b1 =>
      cases x2 with
      | lst a2 b2 =>
        obtain ⟨h1, h2⟩ := h
        refine .inr (.inr (.inl ⟨_, _, _, _, rfl, rfl, s.f.seq a1, s.f.seq a2, line_le (by rw [b1.length, b2.length]; exact h1), fun p hp => ?_⟩))
        exact k _ _ _ _ _ h2 (same_new (s.ff hp)) (s.new hp) (.lst (.of upd_same) ((b1.append b2).mono (same_new (s.ff hp))))
      | _ => exact h.elim
    | tup a1 b1 =>
      cases x2 with
      | tup a2 b2 =>
        obtain ⟨h1, h2⟩ := h
        refine .inr (.inr (.inr ⟨_, _, _, _, rfl, rfl, seqT s.f a1, seqT s.f a2, line_le (by rw [b1.length, b2.length]; exact h1), fun e => ?_, fun _ e => ?_, fun _ _ p hp => ?_⟩))
        · subst e
          cases b1
          exact k _ _ _ _ _ h2 (Same.refl F) s (.tup a2 b2)
        · subst e
          cases b2
          rw [List.append_nil] at h2
          exact k _ _ _ _ _ h2 (Same.refl F) s (.tup a1 b1)
        · exact k _ _ _ _ _ h2 (same_new (s.ff hp)) (s.new hp) (.tup (.of upd_same) ((b1.append b2).mono (same_new (s.ff hp))))
      | _ => exact h.elim
    | _ => exact h.elim
  | sub =>
    cases x1 <;> first | exact h.elim | skip
    cases x2 <;> first | exact h.elim | skip
    exact ⟨_, _, rfl, rfl, k _ _ _ _ _ h (Same.refl F) s (.int _)⟩
  | mul =>
    cases x1 with
    | int i =>
      cases x2 <;> first | exact h.elim | skip
      exact .inl ⟨_, _, rfl, rfl, h.1, k _ _ _ _ _ h.2 (Same.refl F) s (.int _)⟩
    | lst a1 b1 =>
      cases x2 <;> first | exact h.elim | skip
      obtain ⟨h1, h2, h3, h4⟩ := h
      refine .inr ⟨_, _, _, rfl, rfl, s.f.seq a1, by omega, by omega, line_le (by rw [b1.length]; exact h2), fun p hp => ?_⟩
      exact k _ _ _ _ _ h4 (same_new (s.ff hp)) (s.new hp) (.lst (.of upd_same) ((b1.rep _).mono (same_new (s.ff hp))))
    | _ => exact h.elim
  | fdiv =>
    cases x1 <;> first | exact h.elim | skip
    cases x2 <;> first | exact h.elim | skip
    exact ⟨_, _, rfl, rfl, h.1, k _ _ _ _ _ h.2 (Same.refl F) s (.int _)⟩
  | mod =>
    cases x1 <;> first | exact h.elim | skip
    cases x2 <;> first | exact h.elim | skip
    exact ⟨_, _, rfl, rfl, h.1, k _ _ _ _ _ h.2 (Same.refl F) s (.int _)⟩
  | pow =>
    cases x1 <;> first | exact h.elim | skip
    cases x2 <;> first | exact h.elim | skip
    exact ⟨_, _, rfl, rfl, h.1, k _ _ _ _ _ h.2 (Same.refl F) s (.int _)⟩
  | shl =>
    cases x1 <;> first | exact h.elim | skip
    cases x2 <;> first | exact h.elim | skip
    exact ⟨_, _, rfl, rfl, h.1, k _ _ _ _ _ h.2 (Same.refl F) s (.int _)⟩

/-! ### items, truth -/
theorem itemsOf_ok {ds : List D} (h : itemsOf d μ = some ds) (x : Dx K CA F v d) (s : Hs K CA F R μ H) : ∃ p vs, v = .ref p ∧ (SqL K H p vs ∨ SqT K H p vs) ∧ DxA K CA F vs ds := by
  cases x with
  | tup a b => cases h; exact ⟨_, _, rfl, .inr (seqT s.f a), b⟩
  | lst a b => cases h; exact ⟨_, _, rfl, .inl (s.f.seq a), b⟩
  | ref a =>
    obtain ⟨_, _, vs, h1, h2⟩ := s.m a ds h
    exact ⟨_, vs, rfl, .inl (.of h1), h2⟩
  | _ => cases h
theorem DxA.atI {vs : List V} {ds : List D} {n : Int} (x : DxA K CA F vs ds) (h : L2.atI ds n = some d) : ∃ v, L2.atI vs n = some v ∧ Dx K CA F v d := by
  unfold L2.atI at h ⊢
  obtain ⟨j, h1, h2⟩ := Option.bind_eq_some_iff.mp h
  obtain ⟨u, h3, h4⟩ := x.get h2
  exact ⟨u, by rw [x.length, h1]; exact h3, h4⟩
theorem selI_ok {n : Int} (h : selI d1 μ n = some d) (x : Dx K CA F v d1) (s : Hs K CA F R μ H) (k : ∀ u, Dx K CA F u d → Q u H) : rIx K v (.int n) H Q := by
  cases x with
  | tup a b =>
    obtain ⟨u, h1, h2⟩ := b.atI h
    exact .inr (.inl ⟨_, _, _, u, rfl, rfl, seqT s.f a, h1, k u h2⟩)
  | lst a b =>
    obtain ⟨u, h1, h2⟩ := b.atI h
    exact .inl ⟨_, _, _, u, rfl, rfl, s.f.seq a, h1, k u h2⟩
  | ref a =>
    obtain ⟨ds, e1, e2⟩ := Option.bind_eq_some_iff.mp h
    obtain ⟨_, _, vs, h1, h2⟩ := s.m a ds e1
    obtain ⟨u, h3, h4⟩ := h2.atI e2
    exact .inl ⟨_, _, _, u, rfl, rfl, .of h1, h3, k u h4⟩
  | str z =>
    simp only [selI, strAtI] at h
    split at h
    · rename_i hz
      obtain ⟨c, e1, e2⟩ := Option.map_eq_some_iff.mp h
      subst e2
      exact .inr (.inr ⟨z, n, c, rfl, rfl, line_le hz, e1, k _ (.str _)⟩)
    · cases h
  | _ => cases h
theorem atI_of {α : Type} {ds : List α} {n : Nat} {d : α} (h : ds[n]? = some d) : L2.atI ds (n : Int) = some d := atI_nat h
theorem selN_I {n : Nat} (h : selN d1 μ n = some d) : selI d1 μ (n : Int) = some d := by
  cases d1 with
  | tup ds => exact atI_of h
  | lst ds => exact atI_of h
  | ref a =>
    obtain ⟨ds, e1, e2⟩ := Option.bind_eq_some_iff.mp h
    simp only [selI]
    rw [e1]
    exact atI_of e2
  | str z =>
    simp only [selN, strAt] at h
    simp only [selI, strAtI]
    split at h
    · rename_i hz
      obtain ⟨c, e1, e2⟩ := Option.map_eq_some_iff.mp h
      rw [if_pos hz, atI_of e1]
      subst e2; rfl
    · cases h
  | _ => cases h
theorem truD_ok {b : Bool} (h : truD d μ = some b) (x : Dx K CA F v d) (s : Hs K CA F R μ H) : TruV K v H b := by
  cases x with
  | non => cases h; rfl
  | bl c => cases h; rfl
  | int i => cases h; rfl
  | str z =>
    simp only [truD] at h
    split at h
    · rename_i hz
      cases h
      refine ⟨line_le hz, ?_⟩
      cases z.length with
      | zero => rfl
      | succ n => rfl
    · cases h
  | tup a c =>
    cases h
    exact .inr (.inl ⟨_, seqT s.f a, by cases c <;> rfl⟩)
  | lst a c =>
    cases h
    exact .inl ⟨_, s.f.seq a, by cases c <;> rfl⟩
  | ref a =>
    obtain ⟨ds, e1, e2⟩ := Option.map_eq_some_iff.mp h
    obtain ⟨_, _, vs, h1, h2⟩ := s.m a ds e1
    subst e2
    exact .inl ⟨_, .of h1, by cases h2 <;> rfl⟩
  | exc _ => cases h
  | dct _ _ _ => cases h

/-! ### slices -/
def rSl (K : PySem.W.Frag) : V → Option Int → Option Int → Hp → VK → Prop := fun x lo hi H Q => rSlL K x lo hi H Q ∨ rSlA K x lo hi H Q ∨ rSlS x lo hi H Q
theorem rSl_ok {X : Cx} : SlR X (rSl X.K) := sl_list.or (sl_tupA.or sl_str)
theorem cutV_whole {vs : List V} {lo hi : Option Int} (h : HT.sIx vs.length 0 lo = 0 ∧ HT.sIx vs.length vs.length hi = vs.length) : cutV vs lo hi = vs := by
  unfold cutV
  rw [h.1, h.2]
  simp
theorem slcD_ok {lo hi : Option Int} (h : slcD d lo hi μ Qd) (x : Dx K CA F v d) (s : Hs K CA F R μ H) (k : Kon K CA F R Qd Q) : rSl K v lo hi H Q := by
  cases x with
  | lst a b =>
    refine .inl ⟨_, _, rfl, s.f.seq a, fun p hp => ?_⟩
    exact k _ _ _ _ _ h (same_new (s.ff hp)) (s.new hp) (.lst (.of upd_same) ((b.cut lo hi).mono (same_new (s.ff hp))))
  | ref a =>
    simp only [slcD] at h
    cases e : μ a with
    | none => rw [e] at h; exact h.elim
    | some ds =>
      rw [e] at h
      obtain ⟨_, _, vs, h1, h2⟩ := s.m a ds e
      refine .inl ⟨_, _, rfl, .of h1, fun p hp => ?_⟩
      exact k _ _ _ _ _ h (same_new (s.ff hp)) (s.new hp) (.lst (.of upd_same) ((h2.cut lo hi).mono (same_new (s.ff hp))))
  | tup a b =>
    refine .inr (.inl ⟨_, _, rfl, seqT s.f a, fun w => ?_, fun _ p hp => ?_⟩)
    · have c := b.cut lo hi
      rw [cutV_whole w] at c
      exact k _ _ _ _ _ h (Same.refl F) s (.tup a c)
    · exact k _ _ _ _ _ h (same_new (s.ff hp)) (s.new hp) (.tup (.of upd_same) ((b.cut lo hi).mono (same_new (s.ff hp))))
  | str z => exact .inr (.inr ⟨z, rfl, line_le h.1, k _ _ _ _ _ h.2 (Same.refl F) s (.str _)⟩)
  | _ => exact h.elim

/-! ### built-in functions -/
def rLen (K : PySem.W.Frag) : List V → Hp → VK → Prop := fun xs H Q => (∃ p ys, xs = [.ref p] ∧ (SqL K H p ys ∨ SqT K H p ys) ∧ Q (.int ys.length) H) ∨ ∃ z, xs = [.str z] ∧ z.length ≤ sizeLine ∧ Q (.int z.length) H
theorem dp_same {v : V} {d : PyData} (s : Same F H) (h : Dp K F v d) : Dp K H v d := by
  have key : (∀ (d : PyData) (v : V), Dp K F v d → Dp K H v d) := by
    intro d
    exact PyData.rec (motive_1 := fun d => ∀ v, Dp K F v d → Dp K H v d) (motive_2 := fun ds => ∀ vs, DpAll K F vs ds → DpAll K H vs ds) (motive_3 := fun _ => True) (motive_4 := fun _ => True)
      (fun v h => by cases h; exact .non) (fun b v h => by cases h; exact .bl _) (fun i v h => by cases h; exact .int _) (fun x v h => by cases h; exact .str _)
      (fun xs ih v h => by cases h with | lst a b => exact .lst (s.seq a) (ih _ b)) (fun xs ih v h => by cases h with | tup a b => exact .tup (seqT s a) (ih _ b)) (fun _ _ v h => by cases h)
      (fun vs h => by cases h; exact .nil) (fun d ds i1 i2 vs h => by cases h with | cons a b => exact .cons (i1 _ a) (i2 _ b)) trivial (fun _ _ _ _ => trivial) (fun _ _ _ _ => trivial) d
  exact key d v h
/-- str of data -/
def strT : PyData → Str
  | .str x => x
  | d => d.shown
def rStr (K : PySem.W.Frag) : List V → Hp → VK → Prop := fun xs H Q => ∃ v d, xs = [v] ∧ Dp K H v d ∧ d.showable = true ∧ d.hasDict = false ∧ d.depth ≤ 70 ∧ ((∃ a, v = .ref a) → d.shown.length ≤ sizeLine) ∧ Q (.str (strT d)) H
theorem call_str_D {X : Cx} (gu : X.A.guards = some []) (hu : X.A.units + 100 < cLine) : CallR X (.type "str") (rStr X.K) := by
  intro pins s σ H xs us Q I r h
  obtain ⟨v, d, rfl, dp, sh, hd, dep, len, q⟩ := h
  cases r with
  | cons r1 r2 =>
    cases r2
    have big : ∀ (a : Addr) (dd : PyData), Dp X.K H (.ref a) dd → dd = d → v = .ref a → strT dd = dd.shown → wpAny (model X.prog X.w) X.A (call (.type "str") [.ref a]) (EP X pins σ Q) X.xe s := by
      intro a dd dp e ns es
      subst e
      subst ns
      obtain ⟨as, rd⟩ := Dp.reads I dd (.ref a) (.ref a) dp rfl
      refine str_of_reads rd sh (fun z => by rw [hd] at z; cases z) gu (by omega) (fun _ _ z => z) (fun h' u tk hk => ?_) (len ⟨a, rfl⟩)
      rw [es] at q
      exact ⟨.str _, H, I.kept (t' := tk) hk, ⟨u, rfl⟩, q⟩
    cases dp with
    | non =>
      cases r1
      exact PySem.P.str_of_none ⟨.str _, H, I.tok _, ⟨_, rfl⟩, q⟩
    | bl b =>
      cases (show _ = Value.bool b from r1)
      exact PySem.P.str_of_bool ⟨.str _, H, I.tok _, ⟨_, rfl⟩, by simpa [strT, PyData.shown] using q⟩
    | int i =>
      obtain ⟨t, rfl⟩ := r1
      exact PySem.P.str_of_int (by simpa [PyData.showable] using sh) ⟨.str _, H, I.tok _, ⟨_, rfl⟩, q⟩
    | str x =>
      obtain ⟨t, rfl⟩ := r1
      exact PySem.P.str_of_str ⟨.str _, H, I, ⟨_, rfl⟩, q⟩
    | lst a b =>
      cases r1
      exact big _ _ (.lst a b) rfl rfl rfl
    | tup a b =>
      cases r1
      exact big _ _ (.tup a b) rfl rfl rfl
theorem fit_depth : ∀ (n : Nat) (d : D), fit n d = true → d.py.depth ≤ n
  | _, .non, _ => by simp [D.py, PyData.depth]
  | _, .bl _, _ => by simp [D.py, PyData.depth]
  | _, .int _, _ => by simp [D.py, PyData.depth]
  | _, .str _, _ => by simp [D.py, PyData.depth]
  | n + 1, .tup xs, h => by
    simp only [D.py, PyData.depth]
    have : PyData.depthAll (pys xs) ≤ n := by
      have h : xs.all (fit n) = true := h
      induction xs with
      | nil => simp [pys, PyData.depthAll]
      | cons x xs ih =>
        simp only [List.all_cons, Bool.and_eq_true] at h
        have h1 := fit_depth n x h.1
        have h2 := ih (by simp only [fit]; exact h.2) h.2
        simp only [pys, PyData.depthAll]
        omega
    omega
  | n + 1, .lst xs, h => by
    simp only [D.py, PyData.depth]
    have : PyData.depthAll (pys xs) ≤ n := by
      have h : xs.all (fit n) = true := h
      induction xs with
      | nil => simp [pys, PyData.depthAll]
      | cons x xs ih =>
        simp only [List.all_cons, Bool.and_eq_true] at h
        have h1 := fit_depth n x h.1
        have h2 := ih (by simp only [fit]; exact h.2) h.2
        simp only [pys, PyData.depthAll]
        omega
    omega
  | 0, .tup _, h => by simp [fit] at h
  | 0, .lst _, h => by simp [fit] at h
  | _, .exc _, h => by simp [fit] at h
  | _, .ref _, h => by simp [fit] at h
  | _, .dct _ _, h => by simp [fit] at h
def rB1 (K : PySem.W.Frag) : Bl1 → List V → Hp → VK → Prop
  | .len => rLen K
  | .abs => fun xs H Q => ∃ i, xs = [.int i] ∧ Q (.int (if i < 0 then -i else i)) H
  | .sum => rSum K
  | .all => rAll K
  | .any => rAny K
  | .tuple => fun xs H Q => ∃ p ys, xs = [.ref p] ∧ ((SqL K H p ys ∧ ∀ l, H l = none → Q (.ref l) (upd H l (.tup ys))) ∨ (SqT K H p ys ∧ Q (.ref p) H))
  | .list => fun xs H Q => ∃ p ys, xs = [.ref p] ∧ (SqL K H p ys ∨ SqT K H p ys) ∧ ∀ l, H l = none → Q (.ref l) (upd H l (.lst ys))
  | .listM => fun xs H Q => ∃ p ys, xs = [.ref p] ∧ (SqL K H p ys ∨ SqT K H p ys) ∧ ∀ l, H l = none → Q (.ref l) (upd H l (.lst ys))
  | .int => fun xs H Q => (∃ i, xs = [.int i] ∧ Q (.int i) H) ∨ ∃ k, xs = [.bl k] ∧ Q (.int (if k then 1 else 0)) H
  | .str => rStr K
theorem pe_b1 {X : Cx} {f : Bl1} {a : Expr} {ta : TE} {p pos : Pos} (gu : X.A.guards = some []) (hu : X.A.units + 100 < cLine) (hc : X.calm = true) (hg : Gl X f.name) (hm : X.mg f.name = none) (hn : notStar a = true) (ha : PE X a ta) :
    PE X (.Call (.Name f.name p) [a] [] pos) (tCB (rB1 X.K f) (tCons ta tNil)) := by
  have e1 := star_cons hn [] X.env
  have e2 : (backTo pos (starEach [] X.env)).any (·.1) = false := rfl
  have pa : PA X [a] (tCons ta tNil) := pa_cons ha pa_nil e1
  cases f with
  | len => exact pe_callB (call_len_seq.or call_len_str) hg hm boot_len pa (by decide) (by decide) e1 e2
  | abs => exact pe_callB call_abs hg hm boot_abs pa (by decide) (by decide) e1 e2
  | sum => exact pe_callB (cr_sum hc) hg hm boot_sum pa (by decide) (by decide) e1 e2
  | all => exact pe_callB (cr_all hc) hg hm boot_all pa (by decide) (by decide) e1 e2
  | any => exact pe_callB (cr_any hc) hg hm boot_any pa (by decide) (by decide) e1 e2
  | tuple => exact pe_callTy call_tuple_of hg hm PyProof.Rows.boot_tuple pa (by decide) (by decide) e1 e2
  | list => exact pe_callTy call_list_of hg hm PyProof.Rows.boot_list pa (by decide) (by decide) e1 e2
  | listM => exact pe_callTy call_list_of hg hm PyProof.Rows.boot_list pa (by decide) (by decide) e1 e2
  | int => exact pe_callTy call_int1 hg hm PyProof.Rows.boot_int pa (by decide) (by decide) e1 e2
  | str => exact pe_callTy (call_str_D gu hu) hg hm PyProof.Rows.boot_str pa (by decide) (by decide) e1 e2
theorem abs_is (i : Int) : (if i < 0 then -i else i) = ((i.natAbs : Nat) : Int) := by
  split <;> omega
theorem b1D_ok {f : Bl1} (h : b1D f d μ Qd) (x : Dx K CA F v d) (s : Hs K CA F R μ H) (k : Kon K CA F R Qd Q) : rB1 K f [v] H Q := by
  have nn : ∀ {ds : List D}, itemsOf d μ = some ds → ∃ p vs, v = .ref p ∧ (SqL K H p vs ∨ SqT K H p vs) ∧ DxA K CA F vs ds := fun e => itemsOf_ok e x s
  have it : ∀ {P : List D → Prop}, ifL (itemsOf d μ) P → ∃ ds, itemsOf d μ = some ds ∧ P ds := fun {P} q => by
    cases e : itemsOf d μ with
    | none => rw [e] at q; exact q.elim
    | some ds => rw [e] at q; exact ⟨ds, rfl, q⟩
  cases f with
  | len =>
    by_cases z : ∃ y, d = .str y
    · obtain ⟨y, rfl⟩ := z
      cases x
      exact .inr ⟨y, rfl, line_le h.1, k _ _ _ _ _ h.2 (Same.refl F) s (.int _)⟩
    · have h' : ifL (itemsOf d μ) fun ds => Qd (.int ds.length) μ := by
        cases d <;> first | exact h | exact absurd ⟨_, rfl⟩ z
      obtain ⟨ds, e, q⟩ := it h'
      obtain ⟨p, vs, rfl, sq, b⟩ := nn e
      refine .inl ⟨p, vs, rfl, sq, ?_⟩
      rw [b.length]
      exact k _ _ _ _ _ q (Same.refl F) s (.int _)
  | abs =>
    cases x <;> first | exact h.elim | skip
    refine ⟨_, rfl, ?_⟩
    rw [abs_is]
    exact k _ _ _ _ _ h (Same.refl F) s (.int _)
  | sum =>
    cases x <;> first | exact h.elim | skip
    rename_i a vs ds sq b
    simp only [b1D] at h
    cases e : intsD ds with
    | none => rw [e] at h; exact h.elim
    | some ns =>
      rw [e] at h
      have ev := b.ints e
      subst ev
      exact ⟨_, ns, rfl, s.f.seq sq, k _ _ _ _ _ h (Same.refl F) s (.int _)⟩
  | all =>
    cases x <;> first | exact h.elim | skip
    rename_i a vs ds sq b
    simp only [b1D] at h
    cases e : blsD ds with
    | none => rw [e] at h; exact h.elim
    | some ns =>
      rw [e] at h
      have ev := b.bls e
      subst ev
      exact ⟨_, ns, rfl, s.f.seq sq, k _ _ _ _ _ h (Same.refl F) s (.bl _)⟩
  | any =>
    cases x <;> first | exact h.elim | skip
    rename_i a vs ds sq b
    simp only [b1D] at h
    cases e : blsD ds with
    | none => rw [e] at h; exact h.elim
    | some ns =>
      rw [e] at h
      have ev := b.bls e
      subst ev
      exact ⟨_, ns, rfl, s.f.seq sq, k _ _ _ _ _ h (Same.refl F) s (.bl _)⟩
  | tuple =>
    obtain ⟨ds, e, q⟩ := it h
    cases x with
    | tup a b =>
      cases e
      exact ⟨_, _, rfl, .inr ⟨seqT s.f a, k _ _ _ _ _ q (Same.refl F) s (.tup a b)⟩⟩
    | lst a b =>
      cases e
      exact ⟨_, _, rfl, .inl ⟨s.f.seq a, fun p hp => k _ _ _ _ _ q (same_new (s.ff hp)) (s.new hp) (.tup (.of upd_same) (b.mono (same_new (s.ff hp))))⟩⟩
    | ref a =>
      obtain ⟨_, _, vs, h1, h2⟩ := s.m a ds e
      exact ⟨_, _, rfl, .inl ⟨.of h1, fun p hp => k _ _ _ _ _ q (same_new (s.ff hp)) (s.new hp) (.tup (.of upd_same) (h2.mono (same_new (s.ff hp))))⟩⟩
    | _ => cases e
  | list =>
    obtain ⟨ds, e, q⟩ := it h
    obtain ⟨p, vs, rfl, sq, b⟩ := nn e
    exact ⟨p, vs, rfl, sq, fun p hp => k _ _ _ _ _ q (same_new (s.ff hp)) (s.new hp) (.lst (.of upd_same) (b.mono (same_new (s.ff hp))))⟩
  | listM =>
    obtain ⟨ds, e, q⟩ := it h
    obtain ⟨p, vs, rfl, sq, b⟩ := nn e
    exact ⟨p, vs, rfl, sq, fun p hp => k _ _ _ _ _ (q p (s.mf hp)) (Same.refl F) (s.newM hp b) (.ref p)⟩
  | int =>
    cases x <;> first | exact h.elim | skip
    · exact .inr ⟨_, rfl, k _ _ _ _ _ h (Same.refl F) s (.int _)⟩
    · exact .inl ⟨_, rfl, k _ _ _ _ _ h (Same.refl F) s (.int _)⟩
  | str =>
    have gen : ∀ (e : D), d = e → (∀ x, e ≠ .str x) → fit 60 e = true → e.py.showable = true → (∀ x, e.py ≠ .str x) → strT e.py = e.py.shown → e.py.shown.length ≤ 100000 → Qd (.str e.py.shown) μ → rB1 K .str [v] H Q := by
      intro e he _ f1 sh ns es len q
      subst he
      refine ⟨v, d.py, rfl, dp_same s.f (x.dp 60 f1), sh, PyData.hasDict_of_canLay _ (fit_lay 60 d f1).1, by have := fit_depth 60 d f1; omega, fun _ => line_le len, ?_⟩
      rw [es]
      exact k _ _ _ _ _ q (Same.refl F) s (.str _)
    cases d with
    | non => exact gen .non rfl (fun _ z => nomatch z) h.1 h.2.1 (fun _ z => by simp [D.py] at z) rfl h.2.2.1 h.2.2.2
    | bl b => exact gen (.bl b) rfl (fun _ z => nomatch z) h.1 h.2.1 (fun _ z => by simp [D.py] at z) rfl h.2.2.1 h.2.2.2
    | tup ds => exact gen (.tup ds) rfl (fun _ z => nomatch z) h.1 h.2.1 (fun _ z => by simp [D.py] at z) rfl h.2.2.1 h.2.2.2
    | lst ds => exact gen (.lst ds) rfl (fun _ z => nomatch z) h.1 h.2.1 (fun _ z => by simp [D.py] at z) rfl h.2.2.1 h.2.2.2
    | exc c => exact absurd h.1 (by simp [fit])
    | ref c => exact absurd h.1 (by simp [fit])
    | dct c c' => exact absurd h.1 (by simp [fit])
    | int i =>
      cases x
      exact ⟨_, .int i, rfl, .int i, by simp [PyData.showable, h.1], by simp [PyData.hasDict], by simp [PyData.depth], (fun z => by obtain ⟨a, z⟩ := z; cases z), k _ _ _ _ _ h.2 (Same.refl F) s (.str _)⟩
    | str y =>
      cases x
      exact ⟨_, .str y, rfl, .str y, by simp [PyData.showable], by simp [PyData.hasDict], by simp [PyData.depth], (fun z => by obtain ⟨a, z⟩ := z; cases z), k _ _ _ _ _ h (Same.refl F) s (.str _)⟩
def rB2 : Bl2 → List V → Hp → VK → Prop
  | .max => fun xs H Q => ∃ i j, xs = [.int i, .int j] ∧ Q (.int (if j > i then j else i)) H
  | .min => fun xs H Q => ∃ i j, xs = [.int i, .int j] ∧ Q (.int (if j < i then j else i)) H
theorem pe_b2 {X : Cx} {f : Bl2} {a b : Expr} {ta tb : TE} {p pos : Pos} (hc : X.calm = true) (hg : Gl X f.name) (hm : X.mg f.name = none) (hn : notStar a = true) (hn2 : notStar b = true) (ha : PE X a ta) (hb : PE X b tb) :
    PE X (.Call (.Name f.name p) [a, b] [] pos) (tCB (rB2 f) (tCons ta (tCons tb tNil))) := by
  have e1 := star_cons hn [b] X.env
  have e3 := star_cons hn2 [] X.env
  have e2 : (backTo pos (starEach [b] X.env)).any (·.1) = false := star_none (by simp [hn2]) pos X.env
  have pa : PA X [a, b] (tCons ta (tCons tb tNil)) := pa_cons ha (pa_cons hb pa_nil e3) e1
  cases f with
  | max => exact pe_callB (call_max2 hc) hg hm boot_max pa (by decide) (by decide) e1 e2
  | min => exact pe_callB (call_min2 hc) hg hm boot_min pa (by decide) (by decide) e1 e2
theorem b2D_ok {f : Bl2} (h : b2D f d1 d2 μ Qd) (x1 : Dx K CA F v1 d1) (x2 : Dx K CA F v2 d2) (s : Hs K CA F R μ H) (k : Kon K CA F R Qd Q) : rB2 f [v1, v2] H Q := by
  cases f <;> cases x1 <;> first | exact h.elim | skip
  all_goals (cases x2 <;> first | exact h.elim | skip)
  · exact ⟨_, _, rfl, k _ _ _ _ _ h (Same.refl F) s (.int _)⟩
  · exact ⟨_, _, rfl, k _ _ _ _ _ h (Same.refl F) s (.int _)⟩

/-! ### comparisons -/
def rCmp (K : PySem.W.Frag) : Cop → R2
  | .eq => rEqD K
  | .ne => rNeD K
  | .lt => rI0 fun i j => .bl (decide (i < j))
  | .le => rI0 fun i j => .bl (decide (i ≤ j))
  | .gt => rI0 fun i j => .bl (decide (j < i))
  | .ge => rI0 fun i j => .bl (decide (j ≤ i))
  | .in_ => rInD K
  | .notin => rNotInD K
  | .is_ => fun x y H Q => ∃ b, y = .bl b ∧ ((∃ a, x = .bl a ∧ Q (.bl (decide (a = b))) H) ∨ ((x = .non ∨ ∃ a, x = .ref a) ∧ Q (.bl false) H))
  | .isnt => fun x y H Q => ∃ a b, x = .bl a ∧ y = .bl b ∧ Q (.bl (!decide (a = b))) H
  | .eqm => rEqD K
  | .nem => rNeD K
  | .inT => rIn K false
  | .notinT => rIn K true
  | .ner => rNeD K
theorem op_is_any {X : Cx} : OpR X (compareOp .Is) (fun x y H Q => ∃ b, y = .bl b ∧ ((∃ a, x = .bl a ∧ Q (.bl (decide (a = b))) H) ∨ ((x = .non ∨ ∃ a, x = .ref a) ∧ Q (.bl false) H))) := by
  intro pins s σ H x y v u Q I rx ry h
  obtain ⟨b, rfl, h⟩ := h
  rcases h with ⟨a, rfl, q⟩ | ⟨rfl | ⟨a, rfl⟩, q⟩
  · exact op_is_bl pins s σ H (.bl a) (.bl b) v u Q I rx ry ⟨a, b, rfl, rfl, q⟩
  · cases (show v = Value.none from rx)
    cases (show u = Value.bool b from ry)
    exact wpAny_is_other rfl (fun z => by cases z) ⟨.bl false, H, I, rfl, q⟩
  · cases (show v = Value.ref a from rx)
    cases (show u = Value.bool b from ry)
    exact wpAny_is_other rfl (fun z => by cases z) ⟨.bl false, H, I, rfl, q⟩
theorem rCmp_ok {X : Cx} {k : Nat} {o : Cop} {op : CmpOp} (hr : Room k X.A) (h : o.is op = true) : OpR X (compareOp op) (rCmp X.K o) := by
  have u1 := hr.units
  have u2 : X.A.units + 65 < cLine := by have := hr.un; omega
  cases o <;> cases op <;> first | (simp [Cop.is] at h; done) | skip
  · exact op_eqD u1
  · exact op_neD u1
  · exact op_lt
  · exact op_le
  · exact op_gt
  · exact op_ge
  · exact op_inD u2
  · exact op_notInD u2
  · exact op_is_any
  · exact op_isnot_bl
  · exact op_eqD u1
  · exact op_neD u1
  · exact op_in_seq
  · exact op_notIn_seq
  · exact op_neD u1
theorem dpA_same {vs : List V} {ds : List PyData} (s : Same F H) (h : DpAll K F vs ds) : DpAll K H vs ds := by
  induction ds generalizing vs with
  | nil => cases h; exact .nil
  | cons d ds ih => cases h with | cons a b => exact .cons (dp_same s a) (ih b)
theorem any_py (a : D) : ∀ ds : List D, ((pys ds).any fun z => PyData.eqv z a.py) = ds.any fun z => deq z a
  | [] => by simp [pys]
  | d :: ds => by simp [pys, any_py a ds, deq]
theorem flat_dx {v : V} {d : D} (h : Dx K CA F v d) (f : flatD d = true) : flatV v = true := by
  cases h <;> first | rfl | cases f
theorem flat_eq {v w : V} {d e : D} (h : Dx K CA F v d) (k : Dx K CA F w e) (f : flatD d = true) (g : flatD e = true) : eqV v w = deq d e := by
  cases h <;> first | cases f | skip
  all_goals cases k <;> first | cases g | skip
  all_goals simp [eqV, deq, D.py, PyData.eqv]
theorem flat_all : ∀ {vs : List V} {ds : List D}, DxA K CA F vs ds → ds.all flatD = true → vs.all flatV = true
  | _, _, .nil, _ => rfl
  | _, _, .cons h t, f => by
    simp only [List.all_cons, Bool.and_eq_true] at f ⊢
    exact ⟨flat_dx h f.1, flat_all t f.2⟩
theorem flat_any {w : V} {e : D} (k : Dx K CA F w e) (g : flatD e = true) : ∀ {vs : List V} {ds : List D}, DxA K CA F vs ds → ds.all flatD = true → inV w vs = ds.any fun z => deq z e
  | _, _, .nil, _ => rfl
  | _, _, .cons h t, f => by
    simp only [List.all_cons, Bool.and_eq_true] at f
    have := flat_any k g t f.2
    unfold inV at this ⊢
    simp only [List.any_cons]
    rw [this, flat_eq h k f.1 g]
theorem derefs_dp {μ : Mu} {R : Hp} (s : Hs K CA F R μ H) : ∀ {vs : List V} {xs ds : List D}, DxA K CA F vs xs → derefs xs μ = some ds → fit 60 (.lst ds) = true → DpAll K H vs (pys ds)
  | _, [], ds, .nil, e, _ => by simp only [derefs, Option.some.injEq] at e; subst e; simp only [pys]; exact .nil
  | _, x :: xs, ds, .cons h t, e, f => by
    cases h <;> first | (simp [derefs] at e; done) | skip
    rename_i p
    simp only [derefs] at e
    cases ep : μ p with
    | none => rw [ep] at e; cases e
    | some es =>
      rw [ep] at e
      obtain ⟨r, e1, e2⟩ := Option.map_eq_some_iff.mp e
      subst e2
      have f' : (fit 59 (.lst es) && r.all (fit 59)) = true := by simpa [fit] using f
      rw [Bool.and_eq_true] at f'
      obtain ⟨_, _, vs', h1, h2⟩ := s.m p es ep
      have ih := derefs_dp s t e1 (by simp only [fit]; exact f'.2)
      simp only [pys]
      refine .cons ?_ ih
      simp only [D.py]
      exact .lst (.of h1) (dpA_same s.f (h2.dp 58 (by simpa [fit] using f'.1)))
theorem cmpD_ok {o : Cop} (h : cmpD o d1 d2 μ Qd) (x1 : Dx K CA F v1 d1) (x2 : Dx K CA F v2 d2) (s : Hs K CA F R μ H) (k : Kon K CA F R Qd Q) : rCmp K o v1 v2 H Q := by
  cases o with
  | eq =>
    obtain ⟨f1, f2, q⟩ := h
    exact ⟨_, _, dp_same s.f (x1.dp 60 f1), dp_same s.f (x2.dp 60 f2), fit_shaped f1, fit_shaped f2, k _ _ _ _ _ q (Same.refl F) s (.bl _)⟩
  | ne =>
    obtain ⟨f1, f2, q⟩ := h
    exact ⟨_, _, dp_same s.f (x1.dp 60 f1), dp_same s.f (x2.dp 60 f2), fit_shaped f1, fit_shaped f2, k _ _ _ _ _ q (Same.refl F) s (.bl _)⟩
  | eqm =>
    cases x1 <;> first | exact h.elim | skip
    rename_i p
    simp only [cmpD] at h
    cases e : μ p with
    | none => rw [e] at h; exact h.elim
    | some ds =>
      rw [e] at h
      obtain ⟨f1, f2, q⟩ := h
      obtain ⟨_, _, vs, h1, h2⟩ := s.m p ds e
      have z1 : Dp K H (.ref p) (D.lst ds).py := by
        simp only [D.py]
        exact .lst (.of h1) (dpA_same s.f (h2.dp 59 f1))
      exact ⟨_, _, z1, dp_same s.f (x2.dp 60 f2), fit_shaped f1, fit_shaped f2, k _ _ _ _ _ q (Same.refl F) s (.bl _)⟩
  | ner =>
    cases x1 <;> first | exact h.elim | skip
    cases x2 <;> first | exact h.elim | skip
    rename_i p p'
    simp only [cmpD] at h
    cases e : μ p with
    | none => rw [e] at h; exact h.elim
    | some ds =>
    cases e' : μ p' with
    | none => rw [e, e'] at h; exact h.elim
    | some es =>
      rw [e, e'] at h
      obtain ⟨f1, f2, q⟩ := h
      obtain ⟨_, _, vs, h1, h2⟩ := s.m p ds e
      obtain ⟨_, _, us, h3, h4⟩ := s.m p' es e'
      have z1 : Dp K H (.ref p) (D.lst ds).py := by
        simp only [D.py]
        exact .lst (.of h1) (dpA_same s.f (h2.dp 59 f1))
      have z2 : Dp K H (.ref p') (D.lst es).py := by
        simp only [D.py]
        exact .lst (.of h3) (dpA_same s.f (h4.dp 59 f2))
      exact ⟨_, _, z1, z2, fit_shaped f1, fit_shaped f2, k _ _ _ _ _ q (Same.refl F) s (.bl _)⟩
  | nem =>
    cases x1 <;> first | exact h.elim | skip
    case lst h1 h2 =>
      simp only [cmpD] at h
      cases e : derefs _ μ with
      | none => rw [e] at h; exact h.elim
      | some ds =>
        rw [e] at h
        obtain ⟨f1, f2, q⟩ := h
        rename_i a0 vs0 ds0
        have z1 : Dp K H (.ref a0) (D.lst ds).py := by
          simp only [D.py]
          exact .lst (s.f.seq h1) (derefs_dp s h2 e f1)
        exact ⟨_, _, z1, dp_same s.f (x2.dp 60 f2), fit_shaped f1, fit_shaped f2, k _ _ _ _ _ q (Same.refl F) s (.bl _)⟩
    rename_i p
    simp only [cmpD] at h
    cases e : μ p with
    | none => rw [e] at h; exact h.elim
    | some ds =>
      rw [e] at h
      obtain ⟨f1, f2, q⟩ := h
      obtain ⟨_, _, vs, h1, h2⟩ := s.m p ds e
      have z1 : Dp K H (.ref p) (D.lst ds).py := by
        simp only [D.py]
        exact .lst (.of h1) (dpA_same s.f (h2.dp 59 f1))
      exact ⟨_, _, z1, dp_same s.f (x2.dp 60 f2), fit_shaped f1, fit_shaped f2, k _ _ _ _ _ q (Same.refl F) s (.bl _)⟩
  | in_ =>
    cases x2 <;> first | exact h.elim | skip
    case ref p =>
      simp only [cmpD] at h
      cases e : μ p with
      | none => rw [e] at h; exact h.elim
      | some ds =>
        rw [e] at h
        obtain ⟨f1, f2, q⟩ := h
        obtain ⟨_, _, vs, h1, h2⟩ := s.m p ds e
        have z2 : Dp K H (.ref p) (D.lst ds).py := by
          simp only [D.py]
          exact .lst (.of h1) (dpA_same s.f (h2.dp 59 f2))
        have z3 := fit_shaped f2
        simp only [D.py] at z2 z3
        refine ⟨_, _, dp_same s.f (x1.dp 60 f1), z2, fit_shaped f1, z3, ?_⟩
        rw [any_py]
        exact k _ _ _ _ _ q (Same.refl F) s (.bl _)
    rename_i a vs ds sq b
    obtain ⟨f1, f2, q⟩ := h
    have z2 : Dp K H (.ref a) (D.lst ds).py := dp_same s.f (Dx.dp (CA := CA) 60 (.lst sq b) f2)
    have z3 := fit_shaped f2
    simp only [D.py] at z2 z3
    refine ⟨_, _, dp_same s.f (x1.dp 60 f1), z2, fit_shaped f1, z3, ?_⟩
    rw [any_py]
    exact k _ _ _ _ _ q (Same.refl F) s (.bl _)
  | notin =>
    cases x2 <;> first | exact h.elim | skip
    case ref p =>
      simp only [cmpD] at h
      cases e : μ p with
      | none => rw [e] at h; exact h.elim
      | some ds =>
        rw [e] at h
        obtain ⟨f1, f2, q⟩ := h
        obtain ⟨_, _, vs, h1, h2⟩ := s.m p ds e
        have z2 : Dp K H (.ref p) (D.lst ds).py := by
          simp only [D.py]
          exact .lst (.of h1) (dpA_same s.f (h2.dp 59 f2))
        have z3 := fit_shaped f2
        simp only [D.py] at z2 z3
        refine ⟨_, _, dp_same s.f (x1.dp 60 f1), z2, fit_shaped f1, z3, ?_⟩
        rw [any_py]
        exact k _ _ _ _ _ q (Same.refl F) s (.bl _)
    rename_i a vs ds sq b
    obtain ⟨f1, f2, q⟩ := h
    have z2 : Dp K H (.ref a) (D.lst ds).py := dp_same s.f (Dx.dp (CA := CA) 60 (.lst sq b) f2)
    have z3 := fit_shaped f2
    simp only [D.py] at z2 z3
    refine ⟨_, _, dp_same s.f (x1.dp 60 f1), z2, fit_shaped f1, z3, ?_⟩
    rw [any_py]
    exact k _ _ _ _ _ q (Same.refl F) s (.bl _)
  | is_ =>
    cases x1 <;> first | exact h.elim | skip
    all_goals (cases x2 <;> first | exact h.elim | skip)
    all_goals first
      | exact ⟨_, rfl, .inl ⟨_, rfl, k _ _ _ _ _ h (Same.refl F) s (.bl _)⟩⟩
      | exact ⟨_, rfl, .inr ⟨.inl rfl, k _ _ _ _ _ h (Same.refl F) s (.bl _)⟩⟩
      | exact ⟨_, rfl, .inr ⟨.inr ⟨_, rfl⟩, k _ _ _ _ _ h (Same.refl F) s (.bl _)⟩⟩
  | inT =>
    cases x2 <;> first | exact h.elim | skip
    rename_i a vs ds sq b
    obtain ⟨f1, f2, q⟩ := h
    refine ⟨a, vs, rfl, .inr (seqT s.f sq), flat_dx x1 f1, flat_all b f2, ?_⟩
    rw [if_neg (by decide), flat_any x1 f1 b f2]
    exact k _ _ _ _ _ q (Same.refl F) s (.bl _)
  | notinT =>
    cases x2 <;> first | exact h.elim | skip
    rename_i a vs ds sq b
    obtain ⟨f1, f2, q⟩ := h
    refine ⟨a, vs, rfl, .inr (seqT s.f sq), flat_dx x1 f1, flat_all b f2, ?_⟩
    rw [if_pos rfl, flat_any x1 f1 b f2]
    exact k _ _ _ _ _ q (Same.refl F) s (.bl _)
  | isnt =>
    cases x1 <;> first | exact h.elim | skip
    cases x2 <;> first | exact h.elim | skip
    exact ⟨_, _, rfl, rfl, k _ _ _ _ _ h (Same.refl F) s (.bl _)⟩
  | lt =>
    cases x1 <;> first | exact h.elim | skip
    cases x2 <;> first | exact h.elim | skip
    exact ⟨_, _, rfl, rfl, k _ _ _ _ _ h (Same.refl F) s (.bl _)⟩
  | le =>
    cases x1 <;> first | exact h.elim | skip
    cases x2 <;> first | exact h.elim | skip
    exact ⟨_, _, rfl, rfl, k _ _ _ _ _ h (Same.refl F) s (.bl _)⟩
  | gt =>
    cases x1 <;> first | exact h.elim | skip
    cases x2 <;> first | exact h.elim | skip
    exact ⟨_, _, rfl, rfl, k _ _ _ _ _ h (Same.refl F) s (.bl _)⟩
  | ge =>
    cases x1 <;> first | exact h.elim | skip
    cases x2 <;> first | exact h.elim | skip
    exact ⟨_, _, rfl, rfl, k _ _ _ _ _ h (Same.refl F) s (.bl _)⟩
end
end Dl

/-! The data layer, part E: isinstance, targets, iterables. -/
namespace Dl
open PySem L2 PyProof.Rows
variable [NC]

/-! ### isinstance -/
def rIsX (K : PySem.W.Frag) : List V → Hp → VK → Prop := fun xs H Q => ∃ (a C : Addr) (c : V) (cv : Value) (b : Bool), xs = [.ref a, c] ∧ H a = some (ExI C a) ∧ ExcC K C ∧ ClsV c cv ∧ PySem.W.kitOne K (.ref C) cv = some b ∧ Q (.bl b) H
theorem call_isX {X : Cx} : CallR X (.builtin "isinstance") (rIsX X.K) := by
  intro pins s σ H xs us Q I r h
  obtain ⟨a, C, c, cv, b, rfl, hH, EC, kc, e, q⟩ := h
  obtain ⟨u1, u2, rfl, ra, rc⟩ := vals2 r
  cases ra
  have ec := kc.eq rc
  subst ec
  obtain ⟨⟨oe, fv, ho, hz, hd⟩, _, _⟩ := (show ObjOk X.prog X.w H s.heap a (ExI C a) from I.hok a _ hH)
  have J : PySem.W.InstAt s.heap a oe C none := by
    obtain ⟨o1, o2, o3, o4⟩ := oe
    obtain ⟨z1, z2⟩ := hz
    simp only at z1 z2 hd
    subst z1 z2 hd
    exact ⟨ho, rfl, rfl, trivial⟩
  have kx := PySem.W.handS_kitx_exc (x := a) (ox := oe) EC.hg EC.hk EC.hs EC.hd EC.ha EC.hn EC.ht EC.hm
  exact PySem.W.kia_one kx I.kIn J e (fun z => nomatch z) fun tk => ⟨.bl b, H, I.tok tk, rfl, q⟩
section
variable {K : PySem.W.Frag} {mg : Str → Option Value} {CA : Nat → Addr} {CN : Nat → Str} {c c' : Nat}
theorem ClsOk.has (h : ClsOk K mg CA CN c) (v : Value) : PySem.W.mroIn K (CA c) v = some ((.ref (CA c) :: ((if c = 0 then [] else [.ref (CA 0)]) ++ veT)).contains v) := by
  obtain ⟨cd, e1, e2, e3⟩ := h.mro
  unfold PySem.W.mroIn
  rw [e1, Option.bind_some, e3]
  rfl
theorem ClsOk.isc (h : ClsOk K mg CA CN c) : (PySem.W.clsIn K (CA c)).isSome = true := by
  obtain ⟨cd, e1, e2, e3⟩ := h.mro
  rw [e1]; rfl
theorem ClsOk.base (h : ClsOk K mg CA CN c) : PySem.W.subIn K (.ref (CA c)) (.type "BaseException") = some true := by
  show PySem.W.mroIn K (CA c) (.type "BaseException") = some true
  rw [h.has]
  by_cases z : c = 0
  · rw [if_pos z]; rfl
  · rw [if_neg z]; rfl
theorem ClsOk.excC (h : ClsOk K mg CA CN c) : ExcC K (CA c) where
  hg := h.ga
  hk := h.gg
  hs := h.base
  hd := by
    obtain ⟨cd, e1, e2, e3⟩ := h.mro
    unfold PySem.W.hasDictIn
    rw [e1]; exact e2
  ha := h.cl
  hn := h.hn
  ht := h.ht
  hm := by
    rw [h.has]
    by_cases z : c = 0
    · rw [if_pos z]; rfl
    · rw [if_neg z]; rfl
theorem ClsOk.sub (h' : ClsOk K mg CA CN c') (i1 : CA c' = CA c → c' = c) (i2 : CA 0 = CA c → 0 = c) : PySem.W.subIn K (.ref (CA c')) (.ref (CA c)) = some (subC c' c) := by
  show PySem.W.mroIn K (CA c') (.ref (CA c)) = some (subC c' c)
  rw [h'.has]
  congr 1
  have t : ∀ T : String, (Value.ref (CA c) == Value.type T) = false := fun T => by
    cases e : (Value.ref (CA c) == Value.type T) with
    | false => rfl
    | true => exact nomatch (beq_iff_eq.mp e)
  have q : ∀ a b : Addr, (Value.ref a == Value.ref b) = decide (a = b) := fun a b => by
    by_cases z : a = b
    · subst z; simp
    · rw [decide_eq_false z]
      cases e : (Value.ref a == Value.ref b) with
      | false => rfl
      | true => exact absurd (Value.ref.inj (beq_iff_eq.mp e)) z
  unfold subC
  by_cases z : c' = 0
  · subst z
    simp only [if_true, List.nil_append, List.contains_cons, veT, t, q, List.contains_nil, Bool.or_false]
    by_cases y : c = 0
    · subst y; simp
    · have n1 : ¬ CA c = CA 0 := fun e => y (i1 e.symm).symm
      rw [decide_eq_false n1]
      have e1 : (c == 0) = false := by simp [y]
      have e2 : (0 == c) = false := by simp [Ne.symm y]
      rw [e1, e2]; rfl
  · simp only [z, if_false, List.contains_cons, List.cons_append, List.nil_append, veT, t, q, List.contains_nil, Bool.or_false]
    by_cases y : c = 0
    · subst y; simp
    · have n1 : ¬ CA c = CA 0 := fun e => y (i2 e.symm).symm
      rw [decide_eq_false n1]
      by_cases x : c' = c
      · subst x; simp
      · have n2 : ¬ CA c = CA c' := fun e => x (i1 e.symm)
        rw [decide_eq_false n2]
        have e1 : (c == 0) = false := by simp [y]
        have e2 : (c' == c) = false := by simp [x]
        rw [e1, e2] <;> rfl
theorem ClsOk.kit (h' : ClsOk K mg CA CN c') (h : ClsOk K mg CA CN c) (i1 : CA c' = CA c → c' = c) (i2 : CA 0 = CA c → 0 = c) : PySem.W.kitOne K (.ref (CA c')) (.ref (CA c)) = some (subC c' c) := by
  unfold PySem.W.kitOne
  by_cases z : c' = c
  · subst z
    have y : subC c' c' = true := by simp [subC]
    rw [if_pos (by simp), y]
  · have n : ¬ (Value.ref (CA c') == Value.ref (CA c)) = true := fun e => z (i1 (Value.ref.inj (beq_iff_eq.mp e)))
    rw [if_neg n]
    show (if ((PySem.W.clsIn K (CA c)).isSome && PySem.W.typeIn K (.ref (CA c)) == some (.type "type")) = true then PySem.W.subIn K (.ref (CA c')) (.ref (CA c)) else none) = _
    rw [if_pos (by rw [h.isc, h.ty]; rfl)]
    exact h'.sub i1 i2
theorem ClsOk.exm (h' : ClsOk K mg CA CN c') (h : ClsOk K mg CA CN c) (i1 : CA c' = CA c → c' = c) (i2 : CA 0 = CA c → 0 = c) : PySem.W.exmOne K (.ref (CA c')) (.ref (CA c)) = some (subC c' c) :=
  PySem.W.exm_ref h.base h.excC.hd h.ty (h'.sub i1 i2)
theorem ClsOk.kitV (h : ClsOk K mg CA CN c) : PySem.W.kitOne K (.ref (CA c)) (.type "ValueError") = some true := by
  unfold PySem.W.kitOne
  have n : ¬ (Value.ref (CA c) == Value.type "ValueError") = true := fun e => nomatch (beq_iff_eq.mp e)
  rw [if_neg n]
  show (if PySem.W.kitMeta "ValueError" = true then PySem.W.subIn K (.ref (CA c)) (.type "ValueError") else none) = _
  rw [if_pos (by decide +kernel)]
  show PySem.W.mroIn K (CA c) (.type "ValueError") = some true
  rw [h.has]
  by_cases z : c = 0
  · rw [if_pos z]; rfl
  · rw [if_neg z]; rfl
end
/-- the class that stands for a type -/
def tyV2 (CA : Nat → Addr) : Ty → V
  | .int => .ty "int"
  | .bool => .ty "bool"
  | .tuple => .ty "tuple"
  | .list => .ty "list"
  | .str => .ty "str"
  | .cls c => .ref (CA c)
  | .vErr => .ty "ValueError"
theorem name_mem_int : ("int" : Str) ∈ names := by decide +kernel
theorem name_mem_bool : ("bool" : Str) ∈ names := by decide +kernel
theorem name_mem_tuple : ("tuple" : Str) ∈ names := by decide +kernel
theorem name_mem_list : ("list" : Str) ∈ names := by decide +kernel
theorem name_mem_str : ("str" : Str) ∈ names := by decide +kernel
theorem name_mem_ve : ("ValueError" : Str) ∈ names := by decide +kernel
theorem name_mem_isi : ("isinstance" : Str) ∈ names := by decide +kernel
theorem name_mem_range : ("range" : Str) ∈ names := by decide +kernel
theorem name_mem_zip : ("zip" : Str) ∈ names := by decide +kernel
theorem name_mem_b1 (f : Bl1) : f.name ∈ names := by cases f <;> decide +kernel
theorem name_mem_b2 (f : Bl2) : f.name ∈ names := by cases f <;> decide +kernel
theorem boot_bool' : bootBuiltins "bool" = some (.type "bool") := by decide +kernel
theorem pe_tyN {X : Cx} {CA : Nat → Addr} {CN : Nat → Str} {nC : Nat} {t : Ty} {p : Pos} (w : Wd X CA CN nC) (hg : Gl X (t.name CN)) (hd : ((t.name CN) == ("__debug__" : Str)) = false) (hc : ∀ c, t = .cls c → c < nC) : PE X (.Name (t.name CN) p) (tC (tyV2 CA t)) := by
  cases t with
  | int => exact pe_bltn hg (w.blt _ name_mem_int) PyProof.Rows.boot_int rfl (show ("int" : Str) ≠ "__name__" by decide) hd
  | bool => exact pe_bltn hg (w.blt _ name_mem_bool) boot_bool' rfl (show ("bool" : Str) ≠ "__name__" by decide) hd
  | tuple => exact pe_bltn hg (w.blt _ name_mem_tuple) PyProof.Rows.boot_tuple rfl (show ("tuple" : Str) ≠ "__name__" by decide) hd
  | list => exact pe_bltn hg (w.blt _ name_mem_list) PyProof.Rows.boot_list rfl (show ("list" : Str) ≠ "__name__" by decide) hd
  | str => exact pe_bltn hg (w.blt _ name_mem_str) PyProof.Rows.boot_str rfl (show ("str" : Str) ≠ "__name__" by decide) hd
  | vErr => exact pe_bltn hg (w.blt _ name_mem_ve) (show bootBuiltins "ValueError" = some (.type "ValueError") by decide +kernel) rfl (show ("ValueError" : Str) ≠ "__name__" by decide) hd
  | cls c => exact pe_glob hg (w.cls c (hc c rfl)).g rfl hd
section
variable {K : PySem.W.Frag} {CA : Nat → Addr} {F R H : Hp} {μ : Mu} {v : V} {d : D} {Q : VK}
theorem tyx_lst {a : Addr} {vs : List V} (h : SqL K H a vs) : TyX K H (.ref a) (.type "list") := by
  rcases h with (h | ⟨o, h⟩) | ⟨o, its, n, h, c, _⟩
  · exact .base (.lst h)
  · exact .base (.frz h)
  · exact .kList h c
theorem tyx_tup {a : Addr} {vs : List V} (h : SqT K H a vs) : TyX K H (.ref a) (.type "tuple") := by
  rcases h with (h | ⟨o, h⟩) | ⟨o, its, n, h, c, _⟩
  · exact .base (.tup h)
  · exact .fTuple h
  · exact .kTuple h c
/-- the type of plain data -/
def tyD : D → Option String
  | .non => some "NoneType"
  | .bl _ => some "bool"
  | .int _ => some "int"
  | .str _ => some "str"
  | .tup _ => some "tuple"
  | .lst _ => some "list"
  | .ref _ => none
  | .exc _ => none
  | .dct _ _ => some "dict"
theorem tyD_ok {T : String} (h : tyD d = some T) (x : Dx K CA F v d) (s : Hs K CA F R μ H) : TyX K H v (.type T) := by
  cases x with
  | non => cases h; exact .base .non
  | bl b => cases h; exact .base (.bl _)
  | int b => cases h; exact .base (.int _)
  | str b => cases h; exact .base (.str _)
  | tup a b => cases h; exact tyx_tup (seqT s.f a)
  | lst a b => cases h; exact tyx_lst (s.f.seq a)
  | dct a b c => cases h; exact .base (.dK (s.f _ _ a))
  | _ => cases h
end
def tyS : Ty → Option String
  | .int => some "int"
  | .bool => some "bool"
  | .tuple => some "tuple"
  | .list => some "list"
  | .str => some "str"
  | _ => none
def isiS : String → Ty → Option Bool
  | "NoneType", .int => some false
  | "NoneType", .bool => some false
  | "NoneType", .tuple => some false
  | "NoneType", .list => some false
  | "NoneType", .str => some false
  | "bool", .int => some true
  | "bool", .bool => some true
  | "bool", .tuple => some false
  | "bool", .list => some false
  | "bool", .str => some false
  | "int", .int => some true
  | "int", .bool => some false
  | "int", .tuple => some false
  | "int", .list => some false
  | "int", .str => some false
  | "str", .int => some false
  | "str", .bool => some false
  | "str", .tuple => some false
  | "str", .list => some false
  | "str", .str => some true
  | "tuple", .int => some false
  | "tuple", .bool => some false
  | "tuple", .tuple => some true
  | "tuple", .list => some false
  | "tuple", .str => some false
  | "list", .int => some false
  | "list", .bool => some false
  | "list", .tuple => some false
  | "list", .list => some true
  | "list", .str => some false
  | "dict", .int => some false
  | "dict", .bool => some false
  | "dict", .tuple => some false
  | "dict", .list => some false
  | "dict", .str => some false
  | _, _ => none
theorem kit_pairs : ∀ T ∈ ["NoneType", "bool", "int", "str", "tuple", "list", "dict"], ∀ t ∈ [Ty.int, Ty.bool, Ty.tuple, Ty.list, Ty.str], ∀ U, tyS t = some U → kitB T U = isiS T t := by
  intro T hT t ht U hU
  simp only [List.mem_cons, List.not_mem_nil, or_false] at hT ht
  rcases hT with rfl | rfl | rfl | rfl | rfl | rfl | rfl <;> rcases ht with rfl | rfl | rfl | rfl | rfl <;> cases hU <;> decide +kernel
theorem isi_kit {d : D} {t : Ty} {b : Bool} {T U : String} (h : isiD d t = some b) (hT : tyD d = some T) (hU : tyS t = some U) : kitB T U = some b := by
  have m1 : t ∈ [Ty.int, Ty.bool, Ty.tuple, Ty.list, Ty.str] := by cases t <;> first | (cases hU; done) | simp
  have m2 : T ∈ ["NoneType", "bool", "int", "str", "tuple", "list", "dict"] := by cases d <;> cases hT <;> simp
  rw [kit_pairs T m2 t m1 U hU]
  cases d <;> cases t <;> first | (cases hU; done) | (cases hT; done) | (cases hT; cases hU; cases h; rfl)
theorem isiD_ok {X : Cx} {CA : Nat → Addr} {CN : Nat → Str} {nC : Nat} {F R H : Hp} {μ : Mu} {v : V} {d : D} {Q : VK} {t : Ty} {b : Bool} (w : Wd X CA CN nC) (hc : ∀ c, t = .cls c → nC = NC.n ∧ c < NC.n) (hv : t = .vErr → nC = NC.n)
    (h : isiD d t = some b) (x : Dx X.K CA F v d) (s : Hs X.K CA F R μ H) (q : Q (.bl b) H) : rIsi X.K [v, tyV2 CA t] H Q ∨ rIsX X.K [v, tyV2 CA t] H Q := by
  have gen : ∀ {T U : String}, tyD d = some T → tyS t = some U → rIsi X.K [v, tyV2 CA t] H Q := fun {T U} hT hU => by
    have e : tyV2 CA t = .ty U := by cases t <;> cases hU <;> rfl
    refine ⟨v, tyV2 CA t, .type T, .type U, b, rfl, ?_, tyD_ok hT x s, kit_ty (isi_kit h hT hU), q⟩
    rw [e]; exact .ty U
  cases x with
  | non => cases t <;> first | (cases h; done) | exact .inl (gen rfl rfl)
  | bl _ => cases t <;> first | (cases h; done) | exact .inl (gen rfl rfl)
  | int _ => cases t <;> first | (cases h; done) | exact .inl (gen rfl rfl)
  | str _ => cases t <;> first | (cases h; done) | exact .inl (gen rfl rfl)
  | tup _ _ => cases t <;> first | (cases h; done) | exact .inl (gen rfl rfl)
  | lst _ _ => cases t <;> first | (cases h; done) | exact .inl (gen rfl rfl)
  | ref a => cases t <;> cases h
  | dct _ _ _ => cases t <;> first | (cases h; done) | exact .inl (gen rfl rfl)
  | @exc a c' hx =>
    cases t with
    | cls c =>
      obtain ⟨e1, e2⟩ := hc c rfl
      simp only [isiD] at h
      split at h
      · rename_i h19
        cases h
        have k' := w.cls c' (by omega)
        have k := w.cls c (by omega)
        exact .inr ⟨a, CA c', .ref (CA c), .ref (CA c), _, rfl, s.f _ _ hx, k'.excC, .own _, k'.kit k (w.inj _ _ (by omega) (by omega)) (w.inj _ _ (by omega) (by omega)), q⟩
      · cases h
    | vErr =>
      have e1 := hv rfl
      simp only [isiD] at h
      split at h
      · rename_i h19
        cases h
        have k' := w.cls c' (by omega)
        exact .inr ⟨a, CA c', .ty "ValueError", .type "ValueError", _, rfl, s.f _ _ hx, k'.excC, .ty _, k'.kitV, q⟩
      · cases h
    | _ => cases h

/-! ### targets -/
section
variable {X : Cx} {K : PySem.W.Frag} {CA : Nat → Addr} {F R H : Hp} {μ : Mu}
theorem PG.or {tg : Expr} {t t' : TG} (h : PG X tg t) (h' : PG X tg t') : PG X tg (fun v σ H Q => t v σ H Q ∨ t' v σ H Q) := by
  refine ⟨fun pins s σ H v u Q I r q => ?_⟩
  rcases q with q | q
  · exact h.run pins s σ H v u Q I r q
  · exact h'.run pins s σ H v u Q I r q
def gNs : List Nat → TGs
  | [] => gNil
  | i :: is => gCons (gName i) (gNs is)
theorem gNs_of : ∀ {is : List Nat} {vs : List V} {σ : L2.St} {H : Hp} {Q : L2.St → Hp → Prop}, is.length = vs.length → Q ((is.zip vs).foldl (fun s p => s.set p.1 (some p.2)) σ) H → gNs is vs σ H Q
  | [], [], _, _, _, _, q => ⟨rfl, q⟩
  | i :: is, v :: vs, σ, H, Q, e, q => ⟨v, vs, rfl, gNs_of (is := is) (vs := vs) (by simpa using e) q⟩
  | [], _ :: _, _, _, _, e, _ => by simp at e
  | _ :: _, [], _, _, _, e, _ => by simp at e
def allNm : List Expr → Bool
  | [] => true
  | .Name _ _ :: es => allNm es
  | _ :: _ => false
theorem allNm_len (env : Env) : ∀ {es : List Expr}, allNm es = true → (assignEach es env).length = es.length ∧ (assignEach es env).findIdx? (·.1) = none
  | [], _ => ⟨rfl, rfl⟩
  | e :: es, h => by
    cases e <;> first | (simp [allNm] at h; done) | skip
    obtain ⟨h1, h2⟩ := allNm_len env (es := es) h
    refine ⟨by simp [assignEach, h1], ?_⟩
    simp only [assignEach, List.findIdx?_cons]
    rw [h2]
    rfl
theorem matTs_nm {N : List Str} {sc : Scope} : ∀ {is : List Nat} {es : List Expr}, matT.matTs N sc is es = true → allNm es = true ∧ is.length = es.length
  | [], [], _ => ⟨rfl, rfl⟩
  | [], _ :: _, h => by simp [matT.matTs] at h
  | _ :: _, [], h => by simp [matT.matTs] at h
  | i :: is, e :: es, h => by
    cases e <;> first | (simp [matT.matTs] at h; done) | skip
    simp only [matT.matTs, Bool.and_eq_true] at h
    obtain ⟨h1, h2⟩ := matTs_nm (is := is) (es := es) h.2
    exact ⟨h1, by simp [h2]⟩
theorem pgs_ns {N : List Str} {sc : Scope} (hN : X.N = N) (nd : X.N.Nodup) (hl : ∀ x, locB sc x = true → Loc X.env.scope x ∧ (X.fn x = true ∨ X.env.scope.names.lookup x = some .local)) : ∀ {is : List Nat} {es : List Expr}, matT.matTs N sc is es = true → PGs X es (gNs is)
  | [], [], _ => pgs_nil
  | [], _ :: _, h => by simp [matT.matTs] at h
  | _ :: _, [], h => by simp [matT.matTs] at h
  | i :: is, e :: es, h => by
    cases e <;> first | (simp [matT.matTs] at h; done) | skip
    simp only [matT.matTs, Bool.and_eq_true, decide_eq_true_eq] at h
    obtain ⟨⟨h1, h2⟩, h3⟩ := h
    obtain ⟨l1, l2⟩ := hl _ h2
    exact pgs_cons (pg_name nd (by rw [hN]; exact h1) l1 l2) (pgs_ns hN nd hl h3)
/-- the reading of a target -/
def gT (K : PySem.W.Frag) : MT → TG
  | .name i => gName i
  | .tup is => fun v σ H Q => gTup K is.length (gNs is) v σ H Q ∨ gLst K is.length (gNs is) v σ H Q
theorem pg_T {N : List Str} {sc : Scope} {t : MT} {e : Expr} (hc : X.calm = true) (hN : X.N = N) (nd : X.N.Nodup) (hl : ∀ x, locB sc x = true → Loc X.env.scope x ∧ (X.fn x = true ∨ X.env.scope.names.lookup x = some .local)) (h : matT N sc t e = true) : PG X e (gT X.K t) := by
  cases t with
  | name i =>
    cases e <;> first | (simp [matT] at h; done) | skip
    simp only [matT, Bool.and_eq_true, decide_eq_true_eq] at h
    obtain ⟨l1, l2⟩ := hl _ h.2
    exact pg_name nd (by rw [hN]; exact h.1) l1 l2
  | tup is =>
    cases e <;> first | (simp [matT] at h; done) | skip
    rename_i es kk pos
    simp only [matT] at h
    obtain ⟨a1, a2⟩ := matTs_nm h
    obtain ⟨b1, b2⟩ := allNm_len X.env a1
    have g := pgs_ns hN nd hl h
    exact PG.or (pg_tup hc g (by rw [b1, a2]) b2) (pg_lst hc g (by rw [b1, a2]) b2)
/-- what a target changes -/
def Upd (is : List Nat) (σ σ' : L2.St) : Prop := σ'.length = σ.length ∧ ∀ j, j ∉ is → σ'[j]? = σ[j]?
theorem foldl_upd : ∀ (is : List Nat) (vs : List V) (σ : L2.St), Upd is σ ((is.zip vs).foldl (fun s p => s.set p.1 (some p.2)) σ)
  | [], _, σ => ⟨rfl, fun _ _ => rfl⟩
  | _ :: _, [], σ => ⟨rfl, fun _ _ => rfl⟩
  | i :: is, v :: vs, σ => by
    obtain ⟨h1, h2⟩ := foldl_upd is vs (σ.set i (some v))
    refine ⟨by rw [← List.length_set (as := σ) (i := i) (a := some v)]; exact h1, fun j hj => ?_⟩
    simp only [List.mem_cons, not_or] at hj
    refine (h2 j hj.2).trans ?_
    rw [List.getElem?_set_ne (Ne.symm hj.1)]
theorem gT_ok {t : MT} {v : V} {d : D} {ρ : Rho} {σ : L2.St} {k : Rho → Prop} {Q : L2.St → Hp → Prop} (b : bindT t d ρ k) (x : Dx K CA F v d) (r : Rp K CA F ρ σ) (s : Hs K CA F R μ H)
    (q : ∀ ρ' σ', k ρ' → Rp K CA F ρ' σ' → Upd t.slots σ σ' → Q σ' H) : gT K t v σ H Q := by
  cases t with
  | name i => exact q _ _ b (r.set i x) ⟨by simp, fun j hj => by rw [List.getElem?_set_ne (by simp [MT.slots] at hj; exact Ne.symm hj)]⟩
  | tup is =>
    have go : ∀ {vs : List V} {ds : List D}, DxA K CA F vs ds → (ifR (bindAll is ds ρ) k) → is.length = vs.length ∧ Q ((is.zip vs).foldl (fun s p => s.set p.1 (some p.2)) σ) H := fun {vs ds} a e => by
      cases z : bindAll is ds ρ with
      | none => rw [z] at e; exact e.elim
      | some ρ' =>
        rw [z] at e
        obtain ⟨h1, h2⟩ := bindAll_ok z a r
        exact ⟨h1, q _ _ e h2 (foldl_upd is vs σ)⟩
    cases x with
    | tup a c =>
      obtain ⟨h1, h2⟩ := go c b
      exact .inl ⟨_, _, rfl, seqT s.f a, h1.symm, gNs_of h1 h2⟩
    | lst a c =>
      obtain ⟨h1, h2⟩ := go c b
      exact .inr ⟨_, _, rfl, s.f.seq a, h1.symm, gNs_of h1 h2⟩
    | _ => exact b.elim
theorem own_slots {N : List Str} {sc : Scope} {t : MT} {e : Expr} (h : matT N sc t e = true) : (ownOf t e).map (·.2) = t.slots := by
  cases t with
  | name i => cases e <;> first | (simp [matT] at h; done) | rfl
  | tup is =>
    cases e <;> first | (simp [matT] at h; done) | skip
    rename_i es kk pos
    simp only [matT] at h
    have key : ∀ {is : List Nat} {es : List Expr}, matT.matTs N sc is es = true → (ownOf.ownOfs is es).map (·.2) = is := by
      intro is
      induction is with
      | nil => intro es _; cases es <;> rfl
      | cons i is ih =>
        intro es h
        cases es with
        | nil => simp [matT.matTs] at h
        | cons e es =>
          cases e <;> first | (simp [matT.matTs] at h; done) | skip
          simp only [matT.matTs, Bool.and_eq_true] at h
          simp only [ownOf.ownOfs, List.map_cons, ih h.2]
    exact key h
theorem wipe_get (σ : L2.St) (j : Nat) : ∀ vs : List Nat, (L2.wipe σ vs)[j]? = if j ∈ vs then (σ[j]?).map (fun _ => none) else σ[j]?
  | [] => by simp [L2.wipe]
  | v :: vs => by
    unfold L2.wipe
    by_cases e : j = v
    · subst e
      rw [if_pos (by simp)]
      by_cases hl : j < σ.length
      · rw [List.getElem?_set_self (by rw [wipe_length]; exact hl), List.getElem?_eq_getElem hl]; rfl
      · rw [List.getElem?_eq_none (by simp [wipe_length]; omega), List.getElem?_eq_none (by omega)]; rfl
    · rw [List.getElem?_set_ne (Ne.symm e), wipe_get σ j vs]
      simp [e]
theorem wipe_upd {is : List Nat} {σ σ' : L2.St} (h : Upd is (L2.wipe σ is) σ') : L2.wipe σ' is = L2.wipe σ is := by
  refine List.ext_getElem? fun j => ?_
  rw [wipe_get σ' j is, wipe_get σ j is]
  by_cases hj : j ∈ is
  · rw [if_pos hj, if_pos hj]
    have hl : σ'.length = σ.length := by rw [h.1, wipe_length]
    by_cases hlt : j < σ.length
    · rw [List.getElem?_eq_getElem hlt, List.getElem?_eq_getElem (by omega)]; rfl
    · rw [List.getElem?_eq_none (by omega), List.getElem?_eq_none (by omega)]
  · rw [if_neg hj, if_neg hj, h.2 j hj, wipe_get σ j is, if_neg hj]
end

/-! ### what is walked -/
section
variable {X : Cx} {K : PySem.W.Frag} {CA : Nat → Addr} {F R H : Hp} {μ : Mu}
theorem wk_lst {a : Addr} {vs : List V} {ds : List D} (h : SqL K F a vs) (x : DxA K CA F vs ds) : Wk K CA F (Itl K a) ds := by
  intro G R μ H g s i
  have sq : SqL K H a vs := s.f.seq (g.seq h)
  refine ⟨fun hi => ⟨vs, sq, by rw [x.length]; exact hi⟩, fun d hd => ?_⟩
  obtain ⟨u, h1, h2⟩ := x.get hd
  refine ⟨⟨vs, u, sq, h1⟩, fun y H' q => ?_⟩
  obtain ⟨e, q⟩ := q
  subst e
  have z := q vs sq
  rw [h1] at z; cases z
  exact ⟨G, Same.refl G, s, h2.mono g⟩
theorem wk_tup {a : Addr} {vs : List V} {ds : List D} (h : SqT K F a vs) (x : DxA K CA F vs ds) : Wk K CA F (Itt K a) ds := by
  intro G R μ H g s i
  have sq : SqT K H a vs := seqT s.f (seqT g h)
  refine ⟨fun hi => ⟨vs, sq, by rw [x.length]; exact hi⟩, fun d hd => ?_⟩
  obtain ⟨u, h1, h2⟩ := x.get hd
  refine ⟨⟨vs, u, sq, h1⟩, fun y H' q => ?_⟩
  obtain ⟨e, q⟩ := q
  subst e
  have z := q vs sq
  rw [h1] at z; cases z
  exact ⟨G, Same.refl G, s, h2.mono g⟩
theorem rngD_len (lo : Int) (n : Nat) : (rngD lo n).length = n := by simp [rngD]
theorem wk_rng (lo : Int) (n : Nat) : Wk K CA F (Itr lo n) (rngD lo n) := by
  intro G R μ H g s i
  refine ⟨fun hi => by rw [rngD_len] at hi; exact hi, fun d hd => ?_⟩
  have hi : i < n := by
    have := (List.getElem?_eq_some_iff.mp hd).1
    rw [rngD_len] at this; exact this
  refine ⟨hi, fun y H' q => ?_⟩
  obtain ⟨e, q⟩ := q
  subst e
  have e2 : d = .int (lo + (i : Int)) := by
    unfold rngD at hd
    rw [List.getElem?_map, List.getElem?_range hi] at hd
    exact (Option.some.inj hd).symm
  subst q e2
  exact ⟨G, Same.refl G, s, .int _⟩
theorem zipD_at {xs ys : List D} {i : Nat} {d : D} (h : (zipD xs ys)[i]? = some d) : ∃ x y, xs[i]? = some x ∧ ys[i]? = some y ∧ d = .tup [x, y] := by
  unfold zipD at h
  rw [List.getElem?_zipWith] at h
  cases e1 : xs[i]? with
  | none => rw [e1] at h; cases h
  | some x =>
    cases e2 : ys[i]? with
    | none => rw [e1, e2] at h; cases h
    | some y =>
      rw [e1, e2] at h
      exact ⟨x, y, rfl, rfl, (Option.some.inj h).symm⟩
theorem wk_zipL {a b : Addr} {vs us : List V} {ds es : List D} (h : SqL K F a vs) (x : DxA K CA F vs ds) (h' : SqL K F b us) (x' : DxA K CA F us es) : Wk K CA F (Itz K a b) (zipD ds es) := by
  intro G R μ H g s i
  have sq : SqL K H a vs := s.f.seq (g.seq h)
  have sq' : SqL K H b us := s.f.seq (g.seq h')
  refine ⟨fun hi => ⟨vs, us, sq, sq', ?_⟩, fun d hd => ?_⟩
  · simp only [zipD, List.length_zipWith] at hi
    rw [x.length, x'.length]
    omega
  · obtain ⟨p, q, e1, e2, rfl⟩ := zipD_at hd
    obtain ⟨u, h1, h2⟩ := x.get e1
    obtain ⟨w, h3, h4⟩ := x'.get e2
    refine ⟨⟨vs, us, u, w, sq, sq', h1, h3⟩, fun y H' z => ?_⟩
    obtain ⟨T, a1, a2, rfl, hT, rfl, z1, z2⟩ := z
    have q1 := z1 vs sq
    have q2 := z2 us sq'
    rw [h1] at q1; cases q1
    rw [h3] at q2; cases q2
    have sn : Same G (upd G T (.tup [u, w])) := same_new (s.ff hT)
    exact ⟨_, sn, s.new hT, .tup (.of upd_same) (.cons ((h2.mono g).mono sn) (.cons ((h4.mono g).mono sn) .nil))⟩
theorem wk_zipT {a b : Addr} {vs us : List V} {ds es : List D} (h : SqT K F a vs) (x : DxA K CA F vs ds) (h' : SqT K F b us) (x' : DxA K CA F us es) : Wk K CA F (RZ.ItzT K a b) (zipD ds es) := by
  intro G R μ H g s i
  have sq : SqT K H a vs := seqT s.f (seqT g h)
  have sq' : SqT K H b us := seqT s.f (seqT g h')
  refine ⟨fun hi => ⟨vs, us, sq, sq', ?_⟩, fun d hd => ?_⟩
  · simp only [zipD, List.length_zipWith] at hi
    rw [x.length, x'.length]
    omega
  · obtain ⟨p, q, e1, e2, rfl⟩ := zipD_at hd
    obtain ⟨u, h1, h2⟩ := x.get e1
    obtain ⟨w, h3, h4⟩ := x'.get e2
    refine ⟨⟨vs, us, u, w, sq, sq', h1, h3⟩, fun y H' z => ?_⟩
    obtain ⟨T, a1, a2, rfl, hT, rfl, z1, z2⟩ := z
    have q1 := z1 vs sq
    have q2 := z2 us sq'
    rw [h1] at q1; cases q1
    rw [h3] at q2; cases q2
    have sn : Same G (upd G T (.tup [u, w])) := same_new (s.ff hT)
    exact ⟨_, sn, s.new hT, .tup (.of upd_same) (.cons ((h2.mono g).mono sn) (.cons ((h4.mono g).mono sn) .nil))⟩
/-- a list or a tuple, walked -/
def iSeq (K : PySem.W.Frag) (tl : TE) : TI := fun σ H Rk => tl σ H fun x H1 => ∃ a, x = .ref a ∧ (((∃ xs, SqL K H1 a xs) ∧ Rk (Itl K a) H1) ∨ ((∃ xs, SqT K H1 a xs) ∧ Rk (Itt K a) H1))
theorem pi_seq {tg l : Expr} {tl : TE} (hl : PE X l tl) : PI X tg l (iSeq X.K tl) := by
  refine ⟨fun pins s σ H Rk I h => thn (hl.run pins s σ H _ I h) fun v s1 hv => ?_⟩
  obtain ⟨x, H1, I1, r1, a, ex, q⟩ := hv
  subst ex
  cases r1
  have fpk : ∀ b ∈ [s1.heap.objs.size], FpOk X pins H1 b := fun b hb => by
    have eb : b = s1.heap.objs.size := by simpa using hb
    rw [eb]
    exact I1.fpOk (Nat.le_refl _) (I1.hok.fresh (Nat.le_refl _))
  rcases q with ⟨⟨xs, hq⟩, q⟩ | ⟨⟨xs, hq⟩, q⟩
  · obtain ⟨its, _, pl, _⟩ := I1.list hq
    exact wpAny_pyIter_list pl.isList ⟨s1.heap.objs.size, [s1.heap.objs.size], _, _, H1, rfl, I1.kept (t' := s1.toks) fun _ _ e => Heap.get?_push_of_some _ e, turn_list a _, ⟨_, Heap.get?_push_size _ rfl, rfl, rfl⟩, fpk, q⟩
  · obtain ⟨its, _, pl, _⟩ := I1.tuple hq
    exact wpAny_pyIter_tuple (show s1.heap.IsTuple a its.toArray from pl) ⟨s1.heap.objs.size, [s1.heap.objs.size], _, _, H1, rfl, I1.kept (t' := s1.toks) fun _ _ e => Heap.get?_push_of_some _ e, turn_tuple a _, ⟨_, Heap.get?_push_size _ rfl, rfl, rfl⟩, fpk, q⟩
end
end Dl

namespace Dl
open PySem PySem.Spec PyProof.Rows L2 HT
section
variable {prog : Program} {w : World} {A : Around} {E : Value → Shared → Prop} {s : Shared}
theorem adjust_rev (n : Nat) : Builtin.Slice.sliceAdjust none none (-1) (n : Int) = ((n : Int) - 1, -1) := by
  unfold Builtin.Slice.sliceAdjust
  have h1 : ((-1 : Int) < 0) := by omega
  simp only [h1, if_true]
theorem places_rev (n : Nat) : Builtin.Slice.slicePlaces ((n : Int) - 1) (-1) (-1) = n := by
  unfold Builtin.Slice.slicePlaces
  have h1 : ¬ ((-1 : Int) > 0) := by omega
  simp only [h1, if_false]
  split
  · have : ((n : Int) - 1 - -1 - 1) / (- -1) + 1 = (n : Int) := by
      have e : (- -1 : Int) = 1 := by omega
      rw [e, Int.ediv_one]; omega
    rw [this]; simp
  · omega
theorem sliceApplied_rev {sl : Addr} {vl vu vs : Value} {n : Nat} {Q : Int × Int × Nat → Shared → Prop} (hs : s.heap.IsSliceOf sl vl vu vs) (pl : IsPart vl none) (pu : IsPart vu none) (ps : IsPart vs (some (-1)))
    (h : Q ((n : Int) - 1, -1, n) s) : wpAny (model prog w) A (Builtin.Slice.sliceApplied (.ref sl) (pure (n : Int))) Q E s := by
  obtain ⟨os, hos, hcs, hds⟩ := id hs
  unfold Builtin.Slice.sliceApplied Builtin.Slice.sliceFields
  refine wpAny_bind (wpAny_bind (wpAny_field hos hds (x := vl) rfl (wpAny_bind (wpAny_field hos hds (x := vu) rfl (wpAny_bind (wpAny_field hos hds (x := vs) rfl (wpAny_pure ?_)))))))
  refine wpAny_bind (slicePart_ ps ?_)
  show wpAny _ _ (if ((-1 : Int) == 0) = true then _ else _) _ _ s
  rw [if_neg (by decide)]
  refine wpAny_bind (slicePart_ pl (wpAny_bind (slicePart_ pu (wpAny_bind (wpAny_pure ?_)))))
  show wpAny _ _ (match Builtin.Slice.sliceAdjust none none (-1) (n : Int) with | (lo, hi) => pure (lo, (-1 : Int), Builtin.Slice.slicePlaces lo hi (-1))) _ _ s
  rw [adjust_rev n]
  show wpAny _ _ (pure ((n : Int) - 1, (-1 : Int), Builtin.Slice.slicePlaces ((n : Int) - 1) (-1) (-1))) _ _ s
  rw [places_rev]
  exact wpAny_pure h
theorem fm_map {α β : Type} {f : α → Option β} {g : α → β} : ∀ l : List α, (∀ m ∈ l, f m = some (g m)) → l.filterMap f = l.map g
  | [], _ => rfl
  | a :: l, h => by
    rw [List.filterMap_cons, h a (by simp), fm_map l fun m hm => h m (by simp [hm])]
    rfl
theorem pick_rev (xs : Array Value) : ((List.range xs.size).filterMap fun (m : Nat) => xs[(((xs.size : Int) - 1) + (m : Int) * (-1)).toNat]?).toArray = xs.toList.reverse.toArray := by
  congr 1
  have e : (List.range xs.size).filterMap (fun (m : Nat) => xs[(((xs.size : Int) - 1) + (m : Int) * (-1)).toNat]?) = (List.range xs.size).map fun m => xs.toList.reverse.getD m .none := by
    refine fm_map _ fun m hm => ?_
    have hm := List.mem_range.mp hm
    have h1 : (((xs.size : Int) - 1) + (m : Int) * (-1)).toNat = xs.size - 1 - m := by omega
    rw [h1]
    simp [List.getD, List.getElem?_reverse, hm]
  rw [e]
  refine List.ext_getElem (by simp) fun i h1 h2 => ?_
  simp at h1 h2
  simp [List.getD, h1]
theorem getItem_tuple_rev {t sl : Addr} {items : Array Value} {vl vu vs : Value} {Q : Value → Shared → Prop} (ht : IsTup s.heap t items) (hs : s.heap.IsSliceOf sl vl vu vs) (pl : IsPart vl none) (pu : IsPart vu none) (ps : IsPart vs (some (-1)))
    (h : Q (.ref s.heap.objs.size) { s with heap := s.heap.push { cls := .type "tuple", data := .seq items.toList.reverse.toArray } })
    (hsz : items.size ≤ sizeLine) : wpAny (model prog w) A (getItem (.ref t) (.ref sl)) Q E s := by
  have htake : sizeOk (.seq items.toList.reverse.toArray) := by
    show items.toList.reverse.toArray.size ≤ sizeLine
    rw [List.size_toArray, List.length_reverse, Array.length_toList]
    omega
  obtain ⟨os, hos, hcs, hds⟩ := id hs
  have hTs : s.TypeIs (.ref sl) "slice" := ⟨os, hos, hcs⟩
  unfold getItem
  try with_reducible refine wpAny_holding ?_
  first | refine wpAny_bind (wpAny_pure ?_) | skip
  refine wpAny_bind (wpAny_sequenceKey ht.typeIs (by decide) ?_)
  refine wpAny_bind (wpAny_callSpecial?_slot (name := Str.ofString "__getitem__") ht.typeIs PyProof.Rows.slot_tuple_getitem
    (wpAny_call_entry PyProof.Rows.slot_tuple_getitem ht.typeIs entry_tuple_getitem ?_ (args_tuple_getitem _ _)))
  show wpAny _ _ (Builtin.Tuple.tupleItemsOf (.ref t) >>= _) _ _ s
  refine wpAny_bind (tupleItemsOf_ ht ?_)
  refine wpAny_bind (wpAny_typeOf hTs ?_)
  rw [if_pos (by decide)]
  refine wpAny_bind (sliceApplied_rev hs pl pu ps ?_)
  have hno : ¬ ((((items.size : Int) - 1) == 0 && (-1 : Int) == 1 && items.size == items.size) = true) := by simp
  show wpAny _ _ (if ((((items.size : Int) - 1) == 0 && (-1 : Int) == 1 && items.size == items.size) = true) then _ else _) _ _ s
  rw [if_neg hno, pick_rev]
  first
    | exact wpAny_bind (m := Builtin.Tuple.tupleExact _) (wpAny_newObj_type (wpAny_pure ⟨_, rfl, wpAny_pure h⟩) htake)
    | exact wpAny_bind (m := Builtin.Tuple.tupleExact _) (wpAny_newObj_type (wpAny_bind (wpAny_pure (wpAny_pure ⟨_, rfl, wpAny_pure h⟩))) htake)
    | exact wpAny_bind (wpAny_bind (m := Builtin.Tuple.tupleExact _) (wpAny_newObj_type (wpAny_pure (wpAny_pure ⟨_, rfl, wpAny_pure h⟩)) htake))
    | exact wpAny_bind (wpAny_bind (m := Builtin.Tuple.tupleExact _) (wpAny_newObj_type (wpAny_pure ⟨_, rfl, wpAny_pure h⟩) htake))
end
section
variable {X : Cx}
def tRevB (K : PySem.W.Frag) (te : TE) : TE := fun σ H Q => te σ H fun x H1 => (∃ a xs, x = .ref a ∧ SqL K H1 a xs ∧ ∀ p, H1 p = none → Q (.ref p) (upd H1 p (.lst xs.reverse))) ∨ (∃ a xs, x = .ref a ∧ SqT K H1 a xs ∧ ∀ p, H1 p = none → Q (.ref p) (upd H1 p (.tup xs.reverse)))
theorem pe_revB {e : Expr} {te : TE} {k : Nat} {p1 p2 p3 pos : Pos} (he : PE X e te) : PE X (.Subscript e (.Slice none none (some (.UnaryOp .USub (.Constant (.int 1) k p1) p2)) p3) pos) (tRevB X.K te) := by
  refine ⟨fun pins s σ H Q I h => ?_⟩
  refine Subscript_ (thn (he.run pins s σ H _ I h) fun v s1 ⟨x, H1, I1, r1, q1⟩ => ?_)
  have hst : PO X (some (.UnaryOp .USub (.Constant (.int 1) k p1) p2)) (tPart (tUn (rU fun i => .int (-i)) (tC (.int 1)))) := po_some (pe_un un_neg pe_int)
  refine wpAny_Slice (thn (po_none.run pins s1 σ H1 (fun o H2 => o = none ∧ H2 = H1) I1 ⟨rfl, rfl⟩) fun vl s2 ⟨l, H2, I2, pl, el, e2⟩ => ?_)
  subst el e2
  refine thn (po_none.run pins s2 σ H2 (fun o H3 => o = none ∧ H3 = H2) I2 ⟨rfl, rfl⟩) fun vu s3 ⟨u, H3, I3, pu, eu, e3⟩ => ?_
  subst eu e3
  refine thn (hst.run pins s3 σ H3 (fun o H4 => o = some (-1) ∧ H4 = H3) I3 ⟨1, rfl, -1, rfl, rfl, rfl⟩) fun vs s4 ⟨o, H4, I4, ps, eo, e4⟩ => ?_
  subst eo e4
  have I5 : Inv X pins σ H4 { s4 with heap := s4.heap.push { cls := .type "slice", data := .fields #[vl, vu, vs] } } := I4.kept (t' := s4.toks) fun b ob q => Heap.get?_push_of_some _ q
  rcases q1 with ⟨a, xs, ex, hx, q⟩ | ⟨a, xs, ex, hx, q⟩
  · subst ex
    cases r1
    obtain ⟨its, r, ht, hz⟩ := I5.list hx
    have hlen := r.length
    show wpAny (model X.prog X.w) X.A (subscriptTail e (.Slice none none (some (.UnaryOp .USub (.Constant (.int 1) k p1) p2)) p3) (.ref a) (.ref s4.heap.objs.size)) (EP X pins σ Q) X.xe { s4 with heap := s4.heap.push { cls := .type "slice", data := .fields #[vl, vu, vs] } }
    refine tail_any (ops := [.ref a, .ref s4.heap.objs.size]) ht.isList.typeIs (PySem.slot_list_getitem.lookup) ?_ (by with_unfolding_all rfl)
    refine wpAny_getItem_list_slice ht.isList (Heap.IsSliceOf.new _ vl vu vs) pl pu ps (by decide) ?_ (by rw [List.size_toArray]; omega)
    rw [PySem.W.krv_pick]
    refine ⟨.ref _, _, I5.laid (t' := s4.toks) (o := .lst xs.reverse) (fun b ob q => Heap.get?_push_of_some _ q) (Nat.le_refl _) ?_, rfl, q _ (I5.hok.fresh (Nat.le_refl _))⟩
    exact ⟨by rw [List.length_reverse]; exact hz, _, 0, r.reverse, Heap.get?_push_size _ rfl⟩
  · subst ex
    cases r1
    obtain ⟨its, r, ht, hz⟩ := I5.tuple hx
    have hlen := r.length
    show wpAny (model X.prog X.w) X.A (subscriptTail e (.Slice none none (some (.UnaryOp .USub (.Constant (.int 1) k p1) p2)) p3) (.ref a) (.ref s4.heap.objs.size)) (EP X pins σ Q) X.xe { s4 with heap := s4.heap.push { cls := .type "slice", data := .fields #[vl, vu, vs] } }
    refine tail_any (ops := [.ref a, .ref s4.heap.objs.size]) ht.typeIs (PyProof.Rows.slot_tuple_getitem.lookup) ?_ (by with_unfolding_all rfl)
    refine getItem_tuple_rev ht (Heap.IsSliceOf.new _ vl vu vs) pl pu ps ?_ (by rw [List.size_toArray]; omega)
    refine ⟨.ref _, _, I5.laid (t' := s4.toks) (o := .tup xs.reverse) (fun b ob q => Heap.get?_push_of_some _ q) (Nat.le_refl _) ?_, rfl, q _ (I5.hok.fresh (Nat.le_refl _))⟩
    exact ⟨by rw [List.length_reverse]; exact hz, _, r.reverse, IsTup.new _ _⟩
end
end Dl

/-! The data layer, part Eb: zip of two things that are told by what their iterators do. -/
namespace Dl
open PySem PySem.Spec PyProof.Rows L2
/-- it is an iterator along the thing at l, with the items xs; P tells where it stands -/
structure Src (prog : Program) (w : World) (it l : Addr) (xs : Array Value) (P : Heap → Nat → Prop) : Prop where
  keep : ∀ {h h' : Heap} {k : Nat}, P h k → (∀ o, h.get? it = some o → h'.get? it = some o) → (∀ o, h.get? l = some o → h'.get? l = some o) → P h' k
  lt : ∀ {h : Heap} {k : Nat}, P h k → it < h.objs.size
  item : ∀ {A : Around} {E : Value → Shared → Prop} {s : Shared} {k : Nat} {x : Value} {Q : Value → Shared → Prop}, P s.heap k → xs[k]? = some x → (∀ h', P h' (k + 1) → Heap.SameBut it s.heap h' → Q x { s with heap := h' }) → wpAny (model prog w) A (Builtin.SmallTypes.nextOf (.ref it)) Q E s
  done : ∀ {A : Around} {E : Value → Shared → Prop} {s : Shared} {k : Nat} {Q : Value → Shared → Prop}, A.handled = none → P s.heap k → xs[k]? = none → (∀ h' e, Heap.ExtBut it s.heap h' → (∃ o, h'.get? e = some o ∧ o.cls = .type "StopIteration") → E (.ref e) { s with heap := h' }) → wpAny (model prog w) A (Builtin.SmallTypes.nextOf (.ref it)) Q E s
variable {prog : Program} {w : World}
theorem src_list {it l : Addr} {xs : Array Value} (hl : l ≠ it) : Src prog w it l xs fun h k => h.IsListIter it l k ∧ h.IsList l xs where
  keep := fun ⟨a, b⟩ e1 e2 => ⟨by obtain ⟨o, ho, r⟩ := a; exact ⟨o, e1 _ ho, r⟩, b.at e2⟩
  lt := fun ⟨a, _⟩ => by obtain ⟨_, e, _⟩ := a; exact Heap.lt_size e
  item := fun ⟨a, b⟩ hx q => wpAny_nextOf_list_item a b hx fun h' a' s' => q h' ⟨a', b.extBut s'.extBut hl⟩ s'
  done := fun hh ⟨a, b⟩ hx q => wpAny_nextOf_list_end hh a b hx q
theorem src_tuple {it l : Addr} {xs : Array Value} (hl : l ≠ it) : Src prog w it l xs fun h k => h.IsTupleIter it l k ∧ h.IsTuple l xs where
  keep := fun ⟨a, b⟩ e1 e2 => ⟨a.at e1, b.at e2⟩
  lt := fun ⟨a, _⟩ => by obtain ⟨_, e, _⟩ := a; exact Heap.lt_size e
  item := fun ⟨a, b⟩ hx q => RZ.nextOf_tuple_item a b hx fun h' a' s' => q h' ⟨a', b.extBut s'.extBut hl⟩ s'
  done := fun hh ⟨a, b⟩ hx q => RZ.nextOf_tuple_end hh a b hx q
section
variable {A : Around} {E : Value → Shared → Prop} {s : Shared} {z TI TO i1 i2 l1 l2 : Addr} {k1 k2 : Nat} {xs ys : Array Value} {P1 P2 : Heap → Nat → Prop} {a b : Value}
theorem zg_item {x y : Value} {Q : Value → Shared → Prop} (D : ZipApart z TI TO i1 i2 l1 l2) (S1 : Src prog w i1 l1 xs P1) (S2 : Src prog w i2 l2 ys P2)
    (hz : IsZip s.heap z TI TO .none) (hTI : IsPair s.heap TI (.ref i1) (.ref i2)) (hTO : IsPair s.heap TO a b)
    (h1 : P1 s.heap k1) (h2 : P2 s.heap k2) (hx : xs[k1]? = some x) (hy : ys[k2]? = some y)
    (hQ : ∀ h', IsZip h' z TI TO (rawInt s.heap.objs.size) → IsPair h' TO x y → P1 h' (k1 + 1) → P2 h' (k2 + 1) → IsPair h' s.heap.objs.size x y → h'.objs.size = s.heap.objs.size + 1 →
      (∀ c o, c ≠ z → c ≠ TO → c ≠ i1 → c ≠ i2 → s.heap.get? c = some o → h'.get? c = some o) → Q (.ref s.heap.objs.size) { s with heap := h' }) :
    wpAny (model prog w) A (Builtin.«zip.__next__» ⟨[.ref z], []⟩) (fun fin s' => ∃ v, fin = .done (.ret v) ∧ Q v s') E s := by
  show wpAny _ _ (field (.ref z) 2 >>= _) _ _ _
  refine wpAny_bind (wpAny_field hz rfl (x := .bool false) rfl ?_)
  show wpAny _ _ (field (.ref z) 3 >>= _) _ _ _
  refine wpAny_bind (wpAny_field hz rfl (x := .ref TI) rfl (wpAny_bind (wpAny_seqItems hTI rfl ?_)))
  show wpAny _ _ (Builtin.SmallTypes.ownedTupleIsFree (.ref z) >>= _) _ _ _
  refine wpAny_bind ?_
  unfold Builtin.SmallTypes.ownedTupleIsFree
  refine wpAny_bind (wpAny_field hz rfl (x := .none) rfl (wpAny_pure ?_))
  simp only [if_true]
  refine wpAny_bind (wpAny_rule (wpAny_bind (wpAny_field hz rfl (x := .ref TO) rfl (wpAny_bind (wpAny_setField_rec hz (by simp) fun ha za sa => ?_)))))
  replace za : IsZip ha z TI TO .ellipsis := za
  refine wpAny_bind ?_
  simp only [List.zipIdx_cons, List.zipIdx_nil, List.forIn_cons, List.forIn_nil]
  refine wpAny_bind (wpAny_bind (wpAny_onRaise ?_))
  show wpAny _ _ (Builtin.SmallTypes.nextOf (.ref i1) >>= _) _ _ _
  have up {h h' : Heap} {c : Addr} (e : Heap.SameBut c h h') {d : Addr} (n : d ≠ c) : ∀ o, h.get? d = some o → h'.get? d = some o := fun o q => e.extBut _ _ n q
  refine wpAny_bind (S1.item (S1.keep h1 (up sa D.i1z) (up sa D.l1z)) hx fun hb p1 sb => wpAny_pure ?_)
  have tb : IsPair hb TO a b := up sb D.TOi1 _ (up sa D.TOz _ hTO)
  refine wpAny_bind (wpAny_seqItems tb rfl (wpAny_bind (wpAny_updateSeq_pair tb fun hc tc sc => ?_)))
  replace tc : IsPair hc TO x b := tc
  refine wpAny_bind (wpAny_letGo (wpAny_pure (wpAny_bind (wpAny_bind (wpAny_onRaise ?_)))))
  show wpAny _ _ (Builtin.SmallTypes.nextOf (.ref i2) >>= _) _ _ _
  refine wpAny_bind (S2.item (S2.keep (S2.keep (S2.keep h2 (up sa D.i2z) (up sa D.l2z)) (up sb D.i12.symm) (up sb D.l2i1)) (up sc D.TOi2.symm) (up sc D.l2TO)) hy fun hd p2 sd => wpAny_pure ?_)
  have td : IsPair hd TO x b := up sd D.TOi2 _ tc
  refine wpAny_bind (wpAny_seqItems td rfl (wpAny_bind (wpAny_updateSeq_pair td fun he te se => ?_)))
  replace te : IsPair he TO x y := te
  refine wpAny_bind (wpAny_letGo (wpAny_pure (wpAny_pure (wpAny_bind (wpAny_seqItems te rfl (wpAny_bind (wpAny_newTuple ?_)))))))
  have hsz : he.objs.size = s.heap.objs.size := by rw [se.1, sd.1, sc.1, sb.1, sa.1]
  have ze : IsZip he z TI TO .ellipsis := up se D.TOz.symm _ (up sd D.i2z.symm _ (up sc D.TOz.symm _ (up sb D.i1z.symm _ za)))
  have kp : ∀ c o, c ≠ z → c ≠ TO → c ≠ i1 → c ≠ i2 → s.heap.get? c = some o → he.get? c = some o := fun c o c1 c2 c3 c4 e => up se c2 _ (up sd c4 _ (up sc c2 _ (up sb c3 _ (up sa c1 _ e))))
  have q1 : P1 he (k1 + 1) := S1.keep (S1.keep (S1.keep p1 (up sc D.TOi1.symm) (up sc D.l1TO)) (up sd D.i12) (up sd D.l1i2)) (up se D.TOi1.symm) (up se D.l1TO)
  have q2 : P2 he (k2 + 1) := S2.keep p2 (up se D.TOi2.symm) (up se D.l2TO)
  have zl : z < he.objs.size := Heap.lt_size ze
  show wpAny _ _ (Builtin.SmallTypes.ownedTupleHandOut (.ref z) (.ref he.objs.size) >>= _) _ _ _
  refine wpAny_bind ?_
  unfold Builtin.SmallTypes.ownedTupleHandOut
  have zf : IsZip (he.push { cls := .type "tuple", data := .seq #[x, y] }) z TI TO .ellipsis := Heap.get?_push_of_some _ ze
  refine wpAny_bind (wpAny_setField_rec zf (by simp) fun hg zg sg => ?_)
  replace zg : IsZip hg z TI TO (rawInt he.objs.size) := zg
  refine wpAny_setField_rec zg (by simp) fun hj zj sj => ?_
  replace zj : IsZip hj z TI TO (rawInt he.objs.size) := zj
  have ue : ∀ c o, c ≠ z → he.get? c = some o → hj.get? c = some o := fun c o c1 e => up sj c1 _ (up sg c1 _ (Heap.get?_push_of_some _ e))
  have tj : IsPair hj he.objs.size x y := up sj (Nat.ne_of_gt zl) _ (up sg (Nat.ne_of_gt zl) _ (Heap.get?_push_size _ rfl))
  have zs : hj.objs.size = he.objs.size + 1 := by rw [sj.1, sg.1, Heap.size_push]
  rw [hsz] at zj tj zs
  refine wpAny_pure ⟨_, rfl, ?_⟩
  show Q (.ref he.objs.size) _
  rw [hsz]
  exact hQ hj zj (ue _ _ D.TOz te) (S1.keep q1 (fun o e => ue _ o D.i1z e) fun o e => ue _ o D.l1z e) (S2.keep q2 (fun o e => ue _ o D.i2z e) fun o e => ue _ o D.l2z e) tj zs fun c o c1 c2 c3 c4 e => ue c o c1 (kp c o c1 c2 c3 c4 e)
theorem zg_end {Q : Fin → Shared → Prop} (hh : A.handled = none) (D : ZipApart z TI TO i1 i2 l1 l2) (S1 : Src prog w i1 l1 xs P1) (S2 : Src prog w i2 l2 ys P2)
    (hz : IsZip s.heap z TI TO .none) (hTI : IsPair s.heap TI (.ref i1) (.ref i2)) (hTO : IsPair s.heap TO a b)
    (h1 : P1 s.heap k1) (h2 : P2 s.heap k2) (hend : xs[k1]? = none ∨ ys[k2]? = none)
    (hE : ∀ h' e, (∀ c o, c ≠ z → c ≠ TO → c ≠ i1 → c ≠ i2 → s.heap.get? c = some o → h'.get? c = some o) → (∃ o, h'.get? e = some o ∧ o.cls = .type "StopIteration") → E (.ref e) { s with heap := h' }) :
    wpAny (model prog w) A (Builtin.«zip.__next__» ⟨[.ref z], []⟩) Q E s := by
  show wpAny _ _ (field (.ref z) 2 >>= _) _ _ _
  refine wpAny_bind (wpAny_field hz rfl (x := .bool false) rfl ?_)
  show wpAny _ _ (field (.ref z) 3 >>= _) _ _ _
  refine wpAny_bind (wpAny_field hz rfl (x := .ref TI) rfl (wpAny_bind (wpAny_seqItems hTI rfl ?_)))
  show wpAny _ _ (Builtin.SmallTypes.ownedTupleIsFree (.ref z) >>= _) _ _ _
  refine wpAny_bind ?_
  unfold Builtin.SmallTypes.ownedTupleIsFree
  refine wpAny_bind (wpAny_field hz rfl (x := .none) rfl (wpAny_pure ?_))
  simp only [if_true]
  refine wpAny_bind (wpAny_rule (wpAny_bind (wpAny_field hz rfl (x := .ref TO) rfl (wpAny_bind (wpAny_setField_rec hz (by simp) fun ha za sa => ?_)))))
  replace za : IsZip ha z TI TO .ellipsis := za
  refine wpAny_bind ?_
  simp only [List.zipIdx_cons, List.zipIdx_nil, List.forIn_cons, List.forIn_nil]
  refine wpAny_bind (wpAny_bind (wpAny_onRaise ?_))
  show wpAny _ _ (Builtin.SmallTypes.nextOf (.ref i1) >>= _) _ _ _
  have up {h h' : Heap} {c : Addr} (e : Heap.SameBut c h h') {d : Addr} (n : d ≠ c) : ∀ o, h.get? d = some o → h'.get? d = some o := fun o q => e.extBut _ _ n q
  have g1 := S1.keep h1 (up sa D.i1z) (up sa D.l1z)
  cases hx : xs[k1]? with
  | none =>
    refine wpAny_bind (S1.done hh g1 hx fun hb e xb he => ?_)
    obtain ⟨oe, hoe, hce⟩ := he
    have zb : IsZip hb z TI TO .ellipsis := xb _ _ D.i1z.symm za
    have hez : e ≠ z := fun x => by subst x; rw [zb] at hoe; cases hoe; simp at hce
    refine wpAny_setField_rec zb (by simp) fun hc _ sc => hE hc e (fun c o c1 _ c3 _ x => up sc c1 _ (xb _ _ c3 (up sa c1 _ x))) ⟨oe, up sc hez _ hoe, hce⟩
  | some x =>
    have hy : ys[k2]? = none := by rcases hend with h | h; rw [hx] at h; cases h; exact h
    refine wpAny_bind (S1.item g1 hx fun hb p1 sb => wpAny_pure ?_)
    have tb : IsPair hb TO a b := up sb D.TOi1 _ (up sa D.TOz _ hTO)
    refine wpAny_bind (wpAny_seqItems tb rfl (wpAny_bind (wpAny_updateSeq_pair tb fun hc tc sc => ?_)))
    refine wpAny_bind (wpAny_letGo (wpAny_pure (wpAny_bind (wpAny_bind (wpAny_onRaise ?_)))))
    show wpAny _ _ (Builtin.SmallTypes.nextOf (.ref i2) >>= _) _ _ _
    refine wpAny_bind (S2.done hh (S2.keep (S2.keep (S2.keep h2 (up sa D.i2z) (up sa D.l2z)) (up sb D.i12.symm) (up sb D.l2i1)) (up sc D.TOi2.symm) (up sc D.l2TO)) hy fun hd e xd he => ?_)
    obtain ⟨oe, hoe, hce⟩ := he
    have zd : IsZip hd z TI TO .ellipsis := xd _ _ D.i2z.symm (up sc D.TOz.symm _ (up sb D.i1z.symm _ za))
    have hez : e ≠ z := fun x => by subst x; rw [zd] at hoe; cases hoe; simp at hce
    refine wpAny_setField_rec zd (by simp) fun hf _ sf => hE hf e (fun c o c1 c2 c3 c4 x => up sf c1 _ (xd _ _ c4 (up sc c2 _ (up sb c3 _ (up sa c1 _ x))))) ⟨oe, up sf hez _ hoe, hce⟩
theorem nx_item {x y : Value} {Q : Option Value → Shared → Prop} (D : ZipApart z TI TO i1 i2 l1 l2) (S1 : Src prog w i1 l1 xs P1) (S2 : Src prog w i2 l2 ys P2)
    (hz : IsZip s.heap z TI TO .none) (hTI : IsPair s.heap TI (.ref i1) (.ref i2)) (hTO : IsPair s.heap TO a b)
    (h1 : P1 s.heap k1) (h2 : P2 s.heap k2) (hx : xs[k1]? = some x) (hy : ys[k2]? = some y)
    (hQ : ∀ h', IsZip h' z TI TO (rawInt s.heap.objs.size) → IsPair h' TO x y → P1 h' (k1 + 1) → P2 h' (k2 + 1) → IsPair h' s.heap.objs.size x y → h'.objs.size = s.heap.objs.size + 1 →
      (∀ c o, c ≠ z → c ≠ TO → c ≠ i1 → c ≠ i2 → s.heap.get? c = some o → h'.get? c = some o) → Q (some (.ref s.heap.objs.size)) { s with heap := h' }) : wpAny (model prog w) A (pyNext (.ref z)) Q E s := by
  have hT : s.TypeIs (.ref z) "zip" := ⟨_, hz, rfl⟩
  unfold pyNext
  exact wpAny_bind (wpAny_attempt (wpAny_callSpecial?_slot (name := Str.ofString "__next__") hT F.slot_zip_next
    (wpAny_call_entry F.slot_zip_next hT F.entry_zip_next (zg_item D S1 S2 hz hTI hTO h1 h2 hx hy fun h' a1 a2 a3 a4 a5 a6 a7 => wpAny_pure (hQ h' a1 a2 a3 a4 a5 a6 a7)) (F.args_zip_next_1 _))))
theorem nx_end {Q : Option Value → Shared → Prop} (hh : A.handled = none) (D : ZipApart z TI TO i1 i2 l1 l2) (S1 : Src prog w i1 l1 xs P1) (S2 : Src prog w i2 l2 ys P2)
    (hz : IsZip s.heap z TI TO .none) (hTI : IsPair s.heap TI (.ref i1) (.ref i2)) (hTO : IsPair s.heap TO a b)
    (h1 : P1 s.heap k1) (h2 : P2 s.heap k2) (hend : xs[k1]? = none ∨ ys[k2]? = none)
    (hQ : ∀ h', (∀ c o, c ≠ z → c ≠ TO → c ≠ i1 → c ≠ i2 → s.heap.get? c = some o → h'.get? c = some o) → Q none { s with heap := h' }) : wpAny (model prog w) A (pyNext (.ref z)) Q E s := by
  have hT : s.TypeIs (.ref z) "zip" := ⟨_, hz, rfl⟩
  unfold pyNext
  refine wpAny_bind (wpAny_attempt (wpAny_callSpecial?_slot (name := Str.ofString "__next__") hT F.slot_zip_next
    (wpAny_call_entry F.slot_zip_next hT F.entry_zip_next (zg_end hh D S1 S2 hz hTI hTO h1 h2 hend fun h' e hk he => ?_) (F.args_zip_next_1 _))))
  obtain ⟨o, ho, hc⟩ := he
  exact wpAny_bind (wpAny_isInstance (T := "StopIteration") (b := true) ⟨o, ho, hc⟩ isSubtype_stop (wpAny_pure (hQ _ hk)))
end
abbrev zlA (h : Heap) (l1 : Addr) : Heap := h.push { cls := .type "list_iterator", data := .fields #[.ref l1, .int 0 0] }
abbrev zlB (h : Heap) (l1 l2 : Addr) : Heap := (zlA h l1).push { cls := .type "tuple_iterator", data := .fields #[.ref l2, .int 0 0] }
abbrev zlC (h : Heap) (l1 l2 : Addr) : Heap := (zlB h l1 l2).push { cls := .type "tuple", data := .seq #[.ref h.objs.size, .ref (zlA h l1).objs.size] }
abbrev zlD (h : Heap) (l1 l2 : Addr) : Heap := (zlC h l1 l2).push { cls := .type "tuple", data := .seq #[.none, .none] }
abbrev zlE (h : Heap) (l1 l2 : Addr) : Heap := (zlD h l1 l2).push { cls := .type "zip", data := .fields #[.none, .bool false, .bool false, .ref (zlB h l1 l2).objs.size, .ref (zlC h l1 l2).objs.size] }
theorem meets_zl (l1 l2 : Addr) (xs ys : Array Value) :
    Meets (Builtin.«zip.__new__» ⟨[.type "zip", .ref l1, .ref l2], []⟩) (fun _ R s => s.heap.IsList l1 xs ∧ s.heap.IsTuple l2 ys ∧
      R (.ok (.ret (.ref (zlD s.heap l1 l2).objs.size))) { s with heap := zlE s.heap l1 l2 }) :=
  .of_wp fun prog w A R s h => by
    obtain ⟨hp, g, d, tk, os⟩ := s; obtain ⟨hl1, hl2, h⟩ := h
    have hsub := sub_zip
    have hL1 : Heap.IsList (Shared.heap ⟨hp, g, d, tk, os⟩) l1 xs := hl1
    have hL2 : Heap.IsTuple (Shared.heap ⟨hp.push { cls := .type "list_iterator", data := .fields #[.ref l1, .int 0 0] }, g, d, tk, os⟩) l2 ys := Heap.IsTuple.push hl2 _
    wp_walk using wpAny_pyIter_list hL1, wpAny_pyIter_tuple hL2
    exact ⟨_, rfl, h⟩
theorem call_zl {A : Around} {E : Value → Shared → Prop} {s : Shared} {l1 l2 : Addr} {xs ys : Array Value} {Q : Value → Shared → Prop} (hl1 : s.heap.IsList l1 xs) (hl2 : s.heap.IsTuple l2 ys)
    (h : ∀ h', IsZip h' (s.heap.objs.size + 4) (s.heap.objs.size + 2) (s.heap.objs.size + 3) .none → IsPair h' (s.heap.objs.size + 2) (.ref s.heap.objs.size) (.ref (s.heap.objs.size + 1)) →
      IsPair h' (s.heap.objs.size + 3) .none .none → h'.IsListIter s.heap.objs.size l1 0 → h'.IsTupleIter (s.heap.objs.size + 1) l2 0 →
      (∀ c o, s.heap.get? c = some o → h'.get? c = some o) → Q (.ref (s.heap.objs.size + 4)) { s with heap := h' }) :
    wpAny (model prog w) A (call (.type "zip") [.ref l1, .ref l2]) Q E s := by
  refine callType_new F.called_zip (by decide) (F.typeCall_zip_2 _ _) (F.newCall_zip_2 _ _) (fun obj => F.args_object_init_3 obj _ _) F.entry_zip_new (meets_zl l1 l2 xs ys) ⟨hl1, hl2, ?_⟩
  have a1 : (zlA s.heap l1).objs.size = s.heap.objs.size + 1 := Heap.size_push ..
  have a2 : (zlB s.heap l1 l2).objs.size = s.heap.objs.size + 2 := by rw [Heap.size_push, a1]
  have a3 : (zlC s.heap l1 l2).objs.size = s.heap.objs.size + 3 := by rw [Heap.size_push, a2]
  have a4 : (zlD s.heap l1 l2).objs.size = s.heap.objs.size + 4 := by rw [Heap.size_push, a3]
  have u {h : Heap} {o : Obj} {c : Addr} {q : Obj} (e : h.get? c = some q) : (h.push o).get? c = some q := Heap.get?_push_of_some _ e
  have g5 : (zlE s.heap l1 l2).get? (zlD s.heap l1 l2).objs.size = some _ := Heap.get?_push_size _ rfl
  have g4 : (zlE s.heap l1 l2).get? (zlC s.heap l1 l2).objs.size = some _ := u (Heap.get?_push_size _ rfl)
  have g3 : (zlE s.heap l1 l2).get? (zlB s.heap l1 l2).objs.size = some _ := u (u (Heap.get?_push_size _ rfl))
  have g2 : (zlE s.heap l1 l2).get? (zlA s.heap l1).objs.size = some _ := u (u (u (Heap.get?_push_size _ rfl)))
  have g1 : (zlE s.heap l1 l2).get? s.heap.objs.size = some _ := u (u (u (u (Heap.get?_push_size _ rfl))))
  show _ ∧ _
  rw [a2, a3, a4] at g5
  rw [a1, a2] at g3
  rw [a3] at g4
  rw [a1] at g2
  rw [a4]
  exact ⟨⟨_, g5, rfl⟩, h _ g5 g3 g4 ⟨_, g1, rfl, rfl⟩ ⟨_, g2, rfl, rfl⟩ fun c o x => u (u (u (u (u x))))⟩
/-- the list at a and the tuple at b, the items in new pairs -/
def ItzX (K : PySem.W.Frag) (a b : Addr) : It :=
  ⟨fun i H => ∃ (xs ys : List V) (x y : V), SqL K H a xs ∧ SqT K H b ys ∧ xs[i]? = some x ∧ ys[i]? = some y,
    fun i H v H' => ∃ T x y, v = .ref T ∧ H T = none ∧ H' = upd H T (.tup [x, y]) ∧ (∀ xs, SqL K H a xs → xs[i]? = some x) ∧ ∀ ys, SqT K H b ys → ys[i]? = some y,
    fun i H => ∃ xs ys : List V, SqL K H a xs ∧ SqT K H b ys ∧ (xs.length ≤ i ∨ ys.length ≤ i)⟩
theorem turn_zx {P : Program} {w : World} {K : PySem.W.Frag} {elts : List Expr} {kk : Nat} {tpos : Pos} {a b z TI TO i1 i2 : Addr} (D : ZipApart z TI TO i1 i2 a b) :
    Turn P w K (.Tuple elts kk tpos) (ItzX K a b) [z, TI, TO, i1, i2] z (fun i h => IsZip h z TI TO .none ∧ IsPair h TI (.ref i1) (.ref i2) ∧ (∃ x y, IsPair h TO x y) ∧ h.IsListIter i1 a i ∧ h.IsTupleIter i2 b i) where
  mem := by simp
  obj := fun i h st c hc => by
    obtain ⟨hz, hTI, ⟨x, y, hTO⟩, ⟨o1, e1, _, d1⟩, ⟨o2, e2, _, d2⟩⟩ := st
    have e' : c = z ∨ c = TI ∨ c = TO ∨ c = i1 ∨ c = i2 := by simpa using hc
    rcases e' with q | q | q | q | q <;> rw [q]
    · exact ⟨_, hz, fun v q => nomatch q⟩
    · exact ⟨_, hTI, fun v q => nomatch q⟩
    · exact ⟨_, hTO, fun v q => nomatch q⟩
    · exact ⟨o1, e1, fun v q => by rw [d1] at q; cases q⟩
    · exact ⟨o2, e2, fun v q => by rw [d2] at q; cases q⟩
  keep := fun i h h' st k => by
    obtain ⟨hz, hTI, ⟨x, y, hTO⟩, ⟨o1, h1, r1⟩, h2⟩ := st
    exact ⟨k z (by simp) _ hz, k TI (by simp) _ hTI, ⟨x, y, k TO (by simp) _ hTO⟩, ⟨o1, k i1 (by simp) _ h1, r1⟩, h2.at fun o q => k i2 (by simp) o q⟩
  item := by
    intro X hP hw hK hc i pins s σ H E I hf st hg
    subst hP hw hK
    obtain ⟨hz, hTI, ⟨x0, y0, hTO⟩, h1, h2⟩ := st
    obtain ⟨xs, ys, x, y, hqx, hqy, hx, hy⟩ := hg
    obtain ⟨its, rv, p, _⟩ := I.list hqx
    obtain ⟨its2, rv2, p2, _⟩ := I.tuple hqy
    obtain ⟨u, hu, ru⟩ := rv.get hx
    obtain ⟨u2, hu2, ru2⟩ := rv2.get hy
    have hzl : z < s.heap.objs.size := Heap.lt_size hz
    refine nx_item D (src_list D.l1i1) (src_tuple D.l2i2) hz hTI hTO ⟨h1, p.isList⟩ ⟨h2, show s.heap.IsTuple b its2.toArray from p2⟩ (x := u) (y := u2) (by simpa using hu) (by simpa using hu2) fun h' z' TO' h1' h2' hT hsz hk => ?_
    refine ⟨_, rfl, wpAny_letOwnedTupleGo_zip (s := { s with heap := h' }) z' fun h'' z'' sb => ?_⟩
    have hT2 : h''.get? s.heap.objs.size = some { cls := .type "tuple", data := .seq #[u, u2] } := (sb.2 _ (Nat.ne_of_gt hzl)).trans hT
    have new : ObjOk X.prog X.w (upd H s.heap.objs.size (.tup [x, y])) h'' s.heap.objs.size (.tup [x, y]) :=
      ⟨by show 2 ≤ sizeLine; decide, [u, u2], .cons ru (.cons ru2 .nil), ⟨_, hT2, rfl, _, rfl⟩⟩
    have I1 : Inv X pins σ (upd H s.heap.objs.size (.tup [x, y])) { s with heap := h'' } :=
      I.turnedNew (t' := s.toks) (ch := [z, TI, TO, i1, i2]) (fun c o hb q => (sb.2 c (fun q' => hb (by simp [q']))).trans (hk c o (fun q' => hb (by simp [q'])) (fun q' => hb (by simp [q'])) (fun q' => hb (by simp [q'])) (fun q' => hb (by simp [q'])) q)) hf (Nat.le_refl _) new
    refine ⟨.ref s.heap.objs.size, _, I1, rfl, ⟨_, x, y, rfl, I.hok.fresh (Nat.le_refl _), rfl, fun l hl => by rw [I.list_inj hl hqx]; exact hx, fun l hl => by rw [I.tuple_inj hl hqy]; exact hy⟩, ⟨z'', ?_, ⟨u, u2, ?_⟩, ?_, ?_⟩, fun c hcm => ?_⟩
    · exact (sb.2 _ D.TIz).trans (hk _ _ D.TIz D.TITO D.TIi1 D.TIi2 hTI)
    · exact (sb.2 _ D.TOz).trans TO'
    · obtain ⟨⟨o, ho, r⟩, _⟩ := h1'; exact ⟨o, (sb.2 _ D.i1z).trans ho, r⟩
    · exact h2'.1.at fun o q => (sb.2 _ D.i2z).trans q
    · have hlt : c < s.heap.objs.size := by
        have e' : c = z ∨ c = TI ∨ c = TO ∨ c = i1 ∨ c = i2 := by simpa using hcm
        rcases e' with q | q | q | q | q <;> rw [q]
        · exact hzl
        · exact Heap.lt_size hTI
        · exact Heap.lt_size hTO
        · obtain ⟨_, e1, _⟩ := h1; exact Heap.lt_size e1
        · obtain ⟨_, e2, _⟩ := h2; exact Heap.lt_size e2
      rw [upd_ne (Nat.ne_of_lt hlt)]
      exact (hf c hcm).1
  done := by
    intro X hP hw hK hc i pins s σ H E I hf st hg
    subst hP hw hK
    obtain ⟨hz, hTI, ⟨x0, y0, hTO⟩, h1, h2⟩ := st
    obtain ⟨xs, ys, hqx, hqy, hend⟩ := hg
    obtain ⟨its, rv, p, _⟩ := I.list hqx
    obtain ⟨its2, rv2, p2, _⟩ := I.tuple hqy
    have e1 := rv.length
    have e2 := rv2.length
    have he : its.toArray[i]? = none ∨ its2.toArray[i]? = none := by
      rcases hend with q | q
      · exact .inl (by simp; omega)
      · exact .inr (by simp; omega)
    exact nx_end (I.ok.hd hc) D (src_list D.l1i1) (src_tuple D.l2i2) hz hTI hTO ⟨h1, p.isList⟩ ⟨h2, show s.heap.IsTuple b its2.toArray from p2⟩ he fun h' hk => ⟨rfl, I.turnedL (t' := s.toks) (ch := [z, TI, TO, i1, i2]) (fun c o hb q =>
      hk c o (fun q' => hb (by simp [q'])) (fun q' => hb (by simp [q'])) (fun q' => hb (by simp [q'])) (fun q' => hb (by simp [q'])) q) hf⟩
  self := fun A i s Q E st h => wpAny_pyIter_zip st.1 h
def iZipX (K : PySem.W.Frag) (ta : TA) : TI := fun σ H R => ta σ H fun vs H1 => ∃ a b xs ys, vs = [.ref a, .ref b] ∧ ((SqL K H1 a xs ∧ SqL K H1 b ys ∧ R (Itz K a b) H1) ∨ (SqT K H1 a xs ∧ SqT K H1 b ys ∧ R (RZ.ItzT K a b) H1) ∨ (SqL K H1 a xs ∧ SqT K H1 b ys ∧ R (ItzX K a b) H1))
theorem pi_zipX {X : Cx} {e e2 : Expr} {ta : TA} {p pos tpos : Pos} {elts : List Expr} {kk : Nat} (hg : Gl X "zip") (hm : X.mg "zip" = none) (ha : PA X [e, e2] ta)
    (hs : starEach [e, e2] X.env = (false, eval e X.env) :: starEach [e2] X.env := by rfl) (hpl : (backTo pos (starEach [e2] X.env)).any (·.1) = false := by rfl) :
    PI X (.Tuple elts kk tpos) (.Call (.Name "zip" p) [e, e2] [] pos) (iZipX X.K ta) := by
  refine ⟨fun pins s σ H R I h => ?_⟩
  refine Call_ (ld_blt I hg hm PyProof.Rows.boot_zip (PyProof.Rows.callWith_type1 (thn (ha.run pos pins s σ H _ I h) fun us s1 ⟨vs, H1, I1, r1, q1⟩ => ?_) hs hpl))
  obtain ⟨a, b, xs, ys, ex, q1⟩ := q1
  subst ex
  cases r1 with
  | cons r rr =>
    cases rr with
    | cons r' rr =>
      cases rr
      cases r
      cases r'
      have fresh5 : ∀ c, c ∈ [s1.heap.objs.size + 4, s1.heap.objs.size + 2, s1.heap.objs.size + 3, s1.heap.objs.size, s1.heap.objs.size + 1] → FpOk X pins H1 c := fun c hcm => by
        have e' : c = s1.heap.objs.size + 4 ∨ c = s1.heap.objs.size + 2 ∨ c = s1.heap.objs.size + 3 ∨ c = s1.heap.objs.size ∨ c = s1.heap.objs.size + 1 := by simpa using hcm
        have hle : s1.heap.objs.size ≤ c := by
          rcases e' with z | z | z | z | z <;> rw [z]
          · exact Nat.le_add_right _ _
          · exact Nat.le_add_right _ _
          · exact Nat.le_add_right _ _
          · exact Nat.le_refl _
          · exact Nat.le_add_right _ _
        exact I1.fpOk hle (I1.hok.fresh hle)
      rcases q1 with ⟨hqx, hqy, q⟩ | ⟨hqx, hqy, q⟩ | ⟨hqx, hqy, q⟩
      · obtain ⟨its, rv, p1, _⟩ := I1.list hqx
        obtain ⟨its2, rv2, p2, _⟩ := I1.list hqy
        refine call_zip_2 p1.isList p2.isList fun h' hz hTI hTO h1 h2 hsz hk => wpAny_pyIter_zip hz ?_
        exact ⟨_, _, _, _, H1, rfl, I1.kept (t' := s1.toks) hk, turn_zip (PySem.W.ktu_apart s1.heap.objs.size a b p1.lt p2.lt), ⟨hz, hTI, ⟨_, _, hTO⟩, h1, h2⟩, fresh5, q⟩
      · obtain ⟨its, rv, p1, _⟩ := I1.tuple hqx
        obtain ⟨its2, rv2, p2, _⟩ := I1.tuple hqy
        obtain ⟨o1, ho1, _⟩ := id p1
        obtain ⟨o2, ho2, _⟩ := id p2
        refine RZ.call_zipT (show s1.heap.IsTuple a its.toArray from p1) (show s1.heap.IsTuple b its2.toArray from p2) fun h' hz hTI hTO h1 h2 hsz hk => wpAny_pyIter_zip hz ?_
        exact ⟨_, _, _, _, H1, rfl, I1.kept (t' := s1.toks) hk, RZ.turn_zipT (PySem.W.ktu_apart s1.heap.objs.size a b (Heap.lt_size ho1) (Heap.lt_size ho2)), ⟨hz, hTI, ⟨_, _, hTO⟩, h1, h2⟩, fresh5, q⟩
      · obtain ⟨its, rv, p1, _⟩ := I1.list hqx
        obtain ⟨its2, rv2, p2, _⟩ := I1.tuple hqy
        obtain ⟨o2, ho2, _⟩ := id p2
        refine call_zl p1.isList (show s1.heap.IsTuple b its2.toArray from p2) fun h' hz hTI hTO h1 h2 hk => wpAny_pyIter_zip hz ?_
        exact ⟨_, _, _, _, H1, rfl, I1.kept (t' := s1.toks) hk, turn_zx (PySem.W.ktu_apart s1.heap.objs.size a b p1.lt (Heap.lt_size ho2)), ⟨hz, hTI, ⟨_, _, hTO⟩, h1, h2⟩, fresh5, q⟩
theorem wk_zipX [NC] {K : PySem.W.Frag} {CA : Nat → Addr} {F : Hp} {a b : Addr} {vs us : List V} {ds es : List D} (h : SqL K F a vs) (x : DxA K CA F vs ds) (h' : SqT K F b us) (x' : DxA K CA F us es) : Wk K CA F (ItzX K a b) (zipD ds es) := by
  intro G R μ H g s i
  have sq : SqL K H a vs := s.f.seq (g.seq h)
  have sq' : SqT K H b us := seqT s.f (seqT g h')
  refine ⟨fun hi => ⟨vs, us, sq, sq', ?_⟩, fun d hd => ?_⟩
  · simp only [zipD, List.length_zipWith] at hi
    rw [x.length, x'.length]
    omega
  · obtain ⟨p, q, e1, e2, rfl⟩ := zipD_at hd
    obtain ⟨u, h1, h2⟩ := x.get e1
    obtain ⟨w, h3, h4⟩ := x'.get e2
    refine ⟨⟨vs, us, u, w, sq, sq', h1, h3⟩, fun y H' z => ?_⟩
    obtain ⟨T, a1, a2, rfl, hT, rfl, z1, z2⟩ := z
    have q1 := z1 vs sq
    have q2 := z2 us sq'
    rw [h1] at q1; cases q1
    rw [h3] at q2; cases q2
    have sn : Same G (upd G T (.tup [u, w])) := same_new (s.ff hT)
    exact ⟨_, sn, s.new hT, .tup (.of upd_same) (.cons ((h2.mono g).mono sn) (.cons ((h4.mono g).mono sn) .nil))⟩
end Dl

/-! The data layer, part Ec: a list is put behind another one; list(zip(a, b)). -/
namespace Dl
open PySem PySem.Spec PyProof.Rows L2
theorem list_extend_S (l : Addr) (items : Array Value) (n : Nat) (b : Addr) (items2 : Array Value) (o2 : Obj) (n2 : Nat) (c2 : o2.cls = .type "list") (d2 : o2.data = .seq items2 n2) (hc0 : ¬(!items.isEmpty && Builtin.List.listTooLong (items.size + items2.size)) = true) (hc1 : items.size ≤ sizeLine) (hs2 : items.size + items2.size ≤ sizeLine + 1) :
    Meets (Builtin.«list.extend» ⟨[.ref l, .ref b], []⟩) (fun _ R s => s.heap.get? l = some { cls := .type "list", dict := none, data := .seq items n, slots := #[] } ∧ s.heap.get? b = some o2 ∧ R (.ok (.ret Value.none)) { s with heap := s.heap.update l (Obj.mapSeq fun x => x ++ items2), toks := s.toks }) :=
  .of_wp fun prog w A R s h => by
    obtain ⟨cls, dict, data, slots⟩ := o2
    cases c2
    cases d2
    obtain ⟨hp, g, d, tk, os⟩ := s; obtain ⟨hl, hb, h⟩ := h; have f1 := AutoSeq1.idx_int; have f2 := AutoSeq1.sub_tuple_tuple; have f3 := AutoSeq1.sub_list_list; have f4 := AutoSeq1.sub_tuple_list; have f5 := AutoSeq1.sub_list_tuple;
    have hz' : (items ++ items2).size ≤ sizeLine + 1 := by rw [Array.size_append]; exact hs2
    wp_walk using (wpAny_updateSeq hl rfl (hz := hc1) (_hz' := hz')), AutoSeq1.wpAny_loadPart' hl, AutoSeq1.wpAny_loadPart' hb; exact ⟨_, rfl, h⟩
def rExtS (K : PySem.W.Frag) : V → List V → Hp → VK → Prop := fun x vs H Q => ∃ l b xs zs, x = .ref l ∧ vs = [.ref b] ∧ H l = some (.lst xs) ∧ SqL K H b zs ∧ xs.length + zs.length ≤ sizeLine ∧ Q .non (upd H l (.lst (xs ++ zs)))
theorem mt_extendS {X : Cx} : MtM X "list.extend" (rExtS X.K) := by
  intro pins s σ H x vs v us Q I rx rv h
  obtain ⟨l, b, xs, zs, rfl, rfl, hH, hB, hz, q⟩ := h
  cases rx
  obtain ⟨u, rfl, ru⟩ := rv.one
  cases ru
  obtain ⟨z, its, n, r, hl, e⟩ := I.lstM hH
  obtain ⟨its2, r2, ⟨o2, n2, e2, c2, dd2, d2⟩, hl2⟩ := I.list hB
  have hr2 := r2.length
  have hr1 := r.length
  have hsz : its.toArray.size + its2.toArray.size ≤ sizeLine := by rw [List.size_toArray, List.size_toArray]; omega
  have hlong : ¬ (!its.toArray.isEmpty && Builtin.List.listTooLong (its.toArray.size + its2.toArray.size)) = true := by
    rw [notLongL hsz, Bool.and_false]
    exact Bool.false_ne_true
  refine call_meets F.slot_list_extend ⟨_, e, rfl⟩ F.entry_list_extend (F.args_list_extend_2 _ _)
    (list_extend_S l its.toArray n b its2.toArray o2 n2 c2 d2 hlong (by rw [List.size_toArray]; omega) (by omega)) ⟨e, e2, ?_⟩
  refine ⟨.non, _, I.lset (its' := its ++ its2) hH e (by simp) (r.append r2) ?_, rfl, q⟩
  rw [List.length_append]
  omega
end Dl

/-! The data layer, part Ed: list(zip(a, b)). -/
namespace Dl
open PySem PySem.Spec PyProof.Rows L2
theorem wpAny_alive {M : Model} {A : Around} {E : Value → Shared → Prop} {s : Shared} {a : Addr} {Q : Option Obj → Shared → Prop} (h : Q (s.heap.get? a) s) : wpAny M A (loadIfAlive a) Q E s := fun _ _ _ => h
/-- a zip whose tuple is elsewhere -/
abbrev IsZb (h : Heap) (z TI TO : Addr) (f0 : Value) (b : Bool) : Prop :=
  h.get? z = some { cls := .type "zip", dict := none, data := .fields #[f0, .bool b, .bool false, .ref TI, .ref TO], slots := #[] }
section
variable {prog : Program} {w : World} {A : Around} {E : Value → Shared → Prop} {s : Shared} {z TI TO i1 i2 l1 l2 T : Addr} {k1 k2 : Nat} {xs ys : Array Value} {P1 P2 : Heap → Nat → Prop} {a b : Value}
theorem zh_free {fb : Bool} {oT : Obj} {Q : Bool → Shared → Prop} (hz : IsZb s.heap z TI TO (rawInt T) fb) (hT : s.heap.get? T = some oT)
    (hQ : ∀ h', IsZb h' z TI TO (rawInt T) true → Heap.SameBut z s.heap h' → Q false { s with heap := h' }) : wpAny (model prog w) A (Builtin.SmallTypes.ownedTupleIsFree (.ref z)) Q E s := by
  unfold Builtin.SmallTypes.ownedTupleIsFree
  refine wpAny_bind (wpAny_field hz rfl (x := rawInt T) rfl ?_)
  show wpAny _ _ (loadIfAlive ((T : Int)).toNat >>= _) _ _ _
  refine wpAny_bind (wpAny_alive ?_)
  rw [Int.toNat_natCast, hT]
  rw [if_neg (by simp)]
  refine wpAny_bind (wpAny_field hz rfl (x := .bool fb) rfl ?_)
  cases fb with
  | true =>
    rw [if_neg (by decide)]
    exact wpAny_pure (hQ s.heap hz (Heap.SameBut.refl _ _))
  | false =>
    rw [if_pos (by decide)]
    refine wpAny_bind (wpAny_setField_rec hz (by simp) fun ha za sa => ?_)
    exact wpAny_pure (hQ ha za sa)
/-- the next pair, its tuple new -/
theorem zh_item {fb : Bool} {oT : Obj} {x y : Value} {Q : Value → Shared → Prop} (D : ZipApart z TI TO i1 i2 l1 l2) (S1 : Src prog w i1 l1 xs P1) (S2 : Src prog w i2 l2 ys P2)
    (hz : IsZb s.heap z TI TO (rawInt T) fb) (hT : s.heap.get? T = some oT) (hTI : IsPair s.heap TI (.ref i1) (.ref i2))
    (h1 : P1 s.heap k1) (h2 : P2 s.heap k2) (hx : xs[k1]? = some x) (hy : ys[k2]? = some y)
    (hQ : ∀ h', IsZb h' z TI TO (rawInt T) true → P1 h' (k1 + 1) → P2 h' (k2 + 1) → IsPair h' s.heap.objs.size x y → h'.objs.size = s.heap.objs.size + 1 →
      (∀ c o, c ≠ z → c ≠ i1 → c ≠ i2 → s.heap.get? c = some o → h'.get? c = some o) → Q (.ref s.heap.objs.size) { s with heap := h' }) :
    wpAny (model prog w) A (Builtin.«zip.__next__» ⟨[.ref z], []⟩) (fun fin s' => ∃ v, fin = .done (.ret v) ∧ Q v s') E s := by
  have up {h h' : Heap} {c : Addr} (e : Heap.SameBut c h h') {d : Addr} (n : d ≠ c) : ∀ o, h.get? d = some o → h'.get? d = some o := fun o q => e.extBut _ _ n q
  show wpAny _ _ (field (.ref z) 2 >>= _) _ _ _
  refine wpAny_bind (wpAny_field hz rfl (x := .bool false) rfl ?_)
  show wpAny _ _ (field (.ref z) 3 >>= _) _ _ _
  refine wpAny_bind (wpAny_field hz rfl (x := .ref TI) rfl (wpAny_bind (wpAny_seqItems hTI rfl ?_)))
  show wpAny _ _ (Builtin.SmallTypes.ownedTupleIsFree (.ref z) >>= _) _ _ _
  refine wpAny_bind (zh_free hz hT fun ha za sa => ?_)
  simp only [Bool.false_eq_true, if_false, List.forIn_toArray, List.forIn_cons, List.forIn_nil]
  refine wpAny_bind (wpAny_bind (wpAny_bind (wpAny_holding ?_)))
  show wpAny _ _ (Builtin.SmallTypes.nextOf (.ref i1) >>= _) _ _ _
  refine wpAny_bind (S1.item (S1.keep h1 (up sa D.i1z) (up sa D.l1z)) hx fun hb p1 sb => wpAny_pure (wpAny_pure ?_))
  refine wpAny_bind (wpAny_bind (wpAny_holding ?_))
  show wpAny _ _ (Builtin.SmallTypes.nextOf (.ref i2) >>= _) _ _ _
  refine wpAny_bind (S2.item (S2.keep (S2.keep h2 (up sa D.i2z) (up sa D.l2z)) (up sb D.i12.symm) (up sb D.l2i1)) hy fun hc p2 sc => wpAny_pure (wpAny_pure (wpAny_pure ?_)))
  refine wpAny_bind (wpAny_newTuple (hsz := by show 2 ≤ sizeLine; decide) ?_)
  have hsz : hc.objs.size = s.heap.objs.size := by rw [sc.1, sb.1, sa.1]
  have zc : IsZb hc z TI TO (rawInt T) true := up sc D.i2z.symm _ (up sb D.i1z.symm _ za)
  have ue : ∀ c o, hc.get? c = some o → (hc.push { cls := .type "tuple", data := .seq #[x, y] }).get? c = some o := fun c o e => Heap.get?_push_of_some _ e
  refine wpAny_pure ⟨_, rfl, ?_⟩
  show Q (.ref hc.objs.size) _
  have tj : IsPair (hc.push { cls := .type "tuple", data := .seq #[x, y] }) hc.objs.size x y := Heap.get?_push_size _ rfl
  have zs : (hc.push { cls := .type "tuple", data := .seq #[x, y] }).objs.size = hc.objs.size + 1 := Heap.size_push ..
  rw [hsz] at tj zs ⊢
  exact hQ _ (ue _ _ zc) (S1.keep (S1.keep p1 (up sc D.i12) (up sc D.l1i2)) (ue _) (ue _)) (S2.keep p2 (ue _) (ue _)) tj zs fun c o c1 c2 c3 e => ue _ _ (up sc c3 _ (up sb c2 _ (up sa c1 _ e)))
theorem zh_end {fb : Bool} {oT : Obj} {Q : Fin → Shared → Prop} (hh : A.handled = none) (D : ZipApart z TI TO i1 i2 l1 l2) (S1 : Src prog w i1 l1 xs P1) (S2 : Src prog w i2 l2 ys P2)
    (hz : IsZb s.heap z TI TO (rawInt T) fb) (hT : s.heap.get? T = some oT) (hTI : IsPair s.heap TI (.ref i1) (.ref i2))
    (h1 : P1 s.heap k1) (h2 : P2 s.heap k2) (hend : xs[k1]? = none ∨ ys[k2]? = none)
    (hE : ∀ h' e, (∀ c o, c ≠ z → c ≠ i1 → c ≠ i2 → s.heap.get? c = some o → h'.get? c = some o) → (∃ o, h'.get? e = some o ∧ o.cls = .type "StopIteration") → E (.ref e) { s with heap := h' }) :
    wpAny (model prog w) A (Builtin.«zip.__next__» ⟨[.ref z], []⟩) Q E s := by
  have up {h h' : Heap} {c : Addr} (e : Heap.SameBut c h h') {d : Addr} (n : d ≠ c) : ∀ o, h.get? d = some o → h'.get? d = some o := fun o q => e.extBut _ _ n q
  show wpAny _ _ (field (.ref z) 2 >>= _) _ _ _
  refine wpAny_bind (wpAny_field hz rfl (x := .bool false) rfl ?_)
  show wpAny _ _ (field (.ref z) 3 >>= _) _ _ _
  refine wpAny_bind (wpAny_field hz rfl (x := .ref TI) rfl (wpAny_bind (wpAny_seqItems hTI rfl ?_)))
  show wpAny _ _ (Builtin.SmallTypes.ownedTupleIsFree (.ref z) >>= _) _ _ _
  refine wpAny_bind (zh_free hz hT fun ha za sa => ?_)
  simp only [Bool.false_eq_true, if_false, List.forIn_toArray, List.forIn_cons, List.forIn_nil]
  refine wpAny_bind (wpAny_bind (wpAny_bind (wpAny_holding ?_)))
  show wpAny _ _ (Builtin.SmallTypes.nextOf (.ref i1) >>= _) _ _ _
  have g1 := S1.keep h1 (up sa D.i1z) (up sa D.l1z)
  cases hx : xs[k1]? with
  | none =>
    refine wpAny_bind (S1.done hh g1 hx fun hb e xb he => ?_)
    exact hE hb e (fun c o c1 c2 _ x => xb _ _ c2 (up sa c1 _ x)) he
  | some x =>
    have hy : ys[k2]? = none := by rcases hend with h | h; rw [hx] at h; cases h; exact h
    refine wpAny_bind (S1.item g1 hx fun hb p1 sb => wpAny_pure (wpAny_pure ?_))
    refine wpAny_bind (wpAny_bind (wpAny_holding ?_))
    show wpAny _ _ (Builtin.SmallTypes.nextOf (.ref i2) >>= _) _ _ _
    refine wpAny_bind (S2.done hh (S2.keep (S2.keep h2 (up sa D.i2z) (up sa D.l2z)) (up sb D.i12.symm) (up sb D.l2i1)) hy fun hd e xd he => ?_)
    exact hE hd e (fun c o c1 c2 c3 x => xd _ _ c3 (up sb c2 _ (up sa c1 _ x))) he
/-- where a zip of two lists stands -/
def ZS (z TI TO i1 i2 l1 l2 : Addr) (h : Heap) (k : Nat) : Prop :=
  ((∃ a b, IsZip h z TI TO .none ∧ IsPair h TO a b) ∨ ∃ (T : Addr) (fb : Bool) (o : Obj), IsZb h z TI TO (rawInt T) fb ∧ h.get? T = some o) ∧ IsPair h TI (.ref i1) (.ref i2) ∧ h.IsListIter i1 l1 k ∧ h.IsListIter i2 l2 k
theorem zs_item {k : Nat} {x y : Value} {Q : Option Value → Shared → Prop} (D : ZipApart z TI TO i1 i2 l1 l2) (st : ZS z TI TO i1 i2 l1 l2 s.heap k) (hl1 : s.heap.IsList l1 xs) (hl2 : s.heap.IsList l2 ys)
    (hx : xs[k]? = some x) (hy : ys[k]? = some y)
    (hQ : ∀ h', ZS z TI TO i1 i2 l1 l2 h' (k + 1) → IsPair h' s.heap.objs.size x y → h'.objs.size = s.heap.objs.size + 1 →
      (∀ c o, c ∉ [z, TO, i1, i2] → s.heap.get? c = some o → h'.get? c = some o) → Q (some (.ref s.heap.objs.size)) { s with heap := h' }) : wpAny (model prog w) A (pyNext (.ref z)) Q E s := by
  obtain ⟨st, hTI, q1, q2⟩ := st
  have TIlt : TI < s.heap.objs.size := Heap.lt_size hTI
  rcases st with ⟨a, b, hz, hTO⟩ | ⟨T, fb, o, hz, hT⟩
  · refine nx_item D (src_list D.l1i1) (src_list D.l2i2) hz hTI hTO ⟨q1, hl1⟩ ⟨q2, hl2⟩ hx hy fun h' z' TO' h1' h2' hp hsz hk => ?_
    refine hQ h' ⟨.inr ⟨_, false, _, z', hp⟩, hk _ _ D.TIz D.TITO D.TIi1 D.TIi2 hTI, h1'.1, h2'.1⟩ hp hsz fun c o hc e => ?_
    simp only [List.mem_cons, List.not_mem_nil, or_false, not_or] at hc
    exact hk c o hc.1 hc.2.1 hc.2.2.1 hc.2.2.2 e
  · have hTy : s.TypeIs (.ref z) "zip" := ⟨_, hz, rfl⟩
    unfold pyNext
    refine wpAny_bind (wpAny_attempt (wpAny_callSpecial?_slot (name := Str.ofString "__next__") hTy F.slot_zip_next
      (wpAny_call_entry F.slot_zip_next hTy F.entry_zip_next (zh_item D (src_list D.l1i1) (src_list D.l2i2) hz hT hTI ⟨q1, hl1⟩ ⟨q2, hl2⟩ hx hy fun h' z' h1' h2' hp hsz hk => wpAny_pure ?_) (F.args_zip_next_1 _))))
    have aT : ∃ o', h'.get? T = some o' := by
      by_cases e1 : T = z
      · exact ⟨_, by rw [e1]; exact z'⟩
      by_cases e2 : T = i1
      · obtain ⟨⟨o', e, _⟩, _⟩ := h1'
        exact ⟨o', by rw [e2]; exact e⟩
      by_cases e3 : T = i2
      · obtain ⟨⟨o', e, _⟩, _⟩ := h2'
        exact ⟨o', by rw [e3]; exact e⟩
      exact ⟨o, hk T o e1 e2 e3 hT⟩
    obtain ⟨o', aT⟩ := aT
    refine hQ h' ⟨.inr ⟨T, true, o', z', aT⟩, hk _ _ D.TIz D.TIi1 D.TIi2 hTI, h1'.1, h2'.1⟩ hp hsz fun c o hc e => ?_
    simp only [List.mem_cons, List.not_mem_nil, or_false, not_or] at hc
    exact hk c o hc.1 hc.2.2.1 hc.2.2.2 e
theorem zs_end {k : Nat} {Q : Option Value → Shared → Prop} (hh : A.handled = none) (D : ZipApart z TI TO i1 i2 l1 l2) (st : ZS z TI TO i1 i2 l1 l2 s.heap k) (hl1 : s.heap.IsList l1 xs) (hl2 : s.heap.IsList l2 ys)
    (hend : xs[k]? = none ∨ ys[k]? = none) (hQ : ∀ h', (∀ c o, c ∉ [z, TO, i1, i2] → s.heap.get? c = some o → h'.get? c = some o) → Q none { s with heap := h' }) : wpAny (model prog w) A (pyNext (.ref z)) Q E s := by
  obtain ⟨st, hTI, q1, q2⟩ := st
  rcases st with ⟨a, b, hz, hTO⟩ | ⟨T, fb, o, hz, hT⟩
  · refine nx_end hh D (src_list D.l1i1) (src_list D.l2i2) hz hTI hTO ⟨q1, hl1⟩ ⟨q2, hl2⟩ hend fun h' hk => hQ h' fun c o hc e => ?_
    simp only [List.mem_cons, List.not_mem_nil, or_false, not_or] at hc
    exact hk c o hc.1 hc.2.1 hc.2.2.1 hc.2.2.2 e
  · have hTy : s.TypeIs (.ref z) "zip" := ⟨_, hz, rfl⟩
    unfold pyNext
    refine wpAny_bind (wpAny_attempt (wpAny_callSpecial?_slot (name := Str.ofString "__next__") hTy F.slot_zip_next
      (wpAny_call_entry F.slot_zip_next hTy F.entry_zip_next (zh_end hh D (src_list D.l1i1) (src_list D.l2i2) hz hT hTI ⟨q1, hl1⟩ ⟨q2, hl2⟩ hend fun h' e hk he => ?_) (F.args_zip_next_1 _))))
    obtain ⟨o, ho, hc⟩ := he
    refine wpAny_bind (wpAny_isInstance (T := "StopIteration") (b := true) ⟨o, ho, hc⟩ isSubtype_stop (wpAny_pure (hQ _ fun c o hc e => ?_)))
    simp only [List.mem_cons, List.not_mem_nil, or_false, not_or] at hc
    exact hk c o hc.1 hc.2.2.1 hc.2.2.2 e
abbrev lsO (ps : List Addr) (c : Nat) : Obj := { cls := .type "list", dict := none, data := .seq (ps.map Value.ref).toArray c, slots := #[] }
theorem zl_loop {R : Result → Shared → Prop} {S : Addr} {res : Value} {n : Nat} (hh : A.in1.handled = none) (D : ZipApart z TI TO i1 i2 l1 l2) (hS : ∀ b ∈ [z, TI, TO, i1, i2, l1, l2], b < S) (hn : n ≤ sizeLine) (nx : n ≤ xs.size) (ny : n ≤ ys.size) (ne : xs.size ≤ n ∨ ys.size ≤ n) :
    ∀ (m k : Nat) (s : Shared) (ps : List Addr) (c : Nat), k + m = n → ZS z TI TO i1 i2 l1 l2 s.heap k → s.heap.IsList l1 xs → s.heap.IsList l2 ys → s.heap.get? S = some (lsO ps c) → ps.length = k →
      (∀ (j : Nat) (p : Addr), ps[j]? = some p → S < p ∧ p < s.heap.objs.size ∧ ∃ x y, xs[j]? = some x ∧ ys[j]? = some y ∧ IsPair s.heap p x y) → ps.Nodup →
      (∀ (h' : Heap) (ps' : List Addr) (c' : Nat), (∀ b o, b ∉ [z, TO, i1, i2, S] → s.heap.get? b = some o → h'.get? b = some o) → h'.get? S = some (lsO ps' c') → ps'.length = n →
        (∀ (j : Nat) (p : Addr), ps'[j]? = some p → S < p ∧ ((j < k ∧ ps[j]? = some p) ∨ s.heap.objs.size ≤ p) ∧ ∃ x y, xs[j]? = some x ∧ ys[j]? = some y ∧ IsPair h' p x y) → ps'.Nodup → R (.ok (.ret res)) { s with heap := h' }) →
      codeAny (model prog w) A (.builtin "list.extend.loop" ⟨[.ref S, .ref z, res], []⟩) R s := by
  have s1 : z < S := hS _ (by simp)
  have s2 : TI < S := hS _ (by simp)
  have s3 : TO < S := hS _ (by simp)
  have s4 : i1 < S := hS _ (by simp)
  have s5 : i2 < S := hS _ (by simp)
  have s6 : l1 < S := hS _ (by simp)
  have s7 : l2 < S := hS _ (by simp)
  have h4 : ∀ b, S ≤ b → b ∉ [z, TO, i1, i2] := fun b hb => by
    simp only [List.mem_cons, List.not_mem_nil, or_false, not_or]
    exact ⟨Nat.ne_of_gt (Nat.lt_of_lt_of_le s1 hb), Nat.ne_of_gt (Nat.lt_of_lt_of_le s3 hb), Nat.ne_of_gt (Nat.lt_of_lt_of_le s4 hb), Nat.ne_of_gt (Nat.lt_of_lt_of_le s5 hb)⟩
  have hS4 : S ∉ [z, TO, i1, i2] := h4 S (Nat.le_refl _)
  have l14 : l1 ∉ [z, TO, i1, i2] := by
    simp only [List.mem_cons, List.not_mem_nil, or_false, not_or]; exact ⟨D.l1z, D.l1TO, D.l1i1, D.l1i2⟩
  have l24 : l2 ∉ [z, TO, i1, i2] := by
    simp only [List.mem_cons, List.not_mem_nil, or_false, not_or]; exact ⟨D.l2z, D.l2TO, D.l2i1, D.l2i2⟩
  intro m
  induction m with
  | zero =>
    intro k s ps c hk st hl1 hl2 hSo hpl hps nd hR
    refine codeAny_builtin F.entry_extend_loop ?_
    rw [Around.under_plainId F.plain_extend_loop _]
    show wpAny _ A.in1 (pyNext (.ref z) >>= _) _ _ s
    refine wpAny_bind (zs_end hh D st hl1 hl2 (by rcases ne with h | h <;> simp <;> omega) fun h' hk' => ?_)
    refine wpAny_pure (hR h' ps c (fun b o hb e => hk' b o (fun z' => hb (by simp only [List.mem_cons, List.not_mem_nil, or_false] at z' ⊢; rcases z' with q | q | q | q <;> simp [q])) e) (hk' S _ hS4 hSo) (by omega) (fun j p hj => ?_) nd)
    obtain ⟨a1, a2, x, y, a3, a4, a5⟩ := hps j p hj
    exact ⟨a1, .inl ⟨by have := (List.getElem?_eq_some_iff.mp hj).1; omega, hj⟩, x, y, a3, a4, hk' p _ (h4 p (Nat.le_of_lt a1)) a5⟩
  | succ m ih =>
    intro k s ps c hk st hl1 hl2 hSo hpl hps nd hR
    obtain ⟨x, hx⟩ : ∃ x, xs[k]? = some x := ⟨xs[k], Array.getElem?_eq_getElem (by omega)⟩
    obtain ⟨y, hy⟩ : ∃ y, ys[k]? = some y := ⟨ys[k], Array.getElem?_eq_getElem (by omega)⟩
    refine codeAny_builtin F.entry_extend_loop ?_
    rw [Around.under_plainId F.plain_extend_loop _]
    show wpAny _ A.in1 (pyNext (.ref z) >>= _) _ _ s
    refine wpAny_bind (zs_item D st hl1 hl2 hx hy fun h' st' hp hsz hk' => ?_)
    have hSo' := hk' S _ hS4 hSo
    show wpAny _ A.in1 (updateSeq S (·.push (.ref s.heap.objs.size)) >>= _) _ _ _
    refine wpAny_bind ?_
    have hle : ps.length < sizeLine := by omega
    have Slt : S < s.heap.objs.size := Heap.lt_size hSo
    refine wpAny_updateSeq hSo' rfl (wpAny_pure ⟨plainId_quiet F.plain_extend_loop _, ?_⟩) (by simp; omega) (by show ((ps.map Value.ref).toArray.push _).size ≤ sizeLine + 1; rw [Array.size_push]; simp; omega)
    have hg : ∀ b o, b ≠ S → h'.get? b = some o → (h'.update S (Obj.mapSeq (·.push (.ref s.heap.objs.size)))).get? b = some o := fun b o hb e => (Heap.get?_update_other _ _ (Ne.symm hb)).trans e
    have hself : ∃ c', (h'.update S (Obj.mapSeq (·.push (.ref s.heap.objs.size)))).get? S = some (lsO (ps ++ [s.heap.objs.size]) c') := by
      have e := Heap.get?_update_self (Obj.mapSeq (·.push (Value.ref s.heap.objs.size))) hSo' rfl
      have e2 : (ps.map Value.ref).toArray.push (Value.ref s.heap.objs.size) = ((ps ++ [s.heap.objs.size]).map Value.ref).toArray := by simp
      have key : ∀ c', lsO (ps ++ [s.heap.objs.size]) c' = { cls := .type "list", dict := none, data := .seq ((ps.map Value.ref).toArray.push (Value.ref s.heap.objs.size)) c', slots := #[] } := fun c' => by rw [lsO, e2]
      exact ⟨_, e.trans (congrArg some (key _).symm)⟩
    obtain ⟨c', hself⟩ := hself
    have hsz2 : (h'.update S (Obj.mapSeq (·.push (.ref s.heap.objs.size)))).objs.size = h'.objs.size := (Heap.SameBut.update ..).1
    have TSlt : TI ≠ S := Nat.ne_of_lt s2
    have pnew : S < s.heap.objs.size := Slt
    have pin : s.heap.objs.size ∉ ps := fun hm => by
      obtain ⟨j, hj⟩ := List.mem_iff_getElem?.mp hm
      exact Nat.lt_irrefl _ (hps j _ hj).2.1
    refine ih (k + 1) { s with heap := h'.update S (Obj.mapSeq (·.push (.ref s.heap.objs.size))) } (ps ++ [s.heap.objs.size]) c' (by omega) ?_ ?_ ?_ hself (by simp [hpl]) (fun j p hj => ?_) ?_ (fun h2 ps' c2 g1 g2 g3 g4 g5 => ?_)
    · obtain ⟨t1, t2, t3, t4⟩ := st'
      refine ⟨?_, hg _ _ TSlt t2, ?_, ?_⟩
      · rcases t1 with ⟨a, b, e1, e2⟩ | ⟨T, fb, o, e1, e2⟩
        · exact .inl ⟨a, b, hg _ _ (Nat.ne_of_lt s1) e1, hg _ _ (Nat.ne_of_lt s3) e2⟩
        · refine .inr ⟨T, fb, ?_⟩
          by_cases eT : T = S
          · exact ⟨_, hg _ _ (Nat.ne_of_lt s1) e1, by rw [eT]; exact hself⟩
          · exact ⟨o, hg _ _ (Nat.ne_of_lt s1) e1, hg _ _ eT e2⟩
      · obtain ⟨o, e, r⟩ := t3
        exact ⟨o, hg _ _ (Nat.ne_of_lt s4) e, r⟩
      · obtain ⟨o, e, r⟩ := t4
        exact ⟨o, hg _ _ (Nat.ne_of_lt s5) e, r⟩
    · obtain ⟨o, e, r⟩ := hl1
      exact ⟨o, hg _ _ (Nat.ne_of_lt s6) (hk' _ _ l14 e), r⟩
    · obtain ⟨o, e, r⟩ := hl2
      exact ⟨o, hg _ _ (Nat.ne_of_lt s7) (hk' _ _ l24 e), r⟩
    · show S < p ∧ p < (h'.update S _).objs.size ∧ _
      rw [hsz2, hsz]
      by_cases hjk : j < ps.length
      · rw [List.getElem?_append_left hjk] at hj
        obtain ⟨a1, a2, x', y', a3, a4, a5⟩ := hps j p hj
        exact ⟨a1, Nat.lt_succ_of_lt a2, x', y', a3, a4, hg _ _ (Nat.ne_of_gt a1) (hk' p _ (h4 p (Nat.le_of_lt a1)) a5)⟩
      · have : j = ps.length := by
          have := (List.getElem?_eq_some_iff.mp hj).1
          simp at this; omega
        subst this
        rw [List.getElem?_append_right (Nat.le_refl _)] at hj
        simp at hj
        subst hj
        rw [hpl]
        exact ⟨pnew, Nat.lt_succ_self _, x, y, hx, hy, hg _ _ (Nat.ne_of_gt pnew) hp⟩
    · rw [List.nodup_append]
      exact ⟨nd, by simp, fun a ha b hb e => by simp at hb; subst hb; subst e; exact pin ha⟩
    · refine hR h2 ps' c2 (fun b o hb e => g1 b o hb ?_) g2 g3 (fun j p hj => ?_) g5
      · exact hg b o (fun z' => hb (by simp [z'])) (hk' b o (fun z' => hb (by simp only [List.mem_cons, List.not_mem_nil, or_false] at z' ⊢; rcases z' with q | q | q | q <;> simp [q])) e)
      · obtain ⟨a1, a2, a3⟩ := g4 j p hj
        refine ⟨a1, ?_, a3⟩
        rcases a2 with ⟨b1, b2⟩ | b2
        · by_cases hjk : j < ps.length
          · rw [List.getElem?_append_left hjk] at b2
            exact .inl ⟨by omega, b2⟩
          · have : j = ps.length := by omega
            subst this
            rw [List.getElem?_append_right (Nat.le_refl _)] at b2
            simp at b2
            exact .inr (by rw [b2]; exact Nat.le_refl _)
        · refine .inr ?_
          have b2 : (h'.update S (Obj.mapSeq (·.push (.ref s.heap.objs.size)))).objs.size ≤ p := b2
          rw [hsz2, hsz] at b2
          exact Nat.le_of_succ_le b2
theorem zip_nolen : typeLookup (.type "zip") "__len__" = pure none := by rw [typeLookup_type, builtinLookup_eq_fast]; kernel_rfl
theorem zip_nohint : typeLookup (.type "zip") "__length_hint__" = pure none := by rw [typeLookup_type, builtinLookup_eq_fast]; kernel_rfl
/-- list(z), z a new zip of two lists -/
theorem call_list_zip {Q : Value → Shared → Prop} {n : Nat} (hh : A.handled = none) (D : ZipApart z TI TO i1 i2 l1 l2) (hz : IsZip s.heap z TI TO .none) (hTO : IsPair s.heap TO a b) (hTI : IsPair s.heap TI (.ref i1) (.ref i2)) (q1 : s.heap.IsListIter i1 l1 0) (q2 : s.heap.IsListIter i2 l2 0)
    (hl1 : s.heap.IsList l1 xs) (hl2 : s.heap.IsList l2 ys) (hn : n ≤ sizeLine) (nx : n ≤ xs.size) (ny : n ≤ ys.size) (ne : xs.size ≤ n ∨ ys.size ≤ n)
    (hQ : ∀ (h' : Heap) (ps : List Addr) (c' : Nat), (∀ b o, b ∉ [z, TO, i1, i2] → s.heap.get? b = some o → h'.get? b = some o) → h'.get? s.heap.objs.size = some (lsO ps c') → ps.length = n →
      (∀ (j : Nat) (p : Addr), ps[j]? = some p → s.heap.objs.size < p ∧ ∃ x y, xs[j]? = some x ∧ ys[j]? = some y ∧ IsPair h' p x y) → ps.Nodup → Q (.ref s.heap.objs.size) { s with heap := h' }) :
    wpAny (model prog w) A (call (.type "list") [.ref z]) Q E s := by
  have lt : ∀ b ∈ [z, TI, TO, i1, i2, l1, l2], b < s.heap.objs.size := by
    simp only [List.mem_cons, List.not_mem_nil, or_false]
    rintro b (rfl | rfl | rfl | rfl | rfl | rfl | rfl)
    · exact Heap.lt_size hz
    · exact Heap.lt_size hTI
    · exact Heap.lt_size hTO
    · obtain ⟨_, e, _⟩ := q1; exact Heap.lt_size e
    · obtain ⟨_, e, _⟩ := q2; exact Heap.lt_size e
    · obtain ⟨_, e, _⟩ := hl1; exact Heap.lt_size e
    · obtain ⟨_, e, _⟩ := hl2; exact Heap.lt_size e
  have hSz : s.heap.objs.size ≠ z := Nat.ne_of_gt (lt z (by simp))
  refine callType_codes (Q₁ := fun obj s₁ => obj = .ref s.heap.objs.size ∧ s₁ = { s with heap := s.heap.push { cls := .type "list", data := .seq #[] } }) F.called_list (F.typeCall_list_1 _) F.entry_list_init
    (code_list_new _ ⟨rfl, rfl⟩) fun obj s₁ h₁ => ?_
  obtain ⟨rfl, rfl⟩ := h₁
  have hS : (s.heap.push { cls := .type "list", data := .seq #[] }).get? s.heap.objs.size = some { cls := .type "list", data := .seq #[] } := Heap.get?_push_size _ rfl
  refine ⟨⟨_, hS, rfl⟩, F.args_list_init_2 _ _, ?_⟩
  show wpAny _ A.in1.in1 (do let old ← Builtin.List.listItems (.ref s.heap.objs.size); Builtin.List.listUpdate (.ref s.heap.objs.size) (fun _ => #[]); letGo old.toList.reverse; Builtin.List.listExtendWith (.ref s.heap.objs.size) (.ref z) .none) _ _ _
  refine wpAny_bind ?_
  unfold Builtin.List.listItems
  refine wpAny_bind (wpAny_seqItems hS rfl (wpAny_pure ?_))
  show wpAny _ A.in1.in1 (updateSeq s.heap.objs.size (fun _ => #[]) >>= fun _ => letGo (#[] : Array Value).toList.reverse >>= fun _ => Builtin.List.listExtendWith (.ref s.heap.objs.size) (.ref z) .none) _ _ _
  refine wpAny_bind (wpAny_updateSeq hS rfl ?_)
  have hS2 := Heap.get?_update_self (Obj.mapSeq (fun _ => (#[] : Array Value))) hS rfl
  refine wpAny_bind (wpAny_letGo ?_)
  unfold Builtin.List.listExtendWith
  have up : ∀ (h : Heap) (f : Obj → Obj), (∀ b o, s.heap.get? b = some o → h.get? b = some o) → ∀ b o, s.heap.get? b = some o → (h.update s.heap.objs.size f).get? b = some o := fun h f q b o e =>
    (Heap.get?_update_other _ _ (Ne.symm (Nat.ne_of_lt (Heap.lt_size e)))).trans (q b o e)
  have k1 : ∀ b o, s.heap.get? b = some o → (s.heap.push { cls := .type "list", data := .seq #[] }).get? b = some o := fun b o e => Heap.get?_push_of_some _ e
  have k2 := up _ (Obj.mapSeq (fun _ => (#[] : Array Value))) k1
  have gty : ∀ {h : Heap} (tk : Nat), (∀ b o, s.heap.get? b = some o → h.get? b = some o) → ({ s with heap := h, toks := tk } : Shared).TypeIs (.ref z) "zip" := fun {h} tk q => ⟨_, q _ _ hz, rfl⟩
  refine wpAny_bind (wpAny_typeOf (gty _ k2) ?_)
  have h1 : Builtin.List.listSameRef (.ref s.heap.objs.size) (.ref z) = false := by simp [Builtin.List.listSameRef, hSz]
  have h2 : (Value.type "zip" == Value.type "list") = false := by decide
  have h3 : (Value.type "zip" == Value.type "tuple") = false := by decide
  simp only [h1, h2, h3, Bool.or_false, Bool.false_eq_true, if_false]
  refine wpAny_bind (wpAny_pyIter_zip (s := { s with heap := _ }) (k2 _ _ hz) ?_)
  refine wpAny_bind (wpAny_holding ?_)
  unfold Builtin.List.listLengthHint
  refine wpAny_bind (wpAny_specialOf (gty _ k2) zip_nolen ?_)
  show wpAny _ A.in1.in1 (specialOf (Value.ref z) (Str.ofString "__length_hint__") >>= _) _ _ _
  refine wpAny_bind (wpAny_specialOf (gty _ k2) zip_nohint ?_)
  refine wpAny_pure ?_
  show wpAny _ A.in1.in1 (rule "list.extend.makes-room" >>= fun _ => Builtin.List.listTouch (.ref s.heap.objs.size) >>= fun _ =>
    again (.builtin "list.extend.loop" ⟨[.ref s.heap.objs.size, .ref z, .none], []⟩)) _ _ _
  refine wpAny_bind (wpAny_rule ?_)
  refine wpAny_bind ?_
  show wpAny _ A.in1.in1 (updateSeq s.heap.objs.size (·.push .none) >>= fun _ => updateSeq s.heap.objs.size (·.pop)) _ _ _
  refine wpAny_bind (wpAny_updateSeq hS2 rfl ?_)
  have hS3 := Heap.get?_update_self (Obj.mapSeq (·.push Value.none)) hS2 rfl
  refine wpAny_updateSeq (hz := by seq_fits) hS3 rfl ?_
  have hS4 := Heap.get?_update_self (Obj.mapSeq (·.pop)) hS3 rfl
  have k4 := up _ (Obj.mapSeq (·.pop)) (up _ (Obj.mapSeq (·.push Value.none)) k2)
  refine wpAny_pure ⟨plainId_quiet F.plain_extend_loop _, ?_⟩
  have kl : ∀ {l : Addr} {v : Array Value} {h : Heap}, s.heap.IsList l v → (∀ b o, s.heap.get? b = some o → h.get? b = some o) → h.IsList l v := fun ⟨o, e, r⟩ q => ⟨o, q _ _ e, r⟩
  have ki : ∀ {i l : Addr} {k : Nat} {h : Heap}, s.heap.IsListIter i l k → (∀ b o, s.heap.get? b = some o → h.get? b = some o) → h.IsListIter i l k := fun ⟨o, e, r⟩ q => ⟨o, q _ _ e, r⟩
  refine zl_loop (A := A.in1) (n := n) hh D lt hn nx ny ne n 0 _ [] _ (by omega) ⟨.inl ⟨a, b, k4 _ _ hz, k4 _ _ hTO⟩, k4 _ _ hTI, ki q1 k4, ki q2 k4⟩ (kl hl1 k4) (kl hl2 k4) hS4 rfl (fun j p hj => by simp at hj) List.nodup_nil
    fun h' ps c' g1 g2 g3 g4 g5 => ⟨rfl, hQ h' ps c' (fun b o hb e => g1 b o (fun z' => ?_) (k4 b o e)) g2 g3 (fun j p hj => ⟨(g4 j p hj).1, (g4 j p hj).2.2⟩) g5⟩
  simp only [List.mem_cons, List.not_mem_nil, or_false] at z' hb
  rcases z' with q | q | q | q | q
  · exact hb (.inl q)
  · exact hb (.inr (.inl q))
  · exact hb (.inr (.inr (.inl q)))
  · exact hb (.inr (.inr (.inr q)))
  · exact absurd (Heap.lt_size e) (by rw [q]; exact Nat.lt_irrefl _)
end
/-! ### tracked -/
section
variable {X : Cx} {pins : List (Addr × Obj)} {σ : L2.St} {H H' : Hp} {s : Shared} {h' : Heap}
/-- many new things, laid and tracked -/
theorem laidMany {t' : Nat} (I : Inv X pins σ H s) (k : ∀ b o, s.heap.get? b = some o → h'.get? b = some o) (same : ∀ b o, H b = some o → H' b = some o) (old : ∀ b, b < s.heap.objs.size → H' b = H b)
    (new : ∀ b o, s.heap.objs.size ≤ b → H' b = some o → ObjOk X.prog X.w H' h' b o) : Inv X pins σ H' { s with heap := h', toks := t' } := by
  refine I.step (g' := s.gens) (d' := s.drawn) (ch := []) (fun b hb => by simp at hb) (fun b o _ _ hc e _ => k b o e) (fun b o _ _ hc e _ => ⟨o.slots, k b o e⟩)
    (fun b o _ e n => ?_) (fun b o hc e => ⟨o, k b o e⟩) (fun b xs e => same _ _ e) (fun b o u e => same _ _ e) (fun b ps e => ⟨#[], ?_⟩) (fun m hm => ?_) (fun b u e => ?_) I.bare
  · rw [old b (Heap.lt_size e)]; exact n
  · rw [same _ _ e]; simp
  · obtain ⟨o, es, ep, ho, r⟩ := hm
    exact ⟨o, es, ep, k _ o ho, r⟩
  · by_cases hb : b < s.heap.objs.size
    · rw [old b hb] at e
      exact (I.hok b u e).stay (fun c v hc q => k c v q) (fun c q => same _ _ q) fun c xs q => same _ _ q
    · exact new b u (Nat.le_of_not_lt hb) e
/-- the heap with the pairs of two rows at ps -/
structure PrH (H H2 : Hp) (ps : List Addr) (xs ys : List V) : Prop where
  len : ps.length = min xs.length ys.length
  same : ∀ b o, H b = some o → H2 b = some o
  at_ : ∀ (j : Nat) (p : Addr) (x y : V), ps[j]? = some p → xs[j]? = some x → ys[j]? = some y → H2 p = some (.tup [x, y])
  new : ∀ p ∈ ps, H p = none
  only : ∀ b, b ∉ ps → H2 b = H b
def tZpl (K : PySem.W.Frag) (ta : TA) : TE := fun σ H Q => ta σ H fun vs H1 => ∃ a b xs ys, vs = [.ref a, .ref b] ∧ SqL K H1 a xs ∧ SqL K H1 b ys ∧ ∀ H2 ps l, PrH H1 H2 ps xs ys → H2 l = none → Q (.ref l) (upd H2 l (.lst (ps.map V.ref)))
theorem vals_refs : ∀ ps : List Addr, Vals (ps.map V.ref) (ps.map Value.ref)
  | [] => .nil
  | p :: ps => .cons rfl (vals_refs ps)
theorem idx_nodup : ∀ {ps : List Addr} {j : Nat} {p : Addr}, ps.Nodup → ps[j]? = some p → ps.idxOf p = j
  | [], _, _, _, h => by simp at h
  | q :: ps, 0, p, _, h => by simp at h; subst h; simp
  | q :: ps, j + 1, p, nd, h => by
    have h : ps[j]? = some p := by simpa using h
    have hm : p ∈ ps := List.mem_of_getElem? h
    have ne : q ≠ p := fun e => (List.nodup_cons.mp nd).1 (e ▸ hm)
    have hb : (q == p) = false := beq_eq_false_iff_ne.mpr ne
    rw [List.idxOf_cons, idx_nodup (List.nodup_cons.mp nd).2 h, hb]
    rfl
open Classical in
theorem pe_zpl {e e2 : Expr} {ta : TA} {p p2 pos pos2 : Pos} (hc : X.calm = true) (hgl : Gl X "list") (hml : X.mg "list" = none) (hg : Gl X "zip") (hm : X.mg "zip" = none) (ha : PA X [e, e2] ta)
    (na : starEach [.Call (.Name "zip" p2) [e, e2] [] pos2] X.env = (false, eval (.Call (.Name "zip" p2) [e, e2] [] pos2) X.env) :: starEach [] X.env := by rfl)
    (hs : starEach [e, e2] X.env = (false, eval e X.env) :: starEach [e2] X.env := by rfl) (hpl : (backTo pos2 (starEach [e2] X.env)).any (·.1) = false := by rfl) :
    PE X (.Call (.Name "list" p) [.Call (.Name "zip" p2) [e, e2] [] pos2] [] pos) (tZpl X.K ta) := by
  refine ⟨fun pins s σ H Q I h => ?_⟩
  refine Call_ (ld_blt I hgl hml boot_list (PyProof.Rows.callWith_type1 (PyProof.Rows.args_cons (Call_ (ld_blt I hg hm PyProof.Rows.boot_zip (PyProof.Rows.callWith_type1 (thn (ha.run pos2 pins s σ H _ I h) fun us s1 ⟨vs, H1, I1, r1, q1⟩ => ?_) hs hpl))) na) na))
  obtain ⟨a, b, xs, ys, ex, hqx, hqy, q⟩ := q1
  subst ex
  cases r1 with
  | cons r rr =>
    cases rr with
    | cons r' rr =>
      cases rr
      cases r
      cases r'
      obtain ⟨its, rv, p1, hl1⟩ := I1.list hqx
      obtain ⟨its2, rv2, p2, hl2⟩ := I1.list hqy
      have e1 := rv.length
      have e2 := rv2.length
      refine call_zip_2 p1.isList p2.isList fun h' hz hTI hTO h1 h2 hsz hk => PyProof.Rows.args_nil ?_
      have D := PySem.W.ktu_apart s1.heap.objs.size a b p1.lt p2.lt
      have kl : ∀ {l : Addr} {v : Array Value}, s1.heap.IsList l v → h'.IsList l v := fun ⟨o, e, r⟩ => ⟨o, hk _ _ e, r⟩
      refine call_list_zip (s := { s1 with heap := h' }) (n := min xs.length ys.length) (I1.ok.hd hc) D hz hTO hTI h1 h2 (kl p1.isList) (kl p2.isList) (by omega) (by simp; omega) (by simp; omega) (by simp; omega) fun h3 ps c' g1 g2 g3 g4 g5 => ?_
      have hsz : s1.heap.objs.size ≤ h'.objs.size := by omega
      have k3 : ∀ b o, s1.heap.get? b = some o → h3.get? b = some o := fun b o e => g1 b o (fun hb => by
        have lt := Heap.lt_size e
        simp only [List.mem_cons, List.not_mem_nil, or_false] at hb
        rcases hb with q | q | q | q <;> rw [q] at lt
        · exact absurd lt (Nat.not_lt_of_le (Nat.le_add_right _ _))
        · exact absurd lt (Nat.not_lt_of_le (Nat.le_add_right _ _))
        · exact absurd lt (Nat.lt_irrefl _)
        · exact absurd lt (Nat.not_lt_of_le (Nat.le_add_right _ _))) (hk _ _ e)
      have fresh : ∀ b, s1.heap.objs.size ≤ b → H1 b = none := fun b hb => I1.hok.fresh hb
      obtain ⟨H2, hH2⟩ : ∃ H2 : Hp, H2 = fun b => if b ∈ ps then some (.tup [xs.getD (ps.idxOf b) .non, ys.getD (ps.idxOf b) .non]) else H1 b := ⟨_, rfl⟩
      have ge : ∀ p ∈ ps, h'.objs.size < p := fun p hp => by
        obtain ⟨j, hj⟩ := List.mem_iff_getElem?.mp hp
        exact (g4 j p hj).1
      have out : ∀ b, b ∉ ps → H2 b = H1 b := fun b hb => by rw [hH2]; exact if_neg hb
      have inn : ∀ (j : Nat) (p : Addr) (x y : V), ps[j]? = some p → xs[j]? = some x → ys[j]? = some y → H2 p = some (.tup [x, y]) := fun j p x y hj hx hy => by
        rw [hH2]
        show (if p ∈ ps then _ else _) = _
        rw [if_pos (List.mem_of_getElem? hj), idx_nodup g5 hj, List.getD_eq_getElem?_getD, List.getD_eq_getElem?_getD, hx, hy]
        rfl
      have none1 : ∀ p ∈ ps, H1 p = none := fun p hp => fresh p (Nat.le_of_lt (Nat.lt_of_le_of_lt hsz (ge p hp)))
      have pr : PrH H1 H2 ps xs ys := ⟨g3, fun b o e => by rw [out b (fun hb => by rw [none1 b hb] at e; cases e)]; exact e, inn, none1, out⟩
      have Sn : h'.objs.size ∉ ps := fun hb => Nat.lt_irrefl _ (ge _ hb)
      have S2 : H2 h'.objs.size = none := by rw [out _ Sn]; exact fresh _ hsz
      have lts : ∀ b, b < s1.heap.objs.size → b ∉ ps := fun b hb hp => Nat.lt_irrefl _ (Nat.lt_of_lt_of_le hb (Nat.le_of_lt (Nat.lt_of_le_of_lt hsz (ge b hp))))
      refine ⟨.ref h'.objs.size, upd H2 h'.objs.size (.lst (ps.map V.ref)), laidMany (s := s1) (t' := s1.toks) I1 k3 (fun b o e => ?_) (fun b hb => ?_) (fun b o hb e => ?_), rfl, q H2 ps _ pr S2⟩
      · have : b ≠ h'.objs.size := fun z => by rw [z, fresh _ hsz] at e; cases e
        rw [upd_ne this]; exact pr.same b o e
      · rw [upd_ne (Nat.ne_of_lt (Nat.lt_of_lt_of_le hb hsz))]; exact out b (lts b hb)
      · by_cases hbS : b = h'.objs.size
        · subst hbS
          rw [upd_same] at e
          cases e
          refine ⟨by rw [List.length_map, g3]; omega, ps.map Value.ref, c', vals_refs ps, g2⟩
        · rw [upd_ne hbS] at e
          by_cases hp : b ∈ ps
          · obtain ⟨j, hj⟩ := List.mem_iff_getElem?.mp hp
            have jl := (List.getElem?_eq_some_iff.mp hj).1
            obtain ⟨x, hx⟩ : ∃ x, xs[j]? = some x := ⟨xs[j]'(by omega), List.getElem?_eq_getElem (by omega)⟩
            obtain ⟨y, hy⟩ : ∃ y, ys[j]? = some y := ⟨ys[j]'(by omega), List.getElem?_eq_getElem (by omega)⟩
            rw [inn j b x y hj hx hy] at e
            cases e
            obtain ⟨_, u, u2, hu, hu2, hpr⟩ := g4 j b hj
            obtain ⟨w1, hw1, ru⟩ := rv.get hx
            obtain ⟨w2, hw2, ru2⟩ := rv2.get hy
            have e1 : u = w1 := by rw [List.getElem?_toArray] at hu; rw [hu] at hw1; exact Option.some.inj hw1
            have e2 : u2 = w2 := by rw [List.getElem?_toArray] at hu2; rw [hu2] at hw2; exact Option.some.inj hw2
            subst e1 e2
            exact ⟨by show 2 ≤ sizeLine; decide, [u, u2], .cons ru (.cons ru2 .nil), ⟨_, hpr, rfl, _, rfl⟩⟩
          · rw [out b hp, fresh b hb] at e
            cases e
end
end Dl

/-! The data layer, part F: expressions keep what the small syntax computes. -/
namespace Dl
open PySem L2 PyProof.Rows
variable [NC]

theorem pe_imp {X : Cx} {e : Expr} {t t' : TE} (h : PE X e t) (i : ∀ σ H Q, t' σ H Q → t σ H Q) : PE X e t' := ⟨fun pins s σ H Q I q => h.run pins s σ H Q I (i σ H Q q)⟩
theorem pt_imp {X : Cx} {e : Expr} {t t' : TT} (h : PT X e t) (i : ∀ σ H Q, t' σ H Q → t σ H Q) : PT X e t' := ⟨fun pins s σ H Q I q => h.run pins s σ H Q I (i σ H Q q)⟩
theorem pw_imp {X : Cx} {e : Expr} {t t' : TT} (h : PW X e t) (i : ∀ σ H Q, t' σ H Q → t σ H Q) : PW X e t' := ⟨fun wh pins s σ H Q I q => h.run wh pins s σ H Q I (i σ H Q q)⟩
theorem pa_imp {X : Cx} {e : List Expr} {t t' : TA} (h : PA X e t) (i : ∀ σ H Q, t' σ H Q → t σ H Q) : PA X e t' := ⟨fun po pins s σ H Q I q => h.run po pins s σ H Q I (i σ H Q q)⟩
theorem po_imp {X : Cx} {e : Option Expr} {t t' : TO} (h : PO X e t) (i : ∀ σ H Q, t' σ H Q → t σ H Q) : PO X e t' := ⟨fun pins s σ H Q I q => h.run pins s σ H Q I (i σ H Q q)⟩
theorem pts_imp {X : Cx} {e : List Expr} {t t' : TT} (h : PTs X e t) (i : ∀ σ H Q, t' σ H Q → t σ H Q) : PTs X e t' := ⟨fun pins s σ H Q I q => h.run pins s σ H Q I (i σ H Q q)⟩
theorem pi_imp {X : Cx} {tg e : Expr} {t t' : TI} (h : PI X tg e t) (i : ∀ σ H Q, t' σ H Q → t σ H Q) : PI X tg e t' := ⟨fun pins s σ H Q I q => h.run pins s σ H Q I (i σ H Q q)⟩
theorem dbg_ok {x : Str} (h : dbg x = true) : (x == ("__debug__" : Str)) = false := by
  unfold dbg at h
  simpa using h
theorem ifB_some {o : Option Bool} {P : Bool → Prop} (h : ifB o P) : ∃ b, o = some b ∧ P b := by
  cases o with
  | none => exact h.elim
  | some b => exact ⟨b, rfl, h⟩
theorem ifD_some {o : Option D} {P : D → Prop} (h : ifD o P) : ∃ b, o = some b ∧ P b := by
  cases o with
  | none => exact h.elim
  | some b => exact ⟨b, rfl, h⟩
theorem ifL_some {o : Option (List D)} {P : List D → Prop} (h : ifL o P) : ∃ b, o = some b ∧ P b := by
  cases o with
  | none => exact h.elim
  | some b => exact ⟨b, rfl, h⟩
theorem isNon_ok {K : PySem.W.Frag} {CA : Nat → Addr} {F : Hp} {v : V} {d : D} (x : Dx K CA F v d) : decide (v = .non) = isNon d := by
  cases x <;> first | rfl | (apply decide_eq_false; intro z; cases z)
theorem cmpD_bl {o : Cop} {d1 d2 : D} {μ : Mu} {Q : Pst} (h : cmpD o d1 d2 μ Q) : cmpD o d1 d2 μ (fun d μ => ∃ b, d = .bl b ∧ Q (.bl b) μ) := by
  cases o with
  | eq => exact ⟨h.1, h.2.1, _, rfl, h.2.2⟩
  | ne => exact ⟨h.1, h.2.1, _, rfl, h.2.2⟩
  | lt => cases d1 <;> first | exact h.elim | (cases d2 <;> first | exact h.elim | exact ⟨_, rfl, h⟩)
  | le => cases d1 <;> first | exact h.elim | (cases d2 <;> first | exact h.elim | exact ⟨_, rfl, h⟩)
  | gt => cases d1 <;> first | exact h.elim | (cases d2 <;> first | exact h.elim | exact ⟨_, rfl, h⟩)
  | ge => cases d1 <;> first | exact h.elim | (cases d2 <;> first | exact h.elim | exact ⟨_, rfl, h⟩)
  | is_ => cases d1 <;> first | exact h.elim | (cases d2 <;> first | exact h.elim | exact ⟨_, rfl, h⟩)
  | isnt => cases d1 <;> first | exact h.elim | (cases d2 <;> first | exact h.elim | exact ⟨_, rfl, h⟩)
  | eqm =>
    cases d1 <;> first | exact h.elim | skip
    rename_i p
    simp only [cmpD] at h ⊢
    cases e : μ p with
    | none => rw [e] at h; exact h.elim
    | some ds => rw [e] at h; exact ⟨h.1, h.2.1, _, rfl, h.2.2⟩
  | ner =>
    cases d1 <;> first | exact h.elim | skip
    cases d2 <;> first | exact h.elim | skip
    rename_i p p'
    simp only [cmpD] at h ⊢
    cases e : μ p with
    | none => rw [e] at h; exact h.elim
    | some ds =>
    cases e' : μ p' with
    | none => rw [e, e'] at h; exact h.elim
    | some es => rw [e, e'] at h; exact ⟨h.1, h.2.1, _, rfl, h.2.2⟩
  | nem =>
    cases d1 <;> first | exact h.elim | skip
    case lst xs =>
      simp only [cmpD] at h ⊢
      cases e : derefs xs μ with
      | none => rw [e] at h; exact h.elim
      | some ds => rw [e] at h; exact ⟨h.1, h.2.1, _, rfl, h.2.2⟩
    rename_i p
    simp only [cmpD] at h ⊢
    cases e : μ p with
    | none => rw [e] at h; exact h.elim
    | some ds => rw [e] at h; exact ⟨h.1, h.2.1, _, rfl, h.2.2⟩
  | in_ =>
    cases d2 <;> first | exact h.elim | exact ⟨h.1, h.2.1, _, rfl, h.2.2⟩ | skip
    rename_i p
    simp only [cmpD] at h ⊢
    cases e : μ p with
    | none => rw [e] at h; exact h.elim
    | some ds => rw [e] at h; exact ⟨h.1, h.2.1, _, rfl, h.2.2⟩
  | notin =>
    cases d2 <;> first | exact h.elim | exact ⟨h.1, h.2.1, _, rfl, h.2.2⟩ | skip
    rename_i p
    simp only [cmpD] at h ⊢
    cases e : μ p with
    | none => rw [e] at h; exact h.elim
    | some ds => rw [e] at h; exact ⟨h.1, h.2.1, _, rfl, h.2.2⟩
  | inT => cases d2 <;> first | exact h.elim | exact ⟨h.1, h.2.1, _, rfl, h.2.2⟩
  | notinT => cases d2 <;> first | exact h.elim | exact ⟨h.1, h.2.1, _, rfl, h.2.2⟩

section
variable (CA : Nat → Addr) (CN : Nat → Str) (nC : Nat)
def SE (m : ME) : Prop := ∀ {X : Cx} {k : Nat} {W : WX} {e : Expr}, Gd X k W CA CN nC → matE CN X.N X.env.scope m e = true → okE nC (FnSat CA X k) (GlSat CA X) m → PE X e (tE X.K CA W m)
def ST (m : ME) : Prop := ∀ {X : Cx} {k : Nat} {W : WX} {e : Expr}, Gd X k W CA CN nC → matE CN X.N X.env.scope m e = true → okE nC (FnSat CA X k) (GlSat CA X) m → tst m = true → PT X e (tT X.K CA W m)
def SA (m : MA) : Prop := ∀ {X : Cx} {k : Nat} {W : WX} {e : List Expr}, Gd X k W CA CN nC → matA CN X.N X.env.scope m e = true → okA nC (FnSat CA X k) (GlSat CA X) m → PA X e (tA X.K CA W m)
/-- a bool operation's members -/
def SL (m : MA) : Prop := ∀ {X : Cx} {k : Nat} {W : WX} {e : List Expr} {pos : Pos} {isAnd : Bool} {op : BoolOp}, op = (if isAnd then .And else .Or) → Gd X k W CA CN nC → matA CN X.N X.env.scope m e = true → okA nC (FnSat CA X k) (GlSat CA X) m →
  PE X (.BoolOp op e pos) (Gr X.K CA (Dx X.K CA) (wpL isAnd m) W) ∧
    (tsts m = true → PW X (.BoolOp op e pos) (Gr X.K CA (fun _ (b : Bool) d => b = d) (fun ρ μ Q X => wpL isAnd m ρ μ (fun d μ1 => ifB (truD d μ1) fun b => Q b μ1) X) W))
def SO (m : MO) : Prop := (∀ {X : Cx} {k : Nat} {W : WX} {e : Option Expr}, Gd X k W CA CN nC → matO CN X.N X.env.scope m e = true → okO nC (FnSat CA X k) (GlSat CA X) m → PO X e (tO X.K CA W m)) ∧
  ∀ {X : Cx} {k : Nat} {W : WX} {e : List Expr}, Gd X k W CA CN nC → matC CN X.N X.env.scope m e = true → okO nC (FnSat CA X k) (GlSat CA X) m → PTs X e (tQ X.K CA W m)
def SI (m : MI) : Prop := ∀ {X : Cx} {k : Nat} {W : WX} {t e : Expr}, Gd X k W CA CN nC → matI CN X.N X.env.scope m t e = true → okI nC (FnSat CA X k) (GlSat CA X) m → PI X t e (tI X.K CA W m)
end
section
variable {CA : Nat → Addr} {CN : Nat → Str} {nC : Nat}
theorem truth_of {X : Cx} {W : WX} {e : Expr} {m : ME} (h : PE X e (tE X.K CA W m)) (hp : plainT e = true) : PT X e (tT X.K CA W m) := by
  refine pt_imp (pt_truth h (fun w => plainT_ok hp X.env w)) fun σ H Q q => ?_
  obtain ⟨F, R, ρ, μ, Y, Qd, s, w, k⟩ := q
  refine Gr.mk s w fun d μ' v F' H' q f s' x => ?_
  obtain ⟨b, e1, q⟩ := ifB_some q
  exact ⟨b, truD_ok e1 x s'.hs, k b μ' b F' H' q f s'.hs rfl⟩
theorem plainly {m : ME} (hE : SE CA CN nC m) (hp : ∀ {N : List Str} {sc : Scope} {e : Expr}, matE CN N sc m e = true → plainT e = true) : SE CA CN nC m ∧ ST CA CN nC m :=
  ⟨hE, fun g h o _ => truth_of (hE g h o) (hp h)⟩
/-- the block of a comprehension -/
theorem Gd.blk {X : Cx} {k : Nat} {W : WX} (g : Gd X k W CA CN nC) (s : Shared) (H : Hp) (scope : Scope) (C : Addr) (cl : List (Str × Addr)) (fp : List Addr) :
    Gd (X.blk s H scope (compEnvC scope cl C X.env) fp) k (fun _ _ _ _ => False) CA CN nC where
  calm := g.calm
  nd := g.nd
  room := g.room
  grd := g.grd
  tk := takes0
  pass := PassesOwn.never
  wd := ⟨g.wd.blt, g.wd.cls, g.wd.inj⟩
  dbg := g.dbg
  seer := ⟨g.seer.ns, g.seer.tree, g.seer.top, g.seer.dep⟩

theorem se_var (i : Nat) : SE CA CN nC (.var i) := by
  intro X k W e g h o
  cases e <;> first | (simp [matE] at h; done) | skip
  simp only [matE, Bool.and_eq_true, decide_eq_true_eq] at h
  have dd := g.dbg _ (List.mem_of_getElem? h.1)
  refine pe_imp (pe_var h.1 (visB_ok h.2) dd.1 dd.2) fun σ H Q q => ?_
  obtain ⟨F, R, ρ, μ, Y, Qd, s, w, k⟩ := q
  obtain ⟨d, e1, w⟩ := ifD_some w
  obtain ⟨v, hv, x⟩ := s.rp.at_ _ d e1
  exact ⟨v, hv, k _ _ _ _ _ w (Same.refl F) s.hs x⟩
theorem tC_of {K : PySem.W.Frag} {W : WX} {m : ME} {v : V} {d : D} (hx : ∀ F, Dx K CA F v d) (hw : ∀ ρ μ Q X, wpE m ρ μ Q X → Q d μ) (σ : L2.St) (H : Hp) (Q : VK) (q : tE K CA W m σ H Q) : tC v σ H Q := by
  obtain ⟨F, R, ρ, μ, Y, Qd, s, w, k⟩ := q
  exact k _ _ _ _ _ (hw _ _ _ _ w) (Same.refl F) s.hs (hx F)
theorem se_non : SE CA CN nC .non := by
  intro X k W e g h o
  cases e <;> first | (simp [matE] at h; done) | skip
  rename_i c n p
  cases c <;> first | (simp [matE] at h; done) | skip
  exact pe_imp pe_non (tC_of (fun _ => .non) fun _ _ _ _ w => w)
theorem se_bl (b : Bool) : SE CA CN nC (.bl b) := by
  intro X k W e g h o
  cases e <;> first | (simp [matE] at h; done) | skip
  rename_i c n p
  cases c <;> first | (simp [matE] at h; done) | skip
  simp only [matE, beq_iff_eq] at h
  subst h
  exact pe_imp pe_bl (tC_of (fun _ => .bl _) fun _ _ _ _ w => w)
theorem se_int (b : Int) : SE CA CN nC (.int b) := by
  intro X k W e g h o
  cases e <;> first | (simp [matE] at h; done) | skip
  rename_i c n p
  cases c <;> first | (simp [matE] at h; done) | skip
  simp only [matE, beq_iff_eq] at h
  subst h
  exact pe_imp pe_int (tC_of (fun _ => .int _) fun _ _ _ _ w => w)
theorem se_str (b : Str) : SE CA CN nC (.str b) := by
  intro X k W e g h o
  cases e <;> first | (simp [matE] at h; done) | skip
  rename_i c n p
  cases c <;> first | (simp [matE] at h; done) | skip
  simp only [matE, decide_eq_true_eq] at h
  subst h
  exact pe_imp pe_str (tC_of (fun _ => .str _) fun _ _ _ _ w => w)
theorem se_glob (x : Str) (d : D) : SE CA CN nC (.glob x d) := by
  intro X k W e g h o
  cases e <;> first | (simp [matE] at h; done) | skip
  simp only [matE, Bool.and_eq_true, decide_eq_true_eq] at h
  obtain ⟨⟨h1, h2⟩, h3⟩ := h
  subst h1
  obtain ⟨u, v, hm, r, hx⟩ := o
  exact pe_imp (pe_glob (glB_ok h2) hm r (dbg_ok h3)) (tC_of hx fun _ _ _ _ w => w)
theorem se_bin {o : Op2} {a b : ME} (ia : SE CA CN nC a) (ib : SE CA CN nC b) : SE CA CN nC (.bin o a b) := by
  intro X k W e g h ok
  cases e <;> first | (simp [matE] at h; done) | skip
  simp only [matE, Bool.and_eq_true] at h
  obtain ⟨⟨h1, h2⟩, h3⟩ := h
  refine pe_imp (pe_op (rOp_ok g.seer h1) (ia g h2 ok.1) (ib g h3 ok.2)) fun σ H Q q => ?_
  obtain ⟨F, R, ρ, μ, Y, Qd, s, w, k⟩ := q
  refine Gr.mk s w fun d1 μ1 v1 F1 H1 q1 f1 s1 x1 => Gr.mk s1 q1 fun d2 μ2 v2 F2 H2 q2 f2 s2 x2 => ?_
  exact opD_ok q2 (x1.mono f2) x2 s2.hs fun d μ' v F' H' q f z x => k d μ' v F' H' q ((f1.trans f2).trans f) z x
theorem se_neg {a : ME} (ia : SE CA CN nC a) : SE CA CN nC (.neg a) := by
  intro X k W e g h ok
  cases e <;> first | (simp [matE] at h; done) | skip
  rename_i op l p
  cases op <;> first | (simp [matE] at h; done) | skip
  simp only [matE] at h
  refine pe_imp (pe_un un_neg (ia g h ok)) fun σ H Q q => ?_
  obtain ⟨F, R, ρ, μ, Y, Qd, s, w, k⟩ := q
  refine Gr.mk s w fun d1 μ1 v1 F1 H1 q1 f1 s1 x1 => ?_
  cases x1 <;> first | exact q1.elim | skip
  exact ⟨_, rfl, k _ _ _ _ _ q1 f1 s1.hs (.int _)⟩
theorem small_len {n : Nat} (h : n ≤ 1000) : n ≤ sizeLine := Nat.le_trans h (by decide)
theorem se_tup {a : MA} (ia : SA CA CN nC a) : SE CA CN nC (.tup a) := by
  intro X k W e g h ok
  cases e <;> first | (simp [matE] at h; done) | skip
  simp only [matE, Bool.and_eq_true, decide_eq_true_eq] at h
  refine pe_imp (pe_tup (ia g h.2 ok)) fun σ H Q q => ?_
  obtain ⟨F, R, ρ, μ, Y, Qd, s, w, k⟩ := q
  refine Gr.mk s w fun ds μ1 vs F1 H1 q1 f1 s1 x1 => ⟨by rw [x1.1.length, x1.2]; exact small_len h.1, fun p hp => ?_⟩
  have sn := same_new (o := .tup vs) (s1.hs.ff hp)
  exact k _ _ _ _ _ q1 (f1.trans sn) (s1.hs.new hp) (.tup (.of upd_same) (x1.1.mono sn))
theorem se_lst {a : MA} (ia : SA CA CN nC a) : SE CA CN nC (.lst a) := by
  intro X k W e g h ok
  cases e <;> first | (simp [matE] at h; done) | skip
  simp only [matE, Bool.and_eq_true, decide_eq_true_eq] at h
  refine pe_imp (pe_lst (ia g h.2 ok)) fun σ H Q q => ?_
  obtain ⟨F, R, ρ, μ, Y, Qd, s, w, k⟩ := q
  refine Gr.mk s w fun ds μ1 vs F1 H1 q1 f1 s1 x1 => ⟨by rw [x1.1.length, x1.2]; exact small_len h.1, fun p hp => ?_⟩
  have sn := same_new (o := .lst vs) (s1.hs.ff hp)
  exact k _ _ _ _ _ q1 (f1.trans sn) (s1.hs.new hp) (.lst (.of upd_same) (x1.1.mono sn))
theorem se_newl {a : MA} (ia : SA CA CN nC a) : SE CA CN nC (.newl a) := by
  intro X k W e g h ok
  cases e <;> first | (simp [matE] at h; done) | skip
  simp only [matE, Bool.and_eq_true, decide_eq_true_eq] at h
  refine pe_imp (pe_lst (ia g h.2 ok)) fun σ H Q q => ?_
  obtain ⟨F, R, ρ, μ, Y, Qd, s, w, k⟩ := q
  refine Gr.mk s w fun ds μ1 vs F1 H1 q1 f1 s1 x1 => ⟨by rw [x1.1.length, x1.2]; exact small_len h.1, fun p hp => ?_⟩
  exact k _ _ _ _ _ (q1 p (s1.hs.mf hp)) f1 (s1.hs.newM hp x1.1) (.ref p)
theorem se_ixc {a : ME} {n : Nat} (ia : SE CA CN nC a) : SE CA CN nC (.ixc a n) := by
  intro X k W e g h ok
  cases e <;> first | (simp [matE] at h; done) | skip
  rename_i v i p
  cases i <;> first | (simp [matE] at h; done) | skip
  rename_i c j p2
  cases c <;> first | (simp [matE] at h; done) | skip
  simp only [matE, Bool.and_eq_true, beq_iff_eq] at h
  obtain ⟨h1, h2⟩ := h
  subst h1
  refine pe_imp (pe_ix ix_seq (ia g h2 ok) pe_int (fun _ _ => rfl)) fun σ H Q q => ?_
  obtain ⟨F, R, ρ, μ, Y, Qd, s, w, k⟩ := q
  refine Gr.mk s w fun d1 μ1 v1 F1 H1 q1 f1 s1 x1 => ?_
  obtain ⟨d, e1, q1⟩ := ifD_some q1
  exact selI_ok (selN_I e1) x1 s1.hs fun u xu => k _ _ _ _ _ q1 f1 s1.hs xu
theorem lookK_ok {K : PySem.W.Frag} {F : Hp} : ∀ {kvs : List (Key × V)} {ks : List Int} {ds : List D} {n : Int} {d : D}, kvs.map (·.1) = ks.map Sum.inl → DxA K CA F (kvs.map (·.2)) ds → lookK ks ds n = some d → ∃ v, valV kvs (.inl n : Key) = some v ∧ Dx K CA F v d
  | [], ks, ds, n, d, h1, h2, e => by
    cases ks with
    | nil => simp [lookK] at e
    | cons k ks => simp at h1
  | p :: kvs, ks, ds, n, d, h1, h2, e => by
    cases ks with
    | nil => simp at h1
    | cons k ks =>
      simp only [List.map_cons, List.cons.injEq] at h1
      cases h2 with
      | cons h t =>
        simp only [lookK] at e
        by_cases hk : k = n
        · rw [if_pos hk] at e
          cases e
          exact ⟨p.2, valV_pos (by rw [h1.1, hk]), h⟩
        · rw [if_neg hk] at e
          obtain ⟨v, e1, x⟩ := lookK_ok h1.2 t e
          exact ⟨v, by rw [valV_neg (by rw [h1.1]; exact fun z => hk (Sum.inl.inj z))]; exact e1, x⟩
theorem se_ix {a i : ME} (ia : SE CA CN nC a) (ii : SE CA CN nC i) : SE CA CN nC (.ix a i) := by
  intro X k W e g h ok
  cases e <;> first | (simp [matE] at h; done) | skip
  simp only [matE, Bool.and_eq_true] at h
  obtain ⟨⟨h1, h2⟩, h3⟩ := h
  refine pe_imp (pe_ix ix_seq (ia g h2 ok.1) (ii g h3 ok.2) (notSl_ok h1)) fun σ H Q q => ?_
  obtain ⟨F, R, ρ, μ, Y, Qd, s, w, k⟩ := q
  refine Gr.mk s w fun d1 μ1 v1 F1 H1 q1 f1 s1 x1 => Gr.mk s1 q1 fun d2 μ2 v2 F2 H2 q2 f2 s2 x2 => ?_
  cases x2 <;> first | exact q2.elim | skip
  obtain ⟨d, e1, q2⟩ := ifD_some q2
  exact selI_ok e1 (x1.mono f2) s2.hs fun u xu => k _ _ _ _ _ q2 (f1.trans f2) s2.hs xu
theorem se_dix {a i : ME} (ia : SE CA CN nC a) (ii : SE CA CN nC i) : SE CA CN nC (.dix a i) := by
  intro X k W e g h ok
  cases e <;> first | (simp [matE] at h; done) | skip
  simp only [matE, Bool.and_eq_true] at h
  obtain ⟨⟨h1, h2⟩, h3⟩ := h
  have hu : X.A.units + 1 < cLine := by have := g.room.un; omega
  refine pe_imp (pe_dget hu (ia g h2 ok.1) (ii g h3 ok.2) (notSl_ok h1)) fun σ H Q q => ?_
  obtain ⟨F, R, ρ, μ, Y, Qd, s, w, k⟩ := q
  refine Gr.mk s w fun d1 μ1 v1 F1 H1 q1 f1 s1 x1 => Gr.mk s1 q1 fun d2 μ2 v2 F2 H2 q2 f2 s2 x2 => ?_
  cases x2 <;> first | exact q2.elim | skip
  rename_i n
  have q3 : ifD (dctAt d1 n) fun x => Qd x μ2 := q2
  clear q2
  obtain ⟨d, e1, q4⟩ := ifD_some q3
  clear q3
  cases x1 with
  | @dct a kvs ks ds h4 h5 h6 =>
    obtain ⟨v, e2, xv⟩ := lookK_ok h5 h6 e1
    exact ⟨a, v, rfl, .inl ⟨kvs, .inl n, .inl (s2.hs.f _ _ (f2 _ _ h4)), rfl, e2.symm⟩, k _ _ _ _ _ q4 (f1.trans f2) s2.hs (xv.mono f2)⟩
  | _ => simp [dctAt] at e1
theorem se_slc {a : ME} {lo hi : MO} (ia : SE CA CN nC a) (il : SO CA CN nC lo) (ih : SO CA CN nC hi) : SE CA CN nC (.slc a lo hi) := by
  intro X k W e g h ok
  cases e <;> first | (simp [matE] at h; done) | skip
  rename_i v i p
  cases i <;> first | (simp [matE] at h; done) | skip
  rename_i l u st p2
  cases st <;> first | (simp [matE] at h; done) | skip
  simp only [matE, Bool.and_eq_true] at h
  obtain ⟨⟨h1, h2⟩, h3⟩ := h
  refine pe_imp (pe_slice rSl_ok (ia g h1 ok.1) (il.1 g h2 ok.2.1) (ih.1 g h3 ok.2.2)) fun σ H Q q => ?_
  obtain ⟨F, R, ρ, μ, Y, Qd, s, w, k⟩ := q
  refine Gr.mk s w fun d1 μ1 v1 F1 H1 q1 f1 s1 x1 => Gr.mk s1 q1 fun d2 μ2 v2 F2 H2 q2 f2 s2 x2 => Gr.mk s2 q2 fun d3 μ3 v3 F3 H3 q3 f3 s3 x3 => ?_
  subst x2 x3
  exact slcD_ok q3 ((x1.mono f2).mono f3) s3.hs fun d μ' v F' H' q f z x => k d μ' v F' H' q (((f1.trans f2).trans f3).trans f) z x
theorem se_call {x : Str} {S : DSp} {a : MA} (ia : SA CA CN nC a) : SE CA CN nC (.call x S a) := by
  intro X k W e g h ok
  cases e <;> first | (simp [matE] at h; done) | skip
  rename_i fn args kws p
  cases fn <;> first | (simp [matE] at h; done) | skip
  cases args <;> first | (simp [matE] at h; done) | skip
  cases kws <;> first | (simp [matE] at h; done) | skip
  rename_i y yp e es
  simp only [matE, Bool.and_eq_true, decide_eq_true_eq] at h
  obtain ⟨⟨⟨h1, h2⟩, h3⟩, h4⟩ := h
  subst h1
  obtain ⟨⟨f, fd, ps, fo, fm, fk, fb⟩, oa⟩ := ok
  have st := matA_star h4
  simp only [List.all_cons, Bool.and_eq_true] at st
  refine pe_imp (pe_g fo g.grd g.room (glB_ok h2) fm fk fb (fun σ => passAt g.tk σ) (ia g h4 oa) (dbg_ok h3) (star_cons st.1 es X.env) (star_none st.2 p X.env)) fun σ H Q q => ?_
  obtain ⟨F, R, ρ, μ, Y, Qd, s, w, k⟩ := q
  refine Gr.mk s w fun ds μ1 vs F1 H1 q1 f1 s1 x1 => ?_
  exact ⟨F1, R, μ1, ds, Y, Qd, s1.hs, x1.1, q1, fun d μ' v F' H' q f z x => k d μ' v F' H' q (f1.trans f) z x, fun c μ' F' H' q f z => s1.xx c μ' F' H' q f z⟩
theorem se_bl1 {f : Bl1} {a : ME} (ia : SE CA CN nC a) : SE CA CN nC (.bl1 f a) := by
  intro X k W e g h ok
  cases e <;> first | (simp [matE] at h; done) | skip
  rename_i fn args kws p
  cases fn <;> first | (simp [matE] at h; done) | skip
  cases args with
  | nil => simp [matE] at h
  | cons e es =>
    cases es <;> first | (simp [matE] at h; done) | skip
    cases kws <;> first | (simp [matE] at h; done) | skip
    simp only [matE, Bool.and_eq_true, decide_eq_true_eq] at h
    obtain ⟨⟨⟨h1, h2⟩, h3⟩, h4⟩ := h
    subst h1
    refine pe_imp (pe_b1 g.grd (by have := g.room.un; omega) g.calm (glB_ok h2) (g.wd.blt _ (name_mem_b1 f)) h3 (ia g h4 ok)) fun σ H Q q => ?_
    obtain ⟨F, R, ρ, μ, Y, Qd, s, w, k⟩ := q
    refine Gr.mk s w fun d1 μ1 v1 F1 H1 q1 f1 s1 x1 => ?_
    exact b1D_ok q1 x1 s1.hs fun d μ' v F' H' q f z x => k d μ' v F' H' q (f1.trans f) z x
theorem se_bl2 {f : Bl2} {a b : ME} (ia : SE CA CN nC a) (ib : SE CA CN nC b) : SE CA CN nC (.bl2 f a b) := by
  intro X k W e g h ok
  cases e <;> first | (simp [matE] at h; done) | skip
  rename_i fn args kws p
  cases fn <;> first | (simp [matE] at h; done) | skip
  cases args with
  | nil => simp [matE] at h
  | cons e es =>
    cases es with
    | nil => simp [matE] at h
    | cons e2 es =>
      cases es <;> first | (simp [matE] at h; done) | skip
      cases kws <;> first | (simp [matE] at h; done) | skip
      simp only [matE, Bool.and_eq_true, decide_eq_true_eq] at h
      obtain ⟨⟨⟨⟨⟨h1, h2⟩, h3⟩, h4⟩, h5⟩, h6⟩ := h
      subst h1
      refine pe_imp (pe_b2 g.calm (glB_ok h2) (g.wd.blt _ (name_mem_b2 f)) h3 h4 (ia g h5 ok.1) (ib g h6 ok.2)) fun σ H Q q => ?_
      obtain ⟨F, R, ρ, μ, Y, Qd, s, w, k⟩ := q
      refine Gr.mk s w fun d1 μ1 v1 F1 H1 q1 f1 s1 x1 => Gr.mk s1 q1 fun d2 μ2 v2 F2 H2 q2 f2 s2 x2 => ?_
      exact b2D_ok q2 (x1.mono f2) x2 s2.hs fun d μ' v F' H' q f z x => k d μ' v F' H' q ((f1.trans f2).trans f) z x
theorem okE_isi {fs : Str → DSp → Prop} {gs : Str → D → Prop} {a : ME} {t : Ty} (h : okE nC fs gs (.isi a t)) : okE nC fs gs a ∧ (∀ c, t = .cls c → nC = NC.n ∧ c < NC.n) ∧ (t = .vErr → nC = NC.n) := by
  cases t with
  | cls c => exact ⟨h.2.2, fun c' e => by cases e; exact ⟨h.1, h.2.1⟩, fun e => (nomatch e)⟩
  | vErr => exact ⟨h.2, fun c' e => (nomatch e), fun _ => h.1⟩
  | _ => exact ⟨h, fun c' e => (nomatch e), fun e => (nomatch e)⟩
theorem se_isi {a : ME} {t : Ty} (ia : SE CA CN nC a) : SE CA CN nC (.isi a t) := by
  intro X k W e g h ok
  cases e <;> first | (simp [matE] at h; done) | skip
  rename_i fn args kws p
  cases fn <;> first | (simp [matE] at h; done) | skip
  cases args with
  | nil => simp [matE] at h
  | cons e es =>
    cases es with
    | nil => simp [matE] at h
    | cons e2 es =>
      cases e2 <;> first | (simp [matE] at h; done) | skip
      rename_i z zp
      cases es <;> first | (simp [matE] at h; done) | skip
      cases kws <;> first | (simp [matE] at h; done) | skip
      simp only [matE, Bool.and_eq_true, decide_eq_true_eq] at h
      obtain ⟨⟨⟨⟨⟨⟨h1, h2⟩, h3⟩, h4⟩, h5⟩, h6⟩, h7⟩ := h
      subst h1 h2
      obtain ⟨oa, oc, ov⟩ := okE_isi ok
      have e1 := star_cons h6 [.Name (t.name CN) zp] X.env
      have pz : PE X (.Name (t.name CN) zp) (tC (tyV2 CA t)) := pe_tyN g.wd (glB_ok h4) (dbg_ok h5) (fun c hc => by have := oc c hc; omega)
      refine pe_imp (pe_callB (call_isi.or call_isX) (glB_ok h3) (g.wd.blt _ name_mem_isi) boot_isinstance (pa_cons (ia g h7 oa) (pa_cons pz pa_nil rfl) e1) (by decide) (by decide) e1 rfl) fun σ H Q q => ?_
      obtain ⟨F, R, ρ, μ, Y, Qd, s, w, k⟩ := q
      refine Gr.mk s w fun d1 μ1 v1 F1 H1 q1 f1 s1 x1 => ?_
      obtain ⟨b, eb, q1⟩ := ifB_some q1
      exact isiD_ok g.wd oc ov eb x1 s1.hs (k _ _ _ _ _ q1 f1 s1.hs (.bl _))

theorem se_cmp {o : Cop} {a b : ME} (ia : SE CA CN nC a) (ib : SE CA CN nC b) : SE CA CN nC (.cmp o a b) ∧ ST CA CN nC (.cmp o a b) := by
  constructor
  · intro X k W e g h ok
    cases e <;> first | (simp [matE] at h; done) | skip
    rename_i l ops rs p
    cases ops with
    | nil => simp [matE] at h
    | cons op ops =>
      cases ops <;> first | (simp [matE] at h; done) | skip
      cases rs with
      | nil => simp [matE] at h
      | cons r rs =>
        cases rs <;> first | (simp [matE] at h; done) | skip
        simp only [matE, Bool.and_eq_true] at h
        obtain ⟨⟨⟨h1, h2⟩, h3⟩, h4⟩ := h
        refine pe_imp (pe_cmpR (rCmp_ok g.room h1) (ia g h3 ok.1) (ib g h4 ok.2) (notSet_in h2 op)) fun σ H Q q => ?_
        obtain ⟨F, R, ρ, μ, Y, Qd, s, w, k⟩ := q
        refine Gr.mk s w fun d1 μ1 v1 F1 H1 q1 f1 s1 x1 => Gr.mk s1 q1 fun d2 μ2 v2 F2 H2 q2 f2 s2 x2 => ?_
        exact cmpD_ok q2 (x1.mono f2) x2 s2.hs fun d μ' v F' H' q f z x => k d μ' v F' H' q ((f1.trans f2).trans f) z x
  · intro X k W e g h ok _
    cases e <;> first | (simp [matE] at h; done) | skip
    rename_i l ops rs p
    cases ops with
    | nil => simp [matE] at h
    | cons op ops =>
      cases ops <;> first | (simp [matE] at h; done) | skip
      cases rs with
      | nil => simp [matE] at h
      | cons r rs =>
        cases rs <;> first | (simp [matE] at h; done) | skip
        simp only [matE, Bool.and_eq_true] at h
        obtain ⟨⟨⟨h1, h2⟩, h3⟩, h4⟩ := h
        refine pt_imp (pt_cmpR (rCmp_ok g.room h1) (ia g h3 ok.1) (ib g h4 ok.2) (notSet_in h2 op)) fun σ H Q q => ?_
        obtain ⟨F, R, ρ, μ, Y, Qd, s, w, k⟩ := q
        refine Gr.mk s w fun d1 μ1 v1 F1 H1 q1 f1 s1 x1 => Gr.mk s1 q1 fun d2 μ2 v2 F2 H2 q2 f2 s2 x2 => ?_
        refine cmpD_ok (cmpD_bl q2) (x1.mono f2) x2 s2.hs fun d μ' v F' H' q f z x => ?_
        obtain ⟨b, rfl, q⟩ := q
        cases x
        exact ⟨b, rfl, k b μ' b F' H' q ((f1.trans f2).trans f) z rfl⟩
theorem se_isN {yes : Bool} {a : ME} (ia : SE CA CN nC a) : SE CA CN nC (.isN yes a) ∧ ST CA CN nC (.isN yes a) := by
  have inv : ∀ {N : List Str} {sc : Scope} {e : Expr}, matE CN N sc (.isN yes a) e = true → ∃ l j p1 p2, matE CN N sc a l = true ∧ e = .Compare l [if yes then .Is else .IsNot] [.Constant .none j p1] p2 := by
    intro N sc e h
    cases e <;> first | (cases yes <;> simp [matE] at h; done) | skip
    rename_i l ops rs p
    cases ops with
    | nil => cases yes <;> simp [matE] at h
    | cons op ops =>
      cases ops <;> first | (cases yes <;> simp [matE] at h; done) | skip
      cases rs with
      | nil => cases yes <;> cases op <;> simp [matE] at h
      | cons r rs =>
        cases rs <;> first | (cases yes <;> cases op <;> simp [matE] at h; done) | skip
        cases r <;> first | (cases yes <;> cases op <;> simp [matE] at h; done) | skip
        rename_i c j p1
        cases c <;> first | (cases yes <;> cases op <;> simp [matE] at h; done) | skip
        cases yes <;> cases op <;> first | (simp [matE] at h; done) | exact ⟨l, j, p1, p, by simpa [matE] using h, rfl⟩
  have pc : ∀ {X : Cx} {l : Expr} {j : Nat} {p1 : Pos} {ta : TE}, PE X l ta → PC X (if yes then .Is else .IsNot) l (.Constant .none j p1) (fun σ H Q => ta σ H fun x H1 => Q (.bl (decide (x = .non) == yes)) H1) := by
    intro X l j p1 ta hl
    cases yes with
    | true => exact ⟨fun pins s σ H Q I q => (pc_isN hl).run pins s σ H Q I (by simpa [tIsN] using q)⟩
    | false => exact ⟨fun pins s σ H Q I q => (pc_notN hl).run pins s σ H Q I (by simpa [tNotN] using q)⟩
  constructor
  · intro X k W e g h ok
    obtain ⟨l, j, p1, p2, hl, rfl⟩ := inv h
    refine pe_imp (pe_cmp (pc (ia g hl ok)) rfl) fun σ H Q q => ?_
    obtain ⟨F, R, ρ, μ, Y, Qd, s, w, k⟩ := q
    refine Gr.mk s w fun d1 μ1 v1 F1 H1 q1 f1 s1 x1 => ?_
    rw [isNon_ok x1]
    exact k _ _ _ _ _ q1 f1 s1.hs (.bl _)
  · intro X k W e g h ok _
    obtain ⟨l, j, p1, p2, hl, rfl⟩ := inv h
    refine pt_imp (pt_cmp (pc (ia g hl ok)) rfl) fun σ H Q q => ?_
    obtain ⟨F, R, ρ, μ, Y, Qd, s, w, k⟩ := q
    refine Gr.mk s w fun d1 μ1 v1 F1 H1 q1 f1 s1 x1 => ⟨_, rfl, ?_⟩
    rw [isNon_ok x1]
    exact k _ _ _ _ _ q1 f1 s1.hs rfl
theorem se_nt {a : ME} (ia : SE CA CN nC a ∧ ST CA CN nC a) : SE CA CN nC (.nt a) ∧ ST CA CN nC (.nt a) := by
  constructor
  · intro X k W e g h ok
    cases e <;> first | (simp [matE] at h; done) | skip
    rename_i op l p
    cases op <;> first | (simp [matE] at h; done) | skip
    simp only [matE] at h
    refine pe_imp (pe_notT (ia.1 g h ok)) fun σ H Q q => ?_
    obtain ⟨F, R, ρ, μ, Y, Qd, s, w, k⟩ := q
    refine Gr.mk s w fun d1 μ1 v1 F1 H1 q1 f1 s1 x1 => ?_
    obtain ⟨b, eb, q1⟩ := ifB_some q1
    exact ⟨b, truD_ok eb x1 s1.hs, k _ _ _ _ _ q1 f1 s1.hs (.bl _)⟩
  · intro X k W e g h ok ht
    cases e <;> first | (simp [matE] at h; done) | skip
    rename_i op l p
    cases op <;> first | (simp [matE] at h; done) | skip
    simp only [matE] at h
    refine pt_imp (pt_not (ia.2 g h ok ht)) fun σ H Q q => ?_
    obtain ⟨F, R, ρ, μ, Y, Qd, s, w, k⟩ := q
    refine Gr.mk (Qd := fun b μ1 => Qd (!b) μ1) s w fun b μ1 b' F1 H1 q1 f1 s1 x1 => ?_
    subst x1
    exact k _ _ _ _ _ q1 f1 s1.hs rfl
theorem se_ife {t a b : ME} (it : SE CA CN nC t ∧ ST CA CN nC t) (ia : SE CA CN nC a) (ib : SE CA CN nC b) : SE CA CN nC (.ife t a b) := by
  intro X k W e g h ok
  cases e <;> first | (simp [matE] at h; done) | skip
  simp only [matE, Bool.and_eq_true] at h
  obtain ⟨⟨⟨hz, h1⟩, h2⟩, h3⟩ := h
  refine pe_imp (pe_ifExp (it.2 g h1 ok.1 hz) (ia g h2 ok.2.1) (ib g h3 ok.2.2)) fun σ H Q q => ?_
  obtain ⟨F, R, ρ, μ, Y, Qd, s, w, k⟩ := q
  refine Gr.mk (Qd := fun (c : Bool) μ1 => if c = true then wpE a ρ μ1 Qd Y else wpE b ρ μ1 Qd Y) s w fun c μ1 c' F1 H1 q1 f1 s1 x1 => ?_
  subst x1
  cases c' with
  | true => exact Gr.mk s1 q1 fun d μ' v F' H' q f z x => k d μ' v F' H' q (f1.trans f) z.hs x
  | false => exact Gr.mk s1 q1 fun d μ' v F' H' q f z x => k d μ' v F' H' q (f1.trans f) z.hs x
theorem se_frz {a : ME} (ia : SE CA CN nC a) : SE CA CN nC (.frz a) := by
  intro X k W e g h ok
  simp only [matE, Bool.and_eq_true] at h
  refine pe_imp (ia g h.2 ok) fun σ H Q q => ?_
  obtain ⟨F, R, ρ, μ, Y, Qd, s, w, k⟩ := q
  refine Gr.mk s w fun d1 μ1 v1 F1 H1 q1 f1 s1 x1 => ?_
  cases x1 <;> first | exact q1.elim | skip
  case lst h a => exact k _ _ _ _ _ q1 f1 s1.hs (.lst h a)
  case ref p =>
    obtain ⟨ds, e1, q1⟩ := ifL_some q1
    obtain ⟨vs, z, xs, fp⟩ := s1.hs.freeze e1
    have sn := same_new (o := .lst vs) fp
    exact k _ _ _ _ _ q1 (f1.trans sn) z (.lst (.of upd_same) (xs.mono sn))
theorem relS_loc {sc scope : Scope} {x : Str} (h : locB scope x = true) : Loc (relS scope sc) x ∧ ((scope.names.lookup x == some .cell) = true ∨ (relS scope sc).names.lookup x = some .local) := by
  rcases locB_ok h with z | z
  · have e : (relS scope sc).names.lookup x = some .local := lookup_relS_keep (by decide) z
    exact ⟨.inl e, .inr e⟩
  · have e : (relS scope sc).names.lookup x = some .cell := lookup_relS_keep (by decide) z
    exact ⟨.inr e, .inl (by rw [z]; rfl)⟩
theorem lc_read {K : PySem.W.Frag} {W : WX} {mu : Bool} {tg : MT} {it : MI} {c : MO} {e : ME} (σ : L2.St) (H : Hp) (Q : VK) (q : tE K CA W (.lc mu tg it c e) σ H Q) :
    tLc (tI K CA W it) (gT K tg) (tQ K CA (fun _ _ _ _ => False) c) (tE K CA (fun _ _ _ _ => False) e) tg.slots σ H Q := by
  obtain ⟨F, R, ρ, μ, Y, Qd, s, w, k⟩ := q
  refine Gr.mk s w fun ds μ1 J F1 H1 q1 f1 s1 wk => ?_
  obtain ⟨hlen, hl⟩ := q1
  intro Dl hD
  have hR : R Dl = none := s1.hs.rf hD
  generalize hf : (fun d μ2 (k : Option D → Mu → Prop) => bindT tg d (wipeD ρ tg.slots) fun ρ1 => wpC c ρ1 μ2 (fun b μ3 => if b = true then wpE e ρ1 μ3 (fun y μ4 => k (some y) μ4) (fun _ _ => False) else k none μ3) (fun _ _ => False)) = f at hl
  refine ⟨fun i m H' => m = ds.length - i ∧ i ≤ ds.length ∧ ∃ F' μ' acc vacc, Same F1 F' ∧ Hs K CA F' (upd R Dl (.lst vacc)) μ' H' ∧ DxA K CA F' vacc acc ∧ acc.length ≤ i ∧ lcW f (ds.drop i) acc μ' (lcEnd mu Qd),
    ⟨ds.length, by simp, Nat.zero_le _, F1, μ1, [], [], Same.refl F1, s1.hs.hide hD, .nil, Nat.le_refl _, hl⟩, ?_⟩
  rintro i m H' ⟨rfl, hi, F', μ', acc, vacc, g, z, xa, la, hw⟩
  by_cases hlt : i < ds.length
  · have hd : ds.drop i = ds[i] :: ds.drop (i + 1) := List.drop_eq_getElem_cons hlt
    have hg : ds[i]? = some ds[i] := List.getElem?_eq_getElem hlt
    rw [hd] at hw
    obtain ⟨go, yl⟩ := (wk F' _ μ' H' g z i).2 _ hg
    refine .inr ⟨go, fun H'' => ∃ F'' μ'' acc' vacc', Same F1 F'' ∧ Hs K CA F'' (upd R Dl (.lst vacc')) μ'' H'' ∧ DxA K CA F'' vacc' acc' ∧ acc'.length ≤ i + 1 ∧ lcW f (ds.drop (i + 1)) acc' μ'' (lcEnd mu Qd), ?_, ?_⟩
    · rintro H'' ⟨F'', μ'', acc', vacc', a1, a2, a3, a4, a5⟩
      exact ⟨ds.length - (i + 1), by omega, rfl, hlt, F'', μ'', acc', vacc', a1, a2, a3, a4, a5⟩
    · intro x H2 hy
      obtain ⟨F2, g2, z2, x2⟩ := yl x H2 hy
      have hb : f ds[i] μ' fun o μ'' => lcW f (ds.drop (i + 1)) (acc ++ o.toList) μ'' (lcEnd mu Qd) := hw
      rw [← hf] at hb
      rw [hf] at hb
      have rp : Rp K CA F2 (wipeD ρ tg.slots) (L2.wipe σ tg.slots) := (s.rp.mono (f1.trans (g.trans g2))).wipe tg.slots
      refine gT_ok hb x2 rp z2 fun ρ' σ' hk rp' up => ⟨wipe_upd up, ?_⟩
      have sx : Sx K CA (fun _ _ _ _ => False) σ' F2 (upd R Dl (.lst vacc)) ρ' μ' (fun _ _ => False) H2 := ⟨z2, rp', fun _ _ _ _ q _ _ => q.elim⟩
      refine Gr.mk sx hk fun b μ3 b' F3 H3 q3 f3 s3 eb => ?_
      subst eb
      cases b' with
      | false =>
        have q3 : lcW f (ds.drop (i + 1)) (acc ++ []) μ3 (lcEnd mu Qd) := q3
        rw [List.append_nil] at q3
        show ∃ F'' μ'' acc' vacc', _
        exact ⟨F3, μ3, acc, vacc, g.trans (g2.trans f3), s3.hs, xa.mono (g2.trans f3), Nat.le_succ_of_le la, q3⟩
      | true =>
        have q3 : wpE e ρ' μ3 (fun y μ4 => lcW f (ds.drop (i + 1)) (acc ++ [y]) μ4 (lcEnd mu Qd)) (fun _ _ => False) := q3
        refine Gr.mk s3 q3 fun y μ4 v F4 H4 q4 f4 s4 xy => ?_
        refine ⟨vacc, s4.hs.r Dl _ upd_same, by rw [xa.length]; exact line_lt (by omega), F4, μ4, acc ++ [y], vacc ++ [v], g.trans (g2.trans (f3.trans f4)), s4.hs.hset, (xa.mono (g2.trans (f3.trans f4))).append (.cons xy .nil), ?_, q4⟩
        rw [List.length_append, List.length_singleton]
        omega
  · have ei : i = ds.length := by omega
    subst ei
    rw [List.drop_length] at hw
    have hw : lcEnd mu Qd acc μ' := hw
    refine .inl ⟨(wk F' _ μ' H' g z ds.length).1 (Nat.le_refl _), ?_⟩
    cases mu with
    | true =>
    obtain ⟨z', hn⟩ := z.bareM hR xa
    exact k _ _ _ _ _ (hw _ hn) (f1.trans g) z' (.ref Dl)
    | false =>
    have hw : Qd (.lst acc) μ' := hw
    obtain ⟨z', fp, hp⟩ := z.bare hR
    have sn := same_new (o := .lst vacc) fp
    exact k _ _ _ _ _ hw (f1.trans (g.trans sn)) z' (.lst (.of upd_same) (xa.mono sn))
theorem se_lc {mu : Bool} {tg : MT} {it : MI} {c : MO} {e : ME} (ii : SI CA CN nC it) (ic : SO CA CN nC c) (ie : SE CA CN nC e) : SE CA CN nC (.lc mu tg it c e) := by
  intro X k W ex g h ok
  cases ex <;> first | (simp [matE] at h; done) | skip
  rename_i elt gens scope p
  cases gens with
  | nil => simp [matE] at h
  | cons gn gens =>
    cases gens <;> first | (simp [matE] at h; done) | skip
    obtain ⟨t, i, ifs, as⟩ := gn
    simp only [matE, Bool.and_eq_true, decide_eq_true_eq] at h
    obtain ⟨⟨⟨⟨⟨⟨ea, h1⟩, h2⟩, h3⟩, h4⟩, h5⟩, h6⟩ := h
    subst ea
    have hl : ∀ (s : Shared) (H : Hp) (C : Addr) (cl : List (Str × Addr)) (fp : List Addr) (x : Str), locB scope x = true →
        Loc (X.blk s H scope (compEnvC scope cl C X.env) fp).env.scope x ∧ ((X.blk s H scope (compEnvC scope cl C X.env) fp).fn x = true ∨ (X.blk s H scope (compEnvC scope cl C X.env) fp).env.scope.names.lookup x = some .local) :=
      fun s H C cl fp x hx => relS_loc hx
    have pe := pe_lc (X := X) (pos := p) (wi := tI X.K CA W it) (g := gT X.K tg) (tt := tQ X.K CA (fun _ _ _ _ => False) c) (te := tE X.K CA (fun _ _ _ _ => False) e) g.calm g.nd (ii g h3 ok.1) (blkOk_by h2)
      (fun s H C cl fp => pg_T (X := X.blk s H scope (compEnvC scope cl C X.env) fp) (N := X.N) (sc := scope) g.calm rfl g.nd (hl s H C cl fp) h1)
      (fun s H C cl fp => ic.2 (g.blk s H scope C cl fp) h5 ok.2.1) (fun s H C cl fp => ie (g.blk s H scope C cl fp) h6 ok.2.2) (fun x => notSet_ok h4 X.env x)
    rw [own_slots h1] at pe
    exact pe_imp pe fun σ H Q q => lc_read σ H Q q
/-- the walk along a list that may change, by its own place -/
def tR (K : PySem.W.Frag) (CA : Nat → Addr) (W : WX) (a : ME) : TI := fun σ H R => tE K CA W a σ H fun x H1 => ∃ p, x = .ref p ∧ ((∃ xs, SqL K H1 p xs) ∧ R (Itl K p) H1 ∨ (∃ xs, SqT K H1 p xs) ∧ R (Itt K p) H1)
theorem wk_ref {K : PySem.W.Frag} {F R : Hp} {μ : Mu} {H : Hp} {p : Addr} {ds : List D} (z : Hs K CA F R μ H) (hm : μ p = some ds) (i : Nat) : (ds.length ≤ i → (Itl K p).stop i H) ∧ ∀ d, ds[i]? = some d → (Itl K p).go i H ∧ ∀ x H', (Itl K p).yld i H x H' → ∃ F', Same F F' ∧ Hs K CA F' R μ H' ∧ Dx K CA F' x d := by
  obtain ⟨_, _, vs, hv, x⟩ := z.m p ds hm
  have sq : SqL K H p vs := .of hv
  refine ⟨fun hi => ⟨vs, sq, by rw [x.length]; exact hi⟩, fun d hd => ?_⟩
  obtain ⟨u, h1, h2⟩ := x.get hd
  refine ⟨⟨vs, u, sq, h1⟩, fun y H' q => ?_⟩
  obtain ⟨e, q⟩ := q
  subst e
  have zz := q vs sq
  rw [h1] at zz; cases zz
  exact ⟨F, Same.refl F, z, h2⟩
theorem lcr_read {K : PySem.W.Frag} {W : WX} {mu : Bool} {tg : MT} {a : ME} {c : MO} {e : ME} (σ : L2.St) (H : Hp) (Q : VK) (q : tE K CA W (.lcr mu tg a c e) σ H Q) :
    tLc (tR K CA W a) (gT K tg) (tQ K CA (fun _ _ _ _ => False) c) (tE K CA (fun _ _ _ _ => False) e) tg.slots σ H Q := by
  obtain ⟨F, R, ρ, μ, Y, Qd, s, w, k⟩ := q
  refine Gr.mk s w fun d0 μ1 v0 F1 H1 q1 f1 s1 x0 => ?_
  cases x0 with
  | ref pa =>
    obtain ⟨ds, e0, hlen, hl⟩ := ifL_some q1
    have wk := fun F' R' μ' H' (z : Hs K CA F' R' μ' H') (hm : μ' pa = some ds) => wk_ref z hm
    obtain ⟨_, _, vs0, hv0, xv0⟩ := s1.hs.m pa ds e0
    refine ⟨pa, rfl, .inl ⟨⟨vs0, .of hv0⟩, ?_⟩⟩
    intro Dl hD
    have hR : R Dl = none := s1.hs.rf hD
    generalize hf : (fun d μ2 (k : Option D → Mu → Prop) => μ2 pa = some ds ∧ bindT tg d (wipeD ρ tg.slots) fun ρ1 => wpC c ρ1 μ2 (fun b μ3 => if b = true then wpE e ρ1 μ3 (fun y μ4 => k (some y) μ4) (fun _ _ => False) else k none μ3) (fun _ _ => False)) = f at hl
    refine ⟨fun i m H' => m = ds.length - i ∧ i ≤ ds.length ∧ ∃ F' μ' acc vacc, Same F1 F' ∧ Hs K CA F' (upd R Dl (.lst vacc)) μ' H' ∧ DxA K CA F' vacc acc ∧ acc.length ≤ i ∧ lcW f (ds.drop i) acc μ' (fun acc μ' => μ' pa = some ds ∧ lcEnd mu Qd acc μ'),
      ⟨ds.length, by simp, Nat.zero_le _, F1, μ1, [], [], Same.refl F1, s1.hs.hide hD, .nil, Nat.le_refl _, hl⟩, ?_⟩
    rintro i m H' ⟨rfl, hi, F', μ', acc, vacc, g, z, xa, la, hw⟩
    by_cases hlt : i < ds.length
    · have hd : ds.drop i = ds[i] :: ds.drop (i + 1) := List.drop_eq_getElem_cons hlt
      have hg : ds[i]? = some ds[i] := List.getElem?_eq_getElem hlt
      rw [hd] at hw
      have hb : f ds[i] μ' fun o μ'' => lcW f (ds.drop (i + 1)) (acc ++ o.toList) μ'' (fun acc μ' => μ' pa = some ds ∧ lcEnd mu Qd acc μ') := hw
      rw [← hf] at hb
      obtain ⟨hm, hb⟩ := hb
      rw [hf] at hb
      obtain ⟨go, yl⟩ := (wk F' _ μ' H' z hm i).2 _ hg
      refine .inr ⟨go, fun H'' => ∃ F'' μ'' acc' vacc', Same F1 F'' ∧ Hs K CA F'' (upd R Dl (.lst vacc')) μ'' H'' ∧ DxA K CA F'' vacc' acc' ∧ acc'.length ≤ i + 1 ∧ lcW f (ds.drop (i + 1)) acc' μ'' (fun acc μ' => μ' pa = some ds ∧ lcEnd mu Qd acc μ'), ?_, ?_⟩
      · rintro H'' ⟨F'', μ'', acc', vacc', a1, a2, a3, a4, a5⟩
        exact ⟨ds.length - (i + 1), by omega, rfl, hlt, F'', μ'', acc', vacc', a1, a2, a3, a4, a5⟩
      · intro x H2 hy
        obtain ⟨F2, g2, z2, x2⟩ := yl x H2 hy
        have rp : Rp K CA F2 (wipeD ρ tg.slots) (L2.wipe σ tg.slots) := (s.rp.mono (f1.trans (g.trans g2))).wipe tg.slots
        refine gT_ok hb x2 rp z2 fun ρ' σ' hk rp' up => ⟨wipe_upd up, ?_⟩
        have sx : Sx K CA (fun _ _ _ _ => False) σ' F2 (upd R Dl (.lst vacc)) ρ' μ' (fun _ _ => False) H2 := ⟨z2, rp', fun _ _ _ _ q _ _ => q.elim⟩
        refine Gr.mk sx hk fun b μ3 b' F3 H3 q3 f3 s3 eb => ?_
        subst eb
        cases b' with
        | false =>
          have q3 : lcW f (ds.drop (i + 1)) (acc ++ []) μ3 (fun acc μ' => μ' pa = some ds ∧ lcEnd mu Qd acc μ') := q3
          rw [List.append_nil] at q3
          show ∃ F'' μ'' acc' vacc', _
          exact ⟨F3, μ3, acc, vacc, g.trans (g2.trans f3), s3.hs, xa.mono (g2.trans f3), Nat.le_succ_of_le la, q3⟩
        | true =>
          have q3 : wpE e ρ' μ3 (fun y μ4 => lcW f (ds.drop (i + 1)) (acc ++ [y]) μ4 (fun acc μ' => μ' pa = some ds ∧ lcEnd mu Qd acc μ')) (fun _ _ => False) := q3
          refine Gr.mk s3 q3 fun y μ4 v F4 H4 q4 f4 s4 xy => ?_
          refine ⟨vacc, s4.hs.r Dl _ upd_same, by rw [xa.length]; exact line_lt (by omega), F4, μ4, acc ++ [y], vacc ++ [v], g.trans (g2.trans (f3.trans f4)), s4.hs.hset, (xa.mono (g2.trans (f3.trans f4))).append (.cons xy .nil), ?_, q4⟩
          rw [List.length_append, List.length_singleton]
          omega
    · have ei : i = ds.length := by omega
      subst ei
      rw [List.drop_length] at hw
      obtain ⟨hm, hw⟩ : μ' pa = some ds ∧ lcEnd mu Qd acc μ' := hw
      refine .inl ⟨(wk F' _ μ' H' z hm ds.length).1 (Nat.le_refl _), ?_⟩
      cases mu with
      | true =>
      obtain ⟨z', hn⟩ := z.bareM hR xa
      exact k _ _ _ _ _ (hw _ hn) (f1.trans g) z' (.ref Dl)
      | false =>
      have hw : Qd (.lst acc) μ' := hw
      obtain ⟨z', fp, hp⟩ := z.bare hR
      have sn := same_new (o := .lst vacc) fp
      exact k _ _ _ _ _ hw (f1.trans (g.trans sn)) z' (.lst (.of upd_same) (xa.mono sn))
  | @lst aa vs ds sq xv =>
    obtain ⟨hlen, hl⟩ := q1
    have wk := wk_lst sq xv
    refine ⟨_, rfl, .inl ⟨⟨_, s1.hs.f.seq sq⟩, ?_⟩⟩
    intro Dl hD
    have hR : R Dl = none := s1.hs.rf hD
    generalize hf : (fun d μ2 (k : Option D → Mu → Prop) => bindT tg d (wipeD ρ tg.slots) fun ρ1 => wpC c ρ1 μ2 (fun b μ3 => if b = true then wpE e ρ1 μ3 (fun y μ4 => k (some y) μ4) (fun _ _ => False) else k none μ3) (fun _ _ => False)) = f at hl
    refine ⟨fun i m H' => m = ds.length - i ∧ i ≤ ds.length ∧ ∃ F' μ' acc vacc, Same F1 F' ∧ Hs K CA F' (upd R Dl (.lst vacc)) μ' H' ∧ DxA K CA F' vacc acc ∧ acc.length ≤ i ∧ lcW f (ds.drop i) acc μ' (lcEnd mu Qd),
      ⟨ds.length, by simp, Nat.zero_le _, F1, μ1, [], [], Same.refl F1, s1.hs.hide hD, .nil, Nat.le_refl _, hl⟩, ?_⟩
    rintro i m H' ⟨rfl, hi, F', μ', acc, vacc, g, z, xa, la, hw⟩
    by_cases hlt : i < ds.length
    · have hd : ds.drop i = ds[i] :: ds.drop (i + 1) := List.drop_eq_getElem_cons hlt
      have hg : ds[i]? = some ds[i] := List.getElem?_eq_getElem hlt
      rw [hd] at hw
      obtain ⟨go, yl⟩ := (wk F' _ μ' H' g z i).2 _ hg
      refine .inr ⟨go, fun H'' => ∃ F'' μ'' acc' vacc', Same F1 F'' ∧ Hs K CA F'' (upd R Dl (.lst vacc')) μ'' H'' ∧ DxA K CA F'' vacc' acc' ∧ acc'.length ≤ i + 1 ∧ lcW f (ds.drop (i + 1)) acc' μ'' (lcEnd mu Qd), ?_, ?_⟩
      · rintro H'' ⟨F'', μ'', acc', vacc', a1, a2, a3, a4, a5⟩
        exact ⟨ds.length - (i + 1), by omega, rfl, hlt, F'', μ'', acc', vacc', a1, a2, a3, a4, a5⟩
      · intro x H2 hy
        obtain ⟨F2, g2, z2, x2⟩ := yl x H2 hy
        have hb : f ds[i] μ' fun o μ'' => lcW f (ds.drop (i + 1)) (acc ++ o.toList) μ'' (lcEnd mu Qd) := hw
        rw [← hf] at hb
        rw [hf] at hb
        have rp : Rp K CA F2 (wipeD ρ tg.slots) (L2.wipe σ tg.slots) := (s.rp.mono (f1.trans (g.trans g2))).wipe tg.slots
        refine gT_ok hb x2 rp z2 fun ρ' σ' hk rp' up => ⟨wipe_upd up, ?_⟩
        have sx : Sx K CA (fun _ _ _ _ => False) σ' F2 (upd R Dl (.lst vacc)) ρ' μ' (fun _ _ => False) H2 := ⟨z2, rp', fun _ _ _ _ q _ _ => q.elim⟩
        refine Gr.mk sx hk fun b μ3 b' F3 H3 q3 f3 s3 eb => ?_
        subst eb
        cases b' with
        | false =>
          have q3 : lcW f (ds.drop (i + 1)) (acc ++ []) μ3 (lcEnd mu Qd) := q3
          rw [List.append_nil] at q3
          show ∃ F'' μ'' acc' vacc', _
          exact ⟨F3, μ3, acc, vacc, g.trans (g2.trans f3), s3.hs, xa.mono (g2.trans f3), Nat.le_succ_of_le la, q3⟩
        | true =>
          have q3 : wpE e ρ' μ3 (fun y μ4 => lcW f (ds.drop (i + 1)) (acc ++ [y]) μ4 (lcEnd mu Qd)) (fun _ _ => False) := q3
          refine Gr.mk s3 q3 fun y μ4 v F4 H4 q4 f4 s4 xy => ?_
          refine ⟨vacc, s4.hs.r Dl _ upd_same, by rw [xa.length]; exact line_lt (by omega), F4, μ4, acc ++ [y], vacc ++ [v], g.trans (g2.trans (f3.trans f4)), s4.hs.hset, (xa.mono (g2.trans (f3.trans f4))).append (.cons xy .nil), ?_, q4⟩
          rw [List.length_append, List.length_singleton]
          omega
    · have ei : i = ds.length := by omega
      subst ei
      rw [List.drop_length] at hw
      have hw : lcEnd mu Qd acc μ' := hw
      refine .inl ⟨(wk F' _ μ' H' g z ds.length).1 (Nat.le_refl _), ?_⟩
      cases mu with
      | true =>
      obtain ⟨z', hn⟩ := z.bareM hR xa
      exact k _ _ _ _ _ (hw _ hn) (f1.trans g) z' (.ref Dl)
      | false =>
      have hw : Qd (.lst acc) μ' := hw
      obtain ⟨z', fp, hp⟩ := z.bare hR
      have sn := same_new (o := .lst vacc) fp
      exact k _ _ _ _ _ hw (f1.trans (g.trans sn)) z' (.lst (.of upd_same) (xa.mono sn))
  | _ => exact q1.elim
theorem se_lcr {mu : Bool} {tg : MT} {a : ME} {c : MO} {e : ME} (ii : SE CA CN nC a) (ic : SO CA CN nC c) (ie : SE CA CN nC e) : SE CA CN nC (.lcr mu tg a c e) := by
  intro X k W ex g h ok
  cases ex <;> first | (simp [matE] at h; done) | skip
  rename_i elt gens scope p
  cases gens with
  | nil => simp [matE] at h
  | cons gn gens =>
    cases gens <;> first | (simp [matE] at h; done) | skip
    obtain ⟨t, i, ifs, as⟩ := gn
    simp only [matE, Bool.and_eq_true, decide_eq_true_eq] at h
    obtain ⟨⟨⟨⟨⟨⟨ea, h1⟩, h2⟩, h3⟩, h4⟩, h5⟩, h6⟩ := h
    subst ea
    have hl : ∀ (s : Shared) (H : Hp) (C : Addr) (cl : List (Str × Addr)) (fp : List Addr) (x : Str), locB scope x = true →
        Loc (X.blk s H scope (compEnvC scope cl C X.env) fp).env.scope x ∧ ((X.blk s H scope (compEnvC scope cl C X.env) fp).fn x = true ∨ (X.blk s H scope (compEnvC scope cl C X.env) fp).env.scope.names.lookup x = some .local) :=
      fun s H C cl fp x hx => relS_loc hx
    have pe := pe_lc (X := X) (pos := p) (wi := tR X.K CA W a) (g := gT X.K tg) (tt := tQ X.K CA (fun _ _ _ _ => False) c) (te := tE X.K CA (fun _ _ _ _ => False) e) g.calm g.nd (pi_seq (ii g h3 ok.1)) (blkOk_by h2)
      (fun s H C cl fp => pg_T (X := X.blk s H scope (compEnvC scope cl C X.env) fp) (N := X.N) (sc := scope) g.calm rfl g.nd (hl s H C cl fp) h1)
      (fun s H C cl fp => ic.2 (g.blk s H scope C cl fp) h5 ok.2.1) (fun s H C cl fp => ie (g.blk s H scope C cl fp) h6 ok.2.2) (fun x => notSet_ok h4 X.env x)
    rw [own_slots h1] at pe
    exact pe_imp pe fun σ H Q q => lcr_read σ H Q q
def WkAt (K : PySem.W.Frag) (CA : Nat → Addr) (F R : Hp) (μ : Mu) (H : Hp) (J : It) (ds : List D) (i : Nat) : Prop := (ds.length ≤ i → J.stop i H) ∧ ∀ d, ds[i]? = some d → J.go i H ∧ ∀ x H', J.yld i H x H' → ∃ F', Same F F' ∧ Hs K CA F' R μ H' ∧ Dx K CA F' x d
theorem wk_zref {K : PySem.W.Frag} {F R : Hp} {μ : Mu} {H : Hp} {p q : Addr} {vs us : List V} {ds es : List D} (z : Hs K CA F R μ H) (sq : SqL K H p vs) (x : DxA K CA F vs ds) (h' : SqL K F q us) (x' : DxA K CA F us es) (i : Nat) :
    WkAt K CA F R μ H (Itz K p q) (zipD ds es) i := by
  have sq' : SqL K H q us := z.f.seq h'
  refine ⟨fun hi => ⟨vs, us, sq, sq', ?_⟩, fun d hd => ?_⟩
  · simp only [zipD, List.length_zipWith] at hi
    rw [x.length, x'.length]
    omega
  · obtain ⟨a, b, e1, e2, rfl⟩ := zipD_at hd
    obtain ⟨u, h1, h2⟩ := x.get e1
    obtain ⟨w, h3, h4⟩ := x'.get e2
    refine ⟨⟨vs, us, u, w, sq, sq', h1, h3⟩, fun y H' zz => ?_⟩
    obtain ⟨T, a1, a2, rfl, hT, rfl, z1, z2⟩ := zz
    have q1 := z1 vs sq
    have q2 := z2 us sq'
    rw [h1] at q1; cases q1
    rw [h3] at q2; cases q2
    have sn : Same F (upd F T (.tup [u, w])) := same_new (z.ff hT)
    exact ⟨_, sn, z.new hT, .tup (.of upd_same) (.cons (h2.mono sn) (.cons (h4.mono sn) .nil))⟩
theorem itemsL_at {K : PySem.W.Frag} {F R : Hp} {μ : Mu} {H : Hp} {v : V} {d : D} {ds : List D} (z : Hs K CA F R μ H) (x : Dx K CA F v d) (h : itemsL d μ = some ds) : ∃ p vs, v = .ref p ∧ SqL K H p vs ∧ DxA K CA F vs ds := by
  cases x with
  | lst a b => cases h; exact ⟨_, _, rfl, z.f.seq a, b⟩
  | ref p =>
    obtain ⟨_, _, vs, hv, xv⟩ := z.m p ds h
    exact ⟨p, vs, rfl, .of hv, xv⟩
  | _ => cases h
theorem lcz_read {K : PySem.W.Frag} {W : WX} {tg : MT} {a a2 : ME} {c : MO} {e : ME} (σ : L2.St) (H : Hp) (Q : VK) (q : tE K CA W (.lcz tg a a2 c e) σ H Q) :
    tLc (iZipX K (tCons (tE K CA W a) (tCons (tE K CA W a2) tNil))) (gT K tg) (tQ K CA (fun _ _ _ _ => False) c) (tE K CA (fun _ _ _ _ => False) e) tg.slots σ H Q := by
  obtain ⟨F, R, ρ, μ, Y, Qd, s, w, k⟩ := q
  refine Gr.mk s w fun d0 μ0 v0 F0 H0 q0 f0 s0 x0 => Gr.mk s0 q0 fun d1 μ1 v1 F1 H1 q1 f1' s1 x1 => ?_
  have f1 := f0.trans f1'
  have x0 := x0.mono f1'
  obtain ⟨xs, e0, q1⟩ := ifL_some q1
  obtain ⟨ys, e1, hlen, hl⟩ := ifL_some q1
  obtain ⟨pb, us, rfl, sqb, xb⟩ : ∃ pb us, v1 = .ref pb ∧ SqL K F1 pb us ∧ DxA K CA F1 us ys := by
    cases x1 with
    | lst a b => cases e1; exact ⟨_, _, rfl, a, b⟩
    | _ => cases e1
  clear x1 e1
  obtain ⟨pa, vs0, rfl, sq0, _⟩ := itemsL_at s1.hs x0 e0
  refine ⟨pa, pb, vs0, us, rfl, .inl ⟨sq0, s1.hs.f.seq sqb, ?_⟩⟩
  intro Dl hD
  have hR : R Dl = none := s1.hs.rf hD
  have hln : (zipD xs ys).length ≤ 100000 := by
    simp only [zipD, List.length_zipWith]; omega
  generalize hf : (fun d μ2 (k : Option D → Mu → Prop) => itemsL d0 μ2 = some xs ∧ bindT tg d (wipeD ρ tg.slots) fun ρ1 => wpC c ρ1 μ2 (fun b μ3 => if b = true then wpE e ρ1 μ3 (fun y μ4 => k (some y) μ4) (fun _ _ => False) else k none μ3) (fun _ _ => False)) = f at hl
  have wk : ∀ F' R' μ' H', Same F1 F' → Hs K CA F' R' μ' H' → itemsL d0 μ' = some xs → ∀ i, WkAt K CA F' R' μ' H' (Itz K pa pb) (zipD xs ys) i := by
    intro F' R' μ' H' g z hm i
    obtain ⟨pa', vs', ev, sq', xa'⟩ := itemsL_at z (x0.mono g) hm
    cases ev
    exact wk_zref (q := pb) z sq' xa' (g.seq sqb) (xb.mono g) i
  generalize zipD xs ys = ds at *
  refine ⟨fun i m H' => m = ds.length - i ∧ i ≤ ds.length ∧ ∃ F' μ' acc vacc, Same F1 F' ∧ Hs K CA F' (upd R Dl (.lst vacc)) μ' H' ∧ DxA K CA F' vacc acc ∧ acc.length ≤ i ∧ lcW f (ds.drop i) acc μ' (fun acc μ' => itemsL d0 μ' = some xs ∧ Qd (.lst acc) μ'),
    ⟨ds.length, by simp, Nat.zero_le _, F1, μ1, [], [], Same.refl F1, s1.hs.hide hD, .nil, Nat.le_refl _, hl⟩, ?_⟩
  rintro i m H' ⟨rfl, hi, F', μ', acc, vacc, g, z, xa, la, hw⟩
  by_cases hlt : i < ds.length
  · have hd : ds.drop i = ds[i] :: ds.drop (i + 1) := List.drop_eq_getElem_cons hlt
    have hg : ds[i]? = some ds[i] := List.getElem?_eq_getElem hlt
    rw [hd] at hw
    have hb : f ds[i] μ' fun o μ'' => lcW f (ds.drop (i + 1)) (acc ++ o.toList) μ'' (fun acc μ' => itemsL d0 μ' = some xs ∧ Qd (.lst acc) μ') := hw
    rw [← hf] at hb
    obtain ⟨hm, hb⟩ := hb
    rw [hf] at hb
    obtain ⟨go, yl⟩ := (wk F' _ μ' H' g z hm i).2 _ hg
    refine .inr ⟨go, fun H'' => ∃ F'' μ'' acc' vacc', Same F1 F'' ∧ Hs K CA F'' (upd R Dl (.lst vacc')) μ'' H'' ∧ DxA K CA F'' vacc' acc' ∧ acc'.length ≤ i + 1 ∧ lcW f (ds.drop (i + 1)) acc' μ'' (fun acc μ' => itemsL d0 μ' = some xs ∧ Qd (.lst acc) μ'), ?_, ?_⟩
    · rintro H'' ⟨F'', μ'', acc', vacc', a1, a2, a3, a4, a5⟩
      exact ⟨ds.length - (i + 1), by omega, rfl, hlt, F'', μ'', acc', vacc', a1, a2, a3, a4, a5⟩
    · intro x H2 hy
      obtain ⟨F2, g2, z2, x2⟩ := yl x H2 hy
      have rp : Rp K CA F2 (wipeD ρ tg.slots) (L2.wipe σ tg.slots) := (s.rp.mono (f1.trans (g.trans g2))).wipe tg.slots
      refine gT_ok hb x2 rp z2 fun ρ' σ' hk rp' up => ⟨wipe_upd up, ?_⟩
      have sx : Sx K CA (fun _ _ _ _ => False) σ' F2 (upd R Dl (.lst vacc)) ρ' μ' (fun _ _ => False) H2 := ⟨z2, rp', fun _ _ _ _ q _ _ => q.elim⟩
      refine Gr.mk sx hk fun b μ3 b' F3 H3 q3 f3 s3 eb => ?_
      subst eb
      cases b' with
      | false =>
        have q3 : lcW f (ds.drop (i + 1)) (acc ++ []) μ3 (fun acc μ' => itemsL d0 μ' = some xs ∧ Qd (.lst acc) μ') := q3
        rw [List.append_nil] at q3
        show ∃ F'' μ'' acc' vacc', _
        exact ⟨F3, μ3, acc, vacc, g.trans (g2.trans f3), s3.hs, xa.mono (g2.trans f3), Nat.le_succ_of_le la, q3⟩
      | true =>
        have q3 : wpE e ρ' μ3 (fun y μ4 => lcW f (ds.drop (i + 1)) (acc ++ [y]) μ4 (fun acc μ' => itemsL d0 μ' = some xs ∧ Qd (.lst acc) μ')) (fun _ _ => False) := q3
        refine Gr.mk s3 q3 fun y μ4 v F4 H4 q4 f4 s4 xy => ?_
        refine ⟨vacc, s4.hs.r Dl _ upd_same, by rw [xa.length]; exact line_lt (by omega), F4, μ4, acc ++ [y], vacc ++ [v], g.trans (g2.trans (f3.trans f4)), s4.hs.hset, (xa.mono (g2.trans (f3.trans f4))).append (.cons xy .nil), ?_, q4⟩
        rw [List.length_append, List.length_singleton]
        omega
  · have ei : i = ds.length := by omega
    subst ei
    rw [List.drop_length] at hw
    obtain ⟨hm, hw⟩ : itemsL d0 μ' = some xs ∧ Qd (.lst acc) μ' := hw
    refine .inl ⟨(wk F' _ μ' H' g z hm ds.length).1 (Nat.le_refl _), ?_⟩
    obtain ⟨z', fp, hp⟩ := z.bare hR
    have sn := same_new (o := .lst vacc) fp
    exact k _ _ _ _ _ hw (f1.trans (g.trans sn)) z' (.lst (.of upd_same) (xa.mono sn))
theorem se_lcz {tg : MT} {a a2 : ME} {c : MO} {e : ME} (ii : SE CA CN nC a) (i2 : SE CA CN nC a2) (ic : SO CA CN nC c) (ie : SE CA CN nC e) : SE CA CN nC (.lcz tg a a2 c e) := by
  intro X k W ex g h ok
  cases ex <;> first | (simp [matE] at h; done) | skip
  rename_i elt gens scope p
  cases gens with
  | nil => simp [matE] at h
  | cons gn gens =>
    cases gens <;> first | (simp [matE] at h; done) | skip
    obtain ⟨t, i, ifs, as⟩ := gn
    cases i <;> first | (simp [matE] at h; done) | skip
    rename_i fn args kws pz
    cases fn <;> first | (simp [matE] at h; done) | skip
    rename_i y py
    cases args with
    | nil => simp [matE] at h
    | cons e1 es =>
      cases es with
      | nil => simp [matE] at h
      | cons e2 es =>
        cases es <;> first | (simp [matE] at h; done) | skip
        cases kws <;> first | (simp [matE] at h; done) | skip
        simp only [matE, Bool.and_eq_true, decide_eq_true_eq] at h
        obtain ⟨⟨⟨⟨⟨⟨⟨⟨⟨⟨⟨ea, h1⟩, h2⟩, h0⟩, hy⟩, hg⟩, n1⟩, n2⟩, h3⟩, h4⟩, h5⟩, h6⟩ := h
        subst ea hy
        cases t <;> first | (simp [isTupE] at h0; done) | skip
        have st1 := star_cons n1 [e2] X.env
        have st2 := star_cons n2 [] X.env
        have hl : ∀ (s : Shared) (H : Hp) (C : Addr) (cl : List (Str × Addr)) (fp : List Addr) (x : Str), locB scope x = true →
            Loc (X.blk s H scope (compEnvC scope cl C X.env) fp).env.scope x ∧ ((X.blk s H scope (compEnvC scope cl C X.env) fp).fn x = true ∨ (X.blk s H scope (compEnvC scope cl C X.env) fp).env.scope.names.lookup x = some .local) :=
          fun s H C cl fp x hx => relS_loc hx
        rename_i elts kk tpos
        have pi := pi_zipX (X := X) (elts := elts) (kk := kk) (tpos := tpos) (pos := pz) (p := py) (glB_ok hg) (g.wd.blt _ name_mem_zip) (pa_cons (ii g h3 ok.1) (pa_cons (i2 g h4 ok.2.1) pa_nil st2) st1) st1 (star_none (by simp [n2]) pz X.env)
        have pe := pe_lc (X := X) (pos := p) (wi := iZipX X.K (tCons (tE X.K CA W a) (tCons (tE X.K CA W a2) tNil))) (g := gT X.K tg) (tt := tQ X.K CA (fun _ _ _ _ => False) c) (te := tE X.K CA (fun _ _ _ _ => False) e) g.calm g.nd pi (blkOk_by h2)
          (fun s H C cl fp => pg_T (X := X.blk s H scope (compEnvC scope cl C X.env) fp) (N := X.N) (sc := scope) g.calm rfl g.nd (hl s H C cl fp) h1)
          (fun s H C cl fp => ic.2 (g.blk s H scope C cl fp) h5 ok.2.2.1) (fun s H C cl fp => ie (g.blk s H scope C cl fp) h6 ok.2.2.2) (fun x => rfl)
        rw [own_slots h1] at pe
        exact pe_imp pe fun σ H Q q => lcz_read σ H Q q
theorem se_isl {a : ME} (ia : SE CA CN nC a) : SE CA CN nC (.isl a) := by
  intro X k W e g h ok
  cases e <;> first | (simp [matE] at h; done) | skip
  rename_i fn args kws p
  cases fn <;> first | (simp [matE] at h; done) | skip
  cases args with
  | nil => simp [matE] at h
  | cons e es =>
    cases es with
    | nil => simp [matE] at h
    | cons e2 es =>
      cases e2 <;> first | (simp [matE] at h; done) | skip
      rename_i z zp
      cases es <;> first | (simp [matE] at h; done) | skip
      cases kws <;> first | (simp [matE] at h; done) | skip
      simp only [matE, Bool.and_eq_true, decide_eq_true_eq] at h
      obtain ⟨⟨⟨⟨⟨⟨h1, h2⟩, h3⟩, h4⟩, h5⟩, h6⟩, h7⟩ := h
      subst h1 h2
      have e1 := star_cons h6 [.Name "list" zp] X.env
      have pz : PE X (.Name "list" zp) (tC (tyV2 CA .list)) := pe_tyN (t := .list) g.wd (glB_ok h4) (dbg_ok h5) (fun c hc => by cases hc)
      refine pe_imp (pe_callB (call_isi.or call_isX) (glB_ok h3) (g.wd.blt _ name_mem_isi) boot_isinstance (pa_cons (ia g h7 ok) (pa_cons pz pa_nil rfl) e1) (by decide) (by decide) e1 rfl) fun σ H Q q => ?_
      obtain ⟨F, R, ρ, μ, Y, Qd, s, w, k⟩ := q
      refine Gr.mk s w fun d1 μ1 v1 F1 H1 q1 f1 s1 x1 => ?_
      cases x1
      case ref pa =>
        obtain ⟨e0, q1⟩ := q1
        obtain ⟨ds, e0⟩ := Option.isSome_iff_exists.mp e0
        obtain ⟨_, _, vs, hv, xv⟩ := s1.hs.m pa ds e0
        exact .inl ⟨_, tyV2 CA .list, .type "list", .type "list", true, rfl, .ty "list", tyx_lst (.of hv), kit_ty (isi_kit (d := .lst []) (t := .list) rfl rfl rfl), k _ _ _ _ _ q1 f1 s1.hs (.bl _)⟩
      all_goals
        obtain ⟨b, eb, q1⟩ := ifB_some q1
        refine isiD_ok g.wd (t := .list) (fun c hc => by cases hc) (fun hc => by cases hc) eb ?_ s1.hs (k _ _ _ _ _ q1 f1 s1.hs (.bl _))
        first | exact .non | exact .bl _ | exact .int _ | exact .str _ | (exact .tup (by assumption) (by assumption)) | (exact .lst (by assumption) (by assumption)) | (exact .exc (by assumption)) | (exact .dct (by assumption) (by assumption) (by assumption))
/-- the defs' values -/
def FV (CA : Nat → Addr) (X : Cx) (k : Nat) : List V → List (Str × DSp) → Prop
  | [], [] => True
  | v :: vs, p :: fl => (∃ f fd ps, v = .ref f ∧ FnG X.prog X.w X.K X.mg X.base (L2.CX X.prog X.w) k f fd ps (spOf X.K CA p.2) ∧ PySem.W.keepIn X.K (.ref f) = true ∧ Binds X.K fd ps []) ∧ FV CA X k vs fl
  | _, _ => False
theorem FV.len {X : Cx} {k : Nat} : ∀ {vs : List V} {fl : List (Str × DSp)}, FV CA X k vs fl → vs.length = fl.length
  | [], [], _ => rfl
  | _ :: _, _ :: _, h => by rw [List.length_cons, List.length_cons, FV.len h.2]
  | [], _ :: _, h => h.elim
  | _ :: _, [], h => h.elim
theorem FV.at {X : Cx} {k : Nat} : ∀ {vs : List V} {fl : List (Str × DSp)} {n : Nat} {p : Str × DSp}, FV CA X k vs fl → fl[n]? = some p →
    ∃ f fd ps, vs[n]? = some (.ref f) ∧ FnG X.prog X.w X.K X.mg X.base (L2.CX X.prog X.w) k f fd ps (spOf X.K CA p.2) ∧ PySem.W.keepIn X.K (.ref f) = true ∧ Binds X.K fd ps []
  | [], [], n, p, _, e => by simp at e
  | v :: vs, q :: fl, 0, p, h, e => by
    simp only [List.getElem?_cons_zero, Option.some.injEq] at e
    subst e
    obtain ⟨f, fd, ps, rfl, a, b, c⟩ := h.1
    exact ⟨f, fd, ps, rfl, a, b, c⟩
  | v :: vs, q :: fl, n + 1, p, h, e => by
    simp only [List.getElem?_cons_succ] at e ⊢
    exact FV.at h.2 e
  | [], _ :: _, _, _, h, _ => h.elim
  | _ :: _, [], _, _, h, _ => h.elim
theorem pa_fns {X : Cx} {k : Nat} : ∀ (fl : List (Str × DSp)) (es : List Expr), fnNames X.env.scope fl es = true → (∀ p ∈ fl, FnSat CA X k p.1 p.2) → ∃ vs, FV CA X k vs fl ∧ PA X es (fun _ H R => R vs H)
  | [], [], _, _ => ⟨[], trivial, pa_nil⟩
  | p :: fl, .Name y py :: es, h, ok => by
    simp only [fnNames, Bool.and_eq_true, decide_eq_true_eq] at h
    obtain ⟨⟨⟨h1, h2⟩, h3⟩, h4⟩ := h
    subst h1
    obtain ⟨f, fd, ps, fo, fm, fk, fb⟩ := ok p List.mem_cons_self
    obtain ⟨vs, a, b⟩ := pa_fns fl es h4 fun q hq => ok q (List.mem_cons_of_mem _ hq)
    exact ⟨.ref f :: vs, ⟨⟨f, fd, ps, rfl, fo, fk, fb⟩, a⟩, pa_cons (pe_glob (v := .ref f) (glB_ok h2) fm rfl (dbg_ok h3)) b (star_cons rfl es X.env)⟩
  | [], _ :: _, h, _ => by simp [fnNames] at h
  | _ :: _, [], h, _ => by simp [fnNames] at h
  | _ :: _, .Constant _ _ _ :: _, h, _ => by simp [fnNames] at h
  | _ :: _, .BinOp _ _ _ _ :: _, h, _ => by simp [fnNames] at h
  | _ :: _, .Call _ _ _ _ :: _, h, _ => by simp [fnNames] at h
theorem se_callAt {fl : List (Str × DSp)} {i : ME} {a : MA} (ii : SE CA CN nC i) (ia : SA CA CN nC a) : SE CA CN nC (.callAt fl i a) := by
  intro X k W e g h ok
  simp only [matE] at h
  cases hv : callAtOf e with
  | none => rw [hv] at h; cases h
  | some v =>
    obtain ⟨ns, s, e1, es⟩ := v
    rw [hv] at h
    obtain ⟨p1, p2, p3, rfl⟩ := callAtOf_ok hv
    simp only [Bool.and_eq_true, decide_eq_true_eq] at h
    obtain ⟨⟨⟨⟨h1, h2⟩, h3⟩, h4⟩, h5⟩ := h
    obtain ⟨vs, fv, pn⟩ := pa_fns fl ns h1 ok.1
    have st := matA_star h5
    simp only [List.all_cons, Bool.and_eq_true] at st
    refine pe_imp (pe_fv (E := fun σ => WE W σ) (pe_ix ix_seq (pe_lst pn) (ii g h4 ok.2.1) (notSl_ok h3)) g.grd g.room (fun σ => passAt g.tk σ) (ia g h5 ok.2.2) rfl (star_cons st.1 es X.env) (star_none st.2 p3 X.env)) fun σ H Q q => ?_
    obtain ⟨F, R, ρ, μ, Y, Qd, s, w, k⟩ := q
    refine ⟨by rw [fv.len]; exact small_len h2, fun p hp => ?_⟩
    have sn := same_new (o := .lst vs) (s.hs.ff hp)
    have s' : Sx X.K CA W σ (upd F p (.lst vs)) R ρ μ Y (upd H p (.lst vs)) := ⟨s.hs.new hp, s.rp.mono sn, fun c μ' F' H' q f z => s.xx c μ' F' H' q (sn.trans f) z⟩
    refine Gr.mk s' w fun d1 μ1 v1 F1 H1 q1 f1 s1 x1 => ?_
    cases x1 <;> first | exact q1.elim | skip
    rename_i n
    obtain ⟨pr, hn, q1⟩ := q1
    have hsq : SqL X.K H1 p vs := .of (s1.hs.f p _ (f1 p _ upd_same))
    unfold L2.atI at hn
    obtain ⟨j, h6, h7⟩ := Option.bind_eq_some_iff.mp hn
    obtain ⟨f, fd, ps, h8, G, kp, bi⟩ := fv.at h7
    refine .inl ⟨_, _, _, .ref f, rfl, rfl, hsq, ?_, f, fd, ps, _, rfl, G, kp, bi, ?_⟩
    · unfold L2.atI
      rw [fv.len, h6]
      exact h8
    · refine Gr.mk s1 q1 fun ds μ2 vs2 F2 H2 q2 f2 s2 x2 => ?_
      exact ⟨F2, R, μ2, ds, Y, Qd, s2.hs, x2.1, q2, fun d μ' v F' H' q f z x => k d μ' v F' H' q (sn.trans (f1.trans (f2.trans f))) z x, fun c μ' F' H' q f z => s2.xx c μ' F' H' q f z⟩
theorem se_bits {a : ME} (ia : SE CA CN nC a) : SE CA CN nC (.bits a) := by
  intro X k W e g h ok
  simp only [matE] at h
  cases hv : bitsOf e with
  | none => rw [hv] at h; cases h
  | some v =>
    obtain ⟨o, ap, p⟩ := v
    rw [hv] at h
    cases bitsOf_ok hv
    simp only [Bool.and_eq_true] at h
    obtain ⟨⟨h1, h2⟩, h3⟩ := h
    refine pe_imp (pe_bits (ia g h3 ok) (attrOk_ok h1 _ _ _) h2) fun σ H Q q => ?_
    obtain ⟨F, R, ρ, μ, Y, Qd, s, w, k⟩ := q
    refine Gr.mk s w fun d1 μ1 v1 F1 H1 q1 f1 s1 x1 => ?_
    cases x1 <;> first | exact q1.elim | skip
    exact ⟨_, rfl, k _ _ _ _ _ q1 f1 s1.hs (.int _)⟩
theorem se_rev {a : ME} (ia : SE CA CN nC a) : SE CA CN nC (.rev a) := by
  intro X k W e g h ok
  simp only [matE] at h
  cases hv : revOf e with
  | none => rw [hv] at h; cases h
  | some v =>
    rw [hv] at h
    obtain ⟨k', p1, p2, p3, p4, rfl⟩ := revOf_ok hv
    refine pe_imp (pe_revB (ia g h ok)) fun σ H Q q => ?_
    obtain ⟨F, R, ρ, μ, Y, Qd, s, w, k⟩ := q
    refine Gr.mk s w fun d1 μ1 v1 F1 H1 q1 f1 s1 x1 => ?_
    have fin : ∀ (a : Addr) (vs : List V) (ds : List D), SqL X.K H1 a vs → DxA X.K CA F1 vs ds → Qd (.lst ds.reverse) μ1 → v1 = .ref a → ∃ a xs, v1 = .ref a ∧ SqL X.K H1 a xs ∧ ∀ p, H1 p = none → Q (.ref p) (upd H1 p (.lst xs.reverse)) := by
      intro a vs ds sq xs q1 e
      refine ⟨_, _, e, sq, fun p hp => ?_⟩
      have fp := s1.hs.ff hp
      have sn := same_new (o := .lst vs.reverse) fp
      exact k _ _ _ _ _ q1 (f1.trans sn) (s1.hs.new hp) (.lst (.of upd_same) (xs.reverse.mono sn))
    cases x1 <;> first | exact q1.elim | skip
    · rename_i a vs ds sq xs
      refine .inr ⟨_, _, rfl, seqT s1.hs.f sq, fun p hp => ?_⟩
      have fp := s1.hs.ff hp
      have sn := same_new (o := .tup vs.reverse) fp
      exact k _ _ _ _ _ q1 (f1.trans sn) (s1.hs.new hp) (.tup (.of upd_same) (xs.reverse.mono sn))
    · rename_i a vs ds sq xs
      exact .inl (fin a vs ds (s1.hs.f.seq sq) xs q1 rfl)
    · rename_i a
      obtain ⟨ds, e, q1⟩ := ifL_some q1
      obtain ⟨h1, h2, vs, h3, h4⟩ := s1.hs.m _ _ e
      exact .inl (fin a vs ds (.of h3) h4 q1 rfl)
theorem strsD_ok {K : PySem.W.Frag} {F : Hp} : ∀ {ds : List D} {vs : List V} {ys : List Str}, strsD ds = some ys → DxA K CA F vs ds → vs = ys.map V.str
  | [], _, _, h, .nil => by cases h; rfl
  | d :: ds, _, ys, h, .cons x xs => by
    cases x <;> first | (simp [strsD] at h; done) | skip
    simp only [strsD, Option.map_eq_some_iff] at h
    obtain ⟨zs, h1, rfl⟩ := h
    rw [strsD_ok h1 xs]; rfl
theorem ifSs_some {o : Option (List Str)} {p : List Str → Prop} (h : ifSs o p) : ∃ ys, o = some ys ∧ p ys := by
  cases o with
  | none => exact h.elim
  | some ys => exact ⟨ys, rfl, h⟩
theorem DxA_strs {K : PySem.W.Frag} {F : Hp} : ∀ ys : List Str, DxA K CA F (ys.map V.str) (ys.map D.str)
  | [] => .nil
  | y :: ys => .cons (.str y) (DxA_strs ys)
theorem se_join {s : Str} {a : ME} (ia : SE CA CN nC a) : SE CA CN nC (.join s a) := by
  intro X k W e g h ok
  simp only [matE] at h
  cases hv : joinOf e with
  | none => rw [hv] at h; cases h
  | some v =>
    obtain ⟨x, e1, ap, p⟩ := v
    rw [hv] at h
    obtain ⟨k', p0, rfl⟩ := joinOf_ok hv
    simp only [Bool.and_eq_true, decide_eq_true_eq] at h
    obtain ⟨⟨⟨h1, h2⟩, h3⟩, h4⟩ := h
    subst h1
    refine pe_imp (pe_join (pe_str (X := X)) (ia g h4 ok) (star_cons h3 [] X.env) rfl h2) fun σ H Q q => ?_
    obtain ⟨F, R, ρ, μ, Y, Qd, s, w, k⟩ := q
    refine ⟨⟨_, rfl⟩, Gr.mk s w fun d1 μ1 v1 F1 H1 q1 f1 s1 x1 => ?_⟩
    cases x1 <;> first | exact q1.elim | skip
    · rename_i a vs ds sq xs
      obtain ⟨ys, e, hl, q1⟩ := ifSs_some q1
      have ev := strsD_ok e xs
      subst ev
      exact ⟨_, _, ys, rfl, rfl, .inr (seqT s1.hs.f sq), Nat.le_trans hl (by decide), k _ _ _ _ _ q1 f1 s1.hs (.str _)⟩
    · rename_i a vs ds sq xs
      obtain ⟨ys, e, hl, q1⟩ := ifSs_some q1
      have ev := strsD_ok e xs
      subst ev
      exact ⟨_, _, ys, rfl, rfl, .inl (s1.hs.f.seq sq), Nat.le_trans hl (by decide), k _ _ _ _ _ q1 f1 s1.hs (.str _)⟩
theorem se_split {s : Str} {a : ME} (ia : SE CA CN nC a) : SE CA CN nC (.split a s) := by
  intro X k W e g h ok
  simp only [matE] at h
  cases hv : splitOf e with
  | none => rw [hv] at h; cases h
  | some v =>
    obtain ⟨x, o, ap, p⟩ := v
    rw [hv] at h
    obtain ⟨k', p0, rfl⟩ := splitOf_ok hv
    simp only [Bool.and_eq_true, decide_eq_true_eq] at h
    obtain ⟨⟨⟨h1, h2⟩, h3⟩, h4⟩ := h
    subst h1
    refine pe_imp (pe_split (ia g h4 ok) (pe_str (X := X)) rfl (attrOk_ok h3 _ _ _) h2) fun σ H Q q => ?_
    obtain ⟨F, R, ρ, μ, Y, Qd, s, w, k⟩ := q
    refine Gr.mk s w fun d1 μ1 v1 F1 H1 q1 f1 s1 x1 => ?_
    cases x1 <;> first | exact q1.elim | skip
    rename_i z
    obtain ⟨h1, h2, q1⟩ := q1
    refine ⟨⟨_, rfl⟩, _, _, rfl, rfl, h1, line_le h2, fun p hp => ?_⟩
    have sn := same_new (o := .lst ((Txt.split z x).map V.str)) (s1.hs.ff hp)
    exact k _ _ _ _ _ q1 (f1.trans sn) (s1.hs.new hp) (.lst (.of upd_same) (DxA_strs _))
theorem pys_get : ∀ (ds : List D) (j : Nat), (pys ds)[j]? = (ds[j]?).map D.py
  | [], j => by simp [pys]
  | d :: ds, 0 => by simp [pys]
  | d :: ds, j + 1 => by simp [pys, pys_get ds j]
theorem se_idx {a m : ME} (ia : SE CA CN nC a) (ib : SE CA CN nC m) : SE CA CN nC (.idx a m) := by
  intro X k W e g h ok
  cases e <;> first | (simp [matE] at h; done) | skip
  rename_i fn args kws pc
  cases fn <;> first | (simp [matE] at h; done) | skip
  rename_i o' nm pa
  cases args with
  | nil => simp [matE] at h
  | cons e' es =>
    cases es <;> first | (simp [matE] at h; done) | skip
    cases kws <;> first | (simp [matE] at h; done) | skip
    simp only [matE, Bool.and_eq_true, decide_eq_true_eq] at h
    obtain ⟨⟨⟨⟨⟨h1, h2⟩, h3⟩, h4⟩, h5⟩, h6⟩ := h
    subst h1
    have e1 := star_cons h4 [] X.env
    have hu : X.A.units + 65 < cLine := by have := g.room.un; omega
    have hfew : ((backTo pc (starEach [e'] X.env)).all (fun x => !x.1) && (backToKw pc (keywordEach [] X.env)).all (fun x => x.1.isSome) && decide ([e'].length + ([] : List Keyword).length + (if ([] : List Keyword).isEmpty then 0 else 1) < 30)) = true := by
      rw [e1]; rfl
    refine pe_imp (pe_bm PySem.F.plainAttrs_list PySem.F.slot_list_index PySem.F.type_list_index (mt_indexD hu) (ia g h5 ok.1) (pa_cons (ib g h6 ok.2) pa_nil e1) (attrOk_ok h2 _ _ _) hfew h3 e1 rfl) fun σ H Q q => ?_
    obtain ⟨F, R, ρ, μ, Y, Qd, s, w, k⟩ := q
    refine Gr.mk s w fun d1 μ1 v1 F1 H1 q1 f1 s1 x1 => ?_
    cases x1 <;> first | exact q1.elim | skip
    rename_i a vs ds sq xv
    have q1 : wpE m ρ μ1 (fun d2 μ2 => idxD (.lst ds) d2 μ2 Qd) Y := q1
    refine ⟨.inl ⟨rfl, vs, s1.hs.f.seq sq⟩, Gr.mk s1 q1 fun d2 μ2 v2 F2 H2 q2 f2 s2 x2 => ?_⟩
    obtain ⟨z1, z2, j, ⟨z, jz, je, jn⟩, q2⟩ := q2
    have z3 : Dp X.K H2 (.ref a) (D.lst ds).py := dp_same (f2.trans s2.hs.f) (Dx.dp (CA := CA) 60 (.lst sq xv) z1)
    have z4 := fit_shaped z1
    simp only [D.py] at z3 z4
    exact ⟨a, v2, _, _, j, z.py, rfl, rfl, z3, dp_same s2.hs.f (x2.dp 60 z2), z4, fit_shaped z2, by rw [pys_get, jz]; rfl, je, fun m z' hm hz => by
      rw [pys_get] at hz
      obtain ⟨w, hw, rfl⟩ := Option.map_eq_some_iff.mp hz
      exact jn m w hm hw, k _ _ _ _ _ q2 (f1.trans f2) s2.hs (.int _)⟩
theorem pys_count (p : PyData) : ∀ ds : List D, (pys ds).countP (fun z => PyData.eqv z p) = ds.countP fun z => PyData.eqv z.py p
  | [] => rfl
  | d :: ds => by simp only [pys, List.countP_cons, pys_count p ds]
/-- l.count(x) -/
def rCountD (K : PySem.W.Frag) : V → List V → Hp → VK → Prop := fun x xs H Q => ∃ (a : Addr) (y : V) (d : PyData) (ds : List PyData), x = V.ref a ∧ xs = [y] ∧ Dp K H (V.ref a) (.list ds) ∧ Dp K H y d ∧
  SeqAt.shaped (.list ds) = true ∧ SeqAt.shaped d = true ∧ Q (.int ((ds.countP fun z => PyData.eqv z d : Nat))) H
theorem mt_countD {X : Cx} (hu : X.A.units + 65 < cLine) : MtR X "list.count" (rCountD X.K) := by
  intro pins s σ H x xs v us Q I rx rxs h
  obtain ⟨a, y, d, ds, rfl, rfl, hl, hy, sl, sd, q⟩ := h
  cases rx
  cases rxs with
  | cons ry rt =>
    rename_i uy ut
    cases rt
    obtain ⟨bs, r1⟩ := Dp.reads I d y uy hy ry
    have hxs : PyData.canLayAll0 ds = true := SeqAt.canLay_of_shaped sl
    have hroom : X.A.units + 1 + min (PyData.depthAll ds) d.depth < cLine := room_in_shaped sd hu
    cases hl with
    | lst hs ha =>
      obtain ⟨its, rv, ⟨⟨cls, dd, data, sls⟩, n, ho, hc, hdn, hdt⟩, hlen⟩ := I.list hs
      simp only at hc hdt
      subst hc hdt
      obtain ⟨as, h4⟩ := Dp.readsAll I ds _ its ha rv
      have hmap : its.map (SeqAt.readOf s.heap) = ds := SeqAt.readsAll_map ds its as hxs h4
      refine call_meets PySem.F.slot_list_count ⟨_, ho, rfl⟩ PySem.F.entry_list_count (PySem.F.args_list_count_2 _ _)
        (SeqAt.list_countAt a its.toArray n dd sls uy (fun u => PyData.eqv (SeqAt.readOf s.heap u) d)) ⟨ho, SeqAt.items_eqAt (vs := its.toArray) (show ReadsAll s.heap its.toArray.toList ds as from h4) r1 hxs (SeqAt.canLay_of_shaped sd) hroom, ?_⟩
      have ec : its.toArray.toList.countP (fun u => PyData.eqv (SeqAt.readOf s.heap u) d) = ds.countP fun z => PyData.eqv z d := by
        rw [← hmap, List.countP_map]; rfl
      refine ⟨.int ((ds.countP fun z => PyData.eqv z d : Nat)), H, I.tok _, ⟨s.toks, ?_⟩, q⟩
      show Value.int ((its.toArray.toList.countP (fun u => PyData.eqv (SeqAt.readOf s.heap u) d) : Nat) : Int) s.toks = Value.int ((ds.countP fun z => PyData.eqv z d : Nat) : Int) s.toks
      rw [ec]
theorem se_cnt {a m : ME} (ia : SE CA CN nC a) (ib : SE CA CN nC m) : SE CA CN nC (.cnt a m) := by
  intro X k W e g h ok
  cases e <;> first | (simp [matE] at h; done) | skip
  rename_i fn args kws pc
  cases fn <;> first | (simp [matE] at h; done) | skip
  rename_i o' nm pa
  cases args with
  | nil => simp [matE] at h
  | cons e' es =>
    cases es <;> first | (simp [matE] at h; done) | skip
    cases kws <;> first | (simp [matE] at h; done) | skip
    simp only [matE, Bool.and_eq_true, decide_eq_true_eq] at h
    obtain ⟨⟨⟨⟨⟨h1, h2⟩, h3⟩, h4⟩, h5⟩, h6⟩ := h
    subst h1
    have e1 := star_cons h4 [] X.env
    have hu : X.A.units + 65 < cLine := by have := g.room.un; omega
    have hfew : ((backTo pc (starEach [e'] X.env)).all (fun x => !x.1) && (backToKw pc (keywordEach [] X.env)).all (fun x => x.1.isSome) && decide ([e'].length + ([] : List Keyword).length + (if ([] : List Keyword).isEmpty then 0 else 1) < 30)) = true := by
      rw [e1]; rfl
    refine pe_imp (pe_bm PySem.F.plainAttrs_list PySem.F.slot_list_count PySem.F.type_list_count (mt_countD hu) (ia g h5 ok.1) (pa_cons (ib g h6 ok.2) pa_nil e1) (attrOk_ok h2 _ _ _) hfew h3 e1 rfl) fun σ H Q q => ?_
    obtain ⟨F, R, ρ, μ, Y, Qd, s, w, k⟩ := q
    refine Gr.mk s w fun d1 μ1 v1 F1 H1 q1 f1 s1 x1 => ?_
    cases x1 <;> first | exact q1.elim | skip
    rename_i a vs ds sq xv
    have q1 : wpE m ρ μ1 (fun d2 μ2 => couD (.lst ds) d2 μ2 Qd) Y := q1
    refine ⟨.inl ⟨rfl, vs, s1.hs.f.seq sq⟩, Gr.mk s1 q1 fun d2 μ2 v2 F2 H2 q2 f2 s2 x2 => ?_⟩
    obtain ⟨z1, z2, q2⟩ := q2
    have z3 : Dp X.K H2 (.ref a) (D.lst ds).py := dp_same (f2.trans s2.hs.f) (Dx.dp (CA := CA) 60 (.lst sq xv) z1)
    have z4 := fit_shaped z1
    simp only [D.py] at z3 z4
    refine ⟨a, v2, _, _, rfl, rfl, z3, dp_same s2.hs.f (x2.dp 60 z2), z4, fit_shaped z2, ?_⟩
    rw [pys_count]
    exact k _ _ _ _ _ q2 (f1.trans f2) s2.hs (.int _)
/-- len(set(xs)), xs a list of tuples of ints -/
def tLenSetT (K : PySem.W.Frag) (ta : TE) : TE := fun σ H Q => ta σ H fun x H1 => ∃ (l : Addr) (ks : List (Addr × List Int)), x = V.ref l ∧ SqL K H1 l (ks.map fun p => V.ref p.1) ∧ (∀ p ∈ ks, SqT K H1 p.1 (p.2.map V.int)) ∧ ks.length < 64 ∧
  ∀ L : List (Addr × List Int), (∀ p ∈ L, p ∈ ks) → (∀ p ∈ ks, p.2 ∈ L.map (·.2)) → (L.map (·.2)).Nodup → Q (.int L.length) H1
theorem pe_lenSetT {X : Cx} {a : Expr} {ta : TE} {p p2 q pos : Pos} (hc : X.calm = true) (hu : X.A.units + 64 < cLine) (hg : Gl X "len") (hm : X.mg "len" = none) (hg2 : Gl X "set") (hm2 : X.mg "set" = none) (ha : PE X a ta)
    (na : starEach [a] X.env = (false, eval a X.env) :: starEach [] X.env) : PE X (.Call (.Name "len" p) [.Call (.Name "set" p2) [a] [] q] [] pos) (tLenSetT X.K ta) := by
  refine ⟨fun pins s σ H Q I h => ?_⟩
  refine Call_ (ld_blt I hg hm PySem.boot_len ?_)
  refine PyProof.Rows.callWith_builtin1 (PyProof.Rows.args_cons ?_ rfl) rfl rfl
  refine Call_ (ld_blt I hg2 hm2 PyProof.Rows.boot_set ?_)
  refine PyProof.Rows.callWith_type1 (PyProof.Rows.args_cons (thn (ha.run pins s σ H _ I h) fun v s1 ⟨x, H1, I1, r1, q1⟩ => PyProof.Rows.args_nil ?_) na) na rfl
  obtain ⟨l, ks, rfl, hq, hk, h1, q1⟩ := q1
  cases r1
  obtain ⟨its, r, pl, hz⟩ := I1.list hq
  refine call_set_tups (P := X.prog) (w := X.w) ks (I1.ok.hd hc) pl.isList (by simpa using refs_of_vals r) (fun p hp => I1.isT (hk p hp)) h1 (by omega) fun h' tk L es ep t R g k => ?_
  refine PyProof.Rows.args_nil ?_
  obtain ⟨o, ho, hex, hd⟩ := R.ob
  have I2 : Inv X pins σ H1 { s1 with heap := h', toks := tk } := I1.kept k
  have R2 : SetTR X.prog X.w ({ s1 with heap := h', toks := tk } : Shared).heap s1.heap.objs.size L es ep t := R
  have hsz := R2.size
  have few := R.few
  refine call_len_set ho hex hd R2.fits (by rw [hsz]; omega) ⟨.int L.length, H1, I2.tok _, ⟨_, by rw [hsz]⟩, q1 L (fun p hp => List.mem_of_mem_take (g.sub p hp)) (fun p hp => g.all p (by rw [List.take_length]; exact hp)) R.nd⟩
theorem rows_ok {K : PySem.W.Frag} {F : Hp} : ∀ {vs : List V} {ds : List D} {L : List (List Int)}, DxA K CA F vs ds → rowsD ds = some L → ∃ ks : List (Addr × List Int), vs = ks.map (fun p => V.ref p.1) ∧ ks.map (·.2) = L ∧ ∀ p ∈ ks, SqT K F p.1 (p.2.map V.int)
  | _, _, L, .nil, e => by
    have e' : ([] : List (List Int)) = L := Option.some.inj e
    subst e'
    exact ⟨[], rfl, rfl, fun _ h => by cases h⟩
  | _, _, L, .cons h t, e => by
    cases h with
    | @tup a _ _ sq xs =>
      simp only [rowsD, Option.bind_eq_some_iff, Option.map_eq_some_iff] at e
      obtain ⟨ns, e1, M, e2, e3⟩ := e
      subst e3
      obtain ⟨ks, h1, h2, h3⟩ := rows_ok t e2
      have ev := xs.ints e1
      subst ev
      refine ⟨(a, ns) :: ks, by rw [h1]; rfl, by rw [← h2]; rfl, fun p hp => ?_⟩
      rcases List.mem_cons.mp hp with rfl | hp
      · exact sq
      · exact h3 p hp
    | _ => simp [rowsD] at e
theorem nodup_le {α : Type} [DecidableEq α] : ∀ (A B : List α), A.Nodup → (∀ x ∈ A, x ∈ B) → A.length ≤ B.length
  | [], _, _, _ => Nat.zero_le _
  | a :: A, B, h, s => by
    have hb : a ∈ B := s a (by simp)
    have h2 := List.nodup_cons.mp h
    have := nodup_le A (B.erase a) h2.2 fun x hx => by
      have ne : x ≠ a := fun e => h2.1 (e ▸ hx)
      exact (List.mem_erase_of_ne ne).mpr (s x (by simp [hx]))
    rw [List.length_erase_of_mem hb] at this
    have : 0 < B.length := List.length_pos_of_mem hb
    simp only [List.length_cons]
    omega
theorem nodup_len {α : Type} [DecidableEq α] {A B : List α} (ha : A.Nodup) (hb : B.Nodup) (h1 : ∀ x ∈ A, x ∈ B) (h2 : ∀ x ∈ B, x ∈ A) : A.length = B.length := by
  have := nodup_le A B ha h1
  have := nodup_le B A hb h2
  omega
theorem nodup_dups {α : Type} [BEq α] [LawfulBEq α] : ∀ (n : Nat) (L : List α), L.length ≤ n → L.eraseDups.Nodup
  | 0, L, h => by
    have : L = [] := List.length_eq_zero_iff.mp (by omega)
    subst this
    simp
  | n + 1, [], _ => by simp
  | n + 1, a :: L, h => by
    rw [List.eraseDups_cons]
    refine List.nodup_cons.mpr ⟨fun hm => ?_, nodup_dups n _ ?_⟩
    · have := List.mem_eraseDups.mp hm
      simp at this
    · have := List.length_filter_le (fun b => !b == a) L
      simp at h
      omega
theorem rg_dx {K : PySem.W.Frag} {F : Hp} (m : Int) : ∀ L : List Nat, DxA K CA F (L.map fun i => V.int (m + (i : Nat))) (L.map fun (k : Nat) => D.int (m + (k : Int)))
  | [] => .nil
  | k :: L => .cons (.int _) (rg_dx m L)
theorem se_rgl {a b : ME} (ia : SE CA CN nC a) (ib : SE CA CN nC b) : SE CA CN nC (.rgl a b) := by
  intro X k W e g h ok
  simp only [matE] at h
  cases hv : rglOf e with
  | none => rw [hv] at h; cases h
  | some v =>
    obtain ⟨e1, e2⟩ := v
    rw [hv] at h
    obtain ⟨p1, p2, p3, p4, rfl⟩ := rglOf_ok hv
    simp only [Bool.and_eq_true] at h
    obtain ⟨⟨⟨⟨⟨h1, h2⟩, h3⟩, h4⟩, h5⟩, h6⟩ := h
    have s1 := star_cons h3 [e2] X.env
    have s2 := star_cons h4 [] X.env
    refine pe_imp (pe_listRg g.calm (glB_ok h1) (g.wd.blt _ name_mem_list) (prg_2 (glB_ok h2) (g.wd.blt _ name_mem_range) (ia g h5 ok.1) (ib g h6 ok.2) s1 s2 (by rw [s2]; rfl))) fun σ H Q q => ?_
    obtain ⟨F, R, ρ, μ, Y, Qd, s, w, k⟩ := q
    refine Gr.mk s w fun d1 μ1 v1 F1 H1 q1 f1 s1 x1 => Gr.mk s1 q1 fun d2 μ2 v2 F2 H2 q2 f2 s2 x2 => ?_
    cases x1 <;> first | exact q2.elim | skip
    cases x2 <;> first | exact q2.elim | skip
    rename_i i j
    obtain ⟨b, q2⟩ := q2
    refine ⟨_, _, rfl, rfl, b, fun p hp => ?_⟩
    have fp := s2.hs.ff hp
    have sn := same_new (o := .lst (rgV i j)) fp
    exact k _ _ _ _ _ q2 ((f1.trans f2).trans sn) (s2.hs.new hp) (.lst (.of upd_same) (rg_dx _ _))
theorem se_rg1 {b : ME} (ib : SE CA CN nC b) : SE CA CN nC (.rg1 b) := by
  intro X k W e g h ok
  simp only [matE] at h
  cases hv : rg1Of e with
  | none => rw [hv] at h; cases h
  | some e2 =>
    rw [hv] at h
    obtain ⟨p1, p2, p3, p4, rfl⟩ := rg1Of_ok hv
    simp only [Bool.and_eq_true] at h
    obtain ⟨⟨⟨h1, h2⟩, h4⟩, h6⟩ := h
    have s2 := star_cons h4 [] X.env
    refine pe_imp (pe_listRg g.calm (glB_ok h1) (g.wd.blt _ name_mem_list) (prg_1 (glB_ok h2) (g.wd.blt _ name_mem_range) (ib g h6 ok) s2)) fun σ H Q q => ?_
    obtain ⟨F, R, ρ, μ, Y, Qd, s, w, k⟩ := q
    refine Gr.mk s w fun d2 μ2 v2 F2 H2 q2 f2 s2 x2 => ?_
    cases x2 <;> first | exact q2.elim | skip
    rename_i j
    obtain ⟨b, q2⟩ := q2
    refine ⟨_, rfl, ⟨by decide, by decide, b.1, b.2.1, by rw [Int.sub_zero]; exact b.2.2⟩, fun p hp => ?_⟩
    have fp := s2.hs.ff hp
    have sn := same_new (o := .lst (rgV 0 j)) fp
    have e0 : rngD 0 j.toNat = rngD 0 (j - 0).toNat := by rw [Int.sub_zero]
    rw [e0] at q2
    exact k _ _ _ _ _ q2 (f2.trans sn) (s2.hs.new hp) (.lst (.of upd_same) (rg_dx _ _))
theorem DxA.of_get {K : PySem.W.Frag} {F : Hp} : ∀ {vs : List V} {ds : List D}, vs.length = ds.length → (∀ (j : Nat) (v : V) (d : D), vs[j]? = some v → ds[j]? = some d → Dx K CA F v d) → DxA K CA F vs ds
  | [], [], _, _ => .nil
  | [], _ :: _, h, _ => by simp at h
  | _ :: _, [], h, _ => by simp at h
  | v :: vs, d :: ds, h, f => .cons (f 0 v d rfl rfl) (DxA.of_get (by simpa using h) fun j v d h1 h2 => f (j + 1) v d (by simpa using h1) (by simpa using h2))
open Classical in
theorem Hs.pairs {K : PySem.W.Frag} {F R H H2 : Hp} {μ : Mu} {ps : List Addr} {vs us : List V} {xs ys : List D} {l : Addr} (s : Hs K CA F R μ H) (pr : PrH H H2 ps vs us) (hl : H2 l = none) (x : DxA K CA F vs xs) (y : DxA K CA F us ys) :
    ∃ F', Same F F' ∧ Hs K CA F' R μ (upd H2 l (.lst (ps.map V.ref))) ∧ Dx K CA F' (.ref l) (.lst (zipD xs ys)) := by
  have hin : ∀ b ∈ ps, ∃ o, H2 b = some o := fun b hb => by
    obtain ⟨j, hj⟩ := List.mem_iff_getElem?.mp hb
    have jl := (List.getElem?_eq_some_iff.mp hj).1
    have := pr.len
    exact ⟨_, pr.at_ j b (vs[j]'(by omega)) (us[j]'(by omega)) hj (List.getElem?_eq_getElem (by omega)) (List.getElem?_eq_getElem (by omega))⟩
  have lps : l ∉ ps := fun hb => by obtain ⟨o, e⟩ := hin l hb; rw [hl] at e; cases e
  have nl : ∀ b o, H b = some o → b ≠ l := fun b o e z => by have := pr.same b o e; rw [z, hl] at this; cases this
  have nps : ∀ b o, H b = some o → b ∉ ps := fun b o e hb => by rw [pr.new b hb] at e; cases e
  obtain ⟨F', hF'⟩ : ∃ F' : Hp, F' = upd (fun b => if b ∈ ps then H2 b else F b) l (.lst (ps.map V.ref)) := ⟨_, rfl⟩
  have fl : F' l = some (.lst (ps.map V.ref)) := by rw [hF']; exact upd_same
  have fp : ∀ b ∈ ps, F' b = H2 b := fun b hb => by
    rw [hF', upd_ne (fun z : b = l => lps (by rw [← z]; exact hb))]; exact if_pos hb
  have fo : ∀ b, b ≠ l → b ∉ ps → F' b = F b := fun b h1 h2 => by rw [hF', upd_ne h1]; exact if_neg h2
  have sm : Same F F' := fun b o e => by
    have e' := s.f b o e
    rw [fo b (nl b o e') (nps b o e')]; exact e
  refine ⟨F', sm, ⟨fun b o e => ?_, fun b o e => ?_, fun b o e => ?_, fun b ds e => ?_⟩, ?_⟩
  · by_cases h1 : b = l
    · subst h1; rw [upd_same]; rw [fl] at e; exact e
    · rw [upd_ne h1]
      by_cases h2 : b ∈ ps
      · rw [fp b h2] at e; exact e
      · rw [fo b h1 h2] at e; exact pr.same b o (s.f b o e)
  · have e' := s.r b o e
    rw [upd_ne (nl b o e')]; exact pr.same b o e'
  · by_cases h1 : b = l
    · subst h1
      cases hr : R b with
      | none => rfl
      | some o' => exact absurd rfl (nl b o' (s.r b o' hr))
    · by_cases h2 : b ∈ ps
      · exact s.rf (pr.new b h2)
      · rw [fo b h1 h2] at e; exact s.fr b o e
  · obtain ⟨h1, h2, ws, h3, h4⟩ := s.m b ds e
    have a1 := nl b _ h3
    have a2 := nps b _ h3
    exact ⟨by rw [fo b a1 a2]; exact h1, h2, ws, by rw [upd_ne a1]; exact pr.same b _ h3, h4.mono sm⟩
  · refine .lst (.of fl) (DxA.of_get (by rw [List.length_map, pr.len, x.length, y.length]; simp [zipD]) fun j v d hv hd => ?_)
    obtain ⟨p, q, e1, e2, rfl⟩ := zipD_at hd
    obtain ⟨u, h1, h2⟩ := x.get e1
    obtain ⟨w, h3, h4⟩ := y.get e2
    rw [List.getElem?_map] at hv
    obtain ⟨a, ha, rfl⟩ := Option.map_eq_some_iff.mp hv
    have hp := pr.at_ j a u w ha h1 h3
    exact .tup (.of ((fp a (List.mem_of_getElem? ha)).trans hp)) (.cons (h2.mono sm) (.cons (h4.mono sm) .nil))
theorem se_zpl {a b : ME} (ia : SE CA CN nC a) (ib : SE CA CN nC b) : SE CA CN nC (.zpl a b) := by
  intro X k W e g h ok
  simp only [matE] at h
  cases hv : zplOf e with
  | none => rw [hv] at h; cases h
  | some v =>
    obtain ⟨e1, e2⟩ := v
    rw [hv] at h
    obtain ⟨p1, p2, p3, p4, rfl⟩ := zplOf_ok hv
    simp only [Bool.and_eq_true] at h
    obtain ⟨⟨⟨⟨⟨h1, h2⟩, h3⟩, h4⟩, h5⟩, h6⟩ := h
    have s1 := star_cons h3 [e2] X.env
    have s2 := star_cons h4 [] X.env
    refine pe_imp (pe_zpl g.calm (glB_ok h1) (g.wd.blt _ name_mem_list) (glB_ok h2) (g.wd.blt _ name_mem_zip) (pa_cons (ia g h5 ok.1) (pa_cons (ib g h6 ok.2) pa_nil s2) s1) rfl s1 (star_none (by simp [h4]) p3 X.env)) fun σ H Q q => ?_
    obtain ⟨F, R, ρ, μ, Y, Qd, s, w, k⟩ := q
    refine Gr.mk s w fun d1 μ1 v1 F1 H1 q1 f1 s1 x1 => Gr.mk s1 q1 fun d2 μ2 v2 F2 H2 q2 f2 s2 x2 => ?_
    obtain ⟨xs, ex, q2⟩ := ifL_some q2
    obtain ⟨ys, ey, hl, q2⟩ := ifL_some q2
    obtain ⟨pa, va, rfl, sa, xa⟩ : ∃ pa va, v1 = .ref pa ∧ SqL X.K F1 pa va ∧ DxA X.K CA F1 va xs := by
      cases x1 with
      | lst a b => cases ex; exact ⟨_, _, rfl, a, b⟩
      | _ => cases ex
    obtain ⟨pb, vb, rfl, sb, xb⟩ : ∃ pb vb, v2 = .ref pb ∧ SqL X.K F2 pb vb ∧ DxA X.K CA F2 vb ys := by
      cases x2 with
      | lst a b => cases ey; exact ⟨_, _, rfl, a, b⟩
      | _ => cases ey
    refine ⟨pa, pb, va, vb, rfl, s2.hs.f.seq (f2.seq sa), s2.hs.f.seq sb, fun H3 ps l pr hl3 => ?_⟩
    have xa := xa.mono f2
    obtain ⟨F3, sm, hs3, x3⟩ := Hs.pairs s2.hs pr hl3 xa xb
    exact k _ _ _ _ _ q2 ((f1.trans f2).trans sm) hs3 x3
theorem se_setl {a : ME} (ia : SE CA CN nC a) : SE CA CN nC (.setl a) := by
  intro X k W e g h ok
  simp only [matE] at h
  cases hv : setlOf e with
  | none => rw [hv] at h; cases h
  | some v =>
    rw [hv] at h
    obtain ⟨p1, p2, p3, p4, rfl⟩ := setlOf_ok hv
    simp only [Bool.and_eq_true] at h
    obtain ⟨⟨⟨h1, h2⟩, h3⟩, h4⟩ := h
    refine pe_imp (pe_lenSetT g.calm (by have := g.room.un; omega) (glB_ok h1) (g.wd.blt _ (by decide +kernel)) (glB_ok h2) (g.wd.blt _ (by decide +kernel)) (ia g h4 ok) (star_cons h3 [] X.env)) fun σ H Q q => ?_
    obtain ⟨F, R, ρ, μ, Y, Qd, s, w, k⟩ := q
    refine Gr.mk s w fun d1 μ1 v1 F1 H1 q1 f1 s1 x1 => ?_
    cases x1 with
    | lst sq xs =>
      obtain ⟨L, e, hl, q1⟩ := q1
      obtain ⟨ks, e1, e2, e3⟩ := rows_ok xs e
      have el := xs.length
      rw [e1] at sq el
      refine ⟨_, ks, rfl, s1.hs.f.seq sq, fun p hp => seqT s1.hs.f (e3 p hp), by rw [List.length_map] at el; omega, fun M m1 m2 nd => ?_⟩
      have : M.length = L.eraseDups.length := by
        rw [← List.length_map (f := (·.2))]
        refine nodup_len nd (nodup_dups _ L (Nat.le_refl _)) (fun x hx => ?_) fun x hx => ?_
        · obtain ⟨p, hp, rfl⟩ := List.mem_map.mp hx
          rw [List.mem_eraseDups, ← e2]
          exact List.mem_map.mpr ⟨p, m1 p hp, rfl⟩
        · rw [List.mem_eraseDups, ← e2] at hx
          obtain ⟨p, hp, rfl⟩ := List.mem_map.mp hx
          exact m2 p hp
      rw [this]
      exact k _ _ _ _ _ q1 f1 s1.hs (.int _)
    | _ => exact q1.elim
theorem itemsL_ok {K : PySem.W.Frag} {F R H : Hp} {μ : Mu} {v : V} {d : D} {xs : List D} (e : itemsL d μ = some xs) (x : Dx K CA F v d) (s : Hs K CA F R μ H) : ∃ (l : Addr) (vs : List V), v = .ref l ∧ SqL K H l vs ∧ DxA K CA F vs xs := by
  cases x with
  | lst sq ys => cases e; exact ⟨_, _, rfl, s.f.seq sq, ys⟩
  | ref p =>
    obtain ⟨_, _, vs, hv, xv⟩ := s.m p xs e
    exact ⟨p, vs, rfl, .of hv, xv⟩
  | _ => cases e
theorem se_cat {mu : Bool} {a b : ME} (ia : SE CA CN nC a) (ib : SE CA CN nC b) : SE CA CN nC (.cat mu a b) := by
  intro X k W e g h ok
  cases e <;> first | (simp [matE] at h; done) | skip
  rename_i l op r p
  simp only [matE, Bool.and_eq_true] at h
  obtain ⟨⟨h1, h2⟩, h3⟩ := h
  cases op <;> first | (simp [Op2.is] at h1; done) | skip
  refine pe_imp (pe_op (op_catW (X := X)) (ia g h2 ok.1) (ib g h3 ok.2)) fun σ H Q q => ?_
  obtain ⟨F, R, ρ, μ, Y, Qd, s, w, k⟩ := q
  refine Gr.mk s w fun d1 μ1 v1 F1 H1 q1 f1 s1 x1 => Gr.mk s1 q1 fun d2 μ2 v2 F2 H2 q2 f2 s2 x2 => ?_
  obtain ⟨xs, e1, q2⟩ := ifL_some q2
  obtain ⟨ys, e2, hl, q2⟩ := ifL_some q2
  obtain ⟨l1, vs1, rfl, sq1, xv1⟩ := itemsL_ok e1 (x1.mono f2) s2.hs
  obtain ⟨l2, vs2, rfl, sq2, xv2⟩ := itemsL_ok e2 x2 s2.hs
  refine ⟨_, _, _, _, rfl, rfl, sq1, sq2, line_le (by rw [xv1.length, xv2.length]; exact hl), fun p hp => ?_⟩
  have xa := xv1.append xv2
  cases mu with
  | false =>
    have sn := same_new (o := .lst (vs1 ++ vs2)) (s2.hs.ff hp)
    exact k _ _ _ _ _ q2 ((f1.trans f2).trans sn) (s2.hs.new hp) (.lst (.of upd_same) (xa.mono sn))
  | true => exact k _ _ _ _ _ (q2 p (s2.hs.mf hp)) (f1.trans f2) (s2.hs.newM hp xa) (.ref p)
end
end Dl

/-! The data layer, part G: all expressions. -/
namespace Dl
open PySem L2 PyProof.Rows
variable [NC]
section
variable {CA : Nat → Addr} {CN : Nat → Str} {nC : Nat}
theorem sa_nil : SA CA CN nC .nil := by
  intro X k W e g h ok
  cases e <;> first | (simp [matA] at h; done) | skip
  refine pa_imp pa_nil fun σ H Q q => ?_
  obtain ⟨F, R, ρ, μ, Y, Qd, s, w, k⟩ := q
  exact k _ _ _ _ _ w (Same.refl F) s.hs ⟨.nil, rfl⟩
theorem sa_cons {m : ME} {a : MA} (im : SE CA CN nC m) (ia : SA CA CN nC a) : SA CA CN nC (.cons m a) := by
  intro X k W e g h ok
  cases e <;> first | (simp [matA] at h; done) | skip
  rename_i e es
  simp only [matA, Bool.and_eq_true] at h
  obtain ⟨⟨h1, h2⟩, h3⟩ := h
  refine pa_imp (pa_cons (im g h2 ok.1) (ia g h3 ok.2) (star_cons h1 es X.env)) fun σ H Q q => ?_
  obtain ⟨F, R, ρ, μ, Y, Qd, s, w, k⟩ := q
  refine Gr.mk s w fun d1 μ1 v1 F1 H1 q1 f1 s1 x1 => Gr.mk s1 q1 fun ds μ2 vs F2 H2 q2 f2 s2 x2 => ?_
  exact k _ _ _ _ _ q2 (f1.trans f2) s2.hs ⟨.cons (x1.mono f2) x2.1, by simp [MA.len, x2.2]⟩
theorem sl_nil : SL CA CN nC .nil := by
  intro X k W e pos isAnd op hop g h ok
  exact ⟨⟨fun _ _ _ _ _ _ q => by obtain ⟨F, R, ρ, μ, Y, Qd, s, w, k⟩ := q; exact w.elim⟩, fun _ => ⟨fun _ _ _ _ _ _ _ q => by obtain ⟨F, R, ρ, μ, Y, Qd, s, w, k⟩ := q; exact w.elim⟩⟩
theorem sl_one {m : ME} (im : SE CA CN nC m ∧ ST CA CN nC m) : SL CA CN nC (.cons m .nil) := by
  intro X k W e pos isAnd op hop g h ok
  cases e <;> first | (simp [matA] at h; done) | skip
  rename_i e es
  cases es <;> first | (simp [matA] at h; done) | skip
  simp only [matA, Bool.and_eq_true, Bool.and_true] at h
  have pe := im.1 g h.2 ok.1
  refine ⟨pe_imp (pe_one pe) fun σ H Q q => q, fun ht => ?_⟩
  simp only [tsts, Bool.and_eq_true, Bool.and_true] at ht
  have pt := im.2 g h.2 ok.1 ht
  subst hop
  cases isAnd with
  | true => exact pw_imp (pw_and1 pt) fun σ H Q q => q
  | false => exact pw_imp (pw_or1 pt) fun σ H Q q => q
theorem sl_cons {m m2 : ME} {a : MA} (im : SE CA CN nC m ∧ ST CA CN nC m) (il : SL CA CN nC (.cons m2 a)) : SL CA CN nC (.cons m (.cons m2 a)) := by
  intro X k W e pos isAnd op hop g h ok
  cases e <;> first | (simp [matA] at h; done) | skip
  rename_i e es
  cases es <;> first | (simp [matA] at h; done) | skip
  rename_i e2 es
  have h' : notStar e = true ∧ matE CN X.N X.env.scope m e = true ∧ matA CN X.N X.env.scope (.cons m2 a) (e2 :: es) = true := by
    simp only [matA, Bool.and_eq_true] at h ⊢
    exact ⟨h.1.1, h.1.2, h.2⟩
  obtain ⟨_, h2, h3⟩ := h'
  have pe := im.1 g h2 ok.1
  obtain ⟨r1, r2⟩ := il (pos := pos) hop g h3 ok.2
  subst hop
  constructor
  · cases isAnd with
    | true =>
      refine pe_imp (pe_andT pe r1) fun σ H Q q => ?_
      obtain ⟨F, R, ρ, μ, Y, Qd, s, w, k⟩ := q
      refine Gr.mk s w fun d1 μ1 v1 F1 H1 q1 f1 s1 x1 => ?_
      obtain ⟨b, eb, q1⟩ := ifB_some q1
      refine ⟨b, truD_ok eb x1 s1.hs, ?_⟩
      cases b with
      | true => exact Gr.mk s1 q1 fun d μ' v F' H' q f z x => k d μ' v F' H' q (f1.trans f) z.hs x
      | false => exact k _ _ _ _ _ q1 f1 s1.hs x1
    | false =>
      refine pe_imp (pe_orT pe r1) fun σ H Q q => ?_
      obtain ⟨F, R, ρ, μ, Y, Qd, s, w, k⟩ := q
      refine Gr.mk s w fun d1 μ1 v1 F1 H1 q1 f1 s1 x1 => ?_
      obtain ⟨b, eb, q1⟩ := ifB_some q1
      refine ⟨b, truD_ok eb x1 s1.hs, ?_⟩
      cases b with
      | false => exact Gr.mk s1 q1 fun d μ' v F' H' q f z x => k d μ' v F' H' q (f1.trans f) z.hs x
      | true => exact k _ _ _ _ _ q1 f1 s1.hs x1
  · intro ht
    have ht' : tst m = true ∧ tsts (.cons m2 a) = true := by
      simp only [tsts, Bool.and_eq_true] at ht ⊢
      exact ⟨ht.1, ht.2⟩
    have pt := im.2 g h2 ok.1 ht'.1
    have pw := r2 ht'.2
    have eqf : ∀ (ρ : Rho) (Qd : Bool → Mu → Prop) (Y : Xst), (fun d μ1 => ifB (truD d μ1) fun b => if b = isAnd then wpL isAnd (.cons m2 a) ρ μ1 (fun d μ1 => ifB (truD d μ1) fun b => Qd b μ1) Y else (fun d μ1 => ifB (truD d μ1) fun b => Qd b μ1) d μ1) =
        fun d μ1 => ifB (truD d μ1) fun b => if b = isAnd then wpL isAnd (.cons m2 a) ρ μ1 (fun d μ1 => ifB (truD d μ1) fun b => Qd b μ1) Y else Qd b μ1 := by
      intro ρ Qd Y
      funext d μ1
      dsimp only
      cases e : truD d μ1 with
      | none => rfl
      | some b => rfl
    cases isAnd with
    | true =>
      refine pw_imp (pw_and pt pw) fun σ H Q q => ?_
      obtain ⟨F, R, ρ, μ, Y, Qd, s, w, k⟩ := q
      have w' : wpE m ρ μ (fun d μ1 => ifB (truD d μ1) fun b => if b = true then wpL true (.cons m2 a) ρ μ1 (fun d μ1 => ifB (truD d μ1) fun b => Qd b μ1) Y else Qd b μ1) Y := by
        rw [← eqf]; exact w
      refine Gr.mk (Qd := fun (b : Bool) μ1 => if b = true then wpL true (.cons m2 a) ρ μ1 (fun d μ1 => ifB (truD d μ1) fun b => Qd b μ1) Y else Qd b μ1) s w' fun c μ1 c' F1 H1 q1 f1 s1 x1 => ?_
      subst x1
      cases c' with
      | true => exact Gr.mk s1 q1 fun d μ' v F' H' q f z x => k d μ' v F' H' q (f1.trans f) z.hs x
      | false => exact k _ _ _ _ _ q1 f1 s1.hs rfl
    | false =>
      refine pw_imp (pw_or pt pw) fun σ H Q q => ?_
      obtain ⟨F, R, ρ, μ, Y, Qd, s, w, k⟩ := q
      have w' : wpE m ρ μ (fun d μ1 => ifB (truD d μ1) fun b => if b = false then wpL false (.cons m2 a) ρ μ1 (fun d μ1 => ifB (truD d μ1) fun b => Qd b μ1) Y else Qd b μ1) Y := by
        rw [← eqf]; exact w
      refine Gr.mk (Qd := fun (b : Bool) μ1 => if b = false then wpL false (.cons m2 a) ρ μ1 (fun d μ1 => ifB (truD d μ1) fun b => Qd b μ1) Y else Qd b μ1) s w' fun c μ1 c' F1 H1 q1 f1 s1 x1 => ?_
      subst x1
      cases c' with
      | false => exact Gr.mk s1 q1 fun d μ' v F' H' q f z x => k d μ' v F' H' q (f1.trans f) z.hs x
      | true => exact k _ _ _ _ _ q1 f1 s1.hs rfl
theorem se_bop {isAnd : Bool} {a : MA} (il : SL CA CN nC a) : SE CA CN nC (.bop isAnd a) ∧ ST CA CN nC (.bop isAnd a) := by
  have inv : ∀ {N : List Str} {sc : Scope} {e : Expr}, matE CN N sc (.bop isAnd a) e = true → ∃ es p, matA CN N sc a es = true ∧ e = .BoolOp (if isAnd then .And else .Or) es p := by
    intro N sc e h
    cases e <;> first | (cases isAnd <;> simp [matE] at h; done) | skip
    rename_i op es p
    cases isAnd <;> cases op <;> first | (simp [matE] at h; done) | exact ⟨es, p, by simpa [matE] using h, rfl⟩
  constructor
  · intro X k W e g h ok
    obtain ⟨es, p, hm, rfl⟩ := inv h
    exact (il (isAnd := isAnd) rfl g hm ok).1
  · intro X k W e g h ok ht
    obtain ⟨es, p, hm, rfl⟩ := inv h
    exact ((il (isAnd := isAnd) rfl g hm ok).2 ht).pt
theorem so_no : SO CA CN nC .no := by
  constructor
  · intro X k W e g h ok
    cases e <;> first | (simp [matO] at h; done) | skip
    refine po_imp po_none fun σ H Q q => ?_
    obtain ⟨F, R, ρ, μ, Y, Qd, s, w, k⟩ := q
    exact k _ _ _ _ _ w (Same.refl F) s.hs rfl
  · intro X k W e g h ok
    cases e <;> first | (simp [matC] at h; done) | skip
    refine pts_imp pts_nil fun σ H Q q => ?_
    obtain ⟨F, R, ρ, μ, Y, Qd, s, w, k⟩ := q
    exact k _ _ _ _ _ w (Same.refl F) s.hs rfl
theorem so_so {m : ME} (im : SE CA CN nC m ∧ ST CA CN nC m) : SO CA CN nC (.so m) := by
  constructor
  · intro X k W e g h ok
    cases e <;> first | (simp [matO] at h; done) | skip
    simp only [matO] at h
    refine po_imp (po_some (im.1 g h ok)) fun σ H Q q => ?_
    obtain ⟨F, R, ρ, μ, Y, Qd, s, w, k⟩ := q
    refine Gr.mk s w fun d1 μ1 v1 F1 H1 q1 f1 s1 x1 => ?_
    cases x1 <;> first | exact q1.elim | skip
    exact ⟨_, rfl, k _ _ _ _ _ q1 f1 s1.hs rfl⟩
  · intro X k W e g h ok
    cases e <;> first | (simp [matC] at h; done) | skip
    rename_i e es
    cases es <;> first | (simp [matC] at h; done) | skip
    simp only [matC, Bool.and_eq_true] at h
    exact pts_imp (pts_one (im.2 g h.2 ok h.1)) fun σ H Q q => q
theorem si_seq {m : ME} (im : SE CA CN nC m) : SI CA CN nC (.seq m) := by
  intro X k W t e g h ok
  simp only [matI] at h
  refine pi_imp (pi_seq (im g h ok)) fun σ H Q q => ?_
  obtain ⟨F, R, ρ, μ, Y, Qd, s, w, k⟩ := q
  refine Gr.mk s w fun d1 μ1 v1 F1 H1 q1 f1 s1 x1 => ?_
  obtain ⟨ds, e1, q1⟩ := ifL_some q1
  cases x1 with
  | tup a b => cases e1; exact ⟨_, rfl, .inr ⟨⟨_, seqT s1.hs.f a⟩, k _ _ _ _ _ q1 f1 s1.hs (wk_tup a b)⟩⟩
  | lst a b => cases e1; exact ⟨_, rfl, .inl ⟨⟨_, s1.hs.f.seq a⟩, k _ _ _ _ _ q1 f1 s1.hs (wk_lst a b)⟩⟩
  | _ => cases e1
theorem si_rng1 {m : ME} (im : SE CA CN nC m) : SI CA CN nC (.rng1 m) := by
  intro X k W t e g h ok
  cases e <;> first | (simp [matI] at h; done) | skip
  rename_i fn args kws p
  cases fn <;> first | (simp [matI] at h; done) | skip
  cases args with
  | nil => simp [matI] at h
  | cons e es =>
    cases es <;> first | (simp [matI] at h; done) | skip
    cases kws <;> first | (simp [matI] at h; done) | skip
    simp only [matI, Bool.and_eq_true, decide_eq_true_eq] at h
    obtain ⟨⟨⟨h1, h2⟩, h3⟩, h4⟩ := h
    subst h1
    have e1 := star_cons h3 [] X.env
    refine pi_imp (pi_range1 (glB_ok h2) (g.wd.blt _ name_mem_range) (pa_cons (im g h4 ok) pa_nil e1) e1) fun σ H Q q => ?_
    obtain ⟨F, R, ρ, μ, Y, Qd, s, w, k⟩ := q
    refine Gr.mk s w fun d1 μ1 v1 F1 H1 q1 f1 s1 x1 => ?_
    cases x1 <;> first | exact q1.elim | skip
    obtain ⟨b, q1⟩ := q1
    exact ⟨_, rfl, b.1, b.2, k _ _ _ _ _ q1 f1 s1.hs (wk_rng _ _)⟩
theorem si_rng2 {m m2 : ME} (im : SE CA CN nC m) (im2 : SE CA CN nC m2) : SI CA CN nC (.rng2 m m2) := by
  intro X k W t e g h ok
  cases e <;> first | (simp [matI] at h; done) | skip
  rename_i fn args kws p
  cases fn <;> first | (simp [matI] at h; done) | skip
  cases args with
  | nil => simp [matI] at h
  | cons e es =>
    cases es with
    | nil => simp [matI] at h
    | cons e2 es =>
      cases es <;> first | (simp [matI] at h; done) | skip
      cases kws <;> first | (simp [matI] at h; done) | skip
      simp only [matI, Bool.and_eq_true, decide_eq_true_eq] at h
      obtain ⟨⟨⟨⟨⟨h1, h2⟩, h3⟩, h4⟩, h5⟩, h6⟩ := h
      subst h1
      have e1 := star_cons h3 [e2] X.env
      have e3 := star_cons h4 [] X.env
      refine pi_imp (pi_range2 (glB_ok h2) (g.wd.blt _ name_mem_range) (pa_cons (im g h5 ok.1) (pa_cons (im2 g h6 ok.2) pa_nil e3) e1) (by rw [e1, e3]; rfl) e3) fun σ H Q q => ?_
      obtain ⟨F, R, ρ, μ, Y, Qd, s, w, k⟩ := q
      refine Gr.mk s w fun d1 μ1 v1 F1 H1 q1 f1 s1 x1 => Gr.mk s1 q1 fun d2 μ2 v2 F2 H2 q2 f2 s2 x2 => ?_
      cases x1 <;> first | exact q2.elim | skip
      cases x2 <;> first | exact q2.elim | skip
      obtain ⟨b, q2⟩ := q2
      exact ⟨_, _, rfl, b, k _ _ _ _ _ q2 (f1.trans f2) s2.hs (wk_rng _ _)⟩
theorem si_zip {m m2 : ME} (im : SE CA CN nC m) (im2 : SE CA CN nC m2) : SI CA CN nC (.zip m m2) := by
  intro X k W t e g h ok
  cases e <;> first | (simp [matI] at h; done) | skip
  rename_i fn args kws p
  cases fn <;> first | (simp [matI] at h; done) | skip
  cases args with
  | nil => simp [matI] at h
  | cons e es =>
    cases es with
    | nil => simp [matI] at h
    | cons e2 es =>
      cases es <;> first | (simp [matI] at h; done) | skip
      cases kws <;> first | (simp [matI] at h; done) | skip
      simp only [matI, Bool.and_eq_true, decide_eq_true_eq] at h
      obtain ⟨⟨⟨⟨⟨⟨h0, h1⟩, h2⟩, h3⟩, h4⟩, h5⟩, h6⟩ := h
      subst h1
      cases t <;> first | (simp [isTupE] at h0; done) | skip
      have e1 := star_cons h3 [e2] X.env
      have e3 := star_cons h4 [] X.env
      refine pi_imp (pi_zipX (glB_ok h2) (g.wd.blt _ name_mem_zip) (pa_cons (im g h5 ok.1) (pa_cons (im2 g h6 ok.2) pa_nil e3) e1) e1 (star_none (by simp [h4]) p X.env)) fun σ H Q q => ?_
      obtain ⟨F, R, ρ, μ, Y, Qd, s, w, k⟩ := q
      refine Gr.mk s w fun d1 μ1 v1 F1 H1 q1 f1 s1 x1 => Gr.mk s1 q1 fun d2 μ2 v2 F2 H2 q2 f2 s2 x2 => ?_
      cases x1 with
      | lst a b =>
        cases x2 with
        | lst a2 b2 => exact ⟨_, _, _, _, rfl, .inl ⟨s2.hs.f.seq (f2.seq a), s2.hs.f.seq a2, k _ _ _ _ _ q2 (f1.trans f2) s2.hs (wk_zipL (f2.seq a) (b.mono f2) a2 b2)⟩⟩
        | tup a2 b2 => exact ⟨_, _, _, _, rfl, .inr (.inr ⟨s2.hs.f.seq (f2.seq a), seqT s2.hs.f a2, k _ _ _ _ _ q2 (f1.trans f2) s2.hs (wk_zipX (f2.seq a) (b.mono f2) a2 b2)⟩)⟩
        | _ => exact q2.elim
      | tup a b =>
        cases x2 with
        | tup a2 b2 => exact ⟨_, _, _, _, rfl, .inr (.inl ⟨seqT s2.hs.f (seqT f2 a), seqT s2.hs.f a2, k _ _ _ _ _ q2 (f1.trans f2) s2.hs (wk_zipT (seqT f2 a) (b.mono f2) a2 b2)⟩)⟩
        | _ => exact q2.elim
      | _ => exact q2.elim
mutual
theorem sE (CA : Nat → Addr) (CN : Nat → Str) (nC : Nat) : ∀ m : ME, SE CA CN nC m ∧ ST CA CN nC m
  | .var i => plainly (se_var i) (by intro N sc e h; cases e <;> first | (simp [matE] at h; done) | rfl)
  | .non => plainly se_non (by intro N sc e h; cases e <;> first | (simp [matE] at h; done) | rfl)
  | .bl b => plainly (se_bl b) (by intro N sc e h; cases e <;> first | (simp [matE] at h; done) | rfl)
  | .int b => plainly (se_int b) (by intro N sc e h; cases e <;> first | (simp [matE] at h; done) | rfl)
  | .str b => plainly (se_str b) (by intro N sc e h; cases e <;> first | (simp [matE] at h; done) | rfl)
  | .glob x d => plainly (se_glob x d) (by intro N sc e h; cases e <;> first | (simp [matE] at h; done) | rfl)
  | .bin o a b => plainly (se_bin (sE CA CN nC a).1 (sE CA CN nC b).1) (by intro N sc e h; cases e <;> first | (simp [matE] at h; done) | rfl)
  | .neg a => plainly (se_neg (sE CA CN nC a).1) (by intro N sc e h; cases e <;> first | (simp [matE] at h; done) | rfl | (rename_i op l p; cases op <;> first | (simp [matE] at h; done) | rfl))
  | .tup a => plainly (se_tup (sA CA CN nC a).1) (by intro N sc e h; cases e <;> first | (simp [matE] at h; done) | rfl)
  | .lst a => plainly (se_lst (sA CA CN nC a).1) (by intro N sc e h; cases e <;> first | (simp [matE] at h; done) | rfl)
  | .newl a => plainly (se_newl (sA CA CN nC a).1) (by intro N sc e h; cases e <;> first | (simp [matE] at h; done) | rfl)
  | .ixc a n => plainly (se_ixc (sE CA CN nC a).1) (by intro N sc e h; cases e <;> first | (simp [matE] at h; done) | rfl)
  | .ix a i => plainly (se_ix (sE CA CN nC a).1 (sE CA CN nC i).1) (by intro N sc e h; cases e <;> first | (simp [matE] at h; done) | rfl)
  | .rg1 b => plainly (se_rg1 (sE CA CN nC b).1) (by intro N sc e h; simp only [matE] at h; cases hv : rg1Of e with | none => (rw [hv] at h; cases h) | some v => (obtain ⟨p1, p2, p3, p4, rfl⟩ := rg1Of_ok hv; rfl))
  | .dix a i => plainly (se_dix (sE CA CN nC a).1 (sE CA CN nC i).1) (by intro N sc e h; cases e <;> first | (simp [matE] at h; done) | rfl)
  | .zpl a b => plainly (se_zpl (sE CA CN nC a).1 (sE CA CN nC b).1) (by intro N sc e h; simp only [matE] at h; cases hv : zplOf e with | none => (rw [hv] at h; cases h) | some v => (obtain ⟨e1, e2⟩ := v; obtain ⟨p1, p2, p3, p4, rfl⟩ := zplOf_ok hv; rfl))
  | .lcz tg a b c e => plainly (se_lcz (sE CA CN nC a).1 (sE CA CN nC b).1 (sO CA CN nC c) (sE CA CN nC e).1) (by intro N sc e h; cases e <;> first | (simp [matE] at h; done) | rfl)
  | .slc a lo hi => plainly (se_slc (sE CA CN nC a).1 (sO CA CN nC lo) (sO CA CN nC hi)) (by intro N sc e h; cases e <;> first | (simp [matE] at h; done) | rfl)
  | .call x S a => plainly (se_call (sA CA CN nC a).1) (by intro N sc e h; cases e <;> first | (simp [matE] at h; done) | rfl)
  | .bl1 f a => plainly (se_bl1 (sE CA CN nC a).1) (by intro N sc e h; cases e <;> first | (simp [matE] at h; done) | rfl)
  | .bl2 f a b => plainly (se_bl2 (sE CA CN nC a).1 (sE CA CN nC b).1) (by intro N sc e h; cases e <;> first | (simp [matE] at h; done) | rfl)
  | .isi a t => plainly (se_isi (sE CA CN nC a).1) (by intro N sc e h; cases e <;> first | (simp [matE] at h; done) | rfl)
  | .cmp o a b => se_cmp (sE CA CN nC a).1 (sE CA CN nC b).1
  | .isN yes a => se_isN (sE CA CN nC a).1
  | .bop isAnd a => se_bop (sA CA CN nC a).2
  | .nt a => se_nt (sE CA CN nC a)
  | .ife t a b => ⟨se_ife (sE CA CN nC t) (sE CA CN nC a).1 (sE CA CN nC b).1, fun _ _ _ h => by simp [tst] at h⟩
  | .callAt fl i a => plainly (se_callAt (sE CA CN nC i).1 (sA CA CN nC a).1) (by intro N sc e h; simp only [matE] at h; cases hv : callAtOf e with | none => (rw [hv] at h; cases h) | some v => (obtain ⟨ns, s, e1, es⟩ := v; obtain ⟨p1, p2, p3, rfl⟩ := callAtOf_ok hv; rfl))
  | .bits a => plainly (se_bits (sE CA CN nC a).1) (by intro N sc e h; simp only [matE] at h; cases hv : bitsOf e with | none => (rw [hv] at h; cases h) | some v => (obtain ⟨o, ap, p⟩ := v; cases bitsOf_ok hv; rfl))
  | .rev a => plainly (se_rev (sE CA CN nC a).1) (by intro N sc e h; simp only [matE] at h; cases hv : revOf e with | none => (rw [hv] at h; cases h) | some v => (obtain ⟨k', p1, p2, p3, p4, rfl⟩ := revOf_ok hv; rfl))
  | .join s a => plainly (se_join (sE CA CN nC a).1) (by intro N sc e h; simp only [matE] at h; cases hv : joinOf e with | none => (rw [hv] at h; cases h) | some v => (obtain ⟨x, e1, ap, p⟩ := v; obtain ⟨k', p0, rfl⟩ := joinOf_ok hv; rfl))
  | .split a s => plainly (se_split (sE CA CN nC a).1) (by intro N sc e h; simp only [matE] at h; cases hv : splitOf e with | none => (rw [hv] at h; cases h) | some v => (obtain ⟨x, e1, ap, p⟩ := v; obtain ⟨k', p0, rfl⟩ := splitOf_ok hv; rfl))
  | .idx a b => plainly (se_idx (sE CA CN nC a).1 (sE CA CN nC b).1) (by intro N sc e h; cases e <;> first | (simp [matE] at h; done) | rfl)
  | .cnt a b => plainly (se_cnt (sE CA CN nC a).1 (sE CA CN nC b).1) (by intro N sc e h; cases e <;> first | (simp [matE] at h; done) | rfl)
  | .cat mu a b => plainly (se_cat (sE CA CN nC a).1 (sE CA CN nC b).1) (by intro N sc e h; cases e <;> first | (simp [matE] at h; done) | rfl)
  | .setl a => plainly (se_setl (sE CA CN nC a).1) (by intro N sc e h; simp only [matE] at h; cases hv : setlOf e with | none => (rw [hv] at h; cases h) | some v => (obtain ⟨p1, p2, p3, p4, rfl⟩ := setlOf_ok hv; rfl))
  | .isl a => plainly (se_isl (sE CA CN nC a).1) (by intro N sc e h; cases e <;> first | (simp [matE] at h; done) | rfl)
  | .lcr mu tg a c e => plainly (se_lcr (sE CA CN nC a).1 (sO CA CN nC c) (sE CA CN nC e).1) (by intro N sc e h; cases e <;> first | (simp [matE] at h; done) | rfl)
  | .lc mu tg it c e => plainly (se_lc (sI CA CN nC it) (sO CA CN nC c) (sE CA CN nC e).1) (by intro N sc e h; cases e <;> first | (simp [matE] at h; done) | rfl)
  | .rgl a b => plainly (se_rgl (sE CA CN nC a).1 (sE CA CN nC b).1) (by intro N sc e h; simp only [matE] at h; cases hv : rglOf e with | none => (rw [hv] at h; cases h) | some v => (obtain ⟨e1, e2⟩ := v; obtain ⟨p1, p2, p3, p4, rfl⟩ := rglOf_ok hv; rfl))
  | .frz a => plainly (se_frz (sE CA CN nC a).1) (by intro N sc e h; simp only [matE, Bool.and_eq_true] at h; exact h.1)
theorem sA (CA : Nat → Addr) (CN : Nat → Str) (nC : Nat) : ∀ m : MA, SA CA CN nC m ∧ SL CA CN nC m
  | .nil => ⟨sa_nil, sl_nil⟩
  | .cons m .nil => ⟨sa_cons (sE CA CN nC m).1 sa_nil, sl_one (sE CA CN nC m)⟩
  | .cons m (.cons m2 a) => ⟨sa_cons (sE CA CN nC m).1 (sA CA CN nC (.cons m2 a)).1, sl_cons (sE CA CN nC m) (sA CA CN nC (.cons m2 a)).2⟩
theorem sO (CA : Nat → Addr) (CN : Nat → Str) (nC : Nat) : ∀ m : MO, SO CA CN nC m
  | .no => so_no
  | .so m => so_so (sE CA CN nC m)
theorem sI (CA : Nat → Addr) (CN : Nat → Str) (nC : Nat) : ∀ m : MI, SI CA CN nC m
  | .seq m => si_seq (sE CA CN nC m).1
  | .rng1 m => si_rng1 (sE CA CN nC m).1
  | .rng2 m m2 => si_rng2 (sE CA CN nC m).1 (sE CA CN nC m2).1
  | .zip m m2 => si_zip (sE CA CN nC m).1 (sE CA CN nC m2).1
end
end
end Dl

/-! The data layer, part H: an error caught and kept. -/
namespace Dl
open PySem L2 PyProof.Rows
variable [NC]

section
variable {X : Cx} {pins : List (Addr × Obj)} {σ : L2.St} {H : Hp} {s : Shared}
/-- an object of ours is told from now on -/
theorem inv_track {a : Addr} {o : HO} (I : Inv X pins σ H s) (hn : H a = none) (hL : a ≠ X.env.locals) (hC : ∀ x c, X.env.cells.lookup x = some c → c ≠ a) (hp : ∀ p ∈ X.pn ++ pins, p.1 ≠ a) (h0 : X.s_0.heap.get? a = none)
    (new : ObjOk X.prog X.w (upd H a o) s.heap a o) : Inv X pins σ (upd H a o) s := by
  have ne0 : ∀ b u, X.s_0.heap.get? b = some u → b ≠ a := fun b u e z => by rw [z, h0] at e; cases e
  have neH : ∀ b u, H b = some u → b ≠ a := fun b u e => ne_of_none e hn
  refine ⟨I.ok, I.os, I.bare, ⟨I.base.keep, I.base.slot, fun b u e n x => ?_, I.base.there, fun b u e => ?_, fun b u v e => ?_, fun b ps e => ?_⟩, I.loc, I.cell, ?_, fun x c e => ?_, fun p m => ?_, fun b u e => ?_, I.len⟩
  · rw [upd_ne (ne0 b u e)]; exact I.base.free b u e n x
  · have q := I.base.tups b u e
    rw [upd_ne (neH b _ q)]; exact q
  · have q := I.base.frzs b u v e
    rw [upd_ne (neH b _ q)]; exact q
  · obtain ⟨m, q⟩ := I.base.tbls b ps e
    exact ⟨m, by rw [upd_ne (neH b _ q)]; exact q⟩
  · rw [upd_ne (Ne.symm hL)]; exact I.free
  · rw [upd_ne (hC x c e)]; exact I.freeC x c e
  · obtain ⟨p1, p2, p3, p4, p5⟩ := I.pin p m
    exact ⟨p1, by rw [upd_ne (hp p m)]; exact p2, p3, p4, p5⟩
  · by_cases q : b = a
    · subst q
      rw [upd_same] at e; cases e
      exact new
    · rw [upd_ne q] at e
      exact (I.hok b u e).stay (fun _ _ _ z => z) (fun c z => by rw [upd_ne (neH c _ z)]; exact z) fun c xs z => by rw [upd_ne (neH c _ z)]; exact z
end
/-- the wish of «except x as n: y = n», n in slot i, y in slot j -/
def wKept (K : PySem.W.Frag) (c : Value) (i j : Nat) (Wout : WX) (D : Ends) : WX := fun cls d σ H =>
  ∃ b C, cls = .ref C ∧ d = none ∧ PySem.W.exmOne K cls c = some b ∧
    (b = true → ∀ a, H a = none → D.nx (((σ.set i (some (.ref a))).set j (some (.ref a))).set i none) (upd H a (ExI C a))) ∧ (b = false → Wout cls d σ H)
section
variable {X : Cx} {x n y : Str} {c : Value} {i j : Nat} {body : List Stmt} {np pos pos' py pz ps : Pos} {tb : WX → TS} {Wout : WX}
theorem ps_try_kept (hs : X.stack = X.env :: X.outer) (hf : X.env.frame = some X.env.locals) (hex : X.ex = []) (hN : X.N.Nodup) (hi : X.N[i]? = some n) (hln : X.env.kindOf n = some .local) (hj : X.N[j]? = some y) (hy : Loc X.env.scope y)
    (hfn : X.fn y = true ∨ X.env.scope.names.lookup y = some .local) (hnd : (n == ("__debug__" : Str)) = false ∧ (n == ("__classdict__" : Str)) = false) (hc : Names X x c) (tk : Takes X Wout)
    (hb : ∀ (W : WX) (pn : List (Addr × Obj)) (xe : Value → Shared → Prop), Takes (X.tr pn xe) W → PassesOwn (model X.prog X.w) X.A X.env xe → PSs (X.tr pn xe) body (tb W)) :
    PS X (.Try body [.ExceptHandler (some (.Name x np)) (some n) [.Assign [.Name y py] (.Name n pz) ps] pos'] [] [] pos) (fun D σ H => tb (wKept X.K c i j Wout D) D σ H) := by
  refine ⟨fun pins s σ H D I h => ?_⟩
  have ok := I.ok
  have fr : X.A.frames = some (X.env :: X.outer) := by
    rw [ok.frames, hs]
  refine wpAny_Try_except ?_
  have body := hb (wKept X.K c i j Wout D) (X.pn ++ pins) (fun e t1 => wpAny (model X.prog X.w) X.A (noteFrame e X.env) (fun _ t2 => wpAny (model X.prog X.w) X.A (setFlight e none)
    (fun _ t3 => wpAny (model X.prog X.w) X.A (handleBy e X.env [.ExceptHandler (some (.Name x np)) (some n) [.Assign [.Name y py] (.Name n pz) ps] pos']) (SP X pins D) X.xe t3) X.xe t2) X.xe t1) (fun u t xe => ?_) PassesOwn.looking
  · refine wpAny_mono (body.run [] s σ H D (I.toTry _) h) (fun fl t sp => ?_) (fun _ _ z => z)
    cases fl with
    | next =>
      obtain ⟨σ1, H1, J1, q1⟩ := sp
      exact wpAny_execs_nil ⟨σ1, H1, J1.ofTry ok, q1⟩
    | brk =>
      obtain ⟨σ1, H1, J1, q1⟩ := sp
      exact ⟨σ1, H1, J1.ofTry ok, q1⟩
    | cont =>
      obtain ⟨σ1, H1, J1, q1⟩ := sp
      exact ⟨σ1, H1, J1.ofTry ok, q1⟩
    | ret u =>
      obtain ⟨w1, σ1, H1, J1, r1, q1⟩ := sp
      exact ⟨w1, σ1, H1, J1.ofTry ok, r1, q1⟩
  · obtain ⟨a, B, sI, pins', σ1, H1, cls, d, rfl, J0, nb, up, sky, na, os, ag, b, C, rfl, rfl, hm, hyes, hno⟩ := xe
    have J : Inv X pins σ1 H1 sI := J0.ofTry ok
    have sky1 : Sky B (X.env :: X.outer) a (Zc (.ref C) none) X.env.locals t.heap := by
      rw [← hs]
      exact sky
    refine Sky.land Zc.steady fr hf sky1 fun h3 fl3 up3 => ?_
    have J3 : Inv X pins σ1 H1 { t with heap := h3 } := J.landed nb fl3.1 (up.trans up3) os ag
    obtain ⟨o3, v3, g3, z3, d3⟩ := fl3.there
    have nfr : a ∉ frs (X.env :: X.outer) := fun mm => by
      obtain ⟨_, o', e', hnf⟩ := fl3.2.2.1.mem mm
      rw [g3] at e'
      cases e'
      exact hnf _ d3
    have nL : a ≠ X.env.locals := fun z => nfr (List.mem_filterMap.mpr ⟨X.env, List.mem_cons_self, by rw [hf, z]⟩)
    have nF : a ∉ X.fs := fun mm => by
      obtain ⟨ev, he, q⟩ := List.mem_filterMap.mp mm
      exact nfr (List.mem_filterMap.mpr ⟨ev, List.mem_cons_of_mem _ he, q⟩)
    have nI : sI.heap.get? a = none := by
      cases e : sI.heap.get? a with
      | none => rfl
      | some o =>
        have z := nb a o e (by rw [hs]; exact nfr)
        rw [fl3.2.1] at z
        cases z
    have n0 : X.s_0.heap.get? a = none := by
      cases e : X.s_0.heap.get? a with
      | none => rfl
      | some o =>
        obtain ⟨o', z⟩ := J.base.there a o e (by rw [hex]; exact fun z => nomatch z)
        rw [nI] at z
        cases z
    have nP : ∀ p ∈ X.pn ++ pins, p.1 ≠ a := fun p mm z => by
      have q := (J.pin p mm).1
      rw [z, nI] at q
      cases q
    have S3 := J3.suite g3 d3 na nL nF
    refine wpAny_handleBy_cons (codeAny_handlers_test ?_) (by intro q; cases q)
    have LT : PySem.W.Looks (model X.prog X.w) h3 (typeOf (.ref a)) (.ref C) := fun A Q E t k q => wpAny_typeOf_ref (k _ _ g3) (by rw [z3.1]; exact q)
    have LM := PySem.W.exm_one (M := model X.prog X.w) (J3.kIn) LT hm
    have test : ∀ {Q : Value → Shared → Prop} {E : Value → Shared → Prop}, Q c { t with heap := h3 } → wpAny (model X.prog X.w) (X.A.mark (some (.ref a))) (eval (.Name x np) X.env) Q E { t with heap := h3 } := by
      intro Q E q
      obtain ⟨hg, hdbg, hm1 | ⟨hm1, hv, hnn⟩⟩ := hc
      · exact ld_glob (X := X.suite a ((a, o3) :: (X.pn ++ pins))) S3 hg hm1 q hdbg
      · exact ld_blt (X := X.suite a ((a, o3) :: (X.pn ++ pins))) S3 hg hm1 hv q hnn hdbg
    refine test (LM.here ?_)
    cases b with
    | true =>
      refine codeAny_handlers_suite_as (HandSPX.lands_againZ fl3 fun h4 fl4 up4 => ?_)
      have J4 : Inv X pins σ1 H1 { t with heap := h4 } := J.landed nb fl4.1 ((up.trans up3).trans up4) os ag
      obtain ⟨o4, v4, g4, z4, d4⟩ := fl4.there
      have S4 := J4.suite g4 d4 na nL nF
      refine store_ok (X := X.suite a ((a, o4) :: (X.pn ++ pins))) (v := .ref a) S4 hN hi (.inl hln) rfl (fun s5 S5 => ?_) (.inr hln)
      have suite : PSs (X.suite a ((a, o4) :: (X.pn ++ pins))) [.Assign [.Name y py] (.Name n pz) ps] (tSeq (tAsg (tVar i) (gName j)) tNext) :=
        pss_cons (ps_set hN hj hy (pe_var hi (.inl hln) hnd.1 hnd.2) rfl hfn) pss_nil
      have il : i < σ1.length := by
        have e1 := J.len
        have e2 := (List.getElem?_eq_some_iff.mp hi).1
        omega
      have rd : (tSeq (tAsg (tVar i) (gName j)) tNext) { nx := fun σ' H' => σ' = ((σ1.set i (some (.ref a))).set j (some (.ref a))) ∧ H' = H1, rt := fun _ _ => False } (σ1.set i (some (.ref a))) H1 :=
        ⟨.ref a, List.getElem?_set_self il, rfl, rfl⟩
      refine wpAny_mono (suite.run [] s5 _ H1 _ S5 rd) (fun fl s6 sp => ?_) (fun _ _ z => False.elim z)
      cases fl with
      | next =>
        obtain ⟨σ6, H6, S6, e6, e7⟩ := sp
        subst e6 e7
        have J6 : Inv X ((a, o4) :: pins) ((σ1.set i (some (.ref a))).set j (some (.ref a))) H6 s6 := by
          refine ⟨ok, S6.os, S6.bare, S6.base, S6.loc, S6.cell, S6.free, S6.freeC, fun p mm => S6.pin p (List.mem_append_left _ ?_), S6.hok, S6.len⟩
          rcases List.mem_append.mp mm with z | z
          · exact List.mem_cons_of_mem _ (List.mem_append_left _ z)
          · rcases List.mem_cons.mp z with z | z
            · rw [z]; exact List.mem_cons_self
            · exact List.mem_cons_of_mem _ (List.mem_append_right _ z)
        refine gone_ok J6 hN hi hln fun s7 J7 => ?_
        obtain ⟨p1, p2, p3, p4, p5⟩ := J7.pin (a, o4) (List.mem_append_right _ List.mem_cons_self)
        have J8 : Inv X pins (((σ1.set i (some (.ref a))).set j (some (.ref a))).set i none) H6 s7 :=
          J7.pins_of fun p mm => J7.pin p (List.mem_append_right _ (List.mem_cons_of_mem _ mm))
        have nC : ∀ z cc, X.env.cells.lookup z = some cc → cc ≠ a := fun z cc e q => by
          obtain ⟨vv, ob, e1, e2⟩ := J8.cell z cc e
          rw [q, p1] at e1
          cases e1
          rw [d4] at e2
          cases e2
        have ob : ObjOk X.prog X.w (upd H6 a (ExI C a)) s7.heap a (ExI C a) :=
          ⟨⟨o4, v4, p1, z4, d4⟩, ⟨o4, p1⟩, fun h1 h2 ⟨o, v, q1, q2⟩ k => ⟨o, v, k o q1, q2⟩⟩
        exact ⟨_, _, inv_track J8 p2 nL nC nP n0 ob, hyes rfl a na⟩
      | brk => obtain ⟨_, _, _, q⟩ := sp; exact q.elim
      | cont => obtain ⟨_, _, _, q⟩ := sp; exact q.elim
      | ret u => obtain ⟨_, _, _, _, _, q⟩ := sp; exact q.elim
    | false =>
      show wpAny _ X.A (handleBy (.ref a) X.env []) _ _ _
      refine wpAny_handleBy_nil ?_
      obtain ⟨k1, k2, k3, oe, vs, T, oT, ts', he, hz, hd, h1, hr⟩ := id fl3
      unfold PySem.passOn
      refine wpAny_bind (wpAny_field he hd h1 ?_)
      rw [if_neg (show ¬ ((Value.ref T == Value.none) = true) from by simp)]
      have fin : wpAny (model X.prog X.w) X.A (setFlight (.ref a) X.env.frame) (fun _ s4 => wpAny (model X.prog X.w) X.A (throw (.ref a) : Sem Flow) (SP X pins D) X.xe s4) X.xe { t with heap := h3 } := by
        rw [hf]
        refine HandSPX.setFlight_upZ fl3 fun h4 hh4 up4 => wpAny_throw (tk _ _ ⟨a, B, sI, pins, σ1, H1, .ref C, none, rfl, J, nb, (up.trans up3).trans up4, .inr (.inr ?_), na, os, ag, hno rfl⟩)
        rw [hs]
        exact hh4
      first
        | exact wpAny_bind (wpAny_pure (wpAny_bind fin))
        | exact wpAny_bind fin
end

/-! an equal one taken out of a list -/
section
open PySem.Spec
theorem remLoop (a : Addr) (xs : Array Value) (c : Nat) (y : Value) (f : Value → Bool) (j : Nat) (hj : j < xs.size) (fj : f xs[j] = true) (hz : xs.size ≤ sizeLine) (r : Nat) :
    ∀ i : Nat, j - i = r → i ≤ j → (∀ m (hm : m < xs.size), i ≤ m → m < j → f xs[m] = false) → Meets (Builtin.«list.remove.loop» ⟨[.ref a, y, rawInt i], []⟩)
      (fun A R s => s.heap.get? a = some { cls := .type "list", dict := none, data := .seq xs c, slots := #[] } ∧ (∀ z, z ∈ xs → SeqAt.EqAt A.in1 s z y (f z)) ∧ R (.ok (.ret .none)) { s with heap := s.heap.update a (Obj.mapSeq fun zs => zs.eraseIdxIfInBounds j) }) := by
  induction r with
  | zero =>
    intro i hr hi no prog w A R s q
    obtain ⟨p1, p2, p3, p4, p5⟩ := s
    obtain ⟨ha, he, q⟩ := q
    have same : i = j := by omega
    subst same
    wp_walk using AutoSeq1.wpAny_loadPart' ha
    have here : xs[((i : Nat) : Int).toNat]? = some xs[i] := by
      simp [hj]
    rw [here]
    refine wpAny_bind (he _ (Array.getElem_mem hj) prog w _ _ ?_)
    rw [fj]
    have less : (xs.eraseIdxIfInBounds i).size ≤ sizeLine + 1 :=
      Nat.le_trans (MeetsSeq.size_erased xs _) (by omega)
    wp_walk using (wpAny_updateSeq ha rfl (hz := hz) (_hz' := less)), AutoSeq1.wpAny_loadPart' ha
    simpa using q
  | succ r ih =>
    intro i hr hi no prog w A R s q
    obtain ⟨p1, p2, p3, p4, p5⟩ := s
    obtain ⟨ha, he, q⟩ := q
    have in_ : i < xs.size := by omega
    wp_walk using AutoSeq1.wpAny_loadPart' ha
    have here : xs[((i : Nat) : Int).toNat]? = some xs[i] := by
      simp [in_]
    have up : ((i : Int) + 1) = ((i + 1 : Nat) : Int) := by
      push_cast; rfl
    rw [here]
    refine wpAny_bind (he _ (Array.getElem_mem in_) prog w _ _ ?_)
    rw [no i in_ (Nat.le_refl _) (by omega)]
    wp_walk
    rw [up]
    refine ⟨plainId_quiet MeetsSeq.plain_remove_loop _, codeAny_builtin MeetsSeq.entry_remove_loop ?_⟩
    rw [Around.under_plainId MeetsSeq.plain_remove_loop _]
    exact ih (i + 1) (by omega) (by omega) (fun m hm h1 h2 => no m hm (by omega) h2) prog w A R _ ⟨ha, he, q⟩
theorem remAt (a : Addr) (xs : Array Value) (c : Nat) (y : Value) (f : Value → Bool) (j : Nat) (hj : j < xs.size) (fj : f xs[j] = true) (no : ∀ m (hm : m < xs.size), m < j → f xs[m] = false) (hz : xs.size ≤ sizeLine) :
    Meets (Builtin.«list.remove» ⟨[.ref a, y], []⟩)
      (fun A R s => s.heap.get? a = some { cls := .type "list", dict := none, data := .seq xs c, slots := #[] } ∧ (∀ z, z ∈ xs → SeqAt.EqAt A.in1 s z y (f z)) ∧ R (.ok (.ret .none)) { s with heap := s.heap.update a (Obj.mapSeq fun zs => zs.eraseIdxIfInBounds j) }) := by
  intro prog w A R s q
  obtain ⟨p1, p2, p3, p4, p5⟩ := s
  obtain ⟨ha, he, q⟩ := q
  wp_walk using AutoSeq1.wpAny_loadPart' ha
  refine ⟨plainId_quiet MeetsSeq.plain_remove_loop _, codeAny_builtin MeetsSeq.entry_remove_loop ?_⟩
  rw [Around.under_plainId MeetsSeq.plain_remove_loop _]
  exact remLoop a xs c y f j hj fj hz _ 0 rfl (Nat.zero_le _) (fun m hm _ h2 => no m hm h2) prog w A R _ ⟨ha, he, q⟩
/-- xs.remove(y), y like one of them -/
def rRemD (K : PySem.W.Frag) : V → List V → Hp → VK → Prop := fun x vs H Q => ∃ (a : Addr) (ws : List V) (y : V) (d : PyData) (ds : List PyData) (j : Nat) (z : PyData), x = V.ref a ∧ vs = [y] ∧ H a = some (.lst ws) ∧ DpAll K H ws ds ∧ Dp K H y d ∧
  SeqAt.shaped (.list ds) = true ∧ SeqAt.shaped d = true ∧ ds[j]? = some z ∧ PyData.eqv z d = true ∧ (∀ (m : Nat) (z' : PyData), m < j → ds[m]? = some z' → PyData.eqv z' d = false) ∧ Q .non (upd H a (.lst (ws.eraseIdx j)))
theorem mt_remD {X : Cx} (hu : X.A.units + 65 < cLine) : MtM X "list.remove" (rRemD X.K) := by
  intro pins s σ H x vs v us Q I rx rv h
  obtain ⟨a, ws, y, d, ds, j, z, rfl, rfl, hH, hl, hy, sl, sd, hz, hzj, hno, q⟩ := h
  cases rx
  obtain ⟨u, rfl, ru⟩ := rv.one
  obtain ⟨bs, r1⟩ := Dp.reads I d y u hy ru
  have lay : PyData.canLayAll0 ds = true := SeqAt.canLay_of_shaped sl
  have room : X.A.units + 1 + min (PyData.depthAll ds) d.depth < cLine := room_in_shaped sd hu
  obtain ⟨zl, its, n, rr, el, e0⟩ := I.lstM hH
  obtain ⟨as, h4⟩ := Dp.readsAll I ds _ its hl rr
  have ln : its.length = ds.length := SeqAt.ReadsAll.length ds its as h4
  have mp : its.map (SeqAt.readOf s.heap) = ds := SeqAt.readsAll_map ds its as lay h4
  obtain ⟨jd, _⟩ := List.getElem?_eq_some_iff.mp hz
  have jl : j < its.length := by omega
  have js : j < its.toArray.size := by simpa using jl
  have rd : ∀ (m : Nat) (hm : m < its.toArray.size) (z' : PyData), ds[m]? = some z' → SeqAt.readOf s.heap its.toArray[m] = z' := by
    intro m hm z' hz'
    have ml : m < its.length := by simpa using hm
    rw [← mp, List.getElem?_map, List.getElem?_eq_getElem ml] at hz'
    have e1 : SeqAt.readOf s.heap its[m] = z' := Option.some.inj hz'
    simpa using e1
  have szl : its.toArray.size ≤ sizeLine := by
    rw [List.size_toArray, ← el]; exact zl
  refine call_meets PySem.F.slot_list_remove ⟨_, e0, rfl⟩ PySem.F.entry_list_remove (PySem.F.args_list_remove_2 _ _)
    (remAt a its.toArray n u (fun w => PyData.eqv (SeqAt.readOf s.heap w) d) j js ?_ ?_ szl) ⟨e0, SeqAt.items_eqAt (vs := its.toArray) (by simpa using h4) r1 lay (SeqAt.canLay_of_shaped sd) room, ?_⟩
  · show PyData.eqv (SeqAt.readOf s.heap its.toArray[j]) d = true
    rw [rd j js z hz]
    exact hzj
  · intro m hm mj
    have md : m < ds.length := by omega
    have hz' : ds[m]? = some ds[m] := List.getElem?_eq_getElem md
    show PyData.eqv (SeqAt.readOf s.heap its.toArray[m]) d = false
    rw [rd m hm _ hz']
    exact hno m _ mj hz'
  · refine ⟨.non, _, I.lset (its' := its.eraseIdx j) (t' := s.toks) hH e0 ?_ (rr.eraseIdx j) ?_, rfl, q⟩
    · show its.toArray.eraseIdxIfInBounds j = (its.eraseIdx j).toArray
      rw [List.eraseIdxIfInBounds_toArray]
    · have := List.length_eraseIdx_le ws j
      omega
end
end Dl

/-! The data layer, part I: statements. -/
namespace Dl
open PySem L2 PyProof.Rows
variable [NC]

/-! ### the match -/
def isTupOrList : Expr → Bool
  | .Tuple _ _ _ => true
  | .List _ _ => true
  | _ => false
theorem swapped_none {tg v : Expr} (env : Env) (h : isTupOrList tg = false ∨ isTupE v = false) : swappedStores [tg] v env = pure none := by
  rcases h with h | h
  · cases tg <;> first | (simp [isTupOrList] at h; done) | rfl
  · cases v <;> first | (simp [isTupE] at h; done) | (cases tg <;> rfl)
/-- a name that a comprehension looks at from within -/
def cellB (sc : Scope) (x : Str) : Bool := match sc.names.lookup x with
  | some .cell => true
  | _ => false
def cellTup (sc : Scope) : List Expr → Bool
  | [.Name x _, .Name y _] => cellB sc x || cellB sc y
  | _ => false
theorem swapped_cell {x y : Str} {px py pt : Pos} {kk : _} {v : Expr} (env : Env) (h : env.kindOf x ≠ some .local ∨ env.kindOf y ≠ some .local) : swappedStores [.Tuple [.Name x px, .Name y py] kk pt] v env = pure none := by
  cases v <;> try rfl
  rename_i vs k2 p2
  unfold swappedStores
  simp only [List.length_cons, List.length_nil, List.head?_cons, Option.map_some, Option.getD_some, List.filterMap_cons, List.filterMap_nil, Expr.pos]
  split
  · rfl
  · split
    · rfl
    · refine if_pos ?_
      rcases h with h | h
      · have e : (env.kindOf x == some .local) = false := by simpa using h
        simp only [e, Bool.false_and, if_false, Bool.false_eq_true]
        split <;> simp
      · have e : (env.kindOf y == some .local) = false := by simpa using h
        simp only [e, Bool.false_and, if_false, Bool.false_eq_true]
        split <;> simp
theorem cellTup_ok {es : List Expr} {kk : _} {pt : Pos} {v : Expr} {env : Env} (h : cellTup env.scope es = true) : swappedStores [.Tuple es kk pt] v env = pure none := by
  unfold cellTup at h
  split at h
  · rename_i x px y py
    rw [Bool.or_eq_true] at h
    refine swapped_cell env ?_
    rcases h with h | h
    · left
      unfold cellB at h
      split at h
      · rename_i e
        intro z
        have : env.scope.names.lookup x = some .local := z
        rw [e] at this; cases this
      · cases h
    · right
      unfold cellB at h
      split at h
      · rename_i e
        intro z
        have : env.scope.names.lookup y = some .local := z
        rw [e] at this; cases this
      · cases h
  · cases h
def isLcM : ME → Bool
  | .lc _ _ _ _ _ => true
  | .lcr _ _ _ _ _ => true
  | _ => false
/-- is the comprehension's list stored within its block -/
def swB (env : Env) (x : Str) (p p2 : Pos) (scope : Scope) : Bool := env.blockKind == .function && env.kindOf x == some .local && p.line == p2.line && !(scope.names.any fun (n, k) => n == x && (k == .local || k == .cell))
theorem swB_is (elt : Expr) (gens : List Comprehension) (scope : Scope) (p2 p : Pos) (x : Str) (l : Nat) (env : Env) : swapsWith (.ListComp elt gens scope p2) (some (.Name x p)) l env = pure (swB env x p p2 scope) := rfl
def parOf : Stmt → Option (Str × Pos × Str × Pos × Expr × Expr)
  | .Assign [.Tuple [.Name x px, .Name y py] _ _] (.Tuple [e1, e2] _ _) _ => some (x, px, y, py, e1, e2)
  | _ => none
theorem parOf_ok {st : Stmt} {x y : Str} {px py : Pos} {e1 e2 : Expr} (h : parOf st = some (x, px, y, py, e1, e2)) : ∃ kk pt k2 pt2 p, st = .Assign [.Tuple [.Name x px, .Name y py] kk pt] (.Tuple [e1, e2] k2 pt2) p := by
  unfold parOf at h
  split at h
  · cases h; exact ⟨_, _, _, _, _, rfl⟩
  · cases h
def parOf3 : Stmt → Option (Str × Pos × Str × Pos × Str × Pos × Expr × Expr × Expr)
  | .Assign [.Tuple [.Name x px, .Name y py, .Name z pz] _ _] (.Tuple [e1, e2, e3] _ _) _ => some (x, px, y, py, z, pz, e1, e2, e3)
  | _ => none
theorem parOf3_ok {st : Stmt} {x y z : Str} {px py pz : Pos} {e1 e2 e3 : Expr} (h : parOf3 st = some (x, px, y, py, z, pz, e1, e2, e3)) : ∃ kk pt k2 pt2 p, st = .Assign [.Tuple [.Name x px, .Name y py, .Name z pz] kk pt] (.Tuple [e1, e2, e3] k2 pt2) p := by
  unfold parOf3 at h
  split at h
  · cases h; exact ⟨_, _, _, _, _, rfl⟩
  · cases h
theorem sole_tup (v : Expr) (es : List Expr) (kk : _) (px : Pos) (l : Nat) (env : Env) : swapsWith v (some (.Tuple es kk px)) l env = pure false := by
  cases v <;> rfl
theorem sole_sub (v o i : Expr) (px : Pos) (l : Nat) (env : Env) : swapsWith v (some (.Subscript o i px)) l env = pure false := by
  cases v <;> rfl
def raisOf : Stmt → Option Str
  | .Raise (some (.Call (.Name x _) [.Constant (.str _) _ _] [] _)) none _ => some x
  | _ => none
theorem raisOf_ok {st : Stmt} {x : Str} (h : raisOf st = some x) : ∃ p1 m j p2 p3 p4, st = .Raise (some (.Call (.Name x p1) [.Constant (.str m) j p2] [] p3)) none p4 := by
  unfold raisOf at h
  split at h
  · cases h; exact ⟨_, _, _, _, _, _, rfl⟩
  · cases h
def tryOf : Stmt → Option (List Stmt × Str × Str × Str × Str)
  | .Try body [.ExceptHandler (some (.Name x _)) (some n) [.Assign [.Name y _] (.Name z _) _] _] [] [] _ => some (body, x, n, y, z)
  | _ => none
theorem tryOf_ok {st : Stmt} {body : List Stmt} {x n y z : Str} (h : tryOf st = some (body, x, n, y, z)) : ∃ p1 p2 p3 p4 p5 p6, st = .Try body [.ExceptHandler (some (.Name x p1)) (some n) [.Assign [.Name y p2] (.Name z p3) p4] p5] [] [] p6 := by
  unfold tryOf at h
  split at h
  · cases h; exact ⟨_, _, _, _, _, _, rfl⟩
  · cases h
def tryOf0 : Stmt → Option (List Stmt × Str × Str)
  | .Try body [.ExceptHandler (some (.Name x _)) none [.Assign [.Name y _] (.Constant .none _ _) _] _] [] [] _ => some (body, x, y)
  | _ => none
theorem tryOf0_ok {st : Stmt} {body : List Stmt} {x y : Str} (h : tryOf0 st = some (body, x, y)) : ∃ p1 p2 k p3 p4 p5 p6, st = .Try body [.ExceptHandler (some (.Name x p1)) none [.Assign [.Name y p2] (.Constant .none k p3) p4] p5] [] [] p6 := by
  unfold tryOf0 at h
  split at h
  · cases h; exact ⟨_, _, _, _, _, _, _, rfl⟩
  · cases h
/-- x = {}; for k in it: x[k] = v -/
def dctOf : Stmt → Stmt → Option (Str × Str × Str × Str × Str × Expr × Expr × Expr)
  | .Assign [.Name x _] (.Dict [] [] _) _, .For (.Name k pk) it [.Assign [.Subscript (.Name x3 _) (.Name k2 _) _] v _] [] _ => some (x, k, k, k2, x3, .Name k pk, it, v)
  | _, _ => none
theorem dctOf_ok {s1 s2 : Stmt} {x k x2 k2 x3 : Str} {tg it v : Expr} (h : dctOf s1 s2 = some (x, k, x2, k2, x3, tg, it, v)) : ∃ p1 p2 p3 p4 p5 p6 p7 p8 p9, s1 = .Assign [.Name x p1] (.Dict [] [] p2) p3 ∧ tg = .Name k p4 ∧ s2 = .For (.Name k p4) it [.Assign [.Subscript (.Name x3 p5) (.Name k2 p6) p7] v p8] [] p9 := by
  unfold dctOf at h
  split at h
  · cases h; exact ⟨_, _, _, _, _, _, _, _, _, rfl, rfl, rfl⟩
  · cases h
def Mth.name : Mth → Str
  | .clear => "clear"
  | .reverse => "reverse"
mutual
def matS (CN : Nat → Str) (N : List Str) (sc : Scope) : MS → Stmt → Bool
  | .pas, st => (match st with | .Pass _ => true | _ => false)
  | .asg tg e, st => (match tg with
    | .name i => (match st with | .Assign [.Name x p] v _ => decide (N[i]? = some x) && locB sc x && (notComp v || isLcM e) && matE CN N sc e v | _ => false)
    | .tup is => (match st with | .Assign [.Tuple es k p] v _ => matT.matTs N sc is es && (!isTupE v || cellTup sc es) && matE CN N sc e v | _ => false))
  | .asgr is e, st => (match st with | .Assign [.Tuple es k p] v _ => matT.matTs N sc is es && notComp v && !isTupE v && matE CN N sc e v | _ => false)
  | .par i j a b, st => (match parOf st with
      | some (x, px, y, py, e1, e2) => decide (N[i]? = some x) && decide (N[j]? = some y) && decide (i ≠ j) && decide (x ≠ y) && lclB sc x && lclB sc y && px.line == py.line && notStar e1 && notStar e2 && (!(foldedForSure 8 e1 && foldedForSure 8 e2)) && (!(constantsAlone 8 e1 && constantsAlone 8 e2)) && matE CN N sc a e1 && matE CN N sc b e2
      | none => false)
  | .par3 i j l a b c, st => (match parOf3 st with
      | some (x, px, y, py, z, pz, e1, e2, e3) => decide (N[i]? = some x) && decide (N[j]? = some y) && decide (N[l]? = some z) && decide (i ≠ j ∧ i ≠ l ∧ j ≠ l) && decide (x ≠ y ∧ x ≠ z ∧ y ≠ z) && lclB sc x && lclB sc y && lclB sc z && decide (px.line = py.line ∧ px.line = pz.line) && notStar e1 && notStar e2 && notStar e3 && (!(foldedForSure 8 e1 && (foldedForSure 8 e2 && foldedForSure 8 e3))) && (!(constantsAlone 8 e1 && (constantsAlone 8 e2 && constantsAlone 8 e3))) && matE CN N sc a e1 && matE CN N sc b e2 && matE CN N sc c e3
      | none => false)
  | .set2 o i p j e, st => (match st with | .Assign [.Tuple [.Subscript o' i' _, .Subscript p' j' _] _ _] v _ => isTupE v && notSl i' && notSl j' && matE CN N sc o o' && matE CN N sc i i' && matE CN N sc p p' && matE CN N sc j j' && matE CN N sc e v | _ => false)
  | .setix o i e, st => (match st with | .Assign [.Subscript o' i' _] v _ => notSl i' && matE CN N sc o o' && matE CN N sc i i' && matE CN N sc e v | _ => false)
  | .app o e, st => (match st with | .Expr (.Call (.Attribute o' nm pa) [e'] [] pc) _ => decide (nm = "append") && attrOk o' && (pa.endLine == pc.line) && notStar e' && matE CN N sc o o' && matE CN N sc e e' | _ => false)
  | .ext o e, st => (match st with | .Expr (.Call (.Attribute o' nm pa) [e'] [] pc) _ => decide (nm = "extend") && attrOk o' && (pa.endLine == pc.line) && notStar e' && matE CN N sc o o' && matE CN N sc e e' | _ => false)
  | .mth f o, st => (match st with | .Expr (.Call (.Attribute o' nm pa) [] [] pc) _ => decide (nm = f.name) && attrOk o' && (pa.endLine == pc.line) && matE CN N sc o o' | _ => false)
  | .pop o, st => (match st with | .Expr (.Call (.Attribute o' nm pa) [] [] pc) _ => decide (nm = "pop") && attrOk o' && (pa.endLine == pc.line) && matE CN N sc o o' | _ => false)
  | .rem o e, st => (match st with | .Expr (.Call (.Attribute o' nm pa) [e'] [] pc) _ => decide (nm = "remove") && attrOk o' && (pa.endLine == pc.line) && notStar e' && matE CN N sc o o' && matE CN N sc e e' | _ => false)
  | .expr e, st => (match st with | .Expr v _ => notComp v && matE CN N sc e v | _ => false)
  | .ret e, st => (match st with | .Return (some v) _ => matE CN N sc e v | _ => false)
  | .retN, st => (match st with | .Return none _ => true | _ => false)
  | .ite t a b, st => (match st with | .If c x y _ => tst t && matE CN N sc t c && matB CN N sc a x && matB CN N sc b y | _ => false)
  | .loop t it b, st => (match st with | .For tg i x [] _ => matT N sc t tg && matI CN N sc it tg i && notSet i && matB CN N sc b x | _ => false)
  | .loopr t a b, st => (match st with | .For tg i x [] _ => matT N sc t tg && matE CN N sc a i && notSet i && matB CN N sc b x | _ => false)
  | .whl t b, st => (match st with | .While c x [] _ => tst t && matE CN N sc t c && matB CN N sc b x | _ => false)
  | .brk, st => (match st with | .Break _ => true | _ => false)
  | .cnt, st => (match st with | .Continue _ => true | _ => false)
  | .rais c, st => (match raisOf st with
      | some x => decide (CN c = x) && glB sc x && dbg x && decide (c < NC.n)
      | none => false)
  | .try1 c b i j, st => (match tryOf st with
      | some (body, x, n, y, z) => decide (CN c = x) && glB sc x && dbg x && decide (c < NC.n) && decide (N[i]? = some n) && lclB sc n && decide (N[j]? = some y) && locB sc y && decide (z = n) && decide (i ≠ j) && matB CN N sc b body
      | none => false)
  | .try0 c b j, st => (match tryOf0 st with
      | some (body, x, y) => decide (CN c = x) && glB sc x && dbg x && decide (c < NC.n) && decide (N[j]? = some y) && locB sc y && matB CN N sc b body
      | none => false)
def matB (CN : Nat → Str) (N : List Str) (sc : Scope) : MB → List Stmt → Bool
  | .nil, [] => true
  | .cons m b, s :: ss => matS CN N sc m s && matB CN N sc b ss
  | .dctL i j it e b, s1 :: s2 :: ss => (match dctOf s1 s2 with
      | some (x, k, x2, k2, x3, tg, itE, v) => decide (N[i]? = some x) && decide (N[j]? = some k) && decide (i ≠ j) && decide (x3 = x) && decide (k2 = k) && decide (x2 = k) && locB sc x && visB sc x && locB sc k && visB sc k && matI CN N sc it tg itE && notSet itE && matE CN N sc e v
      | none => false) && matB CN N sc b ss
  | _, _ => false
end
mutual
def okS (nC : Nat) (fs : Str → DSp → Prop) (gs : Str → D → Prop) : MS → Prop
  | .asg _ e => okE nC fs gs e
  | .asgr _ e => okE nC fs gs e
  | .par _ _ a b => okE nC fs gs a ∧ okE nC fs gs b
  | .par3 _ _ _ a b c => okE nC fs gs a ∧ okE nC fs gs b ∧ okE nC fs gs c
  | .setix o i e => okE nC fs gs o ∧ okE nC fs gs i ∧ okE nC fs gs e
  | .set2 o i p j e => okE nC fs gs o ∧ okE nC fs gs i ∧ okE nC fs gs p ∧ okE nC fs gs j ∧ okE nC fs gs e
  | .app o e => okE nC fs gs o ∧ okE nC fs gs e
  | .ext o e => okE nC fs gs o ∧ okE nC fs gs e
  | .mth _ o => okE nC fs gs o
  | .pop o => okE nC fs gs o
  | .rem o e => okE nC fs gs o ∧ okE nC fs gs e
  | .expr e => okE nC fs gs e
  | .ret e => okE nC fs gs e
  | .ite t a b => okE nC fs gs t ∧ okB nC fs gs a ∧ okB nC fs gs b
  | .loop _ it b => okI nC fs gs it ∧ okB nC fs gs b
  | .loopr _ a b => okE nC fs gs a ∧ okB nC fs gs b
  | .whl t b => okE nC fs gs t ∧ okB nC fs gs b
  | .rais _ => nC = NC.n
  | .try1 _ b _ _ => nC = NC.n ∧ okB nC fs gs b
  | .try0 _ b _ => nC = NC.n ∧ okB nC fs gs b
  | _ => True
def okB (nC : Nat) (fs : Str → DSp → Prop) (gs : Str → D → Prop) : MB → Prop
  | .nil => True
  | .cons s b => okS nC fs gs s ∧ okB nC fs gs b
  | .dctL _ _ it e b => okI nC fs gs it ∧ okE nC fs gs e ∧ okB nC fs gs b
end

/-! ### readings -/
structure Kc (K : PySem.W.Frag) (CA : Nat → Addr) (W : WX) (E : Ends) (F R : Hp) (N : En) : Prop where
  nx : ∀ ρ' μ' σ' F' H', N.nx ρ' μ' → Same F F' → Hs K CA F' R μ' H' → Rp K CA F' ρ' σ' → E.nx σ' H'
  rt : ∀ d μ' v F' H', N.rt d μ' → Same F F' → Hs K CA F' R μ' H' → Dx K CA F' v d → E.rt v H'
  bk : ∀ ρ' μ' σ' F' H', N.bk ρ' μ' → Same F F' → Hs K CA F' R μ' H' → Rp K CA F' ρ' σ' → E.bk σ' H'
  ct : ∀ ρ' μ' σ' F' H', N.ct ρ' μ' → Same F F' → Hs K CA F' R μ' H' → Rp K CA F' ρ' σ' → E.ct σ' H'
  xx : ∀ c ρ' μ' σ' F' H', N.xx c ρ' μ' → Same F F' → Hs K CA F' R μ' H' → Rp K CA F' ρ' σ' → W (.ref (CA c)) none σ' H'
theorem Kc.go {K : PySem.W.Frag} {CA : Nat → Addr} {W : WX} {E : Ends} {F F1 R : Hp} {N : En} (k : Kc K CA W E F R N) (f : Same F F1) : Kc K CA W E F1 R N :=
  ⟨fun a b c d e q g => k.nx a b c d e q (f.trans g), fun a b c d e q g => k.rt a b c d e q (f.trans g), fun a b c d e q g => k.bk a b c d e q (f.trans g), fun a b c d e q g => k.ct a b c d e q (f.trans g), fun a b c d e h q g => k.xx a b c d e h q (f.trans g)⟩

def tS (K : PySem.W.Frag) (CA : Nat → Addr) (W : WX) (w : Rho → Mu → En → Prop) : TS := fun E σ H => ∃ F R ρ μ N, Hs K CA F R μ H ∧ Rp K CA F ρ σ ∧ w ρ μ N ∧ Kc K CA W E F R N
structure GdS (X : Cx) (k : Nat) (W : WX) (CA : Nat → Addr) (CN : Nat → Str) (nC : Nat) : Prop extends Gd X k W CA CN nC where
  fn : ∀ x, X.fn x = true
  stk : X.stack = X.env :: X.outer
  frm : X.env.frame = some X.env.locals
  ex : X.ex = []
  kind : X.env.scope.kind = .function
theorem ps_imp {X : Cx} {e : Stmt} {t t' : TS} (h : PS X e t) (i : ∀ E σ H, t' E σ H → t E σ H) : PS X e t' := ⟨fun pins s σ H D I q => h.run pins s σ H D I (i D σ H q)⟩
theorem pss_imp {X : Cx} {e : List Stmt} {t t' : TS} (h : PSs X e t) (i : ∀ E σ H, t' E σ H → t E σ H) : PSs X e t' := ⟨fun pins s σ H D I q => h.run pins s σ H D I (i D σ H q)⟩
section
variable (CA : Nat → Addr) (CN : Nat → Str) (nC : Nat)
def SS (m : MS) : Prop := ∀ {X : Cx} {k : Nat} {W : WX} {e : Stmt}, GdS X k W CA CN nC → matS CN X.N X.env.scope m e = true → okS nC (FnSat CA X k) (GlSat CA X) m → PS X e (tS X.K CA W (wpS m))
def SB (m : MB) : Prop := ∀ {X : Cx} {k : Nat} {W : WX} {e : List Stmt}, GdS X k W CA CN nC → matB CN X.N X.env.scope m e = true → okB nC (FnSat CA X k) (GlSat CA X) m → PSs X e (tS X.K CA W (wpB m))
end
section
variable {CA : Nat → Addr} {CN : Nat → Str} {nC : Nat}
theorem Kc.sx {K : PySem.W.Frag} {W : WX} {E : Ends} {F R H : Hp} {N : En} {ρ : Rho} {μ : Mu} {σ : L2.St} (k : Kc K CA W E F R N) (hs : Hs K CA F R μ H) (rp : Rp K CA F ρ σ) : Sx K CA W σ F R ρ μ (fun c μ1 => N.xx c ρ μ1) H :=
  ⟨hs, rp, fun c μ' F' H' q f z => k.xx c ρ μ' σ F' H' q f z (rp.mono f)⟩
theorem ss_pas : SS CA CN nC .pas := by
  intro X k W e g h ok
  cases e <;> first | (simp [matS] at h; done) | skip
  refine ps_imp ps_pass fun E σ H q => ?_
  obtain ⟨F, R, ρ, μ, N, hs, rp, w, kc⟩ := q
  exact kc.nx _ _ _ _ _ w (Same.refl F) hs rp
theorem ss_brk : SS CA CN nC .brk := by
  intro X k W e g h ok
  cases e <;> first | (simp [matS] at h; done) | skip
  refine ps_imp ps_break fun E σ H q => ?_
  obtain ⟨F, R, ρ, μ, N, hs, rp, w, kc⟩ := q
  exact kc.bk _ _ _ _ _ w (Same.refl F) hs rp
theorem ss_cnt : SS CA CN nC .cnt := by
  intro X k W e g h ok
  cases e <;> first | (simp [matS] at h; done) | skip
  refine ps_imp ps_continue fun E σ H q => ?_
  obtain ⟨F, R, ρ, μ, N, hs, rp, w, kc⟩ := q
  exact kc.ct _ _ _ _ _ w (Same.refl F) hs rp
theorem ss_retN : SS CA CN nC .retN := by
  intro X k W e g h ok
  cases e <;> first | (simp [matS] at h; done) | skip
  rename_i v p
  cases v <;> first | (simp [matS] at h; done) | skip
  refine ps_imp ps_retN fun E σ H q => ?_
  obtain ⟨F, R, ρ, μ, N, hs, rp, w, kc⟩ := q
  exact kc.rt _ _ _ _ _ w (Same.refl F) hs .non
theorem ss_ret {m : ME} : SS CA CN nC (.ret m) := by
  intro X k W e g h ok
  cases e <;> first | (simp [matS] at h; done) | skip
  rename_i v p
  cases v <;> first | (simp [matS] at h; done) | skip
  simp only [matS] at h
  refine ps_imp (ps_ret ((sE CA CN nC m).1 g.toGd h ok)) fun E σ H q => ?_
  obtain ⟨F, R, ρ, μ, N, hs, rp, w, kc⟩ := q
  exact Gr.mk (kc.sx hs rp) w fun d μ1 v F1 H1 q1 f1 s1 x1 => kc.rt _ _ _ _ _ q1 f1 s1.hs x1
theorem ss_expr {m : ME} : SS CA CN nC (.expr m) := by
  intro X k W e g h ok
  cases e <;> first | (simp [matS] at h; done) | skip
  simp only [matS, Bool.and_eq_true] at h
  refine ps_imp (ps_expr ((sE CA CN nC m).1 g.toGd h.2 ok) (notComp_ok h.1 _ _ _)) fun E σ H q => ?_
  obtain ⟨F, R, ρ, μ, N, hs, rp, w, kc⟩ := q
  exact Gr.mk (kc.sx hs rp) w fun d μ1 v F1 H1 q1 f1 s1 x1 => kc.nx _ _ _ _ _ q1 f1 s1.hs s1.rp
/-- the parts of a comprehension -/
theorem lc_parts {mu : Bool} {tg : MT} {it : MI} {c : MO} {e : ME} {X : Cx} {k : Nat} {W : WX} {ex : Expr} (g : Gd X k W CA CN nC) (h : matE CN X.N X.env.scope (.lc mu tg it c e) ex = true) (ok : okE nC (FnSat CA X k) (GlSat CA X) (.lc mu tg it c e)) :
    ∃ (elt t i : Expr) (ifs : List Expr) (scope : Scope) (p : Pos) (own : List (Str × Nat)), ex = .ListComp elt [⟨t, i, ifs, 0⟩] scope p ∧ own.map (·.2) = tg.slots ∧ PI X t i (tI X.K CA W it) ∧ BlkOk X.N X.env.scope scope own ∧
      (∀ (s : Shared) (H : Hp) (C : Addr) (cl : List (Str × Addr)) (fp : List Addr), PG (X.blk s H scope (compEnvC scope cl C X.env) fp) t (gT X.K tg)) ∧
      (∀ (s : Shared) (H : Hp) (C : Addr) (cl : List (Str × Addr)) (fp : List Addr), PTs (X.blk s H scope (compEnvC scope cl C X.env) fp) ifs (tQ X.K CA (fun _ _ _ _ => False) c)) ∧
      (∀ (s : Shared) (H : Hp) (C : Addr) (cl : List (Str × Addr)) (fp : List Addr), PE (X.blk s H scope (compEnvC scope cl C X.env) fp) elt (tE X.K CA (fun _ _ _ _ => False) e)) ∧ ∀ x, foldedSetIterable i X.env x = pure x := by
  cases ex <;> first | (simp [matE] at h; done) | skip
  rename_i elt gens scope p
  cases gens with
  | nil => simp [matE] at h
  | cons gn gens =>
    cases gens <;> first | (simp [matE] at h; done) | skip
    obtain ⟨t, i, ifs, as⟩ := gn
    simp only [matE, Bool.and_eq_true, decide_eq_true_eq] at h
    obtain ⟨⟨⟨⟨⟨⟨ea, h1⟩, h2⟩, h3⟩, h4⟩, h5⟩, h6⟩ := h
    subst ea
    exact ⟨elt, t, i, ifs, scope, p, ownOf tg t, rfl, own_slots h1, sI CA CN nC it g h3 ok.1, blkOk_by h2,
      fun s H C cl fp => pg_T (X := X.blk s H scope (compEnvC scope cl C X.env) fp) (N := X.N) (sc := scope) g.calm rfl g.nd (fun x hx => relS_loc hx) h1,
      fun s H C cl fp => (sO CA CN nC c).2 (g.blk s H scope C cl fp) h5 ok.2.1, fun s H C cl fp => (sE CA CN nC e).1 (g.blk s H scope C cl fp) h6 ok.2.2, fun x => notSet_ok h4 X.env x⟩
theorem lcr_parts {mu : Bool} {tg : MT} {a : ME} {c : MO} {e : ME} {X : Cx} {k : Nat} {W : WX} {ex : Expr} (g : Gd X k W CA CN nC) (h : matE CN X.N X.env.scope (.lcr mu tg a c e) ex = true) (ok : okE nC (FnSat CA X k) (GlSat CA X) (.lcr mu tg a c e)) :
    ∃ (elt t i : Expr) (ifs : List Expr) (scope : Scope) (p : Pos) (own : List (Str × Nat)), ex = .ListComp elt [⟨t, i, ifs, 0⟩] scope p ∧ own.map (·.2) = tg.slots ∧ PI X t i (tR X.K CA W a) ∧ BlkOk X.N X.env.scope scope own ∧
      (∀ (s : Shared) (H : Hp) (C : Addr) (cl : List (Str × Addr)) (fp : List Addr), PG (X.blk s H scope (compEnvC scope cl C X.env) fp) t (gT X.K tg)) ∧
      (∀ (s : Shared) (H : Hp) (C : Addr) (cl : List (Str × Addr)) (fp : List Addr), PTs (X.blk s H scope (compEnvC scope cl C X.env) fp) ifs (tQ X.K CA (fun _ _ _ _ => False) c)) ∧
      (∀ (s : Shared) (H : Hp) (C : Addr) (cl : List (Str × Addr)) (fp : List Addr), PE (X.blk s H scope (compEnvC scope cl C X.env) fp) elt (tE X.K CA (fun _ _ _ _ => False) e)) ∧ ∀ x, foldedSetIterable i X.env x = pure x := by
  cases ex <;> first | (simp [matE] at h; done) | skip
  rename_i elt gens scope p
  cases gens with
  | nil => simp [matE] at h
  | cons gn gens =>
    cases gens <;> first | (simp [matE] at h; done) | skip
    obtain ⟨t, i, ifs, as⟩ := gn
    simp only [matE, Bool.and_eq_true, decide_eq_true_eq] at h
    obtain ⟨⟨⟨⟨⟨⟨ea, h1⟩, h2⟩, h3⟩, h4⟩, h5⟩, h6⟩ := h
    subst ea
    exact ⟨elt, t, i, ifs, scope, p, ownOf tg t, rfl, own_slots h1, pi_seq ((sE CA CN nC a).1 g h3 ok.1), blkOk_by h2,
      fun s H C cl fp => pg_T (X := X.blk s H scope (compEnvC scope cl C X.env) fp) (N := X.N) (sc := scope) g.calm rfl g.nd (fun x hx => relS_loc hx) h1,
      fun s H C cl fp => (sO CA CN nC c).2 (g.blk s H scope C cl fp) h5 ok.2.1, fun s H C cl fp => (sE CA CN nC e).1 (g.blk s H scope C cl fp) h6 ok.2.2, fun x => notSet_ok h4 X.env x⟩
theorem ss_asg {t : MT} {m : ME} : SS CA CN nC (.asg t m) := by
  intro X k W e g h ok
  have rd : ∀ (E : Ends) (σ : L2.St) (H : Hp), tS X.K CA W (wpS (.asg t m)) E σ H → tAsg (tE X.K CA W m) (gT X.K t) E σ H := fun E σ H q => by
    obtain ⟨F, R, ρ, μ, N, hs, rp, w, kc⟩ := q
    refine Gr.mk (kc.sx hs rp) w fun d μ1 v F1 H1 q1 f1 s1 x1 => ?_
    exact gT_ok q1 x1 s1.rp s1.hs fun ρ' σ' hk rp' _ => kc.nx _ _ _ _ _ hk f1 s1.hs rp'
  cases t with
  | name i =>
    cases e <;> first | (simp [matS] at h; done) | skip
    rename_i tgs v p
    cases tgs with
    | nil => simp [matS] at h
    | cons tg tgs =>
      cases tgs <;> first | (cases tg <;> simp [matS] at h; done) | skip
      cases tg <;> first | (simp [matS] at h; done) | skip
      rename_i x px
      simp only [matS, Bool.and_eq_true, decide_eq_true_eq] at h
      obtain ⟨⟨⟨h1, h2⟩, h3⟩, h4⟩ := h
      have hv := (sE CA CN nC m).1 g.toGd h4 ok
      by_cases nc : notComp v = true
      · exact ps_imp (ps_set g.nd h1 (locB_ok h2) hv (notComp_ok nc _ _ _) (.inl (g.fn x))) rd
      · have hl : isLcM m = true := by
          simp only [Bool.or_eq_true] at h3
          exact h3.resolve_left nc
        cases m <;> first | (simp [isLcM] at hl; done) | skip
        case lc mu tg it c e =>
          obtain ⟨elt, tt, ii, ifs, scope, p2, own, rfl, ho, pi, bo, pg, pts, pee, hss⟩ := lc_parts g.toGd h4 ok
          cases sw : swB X.env x px p2 scope with
          | false => exact ps_imp (ps_set g.nd h1 (locB_ok h2) hv (by rw [swB_is, sw]) (.inl (g.fn x))) rd
          | true =>
            have lo : X.env.scope.names.lookup x = some .local := by
              unfold swB at sw
              simp only [Bool.and_eq_true, beq_iff_eq] at sw
              exact sw.1.1.2
            have ps := ps_setLc (X := X) (i := i) (y := x) (py := px) (spos := p) g.calm g.nd h1 lo (by rw [swB_is, sw]) pi bo pg pts pee hss
            rw [ho] at ps
            refine ps_imp ps fun E σ H q => ?_
            obtain ⟨F, R, ρ, μ, N, hs, rp, w, kc⟩ := q
            refine lc_read (W := W) σ H _ (Gr.mk (Qd := fun d μ1 => bindT (.name i) d ρ fun ρ1 => N.nx ρ1 μ1) (kc.sx hs rp) w fun d μ1 v F1 H1 q1 f1 s1 x1 => ?_)
            exact kc.nx _ _ _ _ _ q1 f1 s1.hs (s1.rp.set i x1)
        case lcr mu tg a c e =>
          obtain ⟨elt, tt, ii, ifs, scope, p2, own, rfl, ho, pi, bo, pg, pts, pee, hss⟩ := lcr_parts g.toGd h4 ok
          cases sw : swB X.env x px p2 scope with
          | false => exact ps_imp (ps_set g.nd h1 (locB_ok h2) hv (by rw [swB_is, sw]) (.inl (g.fn x))) rd
          | true =>
            have lo : X.env.scope.names.lookup x = some .local := by
              unfold swB at sw
              simp only [Bool.and_eq_true, beq_iff_eq] at sw
              exact sw.1.1.2
            have ps := ps_setLc (X := X) (i := i) (y := x) (py := px) (spos := p) g.calm g.nd h1 lo (by rw [swB_is, sw]) pi bo pg pts pee hss
            rw [ho] at ps
            refine ps_imp ps fun E σ H q => ?_
            obtain ⟨F, R, ρ, μ, N, hs, rp, w, kc⟩ := q
            refine lcr_read (W := W) σ H _ (Gr.mk (Qd := fun d μ1 => bindT (.name i) d ρ fun ρ1 => N.nx ρ1 μ1) (kc.sx hs rp) w fun d μ1 v F1 H1 q1 f1 s1 x1 => ?_)
            exact kc.nx _ _ _ _ _ q1 f1 s1.hs (s1.rp.set i x1)
  | tup is =>
    cases e <;> first | (simp [matS] at h; done) | skip
    rename_i tgs v p
    cases tgs with
    | nil => simp [matS] at h
    | cons tg tgs =>
      cases tgs <;> first | (cases tg <;> simp [matS] at h; done) | skip
      cases tg <;> first | (simp [matS] at h; done) | skip
      rename_i es kk px
      simp only [matS, Bool.and_eq_true] at h
      obtain ⟨⟨h1, h3⟩, h4⟩ := h
      have h3' : swappedStores [.Tuple es kk px] v X.env = pure none := by
        rw [Bool.or_eq_true] at h3
        rcases h3 with h3 | h3
        · exact swapped_none X.env (.inr (by simpa using h3))
        · exact cellTup_ok h3
      have hv := (sE CA CN nC m).1 g.toGd h4 ok
      have pg : PG X (.Tuple es kk px) (gT X.K (.tup is)) := pg_T (N := X.N) (sc := X.env.scope) g.calm rfl g.nd (fun x hx => ⟨locB_ok hx, .inl (g.fn x)⟩) (by simp only [matT]; exact h1)
      exact ps_imp (ps_asg hv pg (show swapsWithSole [.Tuple es kk px] v p.line X.env = pure false from sole_tup v es kk px p.line X.env) h3' rfl) rd
theorem ss_asgr {is : List Nat} {m : ME} : SS CA CN nC (.asgr is m) := by
  intro X k W e g h ok
  have rd : ∀ (E : Ends) (σ : L2.St) (H : Hp), tS X.K CA W (wpS (.asgr is m)) E σ H → tAsg (tE X.K CA W m) (gT X.K (.tup is)) E σ H := fun E σ H q => by
    obtain ⟨F, R, ρ, μ, N, hs, rp, w, kc⟩ := q
    refine Gr.mk (kc.sx hs rp) w fun d μ1 v F1 H1 q1 f1 s1 x1 => ?_
    obtain ⟨ds, e1, q2⟩ := ifL_some q1
    clear q1
    cases z : bindAll is ds ρ with
    | none => rw [z] at q2; exact q2.elim
    | some ρ' =>
      rw [z] at q2
      cases x1 with
      | tup a c => cases e1; exact gT_ok (t := .tup is) (d := .tup ds) (k := fun r => N.nx r μ1) (show ifR (bindAll is ds ρ) _ by rw [z]; exact q2) (.tup a c) s1.rp s1.hs fun ρ' σ' hk rp' _ => kc.nx _ _ _ _ _ hk f1 s1.hs rp'
      | lst a c => cases e1; exact gT_ok (t := .tup is) (d := .lst ds) (k := fun r => N.nx r μ1) (show ifR (bindAll is ds ρ) _ by rw [z]; exact q2) (.lst a c) s1.rp s1.hs fun ρ' σ' hk rp' _ => kc.nx _ _ _ _ _ hk f1 s1.hs rp'
      | ref a =>
        obtain ⟨_, _, vs, hv, xv⟩ := s1.hs.m a ds e1
        obtain ⟨h1, h2⟩ := bindAll_ok z xv s1.rp
        exact .inr ⟨_, _, rfl, .of hv, h1.symm, gNs_of h1 (kc.nx _ _ _ _ _ q2 f1 s1.hs h2)⟩
      | _ => cases e1
  cases e <;> first | (simp [matS] at h; done) | skip
  rename_i tgs v p
  cases tgs with
  | nil => simp [matS] at h
  | cons tg tgs =>
    cases tgs <;> first | (cases tg <;> simp [matS] at h; done) | skip
    cases tg <;> first | (simp [matS] at h; done) | skip
    rename_i es kk px
    simp only [matS, Bool.and_eq_true] at h
    obtain ⟨⟨⟨h1, h2⟩, h3⟩, h4⟩ := h
    have h3' : isTupE v = false := by simpa using h3
    have hv := (sE CA CN nC m).1 g.toGd h4 ok
    have pg : PG X (.Tuple es kk px) (gT X.K (.tup is)) := pg_T (N := X.N) (sc := X.env.scope) g.calm rfl g.nd (fun x hx => ⟨locB_ok hx, .inl (g.fn x)⟩) (by simp only [matT]; exact h1)
    exact ps_imp (ps_asg hv pg (show swapsWithSole [.Tuple es kk px] v p.line X.env = pure false from notComp_ok h2 (some (.Tuple es kk px)) p.line X.env) (swapped_none X.env (.inr h3')) rfl) rd
theorem star_fn (e : Expr) : notStar e = true → (match e with | .Starred _ _ => true | _ => false) = false := by
  intro h
  cases e <;> first | rfl | (simp [notStar] at h)
theorem ss_par {i j : Nat} {a b : ME} : SS CA CN nC (.par i j a b) := by
  intro X k W e g h ok
  simp only [matS] at h
  split at h
  · rename_i x qx y qy e1 e2 hp
    obtain ⟨kk, px, k2, pt2, p, rfl⟩ := parOf_ok hp
    simp only [Bool.and_eq_true, decide_eq_true_eq] at h
    obtain ⟨⟨⟨⟨⟨⟨⟨⟨⟨⟨⟨⟨h1, h2⟩, h3⟩, h4⟩, h5⟩, h6⟩, h7⟩, h8⟩, h9⟩, h10⟩, h11⟩, h12⟩, h13⟩ := h
    have lx := lclB_ok h5
    have ly := lclB_ok h6
    have sw : swappedStores [.Tuple [.Name x qx, .Name y qy] kk px] (.Tuple [e1, e2] k2 pt2) X.env = pure (some [x, y]) := by
      have b0 : X.env.blockKind = .function := by unfold Env.blockKind; rw [g.kind]; rfl
      have kx : X.env.kindOf x = some .local := lx
      have ky : X.env.kindOf y = some .local := ly
      have f1 : (foldedForSure 8 e1 && foldedForSure 8 e2) = false := by simpa only [Bool.not_eq_true'] using h10
      have f2 : (constantsAlone 8 e1 && constantsAlone 8 e2) = false := by simpa only [Bool.not_eq_true'] using h11
      have ne : ([x, y] : List Str).eraseDups.length = 2 := by
        have : (y == x) = false := by simpa using Ne.symm h4
        simp [List.eraseDups_cons, this]
      have ql : (qy.line == qx.line) = true := by
        have := beq_iff_eq.mp h7
        rw [this]; simp
      unfold swappedStores
      simp only [List.length_cons, List.length_nil, List.any_cons, List.any_nil, b0, Bool.or_false, List.filterMap_cons, List.filterMap_nil, kx, ky, ql, List.all_cons, List.all_nil, Bool.and_true, f1, f2, List.head?_cons, Option.map_some, Option.getD_some, Expr.pos, ne, beq_self_eq_true, Bool.and_self, if_true]
      rw [if_neg (by decide), if_neg (by
        intro z
        rw [Bool.or_eq_true] at z
        rcases z with z | z
        · cases e1 <;> first | (simp [notStar] at h8; done) | cases z
        · cases e2 <;> first | (simp [notStar] at h9; done) | cases z)]
      rfl
    refine ps_imp (ps_par g.calm g.nd h1 h2 h3 lx ly (pa_cons ((sE CA CN nC a).1 g.toGd h12 ok.1) (pa_cons ((sE CA CN nC b).1 g.toGd h13 ok.2) pa_nil (star_cons h9 [] X.env)) (star_cons h8 [e2] X.env)) sw rfl) fun E σ H q => ?_
    obtain ⟨F, R, ρ, μ, N, hs, rp, w, kc⟩ := q
    refine Gr.mk (kc.sx hs rp) w fun d1 μ1 v1 F1 H1 q1 f1 s1 x1 => Gr.mk s1 q1 fun d2 μ2 v2 F2 H2 q2 f2 s2 x2 => ⟨v1, v2, rfl, ?_⟩
    exact kc.nx _ _ _ _ _ q2 (f1.trans f2) s2.hs ((s2.rp.set i (x1.mono f2)).set j x2)
  · cases h
theorem ss_par3 {i j l : Nat} {a b c : ME} : SS CA CN nC (.par3 i j l a b c) := by
  intro X k W e g h ok
  simp only [matS] at h
  split at h
  · rename_i x qx y qy z qz e1 e2 e3 hp
    obtain ⟨kk, px, k2, pt2, p, rfl⟩ := parOf3_ok hp
    simp only [Bool.and_eq_true, decide_eq_true_eq] at h
    obtain ⟨⟨⟨⟨⟨⟨⟨⟨⟨⟨⟨⟨⟨⟨⟨⟨h1, h2⟩, h2z⟩, h3⟩, h4⟩, h5⟩, h6⟩, h6z⟩, h7⟩, h8⟩, h9⟩, h9z⟩, h10⟩, h11⟩, h12⟩, h13⟩, h14⟩ := h
    have lx := lclB_ok h5
    have ly := lclB_ok h6
    have lz := lclB_ok h6z
    have sw : swappedStores [.Tuple [.Name x qx, .Name y qy, .Name z qz] kk px] (.Tuple [e1, e2, e3] k2 pt2) X.env = pure (some [x, y, z]) := by
      have b0 : X.env.blockKind = .function := by unfold Env.blockKind; rw [g.kind]; rfl
      have kx : X.env.kindOf x = some .local := lx
      have ky : X.env.kindOf y = some .local := ly
      have kz : X.env.kindOf z = some .local := lz
      have f1 : (foldedForSure 8 e1 && (foldedForSure 8 e2 && foldedForSure 8 e3)) = false := by simpa only [Bool.not_eq_true'] using h10
      have f2 : (constantsAlone 8 e1 && (constantsAlone 8 e2 && constantsAlone 8 e3)) = false := by simpa only [Bool.not_eq_true'] using h11
      have ne : ([x, y, z] : List Str).eraseDups.length = 3 := by
        have a1 : (y == x) = false := by simpa using Ne.symm h4.1
        have a2 : (z == x) = false := by simpa using Ne.symm h4.2.1
        have a3 : (z == y) = false := by simpa using Ne.symm h4.2.2
        simp [List.eraseDups_cons, a1, a2, a3]
      have ql : (qy.line == qx.line) = true := by rw [h7.1]; simp
      have qm : (qz.line == qx.line) = true := by rw [h7.2]; simp
      unfold swappedStores
      simp only [List.length_cons, List.length_nil, List.any_cons, List.any_nil, b0, Bool.or_false, List.filterMap_cons, List.filterMap_nil, kx, ky, kz, ql, qm, List.all_cons, List.all_nil, Bool.and_true, f1, f2, List.head?_cons, Option.map_some, Option.getD_some, Expr.pos, ne, beq_self_eq_true, Bool.and_self, if_true]
      rw [if_neg (by decide), if_neg (by
        intro w
        rw [Bool.or_eq_true, Bool.or_eq_true] at w
        rcases w with w | w | w
        · cases e1 <;> first | (simp [notStar] at h8; done) | cases w
        · cases e2 <;> first | (simp [notStar] at h9; done) | cases w
        · cases e3 <;> first | (simp [notStar] at h9z; done) | cases w)]
      rfl
    refine ps_imp (ps_par3 g.calm g.nd h1 h2 h2z h3.1 h3.2.1 h3.2.2 lx ly lz (pa_cons ((sE CA CN nC a).1 g.toGd h12 ok.1) (pa_cons ((sE CA CN nC b).1 g.toGd h13 ok.2.1) (pa_cons ((sE CA CN nC c).1 g.toGd h14 ok.2.2) pa_nil (star_cons h9z [] X.env)) (star_cons h9 [e3] X.env)) (star_cons h8 [e2, e3] X.env)) sw rfl) fun E σ H q => ?_
    obtain ⟨F, R, ρ, μ, N, hs, rp, w, kc⟩ := q
    refine Gr.mk (kc.sx hs rp) w fun d1 μ1 v1 F1 H1 q1 f1 s1 x1 => Gr.mk s1 q1 fun d2 μ2 v2 F2 H2 q2 f2 s2 x2 => Gr.mk s2 q2 fun d3 μ3 v3 F3 H3 q3 f3 s3 x3 => ⟨v1, v2, v3, rfl, ?_⟩
    exact kc.nx _ _ _ _ _ q3 ((f1.trans f2).trans f3) s3.hs (((s3.rp.set i ((x1.mono f2).mono f3)).set j (x2.mono f3)).set l x3)
  · cases h
theorem ss_setix {o i m : ME} : SS CA CN nC (.setix o i m) := by
  intro X k W e g h ok
  cases e <;> first | (simp [matS] at h; done) | skip
  rename_i tgs v p
  cases tgs with
  | nil => simp [matS] at h
  | cons tg tgs =>
    cases tgs <;> first | (cases tg <;> simp [matS] at h; done) | skip
    cases tg <;> first | (simp [matS] at h; done) | skip
    rename_i o' i' px
    simp only [matS, Bool.and_eq_true] at h
    obtain ⟨⟨⟨h1, h3⟩, h4⟩, h5⟩ := h
    have pg : PG X (.Subscript o' i' px) (gSub (tE X.K CA W o) (tE X.K CA W i) rSetL) := pg_sub ((sE CA CN nC o).1 g.toGd h3 ok.1) ((sE CA CN nC i).1 g.toGd h4 ok.2.1) set_list (by
      intro u
      cases i' <;> first | (simp [notSl] at h1; done) | rfl)
    refine ps_imp (ps_asg ((sE CA CN nC m).1 g.toGd h5 ok.2.2) pg (show swapsWithSole [.Subscript o' i' px] v p.line X.env = pure false from sole_sub v o' i' px p.line X.env) (swapped_none X.env (.inl rfl)) rfl) fun E σ H q => ?_
    obtain ⟨F, R, ρ, μ, N, hs, rp, w, kc⟩ := q
    refine Gr.mk (kc.sx hs rp) w fun d1 μ1 v1 F1 H1 q1 f1 s1 x1 => Gr.mk s1 q1 fun d2 μ2 v2 F2 H2 q2 f2 s2 x2 => Gr.mk s2 q2 fun d3 μ3 v3 F3 H3 q3 f3 s3 x3 => ?_
    cases x2 <;> first | exact q3.elim | skip
    cases x3 <;> first | exact q3.elim | skip
    obtain ⟨ds, e1, kk, e2, q3⟩ := ifL_some q3
    obtain ⟨_, _, vs, hv, xv⟩ := s3.hs.m _ ds e1
    refine ⟨_, vs, _, kk, rfl, rfl, hv, by rw [xv.length]; exact e2, ?_⟩
    exact kc.nx _ _ _ _ _ q3 ((f1.trans f2).trans f3) (s3.hs.set e1 (xv.set ((x1.mono f2).mono f3) kk)) s3.rp
theorem sw_subs (o i p j v : Expr) (q r px : Pos) (kk : Nat) (env : Env) : swappedStores [.Tuple [.Subscript o i q, .Subscript p j r] kk px] v env = pure none := by
  cases v <;> first | rfl | skip
  unfold swappedStores
  simp
theorem sws_tup {t v : Expr} (h : isTupE v = true) (n : Nat) (env : Env) : swapsWithSole [t] v n env = pure false := by
  cases v <;> first | (simp [isTupE] at h; done) | rfl
theorem ss_set2 {o i p j m : ME} : SS CA CN nC (.set2 o i p j m) := by
  intro X k W e g h ok
  cases e <;> first | (simp [matS] at h; done) | skip
  rename_i tgs v ps
  simp only [matS] at h
  split at h
  · rename_i o' i' q p' j' r kk px v ps' heq
    injection heq with e1 e2 e3
    subst e1 e2 e3
    simp only [Bool.and_eq_true] at h
    obtain ⟨⟨⟨⟨⟨⟨⟨h0, h1⟩, h2⟩, h3⟩, h4⟩, h5⟩, h6⟩, h7⟩ := h
    have pg1 : PG X (.Subscript o' i' q) (gSub (tE X.K CA W o) (tE X.K CA W i) rSetL) := pg_sub ((sE CA CN nC o).1 g.toGd h3 ok.1) ((sE CA CN nC i).1 g.toGd h4 ok.2.1) set_list (by
      intro u
      cases i' <;> first | (simp [notSl] at h1; done) | rfl)
    have pg2 : PG X (.Subscript p' j' r) (gSub (tE X.K CA W p) (tE X.K CA W j) rSetL) := pg_sub ((sE CA CN nC p).1 g.toGd h5 ok.2.2.1) ((sE CA CN nC j).1 g.toGd h6 ok.2.2.2.1) set_list (by
      intro u
      cases j' <;> first | (simp [notSl] at h2; done) | rfl)
    refine ps_imp (ps_asg ((sE CA CN nC m).1 g.toGd h7 ok.2.2.2.2) (pg_tup g.calm (pgs_cons pg1 (pgs_cons pg2 pgs_nil)) rfl rfl) (sws_tup h0 _ _) (sw_subs ..) rfl) fun E σ H q => ?_
    obtain ⟨F, R, ρ, μ, N, hs, rp, w, kc⟩ := q
    refine Gr.mk (kc.sx hs rp) w fun d μ1 v F1 H1 q1 f1 s1 x1 => ?_
    cases x1 <;> first | exact q1.elim | skip
    rename_i aa vs ds sq xs
    cases xs with
    | nil => exact q1.elim
    | cons y1 xs =>
    cases xs with
    | nil => exact q1.elim
    | cons y2 xs =>
    cases xs with
    | cons y3 xs => exact q1.elim
    | nil =>
    refine ⟨_, _, rfl, seqT s1.hs.f sq, rfl, _, _, rfl, ?_⟩
    refine Gr.mk s1 q1 fun d2 μ2 v2 F2 H2 q2 f2 s2 x2 => Gr.mk s2 q2 fun d3 μ3 v3 F3 H3 q3 f3 s3 x3 => ?_
    cases x2 <;> first | exact q3.elim | skip
    cases x3 <;> first | exact q3.elim | skip
    obtain ⟨ds, e1, kk, e2, q3⟩ := ifL_some q3
    obtain ⟨_, _, vs, hv, xv⟩ := s3.hs.m _ ds e1
    refine ⟨_, vs, _, kk, rfl, rfl, hv, by rw [xv.length]; exact e2, ?_⟩
    have sx := s3.go (Same.refl _) (s3.hs.set e1 (xv.set ((y1.mono f2).mono f3) kk))
    refine ⟨_, _, rfl, ?_⟩
    refine Gr.mk sx q3 fun d4 μ4 v4 F4 H4 q4 f4 s4 x4 => Gr.mk s4 q4 fun d5 μ5 v5 F5 H5 q5 f5 s5 x5 => ?_
    cases x4 <;> first | exact q5.elim | skip
    cases x5 <;> first | exact q5.elim | skip
    obtain ⟨es, e3, ll, e4, q5⟩ := ifL_some q5
    obtain ⟨_, _, us, hu, xu⟩ := s5.hs.m _ es e3
    refine ⟨_, us, _, ll, rfl, rfl, hu, by rw [xu.length]; exact e4, rfl, ?_⟩
    exact kc.nx _ _ _ _ _ q5 ((((f1.trans f2).trans f3).trans f4).trans f5) (s5.hs.set e3 (xu.set ((((y2.mono f2).mono f3).mono f4).mono f5) ll)) s5.rp
  · cases h
theorem ss_app {o m : ME} : SS CA CN nC (.app o m) := by
  intro X k W e g h ok
  cases e <;> first | (simp [matS] at h; done) | skip
  rename_i v p
  cases v <;> first | (simp [matS] at h; done) | skip
  rename_i fn args kws pc
  cases fn <;> first | (simp [matS] at h; done) | skip
  rename_i o' nm pa
  cases args with
  | nil => simp [matS] at h
  | cons e' es =>
    cases es <;> first | (simp [matS] at h; done) | skip
    cases kws <;> first | (simp [matS] at h; done) | skip
    simp only [matS, Bool.and_eq_true, decide_eq_true_eq] at h
    obtain ⟨⟨⟨⟨⟨h1, h2⟩, h3⟩, h4⟩, h5⟩, h6⟩ := h
    subst h1
    have e1 := star_cons h4 [] X.env
    have hfew : ((backTo pc (starEach [e'] X.env)).all (fun x => !x.1) && (backToKw pc (keywordEach [] X.env)).all (fun x => x.1.isSome) && decide ([e'].length + ([] : List Keyword).length + (if ([] : List Keyword).isEmpty then 0 else 1) < 30)) = true := by
      rw [e1]; rfl
    refine ps_imp (ps_expr (pe_bm PySem.F.plainAttrs_list PySem.F.slot_list_append PySem.F.type_list_append mt_append ((sE CA CN nC o).1 g.toGd h5 ok.1) (pa_cons ((sE CA CN nC m).1 g.toGd h6 ok.2) pa_nil e1) (attrOk_ok h2 _ _ _) hfew h3 e1 rfl) rfl) fun E σ H q => ?_
    obtain ⟨F, R, ρ, μ, N, hs, rp, w, kc⟩ := q
    refine Gr.mk (kc.sx hs rp) w fun d1 μ1 v1 F1 H1 q1 f1 s1 x1 => ?_
    cases x1 <;> first | exact q1.elim | skip
    rename_i a
    obtain ⟨e0, q1⟩ := q1
    obtain ⟨ds0, e0⟩ := Option.isSome_iff_exists.mp e0
    obtain ⟨_, _, vs0, hv0, xv0⟩ := s1.hs.m a ds0 e0
    refine ⟨.inl ⟨rfl, vs0, .of hv0⟩, Gr.mk s1 q1 fun d2 μ2 v2 F2 H2 q2 f2 s2 x2 => ?_⟩
    obtain ⟨ds, e1, hl, q2⟩ := ifL_some q2
    obtain ⟨_, _, vs, hv, xv⟩ := s2.hs.m a ds e1
    refine ⟨a, vs, v2, rfl, rfl, hv, by rw [xv.length]; exact line_lt hl, ?_⟩
    exact kc.nx _ _ _ _ _ q2 (f1.trans f2) (s2.hs.set e1 (xv.append (.cons x2 .nil))) s2.rp
theorem ss_ext {o m : ME} : SS CA CN nC (.ext o m) := by
  intro X k W e g h ok
  cases e <;> first | (simp [matS] at h; done) | skip
  rename_i v p
  cases v <;> first | (simp [matS] at h; done) | skip
  rename_i fn args kws pc
  cases fn <;> first | (simp [matS] at h; done) | skip
  rename_i o' nm pa
  cases args with
  | nil => simp [matS] at h
  | cons e' es =>
    cases es <;> first | (simp [matS] at h; done) | skip
    cases kws <;> first | (simp [matS] at h; done) | skip
    simp only [matS, Bool.and_eq_true, decide_eq_true_eq] at h
    obtain ⟨⟨⟨⟨⟨h1, h2⟩, h3⟩, h4⟩, h5⟩, h6⟩ := h
    subst h1
    have e1 := star_cons h4 [] X.env
    have hfew : ((backTo pc (starEach [e'] X.env)).all (fun x => !x.1) && (backToKw pc (keywordEach [] X.env)).all (fun x => x.1.isSome) && decide ([e'].length + ([] : List Keyword).length + (if ([] : List Keyword).isEmpty then 0 else 1) < 30)) = true := by
      rw [e1]; rfl
    refine ps_imp (ps_expr (pe_bm PySem.F.plainAttrs_list PySem.F.slot_list_extend PySem.F.type_list_extend mt_extendS ((sE CA CN nC o).1 g.toGd h5 ok.1) (pa_cons ((sE CA CN nC m).1 g.toGd h6 ok.2) pa_nil e1) (attrOk_ok h2 _ _ _) hfew h3 e1 rfl) rfl) fun E σ H q => ?_
    obtain ⟨F, R, ρ, μ, N, hs, rp, w, kc⟩ := q
    refine Gr.mk (kc.sx hs rp) w fun d1 μ1 v1 F1 H1 q1 f1 s1 x1 => ?_
    cases x1 <;> first | exact q1.elim | skip
    rename_i a
    obtain ⟨e0, q1⟩ := q1
    obtain ⟨ds0, e0⟩ := Option.isSome_iff_exists.mp e0
    obtain ⟨_, _, vs0, hv0, xv0⟩ := s1.hs.m a ds0 e0
    refine ⟨.inl ⟨rfl, vs0, .of hv0⟩, Gr.mk s1 q1 fun d2 μ2 v2 F2 H2 q2 f2 s2 x2 => ?_⟩
    obtain ⟨ds, e1, q2⟩ := ifL_some q2
    obtain ⟨es, e2, hl, q2⟩ := ifL_some q2
    obtain ⟨_, _, vs, hv, xv⟩ := s2.hs.m a ds e1
    obtain ⟨pb, us, rfl, sqb, xb⟩ : ∃ pb us, v2 = .ref pb ∧ SqL X.K F2 pb us ∧ DxA X.K CA F2 us es := by
      cases x2 with
      | lst a b => cases e2; exact ⟨_, _, rfl, a, b⟩
      | _ => cases e2
    refine ⟨a, pb, vs, us, rfl, rfl, hv, s2.hs.f.seq sqb, by rw [xv.length, xb.length]; exact line_le hl, ?_⟩
    exact kc.nx _ _ _ _ _ q2 (f1.trans f2) (s2.hs.set e1 (xv.append xb)) s2.rp
theorem ss_mth {f : Mth} {o : ME} : SS CA CN nC (.mth f o) := by
  intro X k W e g h ok
  cases e <;> first | (simp [matS] at h; done) | skip
  rename_i v p
  cases v <;> first | (simp [matS] at h; done) | skip
  rename_i fn args kws pc
  cases fn <;> first | (simp [matS] at h; done) | skip
  rename_i o' nm pa
  cases args <;> first | (simp [matS] at h; done) | skip
  cases kws <;> first | (simp [matS] at h; done) | skip
  simp only [matS, Bool.and_eq_true, decide_eq_true_eq] at h
  obtain ⟨⟨⟨h1, h2⟩, h3⟩, h4⟩ := h
  subst h1
  cases f with
  | clear =>
    refine ps_imp (ps_expr (pe_bm0 PySem.F.plainAttrs_list PySem.F.slot_list_clear PySem.F.type_list_clear mt_clear ((sE CA CN nC o).1 g.toGd h4 ok) (attrOk_ok h2 _ _ _) h3) rfl) fun E σ H q => ?_
    obtain ⟨F, R, ρ, μ, N, hs, rp, w, kc⟩ := q
    refine Gr.mk (kc.sx hs rp) w fun d1 μ1 v1 F1 H1 q1 f1 s1 x1 => ?_
    cases x1 <;> first | exact q1.elim | skip
    rename_i a
    obtain ⟨ds, e1, q1⟩ := ifL_some q1
    obtain ⟨_, _, vs, hv, xv⟩ := s1.hs.m a ds e1
    exact ⟨.inl ⟨rfl, vs, .of hv⟩, a, vs, rfl, rfl, hv, kc.nx _ _ _ _ _ q1 f1 (s1.hs.set e1 .nil) s1.rp⟩
  | reverse =>
    refine ps_imp (ps_expr (pe_bm0 PySem.F.plainAttrs_list PySem.F.slot_list_reverse PySem.F.type_list_reverse mt_reverse ((sE CA CN nC o).1 g.toGd h4 ok) (attrOk_ok h2 _ _ _) h3) rfl) fun E σ H q => ?_
    obtain ⟨F, R, ρ, μ, N, hs, rp, w, kc⟩ := q
    refine Gr.mk (kc.sx hs rp) w fun d1 μ1 v1 F1 H1 q1 f1 s1 x1 => ?_
    cases x1 <;> first | exact q1.elim | skip
    rename_i a
    obtain ⟨ds, e1, q1⟩ := ifL_some q1
    obtain ⟨_, _, vs, hv, xv⟩ := s1.hs.m a ds e1
    exact ⟨.inl ⟨rfl, vs, .of hv⟩, a, vs, rfl, rfl, hv, kc.nx _ _ _ _ _ q1 f1 (s1.hs.set e1 xv.reverse) s1.rp⟩
theorem ss_pop {o : ME} : SS CA CN nC (.pop o) := by
  intro X k W e g h ok
  cases e <;> first | (simp [matS] at h; done) | skip
  rename_i v p
  cases v <;> first | (simp [matS] at h; done) | skip
  rename_i fn args kws pc
  cases fn <;> first | (simp [matS] at h; done) | skip
  rename_i o' nm pa
  cases args <;> first | (simp [matS] at h; done) | skip
  cases kws <;> first | (simp [matS] at h; done) | skip
  simp only [matS, Bool.and_eq_true, decide_eq_true_eq] at h
  obtain ⟨⟨⟨h1, h2⟩, h3⟩, h4⟩ := h
  subst h1
  refine ps_imp (ps_expr (pe_bm0 PySem.F.plainAttrs_list PySem.F.slot_list_pop PySem.F.type_list_pop mt_pop ((sE CA CN nC o).1 g.toGd h4 ok) (attrOk_ok h2 _ _ _) h3) rfl) fun E σ H q => ?_
  obtain ⟨F, R, ρ, μ, N, hs, rp, w, kc⟩ := q
  refine Gr.mk (kc.sx hs rp) w fun d1 μ1 v1 F1 H1 q1 f1 s1 x1 => ?_
  cases x1 <;> first | exact q1.elim | skip
  rename_i a
  obtain ⟨ds, e1, dn, q1⟩ := ifL_some q1
  obtain ⟨_, _, vs, hv, xv⟩ := s1.hs.m a ds e1
  have nv : vs.length ≠ 0 := by rw [xv.length]; exact fun z => dn (List.length_eq_zero_iff.mp z)
  have hl : vs[vs.length - 1]? = some vs[vs.length - 1] := List.getElem?_eq_getElem (by omega)
  exact ⟨.inl ⟨rfl, vs, .of hv⟩, a, vs, _, rfl, rfl, hv, hl, kc.nx _ _ _ _ _ q1 f1 (s1.hs.set e1 xv.dropLast) s1.rp⟩
theorem ss_rem {o m : ME} : SS CA CN nC (.rem o m) := by
  intro X k W e g h ok
  cases e <;> first | (simp [matS] at h; done) | skip
  rename_i v p
  cases v <;> first | (simp [matS] at h; done) | skip
  rename_i fn args kws pc
  cases fn <;> first | (simp [matS] at h; done) | skip
  rename_i o' nm pa
  cases args with
  | nil => simp [matS] at h
  | cons e' es =>
    cases es <;> first | (simp [matS] at h; done) | skip
    cases kws <;> first | (simp [matS] at h; done) | skip
    simp only [matS, Bool.and_eq_true, decide_eq_true_eq] at h
    obtain ⟨⟨⟨⟨⟨h1, h2⟩, h3⟩, h4⟩, h5⟩, h6⟩ := h
    subst h1
    have e1 := star_cons h4 [] X.env
    have hu : X.A.units + 65 < cLine := by have := g.room.un; omega
    have hfew : ((backTo pc (starEach [e'] X.env)).all (fun x => !x.1) && (backToKw pc (keywordEach [] X.env)).all (fun x => x.1.isSome) && decide ([e'].length + ([] : List Keyword).length + (if ([] : List Keyword).isEmpty then 0 else 1) < 30)) = true := by
      rw [e1]; rfl
    refine ps_imp (ps_expr (pe_bm PySem.F.plainAttrs_list PySem.F.slot_list_remove PySem.F.type_list_remove (mt_remD hu) ((sE CA CN nC o).1 g.toGd h5 ok.1) (pa_cons ((sE CA CN nC m).1 g.toGd h6 ok.2) pa_nil e1) (attrOk_ok h2 _ _ _) hfew h3 e1 rfl) rfl) fun E σ H q => ?_
    obtain ⟨F, R, ρ, μ, N, hs, rp, w, kc⟩ := q
    refine Gr.mk (kc.sx hs rp) w fun d1 μ1 v1 F1 H1 q1 f1 s1 x1 => ?_
    cases x1 <;> first | exact q1.elim | skip
    rename_i a
    obtain ⟨e0, q1⟩ := q1
    obtain ⟨ds0, e0⟩ := Option.isSome_iff_exists.mp e0
    obtain ⟨_, _, vs0, hv0, xv0⟩ := s1.hs.m a ds0 e0
    refine ⟨.inl ⟨rfl, vs0, .of hv0⟩, Gr.mk s1 q1 fun d2 μ2 v2 F2 H2 q2 f2 s2 x2 => ?_⟩
    obtain ⟨ds, e1, z1, z2, j, ⟨z, jz, je, jn⟩, q2⟩ := ifL_some q2
    obtain ⟨_, _, vs, hv, xv⟩ := s2.hs.m a ds e1
    have z4 := fit_shaped z1
    simp only [D.py] at z4
    refine ⟨a, vs, v2, _, _, j, z.py, rfl, rfl, hv, dpA_same s2.hs.f (xv.dp 59 z1), dp_same s2.hs.f (x2.dp 60 z2), z4, fit_shaped z2, by rw [pys_get, jz]; rfl, je, fun m z' hm hz => ?_, kc.nx _ _ _ _ _ q2 (f1.trans f2) (s2.hs.set e1 (xv.eraseIdx j)) s2.rp⟩
    rw [pys_get] at hz
    obtain ⟨w, hw, rfl⟩ := Option.map_eq_some_iff.mp hz
    exact jn m w hm hw
theorem ss_rais {c : Nat} : SS CA CN nC (.rais c) := by
  intro X k W e g h ok
  simp only [matS] at h
  split at h
  · rename_i x hp
    obtain ⟨p1, m, j, p2, p3, p4, rfl⟩ := raisOf_ok hp
    simp only [Bool.and_eq_true, decide_eq_true_eq] at h
    obtain ⟨⟨⟨h1, h2⟩, h3⟩, h4⟩ := h
    subst h1
    have n19 : nC = NC.n := ok
    have kc := g.wd.cls c (by omega)
    refine ps_imp (ps_raise g.calm g.tk (pmk_own PySem.F.excBase_ValueError kc.ex kc.g kc.kp (raises_own kc.base kc.ty) (glB_ok h2) (dbg_ok h3))) fun E σ H q => ?_
    obtain ⟨F, R, ρ, μ, N, hs, rp, w, kn⟩ := q
    exact kn.xx _ _ _ _ _ _ w (Same.refl F) hs rp
  · cases h
theorem sb_nil : SB CA CN nC .nil := by
  intro X k W e g h ok
  cases e <;> first | (simp [matB] at h; done) | skip
  refine pss_imp pss_nil fun E σ H q => ?_
  obtain ⟨F, R, ρ, μ, N, hs, rp, w, kc⟩ := q
  exact kc.nx _ _ _ _ _ w (Same.refl F) hs rp
theorem sb_cons {m : MS} {b : MB} (im : SS CA CN nC m) (ib : SB CA CN nC b) : SB CA CN nC (.cons m b) := by
  intro X k W e g h ok
  cases e <;> first | (simp [matB] at h; done) | skip
  simp only [matB, Bool.and_eq_true] at h
  refine pss_imp (pss_cons (im g h.1 ok.1) (ib g h.2 ok.2)) fun E σ H q => ?_
  obtain ⟨F, R, ρ, μ, N, hs, rp, w, kc⟩ := q
  exact ⟨F, R, ρ, μ, _, hs, rp, w, fun ρ' μ' σ' F' H' q f z r => ⟨F', R, ρ', μ', N, z, r, q, kc.go f⟩, kc.rt, kc.bk, kc.ct, kc.xx⟩
theorem putK_new {kvs : List (Key × V)} {k : Key} {v : V} (h : k ∉ kvs.map (·.1)) : putK kvs k v = kvs ++ [(k, v)] := by
  unfold putK
  rw [if_neg]
  intro z
  obtain ⟨p, hp, e⟩ := List.any_eq_true.mp z
  exact h (List.mem_map.mpr ⟨p, hp, of_decide_eq_true e⟩)
theorem sb_dctL {i j : Nat} {it : MI} {e : ME} {b : MB} (ib : SB CA CN nC b) : SB CA CN nC (.dctL i j it e b) := by
  intro X k W es g h ok
  cases es with
  | nil => simp [matB] at h
  | cons s1 es =>
  cases es with
  | nil => simp [matB] at h
  | cons s2 ss =>
  simp only [matB, Bool.and_eq_true] at h
  obtain ⟨h, hb⟩ := h
  cases hv : dctOf s1 s2 with
  | none => rw [hv] at h; cases h
  | some v =>
  obtain ⟨x, k0, x2, k2, x3, tg, itE, v⟩ := v
  rw [hv] at h
  obtain ⟨p1, p2, p3, p4, p5, p6, p7, p8, p9, rfl, rfl, rfl⟩ := dctOf_ok hv
  simp only [Bool.and_eq_true, decide_eq_true_eq] at h
  obtain ⟨⟨⟨⟨⟨⟨⟨⟨⟨⟨⟨⟨hi, hj⟩, ij⟩, e3⟩, e2⟩, ek⟩, lx⟩, vx⟩, lk⟩, vk⟩, hI⟩, hs⟩, hE⟩ := h
  subst e3 e2
  have dx := g.dbg _ (List.mem_of_getElem? hi)
  have dk := g.dbg _ (List.mem_of_getElem? hj)
  have hu : X.A.units + 1 < cLine := by have := g.room.un; omega
  have r1 := ps_set (X := X) (e := .Dict [] [] p2) (pos' := p1) (pos := p3) g.nd hi (locB_ok lx) pe_dnewK rfl (.inl (g.fn x3))
  have pg := pg_T (X := X) (N := X.N) (sc := X.env.scope) (t := .name j) (e := .Name k2 p4) g.calm rfl g.nd (fun x hx => ⟨locB_ok hx, .inl (g.fn x)⟩) (by simp only [matT, Bool.and_eq_true, decide_eq_true_eq]; exact ⟨hj, lk⟩)
  have r2 := ps_dput (X := X) (pos := p8) (pos' := p7) hu (pe_var (pos := p5) hi (visB_ok vx) dx.1 dx.2) (pe_var (pos := p6) hj (visB_ok vk) dk.1 dk.2) ((sE CA CN nC e).1 g.toGd hE ok.2.1) (sole_sub _ _ _ _ _ _)
  have r3 := ps_for (X := X) (pos := p9) g.pass g.calm (sI CA CN nC it g.toGd hI ok.1) pg (pss_cons r2 pss_nil) (fun x => notSet_ok hs X.env x)
  refine pss_imp (pss_cons r1 (pss_cons r3 (ib g hb ok.2.2))) fun E σ H q => ?_
  obtain ⟨F, R, ρ, μ, N, hs0, rp, w, kc⟩ := q
  intro dl hD
  obtain ⟨⟨il, jl⟩, w⟩ := w
  rw [rp.len] at il jl
  have hR : R dl = none := hs0.rf hD
  have hF : F dl = none := hs0.ff hD
  have hs1 : Hs X.K CA F (upd R dl (.dK [])) μ (upd H dl (.dK [])) := hs0.hideO hD
  have rp1 : Rp X.K CA F (rs ρ i none) (σ.set i (some (.ref dl))) := rp.hid i _
  have sx : Sx X.K CA W (σ.set i (some (.ref dl))) F (upd R dl (.dK [])) (rs ρ i none) μ (fun _ _ => False) (upd H dl (.dK [])) := ⟨hs1, rp1, fun _ _ _ _ q _ _ => q.elim⟩
  refine Gr.mk sx w fun ds μ1 J F1 H1 q1 f1 s1 wk => ?_
  obtain ⟨hlen, q1⟩ := q1
  generalize hf : (fun d μ2 (Q : Pst) => wpE e (rs (rs ρ i none) j (some d)) μ2 Q (fun _ _ => False)) = f at q1
  generalize hk : (fun ks vs μ' => wpB b (rs (rs ρ i (some (.dct ks vs))) j none) μ' N) = fin at q1
  refine ⟨fun n m σ' H' => m = ds.length - n ∧ n ≤ ds.length ∧ ∃ F' μ' ks vs kvs, Same F1 F' ∧ Hs X.K CA F' (upd R dl (.dK kvs)) μ' H' ∧ (∃ u, σ' = (σ.set i (some (.ref dl))).set j u ∨ σ' = σ.set i (some (.ref dl))) ∧ kvs.map (·.1) = ks.map Sum.inl ∧ DxA X.K CA F' (kvs.map (·.2)) vs ∧ kvs.length ≤ n ∧ dctW f (ds.drop n) ks vs μ' fin,
    ⟨ds.length, by simp, Nat.zero_le _, F1, μ1, [], [], [], Same.refl F1, s1.hs, ⟨none, .inr rfl⟩, rfl, .nil, Nat.le_refl _, q1⟩, ?_⟩
  rintro n m σ' H' ⟨rfl, hn, F', μ', ks, vs, kvs, gg, z, eσ, ek, xa, la, hw⟩
  by_cases hlt : n < ds.length
  · have hd : ds.drop n = ds[n] :: ds.drop (n + 1) := List.drop_eq_getElem_cons hlt
    have hg : ds[n]? = some ds[n] := List.getElem?_eq_getElem hlt
    rw [hd] at hw
    obtain ⟨go, yl⟩ := (wk F' _ μ' H' gg z n).2 _ hg
    refine .inr ⟨go, fun σ'' H'' => ∃ F'' μ'' ks' vs' kvs', Same F1 F'' ∧ Hs X.K CA F'' (upd R dl (.dK kvs')) μ'' H'' ∧ (∃ u, σ'' = (σ.set i (some (.ref dl))).set j u ∨ σ'' = σ.set i (some (.ref dl))) ∧ kvs'.map (·.1) = ks'.map Sum.inl ∧ DxA X.K CA F'' (kvs'.map (·.2)) vs' ∧ kvs'.length ≤ n + 1 ∧ dctW f (ds.drop (n + 1)) ks' vs' μ'' fin, ?_, ?_⟩
    · rintro σ'' H'' ⟨F'', μ'', ks', vs', kvs', a1, a2, a3, a4, a5, a6, a7⟩
      exact ⟨ds.length - (n + 1), by omega, rfl, hlt, F'', μ'', ks', vs', kvs', a1, a2, a3, a4, a5, a6, a7⟩
    · intro y H2 hy
      obtain ⟨F2, g2, z2, x2⟩ := yl y H2 hy
      generalize ds[n] = d at *
      cases d <;> first | exact hw.elim | skip
      rename_i nn
      obtain ⟨hnn, hw⟩ := hw
      have hw : f (.int nn) μ' fun v μ'' => dctW f (ds.drop (n + 1)) (ks ++ [nn]) (vs ++ [v]) μ'' fin := hw
      rw [← hf] at hw
      rw [hf] at hw
      cases x2
      have eσ2 : σ'.set j (some (.int nn)) = (σ.set i (some (.ref dl))).set j (some (.int nn)) := by
        obtain ⟨u, e | e⟩ := eσ
        · rw [e, List.set_set]
        · rw [e]
      have rp2 : Rp X.K CA F2 (rs (rs ρ i none) j (some (.int nn))) (σ'.set j (some (.int nn))) := by
        rw [eσ2]
        exact (rp1.mono (f1.trans (gg.trans g2))).set j (.int nn)
      have key : ∀ Q : L2.St → Hp → Prop, Q (σ'.set j (some (.int nn))) H2 → gT X.K (.name j) (.int nn) σ' H2 Q := fun Q q => q
      refine key _ ?_
      show sDPut (tVar i) (tVar j) (tE X.K CA W e) _ (σ'.set j (some (.int nn))) H2
      have sx2 : Sx X.K CA W (σ'.set j (some (.int nn))) F2 (upd R dl (.dK kvs)) (rs (rs ρ i none) j (some (.int nn))) μ' (fun _ _ => False) H2 := ⟨z2, rp2, fun _ _ _ _ q _ _ => q.elim⟩
      refine Gr.mk sx2 hw fun d3 μ3 v3 F3 H3 q3 f3 s3 x3 => ?_
      have hH : H3 dl = some (.dK kvs) := s3.hs.r dl _ upd_same
      refine ⟨.ref dl, by rw [eσ2, List.getElem?_set_ne (Ne.symm ij), List.getElem?_set_self il], .int nn, by rw [List.getElem?_set_self]; rw [eσ2] at *; obtain ⟨u, e | e⟩ := eσ <;> rw [e] <;> simpa using jl, dl, _, rfl, .inl ⟨kvs, .inl nn, hH, rfl, line_lt (by omega), rfl⟩, ?_⟩
      rw [putK_new (by rw [ek]; intro z; obtain ⟨y, hy, e⟩ := List.mem_map.mp z; cases e; exact hnn hy)]
      exact ⟨F3, μ3, ks ++ [nn], vs ++ [d3], kvs ++ [(.inl nn, v3)], gg.trans (g2.trans f3), s3.hs.hsetO, ⟨_, .inl eσ2⟩, by simp [ek], by rw [List.map_append]; exact (xa.mono (g2.trans f3)).append (.cons x3 .nil), by rw [List.length_append, List.length_singleton]; omega, q3⟩
  · have en : n = ds.length := by omega
    subst en
    rw [List.drop_length] at hw
    have hw : fin ks vs μ' := hw
    rw [← hk] at hw
    refine .inl ⟨(wk F' _ μ' H' gg z ds.length).1 (Nat.le_refl _), ?_⟩
    obtain ⟨z3, fp, hp⟩ := z.bareO hR
    have sn := same_new (o := .dK kvs) fp
    have xd : Dx X.K CA (upd F' dl (.dK kvs)) (.ref dl) (.dct ks vs) := .dct upd_same ek (xa.mono sn)
    have up := f1.trans (gg.trans sn)
    have rp3 : Rp X.K CA (upd F' dl (.dK kvs)) (rs (rs ρ i (some (.dct ks vs))) j none) σ' := by
      obtain ⟨u, e | e⟩ := eσ
      · rw [e]; exact ((rp.mono up).set i xd).hid j u
      · rw [e]; exact ((rp.mono up).set i xd).drp j
    exact ⟨upd F' dl (.dK kvs), R, _, μ', N, z3, rp3, hw, kc.go up⟩
theorem ss_ite {t : ME} {a b : MB} (ia : SB CA CN nC a) (ib : SB CA CN nC b) : SS CA CN nC (.ite t a b) := by
  intro X k W e g h ok
  cases e <;> first | (simp [matS] at h; done) | skip
  simp only [matS, Bool.and_eq_true] at h
  obtain ⟨⟨⟨h1, h2⟩, h3⟩, h4⟩ := h
  refine ps_imp (ps_if ((sE CA CN nC t).2 g.toGd h2 ok.1 h1) (ia g h3 ok.2.1) (ib g h4 ok.2.2)) fun E σ H q => ?_
  obtain ⟨F, R, ρ, μ, N, hs, rp, w, kc⟩ := q
  refine Gr.mk (Qd := fun (c : Bool) μ1 => if c = true then wpB a ρ μ1 N else wpB b ρ μ1 N) (kc.sx hs rp) w fun c μ1 c' F1 H1 q1 f1 s1 x1 => ?_
  subst x1
  cases c' with
  | true => exact ⟨F1, R, ρ, μ1, N, s1.hs, s1.rp, q1, kc.go f1⟩
  | false => exact ⟨F1, R, ρ, μ1, N, s1.hs, s1.rp, q1, kc.go f1⟩
theorem ss_loop {t : MT} {it : MI} {b : MB} (ib : SB CA CN nC b) : SS CA CN nC (.loop t it b) := by
  intro X k W e g h ok
  cases e <;> first | (simp [matS] at h; done) | skip
  rename_i tg i x y p
  cases y <;> first | (simp [matS] at h; done) | skip
  simp only [matS, Bool.and_eq_true] at h
  obtain ⟨⟨⟨h1, h2⟩, h3⟩, h4⟩ := h
  have pg := pg_T (X := X) (N := X.N) (sc := X.env.scope) g.calm rfl g.nd (fun x hx => ⟨locB_ok hx, .inl (g.fn x)⟩) h1
  refine ps_imp (ps_for g.pass g.calm (sI CA CN nC it g.toGd h2 ok.1) pg (ib g h4 ok.2) (fun x => notSet_ok h3 X.env x)) fun E σ H q => ?_
  obtain ⟨F, R, ρ, μ, N, hs, rp, w, kc⟩ := q
  refine Gr.mk (kc.sx hs rp) w fun ds μ1 J F1 H1 q1 f1 s1 wk => ?_
  generalize hf : (fun d ρ1 μ2 (k : Rho → Mu → Prop) => bindT t d ρ1 fun ρ2 => wpB b ρ2 μ2 { nx := k, ct := k, bk := N.nx, rt := N.rt, xx := N.xx }) = f at q1
  refine ⟨fun i m σ' H' => m = ds.length - i ∧ i ≤ ds.length ∧ ∃ F' ρ' μ', Same F1 F' ∧ Hs X.K CA F' R μ' H' ∧ Rp X.K CA F' ρ' σ' ∧ forW f (ds.drop i) ρ' μ' N.nx,
    ⟨ds.length, by simp, Nat.zero_le _, F1, ρ, μ1, Same.refl F1, s1.hs, s1.rp, q1⟩, ?_⟩
  rintro i m σ' H' ⟨rfl, hi, F', ρ', μ', gg, z, r, hw⟩
  by_cases hlt : i < ds.length
  · have hd : ds.drop i = ds[i] :: ds.drop (i + 1) := List.drop_eq_getElem_cons hlt
    have hg : ds[i]? = some ds[i] := List.getElem?_eq_getElem hlt
    rw [hd] at hw
    obtain ⟨go, yl⟩ := (wk F' R μ' H' gg z i).2 _ hg
    refine .inr ⟨go, fun σ'' H'' => ∃ F'' ρ'' μ'', Same F1 F'' ∧ Hs X.K CA F'' R μ'' H'' ∧ Rp X.K CA F'' ρ'' σ'' ∧ forW f (ds.drop (i + 1)) ρ'' μ'' N.nx, ?_, ?_⟩
    · rintro σ'' H'' ⟨F'', ρ'', μ'', a1, a2, a3, a4⟩
      exact ⟨ds.length - (i + 1), by omega, rfl, hlt, F'', ρ'', μ'', a1, a2, a3, a4⟩
    · intro x H2 hy
      obtain ⟨F2, g2, z2, x2⟩ := yl x H2 hy
      have hb : f ds[i] ρ' μ' fun ρ'' μ'' => forW f (ds.drop (i + 1)) ρ'' μ'' N.nx := hw
      rw [← hf] at hb
      rw [hf] at hb
      refine gT_ok hb x2 (r.mono g2) z2 fun ρ2 σ2 hk r2 _ => ?_
      have kc2 := kc.go (f1.trans (gg.trans g2))
      have up : Same F1 F2 := gg.trans g2
      exact ⟨F2, R, ρ2, μ', _, z2, r2, hk, fun ρ3 μ3 σ3 F3 H3 q f z r => ⟨F3, ρ3, μ3, up.trans f, z, r, q⟩, kc2.rt, kc2.nx, fun ρ3 μ3 σ3 F3 H3 q f z r => ⟨F3, ρ3, μ3, up.trans f, z, r, q⟩, kc2.xx⟩
  · have ei : i = ds.length := by omega
    subst ei
    rw [List.drop_length] at hw
    exact .inl ⟨(wk F' R μ' H' gg z ds.length).1 (Nat.le_refl _), kc.nx _ _ _ _ _ hw (f1.trans gg) z r⟩
theorem ss_loopr {t : MT} {a : ME} {b : MB} (ib : SB CA CN nC b) : SS CA CN nC (.loopr t a b) := by
  intro X k W e g h ok
  cases e <;> first | (simp [matS] at h; done) | skip
  rename_i tg i x y p
  cases y <;> first | (simp [matS] at h; done) | skip
  simp only [matS, Bool.and_eq_true] at h
  obtain ⟨⟨⟨h1, h2⟩, h3⟩, h4⟩ := h
  have pg := pg_T (X := X) (N := X.N) (sc := X.env.scope) g.calm rfl g.nd (fun x hx => ⟨locB_ok hx, .inl (g.fn x)⟩) h1
  refine ps_imp (ps_for g.pass g.calm (pi_seq ((sE CA CN nC a).1 g.toGd h2 ok.1)) pg (ib g h4 ok.2) (fun x => notSet_ok h3 X.env x)) fun E σ H q => ?_
  obtain ⟨F, R, ρ, μ, N, hs, rp, w, kc⟩ := q
  refine Gr.mk (kc.sx hs rp) w fun d1 μ1 v1 F1 H1 q1 f1 s1 x1 => ?_
  obtain ⟨ds, e1, q1⟩ := ifL_some q1
  have wk : ∃ pa, v1 = .ref pa ∧ (((∃ xs, SqL X.K H1 pa xs) ∧ ∀ F' μ' H', Same F1 F' → Hs X.K CA F' R μ' H' → itemsOf d1 μ' = some ds → ∀ i, (ds.length ≤ i → (Itl X.K pa).stop i H') ∧ ∀ d, ds[i]? = some d → (Itl X.K pa).go i H' ∧ ∀ x H2, (Itl X.K pa).yld i H' x H2 → ∃ F2, Same F' F2 ∧ Hs X.K CA F2 R μ' H2 ∧ Dx X.K CA F2 x d) ∨ ((∃ xs, SqT X.K H1 pa xs) ∧ ∀ F' μ' H', Same F1 F' → Hs X.K CA F' R μ' H' → itemsOf d1 μ' = some ds → ∀ i, (ds.length ≤ i → (Itt X.K pa).stop i H') ∧ ∀ d, ds[i]? = some d → (Itt X.K pa).go i H' ∧ ∀ x H2, (Itt X.K pa).yld i H' x H2 → ∃ F2, Same F' F2 ∧ Hs X.K CA F2 R μ' H2 ∧ Dx X.K CA F2 x d)) := by
    cases x1 with
    | tup sa sb =>
      cases e1
      exact ⟨_, rfl, .inr ⟨⟨_, seqT s1.hs.f sa⟩, fun F' μ' H' gg z _ i => wk_tup sa sb F' R μ' H' gg z i⟩⟩
    | lst sa sb =>
      cases e1
      exact ⟨_, rfl, .inl ⟨⟨_, s1.hs.f.seq sa⟩, fun F' μ' H' gg z _ i => wk_lst sa sb F' R μ' H' gg z i⟩⟩
    | ref pa =>
      obtain ⟨_, _, vs, hv, xv⟩ := s1.hs.m pa ds e1
      exact ⟨_, rfl, .inl ⟨⟨_, .of hv⟩, fun F' μ' H' gg z km i => wk_ref z km i⟩⟩
    | _ => cases e1
  clear x1
  generalize hf : (fun x ρ1 μ2 (k : Rho → Mu → Prop) => itemsOf d1 μ2 = some ds ∧ bindT t x ρ1 fun ρ2 => wpB b ρ2 μ2 { nx := k, ct := k, bk := N.nx, rt := N.rt, xx := N.xx }) = f at q1
  obtain ⟨pa, rfl, wk⟩ := wk
  refine ⟨pa, rfl, ?_⟩
  rcases wk with ⟨hsq, wk⟩ | ⟨hsq, wk⟩
  case' inl => refine .inl ⟨hsq, ?_⟩
  case' inr => refine .inr ⟨hsq, ?_⟩
  all_goals
    refine ⟨fun i m σ' H' => m = ds.length - i ∧ i ≤ ds.length ∧ ∃ F' ρ' μ', Same F1 F' ∧ Hs X.K CA F' R μ' H' ∧ Rp X.K CA F' ρ' σ' ∧ forW f (ds.drop i) ρ' μ' (fun ρ' μ' => itemsOf d1 μ' = some ds ∧ N.nx ρ' μ'),
      ⟨ds.length, by simp, Nat.zero_le _, F1, ρ, μ1, Same.refl F1, s1.hs, s1.rp, q1⟩, ?_⟩
    rintro i m σ' H' ⟨rfl, hi, F', ρ', μ', gg, z, r, hw⟩
    by_cases hlt : i < ds.length
    · have hd : ds.drop i = ds[i] :: ds.drop (i + 1) := List.drop_eq_getElem_cons hlt
      have hg : ds[i]? = some ds[i] := List.getElem?_eq_getElem hlt
      rw [hd] at hw
      have hb : f ds[i] ρ' μ' fun ρ'' μ'' => forW f (ds.drop (i + 1)) ρ'' μ'' (fun ρ' μ' => itemsOf d1 μ' = some ds ∧ N.nx ρ' μ') := hw
      rw [← hf] at hb
      rw [hf] at hb
      obtain ⟨km, hb⟩ := hb
      obtain ⟨go, yl⟩ := (wk F' μ' H' gg z km i).2 _ hg
      refine .inr ⟨go, fun σ'' H'' => ∃ F'' ρ'' μ'', Same F1 F'' ∧ Hs X.K CA F'' R μ'' H'' ∧ Rp X.K CA F'' ρ'' σ'' ∧ forW f (ds.drop (i + 1)) ρ'' μ'' (fun ρ' μ' => itemsOf d1 μ' = some ds ∧ N.nx ρ' μ'), ?_, ?_⟩
      · rintro σ'' H'' ⟨F'', ρ'', μ'', a1, a2, a3, a4⟩
        exact ⟨ds.length - (i + 1), by omega, rfl, hlt, F'', ρ'', μ'', a1, a2, a3, a4⟩
      · intro x H2 hy
        obtain ⟨F2, g2, z2, x2⟩ := yl x H2 hy
        refine gT_ok hb x2 (r.mono g2) z2 fun ρ2 σ2 hk r2 _ => ?_
        have kc2 := kc.go (f1.trans (gg.trans g2))
        have up : Same F1 F2 := gg.trans g2
        exact ⟨F2, R, ρ2, μ', _, z2, r2, hk, fun ρ3 μ3 σ3 F3 H3 q f z r => ⟨F3, ρ3, μ3, up.trans f, z, r, q⟩, kc2.rt, kc2.nx, fun ρ3 μ3 σ3 F3 H3 q f z r => ⟨F3, ρ3, μ3, up.trans f, z, r, q⟩, kc2.xx⟩
    · have ei : i = ds.length := by omega
      subst ei
      rw [List.drop_length] at hw
      exact .inl ⟨(wk F' μ' H' gg z hw.1 ds.length).1 (Nat.le_refl _), kc.nx _ _ _ _ _ hw.2 (f1.trans gg) z r⟩
theorem ss_whl {t : ME} {b : MB} (ib : SB CA CN nC b) : SS CA CN nC (.whl t b) := by
  intro X k W e g h ok
  cases e <;> first | (simp [matS] at h; done) | skip
  rename_i c x y p
  cases y <;> first | (simp [matS] at h; done) | skip
  simp only [matS, Bool.and_eq_true] at h
  obtain ⟨⟨h1, h2⟩, h3⟩ := h
  refine ps_imp (ps_while g.pass ((sE CA CN nC t).2 g.toGd h2 ok.1 h1) (ib g h3 ok.2)) fun E σ H q => ?_
  obtain ⟨F, R, ρ, μ, N, hs, rp, ⟨n, w⟩, kc⟩ := q
  generalize hf : (fun ρ1 μ1 (k : Rho → Mu → Prop) => wpE t ρ1 μ1 (fun d μ2 => ifB (truD d μ2) fun c => if c = true then wpB b ρ1 μ2 { nx := k, ct := k, bk := N.nx, rt := N.rt, xx := N.xx } else N.nx ρ1 μ2) (fun c μ2 => N.xx c ρ1 μ2)) = f at w
  refine ⟨fun m σ' H' => ∃ F' ρ' μ', Same F F' ∧ Hs X.K CA F' R μ' H' ∧ Rp X.K CA F' ρ' σ' ∧ whW f m ρ' μ', ⟨n, F, ρ, μ, Same.refl F, hs, rp, w⟩, ?_⟩
  rintro m σ' H' ⟨F', ρ', μ', gg, z, r, hw⟩
  cases m with
  | zero => exact hw.elim
  | succ m =>
    have hb : f ρ' μ' (whW f m) := hw
    rw [← hf] at hb
    rw [hf] at hb
    have kc2 := kc.go gg
    refine Gr.mk (Qd := fun (c : Bool) μ2 => if c = true then wpB b ρ' μ2 { nx := whW f m, ct := whW f m, bk := N.nx, rt := N.rt, xx := N.xx } else N.nx ρ' μ2) (kc2.sx z r) hb fun c μ1 c' F1 H1 q1 f1 s1 x1 => ?_
    subst x1
    cases c' with
    | true =>
      refine ⟨fun σ'' H'' => ∃ F'' ρ'' μ'', Same F F'' ∧ Hs X.K CA F'' R μ'' H'' ∧ Rp X.K CA F'' ρ'' σ'' ∧ whW f m ρ'' μ'', fun σ'' H'' q => ⟨m, Nat.lt_succ_self m, q⟩, ?_⟩
      have kc3 := kc2.go f1
      have up : Same F F1 := gg.trans f1
      exact ⟨F1, R, ρ', μ1, _, s1.hs, s1.rp, q1, fun ρ3 μ3 σ3 F3 H3 q f z r => ⟨F3, ρ3, μ3, up.trans f, z, r, q⟩, kc3.rt, kc3.nx, fun ρ3 μ3 σ3 F3 H3 q f z r => ⟨F3, ρ3, μ3, up.trans f, z, r, q⟩, kc3.xx⟩
    | false => exact kc2.nx _ _ _ _ _ q1 f1 s1.hs s1.rp
theorem GdS.tr {X : Cx} {k : Nat} {W W' : WX} (g : GdS X k W CA CN nC) (pn : List (Addr × Obj)) (xe : Value → Shared → Prop) (tk : Takes (X.tr pn xe) W') (ps : PassesOwn (model X.prog X.w) X.A X.env xe) : GdS (X.tr pn xe) k W' CA CN nC where
  calm := g.calm
  nd := g.nd
  room := g.room
  grd := g.grd
  tk := tk
  pass := ps
  wd := ⟨g.wd.blt, g.wd.cls, g.wd.inj⟩
  dbg := g.dbg
  seer := ⟨g.seer.ns, g.seer.tree, g.seer.top, g.seer.dep⟩
  fn := g.fn
  stk := g.stk
  frm := g.frm
  ex := g.ex
  kind := g.kind
theorem rp_kept {K : PySem.W.Frag} {F : Hp} {ρ : Rho} {σ : L2.St} {v : V} {d : D} {i j : Nat} (h : i ≠ j) (r : Rp K CA F ρ σ) (x : Dx K CA F v d) : Rp K CA F (rs (rs ρ j (some d)) i none) (((σ.set i (some v)).set j (some v)).set i none) := by
  have r3 := ((r.set i x).set j x).unset i
  refine ⟨by rw [← r3.len]; simp [rs_length], fun t e q => r3.at_ t e ?_⟩
  by_cases ti : t = i
  · subst ti
    obtain ⟨h1, _⟩ := rg_rs_same q
    cases h1
  · rw [rg_rs_ne ti] at q ⊢
    by_cases tj : t = j
    · subst tj
      obtain ⟨h1, h2⟩ := rg_rs_same q
      cases h1
      have len : t < (rs ρ i (some d)).length := by rw [rs_length]; exact h2
      clear q r r3
      have key : ∀ (ρ : Rho) (t : Nat), t < ρ.length → rg (rs ρ t (some d)) t = some d := by
        intro ρ
        induction ρ with
        | nil => intro t h; simp at h
        | cons o ρ ih =>
          intro t h
          cases t with
          | zero => rfl
          | succ t => exact ih t (by simpa using h)
      exact key _ _ len
    · rw [rg_rs_ne tj] at q ⊢
      rw [rg_rs_ne ti]
      exact q
theorem ss_try1 {c : Nat} {b : MB} {i j : Nat} (ib : SB CA CN nC b) : SS CA CN nC (.try1 c b i j) := by
  intro X k W e g h ok
  simp only [matS] at h
  split at h
  · rename_i body x n y z hp
    obtain ⟨p1, p2, p3, p4, p5, p6, rfl⟩ := tryOf_ok hp
    simp only [Bool.and_eq_true, decide_eq_true_eq] at h
    obtain ⟨⟨⟨⟨⟨⟨⟨⟨⟨⟨h1, h2⟩, h3⟩, h4⟩, h5⟩, h6⟩, h7⟩, h8⟩, h9⟩, h10⟩, h11⟩ := h
    subst h1 h9
    have n19 : nC = NC.n := ok.1
    have kc := g.wd.cls c (by omega)
    have nm : Names X (CN c) (.ref (CA c)) := ⟨glB_ok h2, dbg_ok h3, .inl kc.g⟩
    refine ps_imp (ps_try_kept (tb := fun W' => tS X.K CA W' (wpB b)) g.stk g.frm g.ex g.nd h5 (lclB_ok h6) h7 (locB_ok h8) (.inl (g.fn y)) (g.dbg _ (List.mem_of_getElem? h5)) nm g.tk
      (fun W' pn xe tk ps => ib (g.tr pn xe tk ps) h11 ok.2)) fun E σ H q => ?_
    obtain ⟨F, R, ρ, μ, N, hs, rp, w, kn⟩ := q
    refine ⟨F, R, ρ, μ, _, hs, rp, w, kn.nx, kn.rt, kn.bk, kn.ct, fun c' ρ' μ' σ' F' H' q f z r => ?_⟩
    obtain ⟨c19, q⟩ := q
    have kc' := g.wd.cls c' (by omega)
    refine ⟨subC c' c, CA c', rfl, rfl, kc'.exm kc (g.wd.inj _ _ (by omega) (by omega)) (g.wd.inj _ _ (by omega) (by omega)), fun hb a ha => ?_, fun hb => ?_⟩
    · rw [if_pos hb] at q
      have sn := same_new (o := ExI (CA c') a) (z.ff ha)
      exact kn.nx _ _ _ _ _ q (f.trans sn) (z.new ha) (rp_kept h10 (r.mono sn) (.exc upd_same))
    · rw [if_neg (by rw [hb]; exact Bool.false_ne_true)] at q
      exact kn.xx _ _ _ _ _ _ q f z r
  · cases h
theorem ss_try0 {c : Nat} {b : MB} {j : Nat} (ib : SB CA CN nC b) : SS CA CN nC (.try0 c b j) := by
  intro X k W e g h ok
  simp only [matS] at h
  split at h
  · rename_i body x y hp
    obtain ⟨p1, p2, kk, p3, p4, p5, p6, rfl⟩ := tryOf0_ok hp
    simp only [Bool.and_eq_true, decide_eq_true_eq] at h
    obtain ⟨⟨⟨⟨⟨⟨h1, h2⟩, h3⟩, h4⟩, h7⟩, h8⟩, h11⟩ := h
    subst h1
    have n19 : nC = NC.n := ok.1
    have kc := g.wd.cls c (by omega)
    have nm : Names X (CN c) (.ref (CA c)) := ⟨glB_ok h2, dbg_ok h3, .inl kc.g⟩
    refine ps_imp (ps_try_only (tb := fun W' => tS X.K CA W' (wpB b)) (ts := fun _ _ _ => tSeq (tAsg (tC .non) (gName j)) tNext) g.stk g.frm nm g.tk
      (fun W' pn xe tk ps => ib (g.tr pn xe tk ps) h11 ok.2) (fun a oe cls d pn _ _ => pss_cons (ps_set (X := X.suite a ((a, oe) :: pn)) g.nd h7 (locB_ok h8) pe_non rfl (.inl (g.fn y))) pss_nil)) fun E σ H q => ?_
    obtain ⟨F, R, ρ, μ, N, hs, rp, w, kn⟩ := q
    refine ⟨F, R, ρ, μ, _, hs, rp, w, kn.nx, kn.rt, kn.bk, kn.ct, fun c' ρ' μ' σ' F' H' q f z r => ?_⟩
    obtain ⟨c19, q⟩ := q
    have kc' := g.wd.cls c' (by omega)
    refine ⟨subC c' c, kc'.exm kc (g.wd.inj _ _ (by omega) (by omega)) (g.wd.inj _ _ (by omega) (by omega)), fun hb a ha => ?_, fun hb => ?_⟩
    · rw [if_pos hb] at q
      exact kn.nx _ _ _ _ _ q f z (r.set j .non)
    · rw [if_neg (by rw [hb]; exact Bool.false_ne_true)] at q
      exact kn.xx _ _ _ _ _ _ q f z r
  · cases h
mutual
theorem sS (CA : Nat → Addr) (CN : Nat → Str) (nC : Nat) : ∀ m : MS, SS CA CN nC m
  | .pas => ss_pas
  | .asg t e => ss_asg
  | .asgr is e => ss_asgr
  | .par i j a b => ss_par
  | .par3 i j l a b c => ss_par3
  | .setix o i e => ss_setix
  | .set2 o i p j e => ss_set2
  | .app o e => ss_app
  | .ext o e => ss_ext
  | .mth f o => ss_mth
  | .pop o => ss_pop
  | .rem o e => ss_rem
  | .expr e => ss_expr
  | .ret e => ss_ret
  | .retN => ss_retN
  | .ite t a b => ss_ite (sB CA CN nC a) (sB CA CN nC b)
  | .loop t it b => ss_loop (sB CA CN nC b)
  | .loopr t a b => ss_loopr (sB CA CN nC b)
  | .whl t b => ss_whl (sB CA CN nC b)
  | .brk => ss_brk
  | .cnt => ss_cnt
  | .rais c => ss_rais
  | .try1 c b i j => ss_try1 (sB CA CN nC b)
  | .try0 c b j => ss_try0 (sB CA CN nC b)
theorem sB (CA : Nat → Addr) (CN : Nat → Str) (nC : Nat) : ∀ m : MB, SB CA CN nC m
  | .nil => sb_nil
  | .cons s b => sb_cons (sS CA CN nC s) (sB CA CN nC b)
  | .dctL i j it e b => sb_dctL (sB CA CN nC b)
end
end
end Dl

/-! The data layer, part Ja: the head over FnG. -/
namespace Dl
open PySem L2 PyProof.Rows PySem.Spec
section
variable {P : Program} {w : World} {K : PySem.W.Frag} {mg mb : Str → Option Value} {CX : CXT} {k : Nat} {fa a : Addr} {fd : FuncData} {x : Str} {sp : Sp} {s₁ : Shared} {vs : List Value} {ns : List Int} {H : Hp}
/-- what stays of the heap while the script is tracked -/
theorem kept_at (one : ∀ b, H b ≠ none → b = a) {b : Addr} {o : Obj} (e : s₁.heap.get? b = some o) (n : b ≠ a) : (hidT s₁.heap H).get? b = some o :=
  hidT_get e (Classical.byContradiction fun z => n (one b z))
theorem kept_ns (one : ∀ b, H b ≠ none → b = a) (ha : s₁.heap.get? a = some { cls := .type "list", data := .seq vs.toArray }) {b : Addr} {m : Str → Option Value} (n : s₁.heap.Ns b m) : (hidT s₁.heap H).Ns b m := by
  obtain ⟨o, es, ep, e, d, r⟩ := n
  refine ⟨o, es, ep, kept_at one e (fun z => ?_), d, r⟩
  subst z
  have := Option.some.inj (ha.symm.trans e)
  subst this
  cases d
theorem head_at (KX : K.In s₁.heap) (hns : s₁.heap.Ns mainGlobals mg) (hb : s₁.heap.Ns builtinsNs mb) (hbb : ∀ x : Str, x ≠ "__name__" → mb x = bootBuiltins x) (hlim : s₁.heap.NoLimit) (hsee : s₁.heap.NoSeer) (hg : s₁.gens = #[])
    (ha : s₁.heap.get? a = some { cls := .type "list", data := .seq vs.toArray }) (hr : Room k callerA) (F : ∀ base : Heap, K.In base → base.Ns mainGlobals mg → base.NoSeer → FnG P w K mg base CX k fa fd [x] sp)
    (bi : ∀ (s : Shared) (u : Value), BindsTo s fd ⟨[u], []⟩ [(x, u)]) (one : ∀ b, H b ≠ none → b = a) (off : H a ≠ none → K.lookup a = none) (hok : HOk P w H s₁.heap) (hO : Only H)
    (h : sp [.ref a] H (fun v _ => v = .bl true) fun _ _ _ => False) (no : ∀ e s', CX [] H s₁ (fun _ _ _ => False) e s' → False) :
    codeAny (model P w) callerA (.call (.ref fa) ⟨[.ref a], []⟩) (fun r s' => r = .ok (.ret (.bool true)) ∧ OldK s₁.heap s'.heap ∧ s'.os = s₁.os ∧ AllBare s'.gens) s₁ := by
  have kin : K.In (hidT s₁.heap H) := by
    intro b o e
    by_cases z : H b = none
    · exact hidT_get (KX b o e) z
    · have eb := one b z
      subst eb
      rw [off z] at e
      cases e
  have nm := kept_ns one ha hns
  have md : Mod K mg (hidT s₁.heap H) := by
    obtain ⟨mc, c1, c2⟩ := hlim
    exact ⟨kin, nm, ⟨mb, kept_ns one ha hb, hbb⟩, ⟨mc, kept_ns one ha c1, c2⟩⟩
  have e0 : Env0 P w K mg (hidT s₁.heap H) callerA [] s₁ H :=
    { frames := rfl, mod := md, bs := fun _ _ e => of_hidT e, bsz := Nat.le_of_eq (hidT_size _ _), funs := trivial, frf := fun b z => (List.not_mem_nil (show b ∈ ([] : List Addr) from z)).elim, hok := hok, bare := .of_eq hg }
  have see : (hidT s₁.heap H).NoSeer := by
    obtain ⟨⟨m1, a1, b1⟩, ⟨m2, a2, b2⟩, ⟨m3, a3, b3⟩, ⟨m4, bm, ob, a4, b4, c4, d4, e4⟩⟩ := hsee
    refine ⟨⟨m1, kept_ns one ha a1, b1⟩, ⟨m2, kept_ns one ha a2, b2⟩, ⟨m3, kept_ns one ha a3, b3⟩, ⟨m4, bm, ob, kept_ns one ha a4, b4, kept_at one c4 fun z => ?_, d4, e4⟩⟩
    subst z
    have := Option.some.inj (ha.symm.trans c4)
    subst this
    have d5 : (Value.type "list") = .type "module" := d4
    injection d5 with d5
    exact absurd d5 (by decide)
  refine codeAny_mono ((F _ kin nm see).goes rfl hr e0 (us := [.ref a]) (vs := [.ref a]) (bi s₁ (.ref a)) (.cons rfl .nil) h) ?_
  rintro (er | fl) s' z
  · exact (no er s' z).elim
  · cases fl <;> first | exact False.elim z | skip
    obtain ⟨v, H', os, bare, un, hok', rv, q⟩ := z
    have q : v = .bl true := q
    subst q
    cases (show _ = Value.bool true from rv)
    refine ⟨rfl, OldK.of_keep ?_, os, bare⟩
    intro b o e
    by_cases z : H b = none
    · exact un.keep b o e z (fun y => (List.not_mem_nil (show b ∈ ([] : List Addr) from y)).elim) (by simp)
    · obtain ⟨ob, xs, y⟩ := (hO b).resolve_left z
      have y1 := (hok b _ y).1
      have y2 := (hok' b _ (un.frzs b ob _ y)).1
      rw [← e, y1] at *
      exact y2
theorem law_g (KX : K.In s₁.heap) (hns : s₁.heap.Ns mainGlobals mg) (hb : s₁.heap.Ns builtinsNs mb) (hbb : ∀ x : Str, x ≠ "__name__" → mb x = bootBuiltins x) (hlim : s₁.heap.NoLimit) (hsee : s₁.heap.NoSeer) (hg : s₁.gens = #[])
    (ha : s₁.heap.get? a = some { cls := .type "list", data := .seq vs.toArray }) (hi : IntsAre vs ns) (hl : ns.length ≤ sizeLine) (hr : Room k callerA) (F : ∀ base : Heap, K.In base → base.Ns mainGlobals mg → base.NoSeer → FnG P w K mg base CX k fa fd [x] sp)
    (bi : ∀ (s : Shared) (u : Value), BindsTo s fd ⟨[u], []⟩ [(x, u)]) (h : ∀ H : Hp, Only H → SqL K H a (ns.map V.int) → sp [.ref a] H (fun v _ => v = .bl true) fun _ _ _ => False)
    (no : ∀ H e s', CX [] H s₁ (fun _ _ _ => False) e s' → False) :
    codeAny (model P w) callerA (.call (.ref fa) ⟨[.ref a], []⟩) (fun r s' => r = .ok (.ret (.bool true)) ∧ OldK s₁.heap s'.heap ∧ s'.os = s₁.os ∧ AllBare s'.gens) s₁ := by
  have lv := hi.length
  by_cases hk : K.lookup a = none
  · have at_a : ∀ b u, (if b = a then some (HO.frz { cls := .type "list", data := .seq vs.toArray } (.lst (ns.map V.int))) else none) = some u → b = a ∧ u = HO.frz { cls := .type "list", data := .seq vs.toArray } (.lst (ns.map V.int)) := by
      intro b u e
      by_cases z : b = a
      · rw [if_pos z] at e; exact ⟨z, (Option.some.inj e).symm⟩
      · rw [if_neg z] at e; cases e
    refine head_at (H := fun b => if b = a then some (.frz { cls := .type "list", data := .seq vs.toArray } (.lst (ns.map V.int))) else none) KX hns hb hbb hlim hsee hg ha hr F bi ?_ (fun _ => hk) ?_ ?_ (h _ ?_ (.inl (.inr ⟨_, if_pos rfl⟩))) (no _)
    · intro b z
      exact Classical.byContradiction fun n => z (if_neg n)
    · intro b u e
      obtain ⟨rfl, rfl⟩ := at_a b u e
      exact ⟨ha, by rw [List.length_map]; exact hl, vs, _, vals_ints hi, ha⟩
    all_goals
      intro b
      by_cases z : b = a
      · exact .inr ⟨_, _, if_pos z⟩
      · exact .inl (if_neg z)
  · obtain ⟨o, ho⟩ := Option.ne_none_iff_exists'.mp hk
    have eo := Option.some.inj (ha.symm.trans (KX a o ho))
    subst eo
    have on : Only (fun _ => none) := fun _ => .inl rfl
    exact head_at (H := fun _ => none) KX hns hb hbb hlim hsee hg ha hr F bi (fun b z => absurd rfl z) (fun z => absurd rfl z) (fun b u e => nomatch (show (none : Option HO) = some u from e)) on
      (h _ on (.inr ⟨_, vs.toArray, _, ho, rfl, rfl, rfl, by rw [List.size_toArray, lv]; exact hl, by simpa using vals_ints hi⟩)) (no _)
end
/-- the row's walk over FnG -/
theorem walk_g {l : PySem.W.OpenLaw} {n k : Nat} {q : Program} {loose : List Str} {XP : (Str → Option Value) → Heap → Prop} {YP : World → Heap → Prop} {d : DefRec} {K : Params → PySem.W.Frag} {CX : World → CXT} {sp : World → Sp} {x : Str}
    (hi : importsNone q = true) (hn : l.most = some n) (hz : n ≤ sizeLine) (nd : d.params.defaults = []) (hr : Room k callerA) (hY : ∀ (w : World) (h : Heap), YP w h → (K w.params).In h)
    (F : ∀ (w : World) (mg : Str → Option Value) (fa : Addr) (h : Heap), (K w.params).In h → h.Ns mainGlobals mg → mg d.name = some (.ref fa) →
      ∃ fd : FuncData, (∀ (s : Shared) (u : Value), BindsTo s fd ⟨[u], []⟩ [(x, u)]) ∧ ∀ base : Heap, (K w.params).In base → base.Ns mainGlobals mg → base.NoSeer → FnG l.prog w (K w.params) mg base (CX w) k fa fd [x] (sp w))
    (hs : ∀ (w : World) (H : Hp) (a : Addr) (ns : List Int), ns.length ≤ n → (∀ z ∈ ns, Builtin.Int.intBits z ≤ 1048576) → Only H → SqL (K w.params) H a (ns.map V.int) → sp w [.ref a] H (fun v _ => v = .bl true) fun _ _ _ => False)
    (no : ∀ (w : World) (H : Hp) (s : Shared) (e : Value) (s' : Shared), CX w [] H s (fun _ _ _ => False) e s' → False) : PySem.W.WalkO q loose XP YP l.row.toRowW d [] (fun f vs => PySem.call f vs) := by
  refine Att.attach_callB hn nd ?_
  intro w s₀ s₁ mg mb fa o pm cd doc a vs ns G Y ho hd hcd hmg hobj hints hlen hbits hg
  obtain ⟨fd, bi, hF⟩ := F w mg fa _ (hY w _ Y) G.T.g hmg
  exact law_g (hY w _ Y) G.T.g G.T.b G.T.builtins G.T.nolimit (G.T.seer hi) hg hobj hints (Nat.le_trans hlen hz) hr hF bi (fun H hO hS => hs w H a ns hlen hbits hO hS) fun H e s' => no w H s₁ e s'
end Dl

/-! The data layer, part J: defs, the end. -/
namespace Dl
open PySem L2 PyProof.Rows
variable [NC]

def startD (n : Nat) (ds : List D) : Rho := ds.map some ++ List.replicate (n - ds.length) none
theorem rg_get : ∀ (ρ : Rho) (i : Nat) (d : D), rg ρ i = some d → ρ[i]? = some (some d)
  | [], _, _, h => by simp [rg] at h
  | o :: _, 0, d, h => by simp only [rg] at h; simp [h]
  | _ :: r, i + 1, d, h => by simpa using rg_get r i d h
section
variable {CA : Nat → Addr} {CN : Nat → Str} {nC : Nat} {K : PySem.W.Frag} {F : Hp}
theorem rp_start {N : List Str} {vs : List V} {ds : List D} (x : DxA K CA F vs ds) (h : ds.length ≤ N.length) : Rp K CA F (startD N.length ds) (L2.start N vs) := by
  have hl := x.length
  refine ⟨?_, fun i d e => ?_⟩
  · unfold startD L2.start
    simp [hl]
  · have e := rg_get _ i d e
    unfold startD at e
    by_cases hi : i < ds.length
    · rw [List.getElem?_append_left (by simpa using hi), List.getElem?_map] at e
      cases e1 : ds[i]? with
      | none => rw [e1] at e; cases e
      | some d' =>
        rw [e1] at e
        have e2 : d' = d := Option.some.inj (Option.some.inj e)
        subst e2
        obtain ⟨v, h1, h2⟩ := x.get e1
        refine ⟨v, ?_, h2⟩
        unfold L2.start
        rw [List.getElem?_append_left (by simp; omega), List.getElem?_map, h1]
        rfl
    · rw [List.getElem?_append_right (by simpa using hi), List.getElem?_replicate] at e
      split at e
      · cases e
      · cases e
/-- what a def's body is to reach -/
def enD (Q : Pst) (X : Xst) : En := { nx := fun _ μ => Q .non μ, rt := Q, bk := fun _ _ => False, ct := fun _ _ => False, xx := fun c _ μ => X c μ }
def dbgs (N : List Str) : Bool := N.all fun x => !(x == ("__debug__" : Str)) && !(x == ("__classdict__" : Str))
/-- a def of the text keeps its promise over data -/
theorem fn_ok {P : Program} {w : World} {mg : Str → Option Value} {base : Heap} {k : Nat} {x qual : Str} {st : Stmt} {f : Addr} {fd : FuncData} {N ps : List Str} {S : DSp} {m : MB} (Fn : Fun K x qual st f fd) (sc : FnScope N ps (defScope st)) (hd : dbgs N = true) (hN : base.NoSeer) (ht : P.given.tree = none) (hk : 32 ≤ k) (wd : WdS K mg CA CN nC)
    (hm : matB CN N (defScope st) m (defBody st) = true) (ok : okB nC (FnS CA P w K mg base k) (GlS CA K mg) m) (hS : ∀ ds μ Q X, S ds μ Q X → ds.length = ps.length ∧ wpB m (startD N.length ds) μ (enD Q X)) :
    FnG P w K mg base (L2.CX P w) (k + 1) f fd ps (spOf K CA S) := by
  have hpl : ps.length ≤ N.length := by have := congrArg List.length sc.pre; rw [List.length_take] at this; omega
  refine def_g Fn sc (fun vs H Q E h => ?_) (fun cdv A outer s H vs Q E gu hr h => ?_)
  · obtain ⟨F, R, μ, ds, X, Qd, hs, x, h, _⟩ := h
    rw [x.length]; exact (hS _ _ _ _ h).1
  · obtain ⟨F, R, μ, ds, Y, Qd, hs, x, h, kq, kx⟩ := h
    obtain ⟨hl, hw⟩ := hS _ _ _ _ h
    have g : GdS (cxOf (L2.CX P w) P w K mg base N qual (defScope st) f cdv A outer s H E) k (fun cls d _ H' => E cls d H') CA CN nC :=
      { calm := rfl, nd := sc.nd, room := hr, grd := gu, tk := takes_of rfl rfl rfl rfl, pass := passes_of rfl, wd := wd, fn := fun _ => rfl, stk := rfl, frm := rfl, ex := rfl, kind := sc.kind,
        dbg := fun y hy => by
          have := List.all_eq_true.mp hd y hy
          simp only [Bool.and_eq_true, Bool.not_eq_true'] at this
          exact this
        seer := ⟨hN, ht, ⟨_, _, rfl, sc.gen, sc.co, rfl, rfl⟩, by have := hr.dp; show (A.deeper (envOfC qual (defScope st) s.heap.objs.size f cdv)).depth + 100 < recursionLimit; omega⟩ }
    refine ⟨_, sB CA CN nC m g hm ok, F, R, startD N.length ds, μ, enD Qd Y, hs, rp_start x (by omega), hw, ⟨fun ρ' μ' σ' F' H' q f z _ => kq _ _ _ _ _ q f z .non, kq, fun _ _ _ _ _ q => q.elim, fun _ _ _ _ _ q => q.elim, fun c ρ' μ' σ' F' H' q f z _ => kx _ _ _ _ q f z⟩⟩
theorem FnS.mono {P : Program} {w : World} {mg : Str → Option Value} {base : Heap} {j k : Nat} {x : Str} {S : DSp} (h : FnS CA P w K mg base j x S) (l : j ≤ k) : FnS CA P w K mg base k x S := by
  obtain ⟨f, fd, ps, a, b⟩ := h
  exact ⟨f, fd, ps, a.mono l, b⟩
end
/-! ### promises by the number of their arguments -/
def sp1 (f : D → Mu → Pst → Xst → Prop) : DSp
  | [a], μ, Q, X => f a μ Q X
  | _, _, _, _ => False
def sp2 (f : D → D → Mu → Pst → Xst → Prop) : DSp
  | [a, b], μ, Q, X => f a b μ Q X
  | _, _, _, _ => False
def sp3 (f : D → D → D → Mu → Pst → Xst → Prop) : DSp
  | [a, b, c], μ, Q, X => f a b c μ Q X
  | _, _, _, _ => False
def sp4 (f : D → D → D → D → Mu → Pst → Xst → Prop) : DSp
  | [a, b, c, d], μ, Q, X => f a b c d μ Q X
  | _, _, _, _ => False
theorem sp1_of {f : D → Mu → Pst → Xst → Prop} {n : Nat} {m : MB} (h : ∀ a μ Q X, f a μ Q X → wpB m (startD n [a]) μ (enD Q X)) : ∀ ds μ Q X, sp1 f ds μ Q X → ds.length = 1 ∧ wpB m (startD n ds) μ (enD Q X)
  | [a], μ, Q, X, q => ⟨rfl, h a μ Q X q⟩
  | [], _, _, _, q => q.elim
  | _ :: _ :: _, _, _, _, q => q.elim
theorem sp2_of {f : D → D → Mu → Pst → Xst → Prop} {n : Nat} {m : MB} (h : ∀ a b μ Q X, f a b μ Q X → wpB m (startD n [a, b]) μ (enD Q X)) : ∀ ds μ Q X, sp2 f ds μ Q X → ds.length = 2 ∧ wpB m (startD n ds) μ (enD Q X)
  | [a, b], μ, Q, X, q => ⟨rfl, h a b μ Q X q⟩
  | [], _, _, _, q => q.elim
  | [_], _, _, _, q => q.elim
  | _ :: _ :: _ :: _, _, _, _, q => q.elim
theorem sp3_of {f : D → D → D → Mu → Pst → Xst → Prop} {n : Nat} {m : MB} (h : ∀ a b c μ Q X, f a b c μ Q X → wpB m (startD n [a, b, c]) μ (enD Q X)) : ∀ ds μ Q X, sp3 f ds μ Q X → ds.length = 3 ∧ wpB m (startD n ds) μ (enD Q X)
  | [a, b, c], μ, Q, X, q => ⟨rfl, h a b c μ Q X q⟩
  | [], _, _, _, q => q.elim
  | [_], _, _, _, q => q.elim
  | [_, _], _, _, _, q => q.elim
  | _ :: _ :: _ :: _ :: _, _, _, _, q => q.elim
theorem sp4_of {f : D → D → D → D → Mu → Pst → Xst → Prop} {n : Nat} {m : MB} (h : ∀ a b c d μ Q X, f a b c d μ Q X → wpB m (startD n [a, b, c, d]) μ (enD Q X)) : ∀ ds μ Q X, sp4 f ds μ Q X → ds.length = 4 ∧ wpB m (startD n ds) μ (enD Q X)
  | [a, b, c, d], μ, Q, X, q => ⟨rfl, h a b c d μ Q X q⟩
  | [], _, _, _, q => q.elim
  | [_], _, _, _, q => q.elim
  | [_, _], _, _, _, q => q.elim
  | [_, _, _], _, _, _, q => q.elim
  | _ :: _ :: _ :: _ :: _ :: _, _, _, _, q => q.elim
/-! ### the end -/
/-- the law's own promise -/
def spLaw (ok : List Int → Prop) : DSp
  | [.lst ds], μ, Q, _ => ∃ ns : List Int, ds = ns.map D.int ∧ ok ns ∧ μ = (fun _ => none) ∧ ∀ μ', Q (.bl true) μ'
  | _, _, _, _ => False
def small (ns : List Int) : Prop := ns.length ≤ 63 ∧ ∀ z ∈ ns, Builtin.Int.intBits z ≤ 1048576
theorem law_sp {K : PySem.W.Frag} {CA : Nat → Addr} {H : Hp} {a : Addr} {ns : List Int} (h1 : ns.length ≤ 63) (h2 : ∀ z ∈ ns, Builtin.Int.intBits z ≤ 1048576) (hS : SqL K H a (ns.map V.int)) :
    spOf K CA (spLaw small) [.ref a] H (fun v _ => v = .bl true) fun _ _ _ => False := by
  refine ⟨H, fun _ => none, fun _ => none, [.lst (ns.map D.int)], fun _ _ => False, fun d _ => d = .bl true, ⟨Same.refl H, fun _ _ e => (nomatch e), fun _ _ _ => rfl, fun _ _ e => (nomatch e)⟩, .cons (.lst hS (DxA.of_ints ns)) .nil, ⟨ns, rfl, ⟨h1, h2⟩, rfl, fun _ => rfl⟩, fun d μ' v F' H' q _ _ x => ?_, fun _ _ _ _ q => q.elim⟩
  subst q
  cases x
  rfl
theorem cx_none {P : Program} {w : World} (H : Hp) (s : Shared) (e : Value) (s' : Shared) (h : L2.CX P w [] H s (fun _ _ _ => False) e s') : False := by
  obtain ⟨_, _, _, _, _, _, _, _, _, _, _, _, z⟩ := h
  exact z
end Dl

/-! The data layer, part K: rules for reckoning with it. -/
namespace Dl
open PySem L2 PyProof.Rows

theorem q_ifD (d : D) (p : D → Prop) : ifD (some d) p = p d := rfl
theorem q_ifB (d : Bool) (p : Bool → Prop) : ifB (some d) p = p d := rfl
theorem q_ifL (d : List D) (p : List D → Prop) : ifL (some d) p = p d := rfl
theorem q_ifR (d : Rho) (p : Rho → Prop) : ifR (some d) p = p d := rfl
theorem q_ifIs (d : List Int) (p : List Int → Prop) : ifIs (some d) p = p d := rfl
theorem q_ifBs (d : List Bool) (p : List Bool → Prop) : ifBs (some d) p = p d := rfl
theorem q_asI (i : Int) (p : Int → Prop) : asI (.int i) p = p i := rfl
theorem q_rg0 (o : Option D) (r : Rho) : rg (o :: r) 0 = o := rfl
theorem q_rgs (o : Option D) (r : Rho) (n : Nat) : rg (o :: r) (n + 1) = rg r n := rfl
theorem q_rs0 (o v : Option D) (r : Rho) : rs (o :: r) 0 v = v :: r := rfl
theorem q_rss (o v : Option D) (r : Rho) (n : Nat) : rs (o :: r) (n + 1) v = o :: rs r n v := rfl
theorem q_add (i j : Int) (μ : Mu) (Q : Pst) : opD .add (.int i) (.int j) μ Q = Q (.int (i + j)) μ := rfl
theorem q_adds (i j : Str) (μ : Mu) (Q : Pst) : opD .add (.str i) (.str j) μ Q = (i.length + j.length ≤ 100000 ∧ Q (.str (i ++ j)) μ) := rfl
theorem q_addl (i j : List D) (μ : Mu) (Q : Pst) : opD .add (.lst i) (.lst j) μ Q = (i.length + j.length ≤ 100000 ∧ Q (.lst (i ++ j)) μ) := rfl
theorem q_addt (i j : List D) (μ : Mu) (Q : Pst) : opD .add (.tup i) (.tup j) μ Q = (i.length + j.length ≤ 100000 ∧ Q (.tup (i ++ j)) μ) := rfl
theorem q_sub (i j : Int) (μ : Mu) (Q : Pst) : opD .sub (.int i) (.int j) μ Q = Q (.int (i - j)) μ := rfl
theorem q_mul (i j : Int) (μ : Mu) (Q : Pst) : opD .mul (.int i) (.int j) μ Q = (mulOk i j ∧ Q (.int (i * j)) μ) := rfl
theorem q_mull (i : List D) (j : Int) (μ : Mu) (Q : Pst) : opD .mul (.lst i) (.int j) μ Q = (j ≤ 100000 ∧ i.length * j.toNat ≤ 100000 ∧ -100000 ≤ j ∧ Q (.lst (List.replicate j.toNat i).flatten) μ) := rfl
theorem q_fdiv (i j : Int) (μ : Mu) (Q : Pst) : opD .fdiv (.int i) (.int j) μ Q = (divOk j ∧ Q (.int (i.fdiv j)) μ) := rfl
theorem q_mod (i j : Int) (μ : Mu) (Q : Pst) : opD .mod (.int i) (.int j) μ Q = (j ≠ 0 ∧ Q (.int (i.fmod j)) μ) := rfl
theorem q_pow (i j : Int) (μ : Mu) (Q : Pst) : opD .pow (.int i) (.int j) μ Q = (powOk i j ∧ Q (.int (i ^ j.toNat)) μ) := rfl
theorem q_shl (i j : Int) (μ : Mu) (Q : Pst) : opD .shl (.int i) (.int j) μ Q = (powOk i j ∧ Q (.int (i * 2 ^ j.toNat)) μ) := rfl
theorem q_trub (b : Bool) (μ : Mu) : truD (.bl b) μ = some b := rfl
theorem q_trui (i : Int) (μ : Mu) : truD (.int i) μ = some (i != 0) := rfl
theorem q_trun (μ : Mu) : truD .non μ = some false := rfl
theorem q_trul (i : List D) (μ : Mu) : truD (.lst i) μ = some (!i.isEmpty) := rfl
theorem q_eq (a b : D) (μ : Mu) (Q : Pst) : cmpD .eq a b μ Q = (fit 60 a = true ∧ fit 60 b = true ∧ Q (.bl (deq a b)) μ) := rfl
theorem q_ne (a b : D) (μ : Mu) (Q : Pst) : cmpD .ne a b μ Q = (fit 60 a = true ∧ fit 60 b = true ∧ Q (.bl (!deq a b)) μ) := rfl
theorem q_lt (i j : Int) (μ : Mu) (Q : Pst) : cmpD .lt (.int i) (.int j) μ Q = Q (.bl (decide (i < j))) μ := rfl
theorem q_le (i j : Int) (μ : Mu) (Q : Pst) : cmpD .le (.int i) (.int j) μ Q = Q (.bl (decide (i ≤ j))) μ := rfl
theorem q_gt (i j : Int) (μ : Mu) (Q : Pst) : cmpD .gt (.int i) (.int j) μ Q = Q (.bl (decide (j < i))) μ := rfl
theorem q_ge (i j : Int) (μ : Mu) (Q : Pst) : cmpD .ge (.int i) (.int j) μ Q = Q (.bl (decide (j ≤ i))) μ := rfl
theorem q_in (a : D) (ds : List D) (μ : Mu) (Q : Pst) : cmpD .in_ a (.lst ds) μ Q = (fit 60 a = true ∧ fit 60 (.lst ds) = true ∧ Q (.bl (ds.any fun z => deq z a)) μ) := rfl
theorem q_nin (a : D) (ds : List D) (μ : Mu) (Q : Pst) : cmpD .notin a (.lst ds) μ Q = (fit 60 a = true ∧ fit 60 (.lst ds) = true ∧ Q (.bl (!ds.any fun z => deq z a)) μ) := rfl
theorem q_cis (a b : Bool) (μ : Mu) (Q : Pst) : cmpD .is_ (.bl a) (.bl b) μ Q = Q (.bl (decide (a = b))) μ := rfl
theorem q_cisN (b : Bool) (μ : Mu) (Q : Pst) : cmpD .is_ .non (.bl b) μ Q = Q (.bl false) μ := rfl
theorem q_cisT (xs : List D) (b : Bool) (μ : Mu) (Q : Pst) : cmpD .is_ (.tup xs) (.bl b) μ Q = Q (.bl false) μ := rfl
theorem q_cisnt (a b : Bool) (μ : Mu) (Q : Pst) : cmpD .isnt (.bl a) (.bl b) μ Q = Q (.bl (!decide (a = b))) μ := rfl
theorem q_joinl (s : Str) (ds : List D) (μ : Mu) (Q : Pst) : joinD s (.lst ds) μ Q = ifSs (strsD ds) fun ys => (ys.map (·.length)).sum + ys.length * s.length ≤ 100000 ∧ Q (.str (Txt.join s ys)) μ := rfl
theorem q_joint (s : Str) (ds : List D) (μ : Mu) (Q : Pst) : joinD s (.tup ds) μ Q = ifSs (strsD ds) fun ys => (ys.map (·.length)).sum + ys.length * s.length ≤ 100000 ∧ Q (.str (Txt.join s ys)) μ := rfl
theorem q_lstP (ds : List D) (p : Prop) : lstP (.lst ds) p = p := rfl
theorem q_idx (ds : List D) (d : D) (μ : Mu) (Q : Pst) : idxD (.lst ds) d μ Q = (fit 60 (.lst ds) = true ∧ fit 60 d = true ∧ ∃ j, idxAt ds d j ∧ Q (.int (j : Nat)) μ) := rfl
theorem q_cou (ds : List D) (d : D) (μ : Mu) (Q : Pst) : couD (.lst ds) d μ Q = (fit 60 (.lst ds) = true ∧ fit 60 d = true ∧ Q (.int ((ds.countP fun z => deq z d : Nat))) μ) := rfl
theorem q_split (s z : Str) (μ : Mu) (Q : Pst) : splitD s (.str z) μ Q = ((s.length == 0) = false ∧ z.length + 2 ≤ 100000 ∧ Q (.lst ((Txt.split z s).map .str)) μ) := rfl
theorem q_catll (mu : Bool) (xs ys : List D) (μ : Mu) (Q : Pst) : catD mu (.lst xs) (.lst ys) μ Q = (xs.length + ys.length ≤ 100000 ∧ lcEnd mu Q (xs ++ ys) μ) := rfl
theorem q_catrl (mu : Bool) (p : Addr) (ys : List D) (μ : Mu) (Q : Pst) : catD mu (.ref p) (.lst ys) μ Q = ifL (μ p) fun xs => xs.length + ys.length ≤ 100000 ∧ lcEnd mu Q (xs ++ ys) μ := rfl
theorem q_catrr (mu : Bool) (p r : Addr) (μ : Mu) (Q : Pst) : catD mu (.ref p) (.ref r) μ Q = ifL (μ p) fun xs => ifL (μ r) fun ys => xs.length + ys.length ≤ 100000 ∧ lcEnd mu Q (xs ++ ys) μ := rfl
theorem q_catlr (mu : Bool) (xs : List D) (r : Addr) (μ : Mu) (Q : Pst) : catD mu (.lst xs) (.ref r) μ Q = ifL (μ r) fun ys => xs.length + ys.length ≤ 100000 ∧ lcEnd mu Q (xs ++ ys) μ := rfl
theorem q_setl (ds : List D) (μ : Mu) (Q : Pst) : setlD (.lst ds) μ Q = ∃ L, rowsD ds = some L ∧ ds.length < 64 ∧ Q (.int L.eraseDups.length) μ := rfl
theorem q_strs0 : strsD [] = some [] := rfl
theorem q_strsc (x : Str) (r : List D) : strsD (.str x :: r) = (strsD r).map (x :: ·) := rfl
theorem q_ifSs (ys : List Str) (p : List Str → Prop) : ifSs (some ys) p = p ys := rfl
theorem q_clear (ds : List D) : mthL .clear ds = [] := rfl
theorem q_reverse (ds : List D) : mthL .reverse ds = ds.reverse := rfl
theorem q_revl (ds : List D) (μ : Mu) (Q : Pst) : revD (.lst ds) μ Q = Q (.lst ds.reverse) μ := rfl
theorem q_revt (ds : List D) (μ : Mu) (Q : Pst) : revD (.tup ds) μ Q = Q (.tup ds.reverse) μ := rfl
theorem q_revr (p : Addr) (μ : Mu) (Q : Pst) : revD (.ref p) μ Q = ifL (μ p) fun ds => Q (.lst ds.reverse) μ := rfl
theorem q_eqm (p : Addr) (b : D) (μ : Mu) (Q : Pst) : cmpD .eqm (.ref p) b μ Q = ifL (μ p) fun ds => fit 60 (.lst ds) = true ∧ fit 60 b = true ∧ Q (.bl (deq (.lst ds) b)) μ := rfl
theorem q_nem (p : Addr) (b : D) (μ : Mu) (Q : Pst) : cmpD .nem (.ref p) b μ Q = ifL (μ p) fun ds => fit 60 (.lst ds) = true ∧ fit 60 b = true ∧ Q (.bl (!deq (.lst ds) b)) μ := rfl
theorem q_ner (p q : Addr) (μ : Mu) (Q : Pst) : cmpD .ner (.ref p) (.ref q) μ Q = ifL (μ p) fun ds => ifL (μ q) fun es => fit 60 (.lst ds) = true ∧ fit 60 (.lst es) = true ∧ Q (.bl (!deq (.lst ds) (.lst es))) μ := rfl
theorem q_nemd (xs : List D) (b : D) (μ : Mu) (Q : Pst) : cmpD .nem (.lst xs) b μ Q = ifL (derefs xs μ) fun ds => fit 60 (.lst ds) = true ∧ fit 60 b = true ∧ Q (.bl (!deq (.lst ds) b)) μ := rfl
theorem q_der0 (μ : Mu) : derefs [] μ = some [] := rfl
theorem q_ders (p : Addr) (r : List D) (μ : Mu) : derefs (.ref p :: r) μ = (μ p).bind fun ds => (derefs r μ).map (.lst ds :: ·) := rfl
theorem q_lstO (ds : List D) : lstO (.lst ds) = some ds := rfl
theorem q_dctA (ks : List Int) (vs : List D) (n : Int) : dctAt (.dct ks vs) n = lookK ks vs n := rfl
theorem q_tupr (p : Addr) (μ : Mu) (Q : Pst) : b1D .tuple (.ref p) μ Q = ifL (μ p) fun ds => Q (.tup ds) μ := rfl
theorem q_listr (p : Addr) (μ : Mu) (Q : Pst) : b1D .list (.ref p) μ Q = ifL (μ p) fun ds => Q (.lst ds) μ := rfl
theorem q_lenr (p : Addr) (μ : Mu) (Q : Pst) : b1D .len (.ref p) μ Q = ifL (μ p) fun ds => Q (.int ds.length) μ := rfl
theorem q_lcf (Q : Pst) (acc : List D) (μ : Mu) : lcEnd false Q acc μ = Q (.lst acc) μ := rfl
theorem q_lct (Q : Pst) (acc : List D) (μ : Mu) : lcEnd true Q acc μ = ∀ p, μ p = none → Q (.ref p) (mset μ p acc) := rfl
theorem q_abs (i : Int) (μ : Mu) (Q : Pst) : b1D .abs (.int i) μ Q = Q (.int (i.natAbs : Nat)) μ := rfl
theorem q_lent (ds : List D) (μ : Mu) (Q : Pst) : b1D .len (.tup ds) μ Q = Q (.int ds.length) μ := rfl
theorem q_lenl (ds : List D) (μ : Mu) (Q : Pst) : b1D .len (.lst ds) μ Q = Q (.int ds.length) μ := rfl
theorem q_lens (z : Str) (μ : Mu) (Q : Pst) : b1D .len (.str z) μ Q = (z.length ≤ 100000 ∧ Q (.int z.length) μ) := rfl
theorem q_sum (ds : List D) (μ : Mu) (Q : Pst) : b1D .sum (.lst ds) μ Q = ifIs (intsD ds) fun ns => Q (.int ns.sum) μ := rfl
theorem q_all (ds : List D) (μ : Mu) (Q : Pst) : b1D .all (.lst ds) μ Q = ifBs (blsD ds) fun ns => Q (.bl (ns.all id)) μ := rfl
theorem q_any (ds : List D) (μ : Mu) (Q : Pst) : b1D .any (.lst ds) μ Q = ifBs (blsD ds) fun ns => Q (.bl (ns.any id)) μ := rfl
theorem q_tupl (ds : List D) (μ : Mu) (Q : Pst) : b1D .tuple (.lst ds) μ Q = Q (.tup ds) μ := rfl
theorem q_tupt (ds : List D) (μ : Mu) (Q : Pst) : b1D .tuple (.tup ds) μ Q = Q (.tup ds) μ := rfl
theorem q_listl (ds : List D) (μ : Mu) (Q : Pst) : b1D .list (.lst ds) μ Q = Q (.lst ds) μ := rfl
theorem q_listt (ds : List D) (μ : Mu) (Q : Pst) : b1D .list (.tup ds) μ Q = Q (.lst ds) μ := rfl
theorem q_listMl (ds : List D) (μ : Mu) (Q : Pst) : b1D .listM (.lst ds) μ Q = ∀ p, μ p = none → Q (.ref p) (mset μ p ds) := rfl
theorem q_listMt (ds : List D) (μ : Mu) (Q : Pst) : b1D .listM (.tup ds) μ Q = ∀ p, μ p = none → Q (.ref p) (mset μ p ds) := rfl
theorem q_inti (i : Int) (μ : Mu) (Q : Pst) : b1D .int (.int i) μ Q = Q (.int i) μ := rfl
theorem q_intb (b : Bool) (μ : Mu) (Q : Pst) : b1D .int (.bl b) μ Q = Q (.int (if b then 1 else 0)) μ := rfl
theorem q_stri (i : Int) (μ : Mu) (Q : Pst) : b1D .str (.int i) μ Q = (i.natAbs.log2 < 1920 ∧ Q (.str (toString i)) μ) := rfl
theorem q_strs (x : Str) (μ : Mu) (Q : Pst) : b1D .str (.str x) μ Q = Q (.str x) μ := rfl
theorem q_strn (μ : Mu) (Q : Pst) : b1D .str .non μ Q = (fit 60 .non = true ∧ D.non.py.showable = true ∧ D.non.py.shown.length ≤ 100000 ∧ Q (.str D.non.py.shown) μ) := rfl
theorem q_strb (b : Bool) (μ : Mu) (Q : Pst) : b1D .str (.bl b) μ Q = (fit 60 (.bl b) = true ∧ (D.bl b).py.showable = true ∧ (D.bl b).py.shown.length ≤ 100000 ∧ Q (.str (D.bl b).py.shown) μ) := rfl
theorem q_strt (ds : List D) (μ : Mu) (Q : Pst) : b1D .str (.tup ds) μ Q = (fit 60 (.tup ds) = true ∧ (D.tup ds).py.showable = true ∧ (D.tup ds).py.shown.length ≤ 100000 ∧ Q (.str (D.tup ds).py.shown) μ) := rfl
theorem q_strl (ds : List D) (μ : Mu) (Q : Pst) : b1D .str (.lst ds) μ Q = (fit 60 (.lst ds) = true ∧ (D.lst ds).py.showable = true ∧ (D.lst ds).py.shown.length ≤ 100000 ∧ Q (.str (D.lst ds).py.shown) μ) := rfl
theorem q_max (i j : Int) (μ : Mu) (Q : Pst) : b2D .max (.int i) (.int j) μ Q = Q (.int (if j > i then j else i)) μ := rfl
theorem q_min (i j : Int) (μ : Mu) (Q : Pst) : b2D .min (.int i) (.int j) μ Q = Q (.int (if j < i then j else i)) μ := rfl
theorem q_selt (ds : List D) (μ : Mu) (n : Nat) : selN (.tup ds) μ n = ds[n]? := rfl
theorem q_sell (ds : List D) (μ : Mu) (n : Nat) : selN (.lst ds) μ n = ds[n]? := rfl
theorem q_selr (p : Addr) (μ : Mu) (n : Nat) : selN (.ref p) μ n = (μ p).bind fun ds => ds[n]? := rfl
theorem q_seIt (ds : List D) (μ : Mu) (n : Int) : selI (.tup ds) μ n = L2.atI ds n := rfl
theorem q_seIl (ds : List D) (μ : Mu) (n : Int) : selI (.lst ds) μ n = L2.atI ds n := rfl
theorem q_seIr (p : Addr) (μ : Mu) (n : Int) : selI (.ref p) μ n = (μ p).bind fun ds => L2.atI ds n := rfl
theorem q_itt (ds : List D) : itemsF (.tup ds) = some ds := rfl
theorem q_itl (ds : List D) : itemsF (.lst ds) = some ds := rfl
theorem q_bn (i : Nat) (d : D) (ρ : Rho) (k : Rho → Prop) : bindT (.name i) d ρ k = k (rs ρ i (some d)) := rfl
theorem q_bt (is : List Nat) (ds : List D) (ρ : Rho) (k : Rho → Prop) : bindT (.tup is) (.tup ds) ρ k = ifR (bindAll is ds ρ) k := rfl
theorem q_btl (is : List Nat) (ds : List D) (ρ : Rho) (k : Rho → Prop) : bindT (.tup is) (.lst ds) ρ k = ifR (bindAll is ds ρ) k := rfl
theorem q_ba0 (ρ : Rho) : bindAll [] [] ρ = some ρ := rfl
theorem q_bas (i : Nat) (is : List Nat) (d : D) (ds : List D) (ρ : Rho) : bindAll (i :: is) (d :: ds) ρ = bindAll is ds (rs ρ i (some d)) := rfl
theorem q_inT (a : D) (ds : List D) (μ : Mu) (Q : Pst) : cmpD .inT a (.tup ds) μ Q = (flatD a = true ∧ ds.all flatD = true ∧ Q (.bl (ds.any fun z => deq z a)) μ) := by cases a <;> rfl
theorem q_ninT (a : D) (ds : List D) (μ : Mu) (Q : Pst) : cmpD .notinT a (.tup ds) μ Q = (flatD a = true ∧ ds.all flatD = true ∧ Q (.bl (!ds.any fun z => deq z a)) μ) := by cases a <;> rfl
theorem q_frzr (p : Addr) (μ : Mu) (Q : Pst) : frzD (.ref p) μ Q = ifL (μ p) fun ds => Q (.lst ds) (mdel μ p) := rfl
theorem q_frzl (ds : List D) (μ : Mu) (Q : Pst) : frzD (.lst ds) μ Q = Q (.lst ds) μ := rfl
theorem q_slct (ds : List D) (lo hi : Option Int) (μ : Mu) (Q : Pst) : slcD (.tup ds) lo hi μ Q = Q (.tup (cutD ds lo hi)) μ := rfl
theorem q_slcl (ds : List D) (lo hi : Option Int) (μ : Mu) (Q : Pst) : slcD (.lst ds) lo hi μ Q = Q (.lst (cutD ds lo hi)) μ := rfl
theorem q_slcr (p : Addr) (lo hi : Option Int) (μ : Mu) (Q : Pst) : slcD (.ref p) lo hi μ Q = ifL (μ p) fun ds => Q (.lst (cutD ds lo hi)) μ := rfl
theorem q_slcs (z : Str) (lo hi : Option Int) (μ : Mu) (Q : Pst) : slcD (.str z) lo hi μ Q = (z.length ≤ 100000 ∧ Q (.str (L2.cutS z lo hi)) μ) := rfl
theorem q_trut (i : List D) (μ : Mu) : truD (.tup i) μ = some (!i.isEmpty) := rfl
theorem q_isn (b : Bool) : isNon (.bl b) = false := rfl
theorem q_isni (b : Int) : isNon (.int b) = false := rfl
theorem q_isnn : isNon .non = true := rfl
theorem q_isnt (b : List D) : isNon (.tup b) = false := rfl
theorem q_isnl (b : List D) : isNon (.lst b) = false := rfl
theorem q_isne (b : Nat) : isNon (.exc b) = false := rfl
theorem q_isns (b : Str) : isNon (.str b) = false := rfl
theorem deq_int (i j : Int) : deq (.int i) (.int j) = (i == j) := rfl
theorem deq_bl (i j : Bool) : deq (.bl i) (.bl j) = (i == j) := rfl
theorem deq_str (i j : Str) : deq (.str i) (.str j) = (i == j) := rfl
theorem deq_non : deq .non .non = true := rfl
theorem deq_tup (xs ys : List D) : deq (.tup xs) (.tup ys) = PyData.eqvAll (pys xs) (pys ys) := rfl
theorem deq_lst (xs ys : List D) : deq (.lst xs) (.lst ys) = PyData.eqvAll (pys xs) (pys ys) := rfl
theorem ea_nil : PyData.eqvAll (pys []) (pys []) = true := by simp [pys, PyData.eqvAll]
theorem ea_cons (x y : D) (xs ys : List D) : PyData.eqvAll (pys (x :: xs)) (pys (y :: ys)) = (deq x y && PyData.eqvAll (pys xs) (pys ys)) := by simp [pys, PyData.eqvAll, deq]
theorem ea_nc (y : D) (ys : List D) : PyData.eqvAll (pys []) (pys (y :: ys)) = false := by simp [pys, PyData.eqvAll]
theorem ea_cn (y : D) (ys : List D) : PyData.eqvAll (pys (y :: ys)) (pys []) = false := by simp [pys, PyData.eqvAll]
theorem fit_int (n : Nat) (i : Int) : fit n (.int i) = true := by cases n <;> rfl
theorem fit_bl (n : Nat) (i : Bool) : fit n (.bl i) = true := by cases n <;> rfl
theorem fit_non (n : Nat) : fit n .non = true := by cases n <;> rfl
theorem fit_tup (n : Nat) (xs : List D) : fit (n + 1) (.tup xs) = xs.all (fit n) := rfl
theorem fit_lst (n : Nat) (xs : List D) : fit (n + 1) (.lst xs) = xs.all (fit n) := rfl
theorem fit_str (n : Nat) (x : Str) : fit n (.str x) = PyData.strOk x := by cases n <;> rfl
mutual
theorem eqv_refl : ∀ d : PyData, PyData.canLay0 d = true → PyData.eqv d d = true
  | .none, _ => by simp [PyData.eqv]
  | .bool b, _ => by simp [PyData.eqv]
  | .int b, _ => by simp [PyData.eqv]
  | .str b, _ => by simp [PyData.eqv]
  | .list xs, h => by simp only [PyData.eqv]; exact eqvA_refl xs (by simpa [PyData.canLay0] using h)
  | .tuple xs, h => by simp only [PyData.eqv]; exact eqvA_refl xs (by simpa [PyData.canLay0] using h)
  | .dict xs, h => by simp [PyData.canLay0] at h
theorem eqvA_refl : ∀ d : List PyData, PyData.canLayAll0 d = true → PyData.eqvAll d d = true
  | [], _ => by simp [PyData.eqvAll]
  | x :: xs, h => by
    have h' : x.canLay0 = true ∧ PyData.canLayAll0 xs = true := by simpa [PyData.canLayAll0] using h
    simp [PyData.eqvAll, eqv_refl x h'.1, eqvA_refl xs h'.2]
end
theorem deq_refl {d : D} (h : fit 60 d = true) : deq d d = true := eqv_refl _ (fit_lay 60 d h).1

/-! ### loops -/
theorem forW_by {f : D → Rho → Mu → (Rho → Mu → Prop) → Prop} {Q : Rho → Mu → Prop} (Inv : List D → Rho → Mu → Prop) (step : ∀ d ds ρ μ (k : Rho → Mu → Prop), Inv (d :: ds) ρ μ → (∀ ρ' μ', Inv ds ρ' μ' → k ρ' μ') → f d ρ μ k)
    (fin : ∀ ρ μ, Inv [] ρ μ → Q ρ μ) : ∀ (ds : List D) (ρ : Rho) (μ : Mu), Inv ds ρ μ → forW f ds ρ μ Q
  | [], ρ, μ, h => fin ρ μ h
  | d :: ds, ρ, μ, h => step d ds ρ μ _ h fun ρ' μ' h' => forW_by Inv step fin ds ρ' μ' h'
theorem lcW_by {f : D → Mu → (Option D → Mu → Prop) → Prop} {Q : List D → Mu → Prop} (Inv : List D → List D → Mu → Prop) (step : ∀ d ds acc μ (k : Option D → Mu → Prop), Inv (d :: ds) acc μ → (∀ o μ', Inv ds (acc ++ o.toList) μ' → k o μ') → f d μ k)
    (fin : ∀ acc μ, Inv [] acc μ → Q acc μ) : ∀ (ds acc : List D) (μ : Mu), Inv ds acc μ → lcW f ds acc μ Q
  | [], acc, μ, h => fin acc μ h
  | d :: ds, acc, μ, h => step d ds acc μ _ h fun o μ' h' => lcW_by Inv step fin ds (acc ++ o.toList) μ' h'
/-- a comprehension that maps, its store unchanged -/
theorem lcW_map {f : D → Mu → (Option D → Mu → Prop) → Prop} {Q : List D → Mu → Prop} (g : D → D) : ∀ (ds : List D), ∀ (μ : Mu), (∀ d ∈ ds, ∀ k : Option D → Mu → Prop, k (some (g d)) μ → f d μ k) → ∀ acc : List D, Q (acc ++ ds.map g) μ → lcW f ds acc μ Q
  | [], μ, _, acc, q => by simpa [lcW] using q
  | d :: ds, μ, h, acc, q => by
    refine h d List.mem_cons_self _ ?_
    refine lcW_map g ds μ (fun d' hd => h d' (List.mem_cons_of_mem _ hd)) _ ?_
    simpa using q
theorem whW_by {f : Rho → Mu → (Rho → Mu → Prop) → Prop} (Inv : Nat → Rho → Mu → Prop) (step : ∀ m ρ μ (k : Rho → Mu → Prop), Inv m ρ μ → (∀ m' ρ' μ', m' < m → Inv m' ρ' μ' → k ρ' μ') → f ρ μ k) {m : Nat} {ρ : Rho} {μ : Mu} (h : Inv m ρ μ) : ∃ n, whW f n ρ μ := by
  have key : ∀ n m ρ μ, m < n → Inv m ρ μ → whW f n ρ μ := by
    intro n
    induction n with
    | zero => intro m ρ μ h; omega
    | succ n ih =>
      intro m ρ μ h i
      exact step m ρ μ _ i fun m' ρ' μ' l i' => ih m' ρ' μ' (by omega) i'
  exact ⟨m + 1, key (m + 1) m ρ μ (Nat.lt_succ_self m) h⟩

/-! ### sizes -/
theorem mul_ok {i j : Int} (a b : Nat) (ha : i.natAbs < 2 ^ a) (hb : j.natAbs < 2 ^ b) (h : a + b ≤ 120000000) : mulOk i j := by
  have x := PySem.Flt.log2_lt_of (n := i.natAbs) (k := a + 1) (Nat.succ_pos a) (Nat.lt_trans ha (Nat.pow_lt_pow_right (by decide) (Nat.lt_succ_self a)))
  have y := PySem.Flt.log2_lt_of (n := j.natAbs) (k := b + 1) (Nat.succ_pos b) (Nat.lt_trans hb (Nat.pow_lt_pow_right (by decide) (Nat.lt_succ_self b)))
  unfold mulOk
  omega
theorem div_ok {j : Int} (b : Nat) (h : j ≠ 0) (hb : j.natAbs < 2 ^ b) (h9 : b ≤ 100000000) : divOk j := h
theorem q_AL : (type_of% @q_ifD) ∧ (type_of% @q_ifB) ∧ (type_of% @q_ifL) ∧ (type_of% @q_ifR) ∧ (type_of% @q_ifIs) ∧ (type_of% @q_ifBs) ∧ (type_of% @q_asI) ∧ (type_of% @q_rg0) ∧ (type_of% @q_rgs) ∧ (type_of% @q_rs0) ∧ (type_of% @q_rss) ∧ (type_of% @q_add) ∧ (type_of% @q_adds) ∧ (type_of% @q_addl) ∧ (type_of% @q_addt) ∧ (type_of% @q_sub) ∧ (type_of% @q_mul) ∧ (type_of% @q_mull) ∧ (type_of% @q_fdiv) ∧ (type_of% @q_mod) ∧ (type_of% @q_pow) ∧ (type_of% @q_shl) ∧ (type_of% @q_trub) ∧ (type_of% @q_trui) ∧ (type_of% @q_trun) ∧ (type_of% @q_trul) ∧ (type_of% @q_eq) ∧ (type_of% @q_ne) ∧ (type_of% @q_lt) ∧ (type_of% @q_le) ∧ (type_of% @q_gt) ∧ (type_of% @q_ge) ∧ (type_of% @q_in) ∧ (type_of% @q_nin) ∧ (type_of% @q_cis) ∧ (type_of% @q_cisN) ∧ (type_of% @q_cisT) ∧ (type_of% @q_cisnt) ∧ (type_of% @q_joinl) ∧ (type_of% @q_joint) ∧ (type_of% @q_lstP) ∧ (type_of% @q_idx) ∧ (type_of% @q_cou) ∧ (type_of% @q_split) ∧ (type_of% @q_catll) ∧ (type_of% @q_catrl) ∧ (type_of% @q_catrr) ∧ (type_of% @q_catlr) ∧ (type_of% @q_setl) ∧ (type_of% @q_strs0) ∧ (type_of% @q_strsc) ∧ (type_of% @q_ifSs) ∧ (type_of% @q_clear) ∧ (type_of% @q_reverse) ∧ (type_of% @q_revl) ∧ (type_of% @q_revt) ∧ (type_of% @q_revr) ∧ (type_of% @q_eqm) ∧ (type_of% @q_nem) ∧ (type_of% @q_ner) ∧ (type_of% @q_nemd) ∧ (type_of% @q_der0) ∧ (type_of% @q_ders) ∧ (type_of% @q_lstO) ∧ (type_of% @q_dctA) ∧ (type_of% @q_tupr) ∧ (type_of% @q_listr) ∧ (type_of% @q_lenr) ∧ (type_of% @q_lcf) ∧ (type_of% @q_lct) ∧ (type_of% @q_abs) ∧ (type_of% @q_lent) ∧ (type_of% @q_lenl) ∧ (type_of% @q_lens) ∧ (type_of% @q_sum) ∧ (type_of% @q_all) ∧ (type_of% @q_any) ∧ (type_of% @q_tupl) ∧ (type_of% @q_tupt) ∧ (type_of% @q_listl) ∧ (type_of% @q_listt) ∧ (type_of% @q_listMl) ∧ (type_of% @q_listMt) ∧ (type_of% @q_inti) ∧ (type_of% @q_intb) ∧ (type_of% @q_stri) ∧ (type_of% @q_strs) ∧ (type_of% @q_strn) ∧ (type_of% @q_strb) ∧ (type_of% @q_strt) ∧ (type_of% @q_strl) ∧ (type_of% @q_max) ∧ (type_of% @q_min) ∧ (type_of% @q_selt) ∧ (type_of% @q_sell) ∧ (type_of% @q_selr) ∧ (type_of% @q_seIt) ∧ (type_of% @q_seIl) ∧ (type_of% @q_seIr) ∧ (type_of% @q_itt) ∧ (type_of% @q_itl) ∧ (type_of% @q_bn) ∧ (type_of% @q_bt) ∧ (type_of% @q_btl) ∧ (type_of% @q_ba0) ∧ (type_of% @q_bas) ∧ (type_of% @q_inT) ∧ (type_of% @q_ninT) ∧ (type_of% @q_frzr) ∧ (type_of% @q_frzl) ∧ (type_of% @q_slct) ∧ (type_of% @q_slcl) ∧ (type_of% @q_slcr) ∧ (type_of% @q_slcs) ∧ (type_of% @q_trut) ∧ (type_of% @q_isn) ∧ (type_of% @q_isni) ∧ (type_of% @q_isnn) ∧ (type_of% @q_isnt) ∧ (type_of% @q_isnl) ∧ (type_of% @q_isne) ∧ (type_of% @q_isns) := ⟨@q_ifD, @q_ifB, @q_ifL, @q_ifR, @q_ifIs, @q_ifBs, @q_asI, @q_rg0, @q_rgs, @q_rs0, @q_rss, @q_add, @q_adds, @q_addl, @q_addt, @q_sub, @q_mul, @q_mull, @q_fdiv, @q_mod, @q_pow, @q_shl, @q_trub, @q_trui, @q_trun, @q_trul, @q_eq, @q_ne, @q_lt, @q_le, @q_gt, @q_ge, @q_in, @q_nin, @q_cis, @q_cisN, @q_cisT, @q_cisnt, @q_joinl, @q_joint, @q_lstP, @q_idx, @q_cou, @q_split, @q_catll, @q_catrl, @q_catrr, @q_catlr, @q_setl, @q_strs0, @q_strsc, @q_ifSs, @q_clear, @q_reverse, @q_revl, @q_revt, @q_revr, @q_eqm, @q_nem, @q_ner, @q_nemd, @q_der0, @q_ders, @q_lstO, @q_dctA, @q_tupr, @q_listr, @q_lenr, @q_lcf, @q_lct, @q_abs, @q_lent, @q_lenl, @q_lens, @q_sum, @q_all, @q_any, @q_tupl, @q_tupt, @q_listl, @q_listt, @q_listMl, @q_listMt, @q_inti, @q_intb, @q_stri, @q_strs, @q_strn, @q_strb, @q_strt, @q_strl, @q_max, @q_min, @q_selt, @q_sell, @q_selr, @q_seIt, @q_seIl, @q_seIr, @q_itt, @q_itl, @q_bn, @q_bt, @q_btl, @q_ba0, @q_bas, @q_inT, @q_ninT, @q_frzr, @q_frzl, @q_slct, @q_slcl, @q_slcr, @q_slcs, @q_trut, @q_isn, @q_isni, @q_isnn, @q_isnt, @q_isnl, @q_isne, @q_isns⟩
end Dl

/-! The data layer, part L: plain facts that the laws share. -/
namespace Dl
open PySem L2 PyProof.Rows
def gcdL (ns : List Int) : Int := ns.foldl (fun g n => ((Int.gcd g n : Nat) : Int)) 0
theorem gcd_step (f r : Nat) (h : r ≠ 0) : Int.gcd ((f : Nat) : Int) ((r : Nat) : Int) = Int.gcd ((r : Nat) : Int) (((f % r : Nat)) : Int) := by
  simp only [Int.gcd, Int.natAbs_natCast]
  rw [Nat.gcd_comm r, ← Nat.gcd_rec, Nat.gcd_comm]
theorem fmod_nat (f r : Nat) : ((f : Nat) : Int).fmod ((r : Nat) : Int) = (((f % r : Nat)) : Int) := by
  rw [Int.fmod_eq_emod_of_nonneg _ (by omega)]; rfl
theorem nab {x : Int} {n : Nat} (h0 : 0 ≤ x) (h1 : x < (n : Int)) : x.natAbs < n := by omega
theorem fmod_pos {x m : Int} (h : 0 < m) : 0 ≤ x.fmod m ∧ x.fmod m < m := ⟨Int.fmod_nonneg_of_pos x h, Int.fmod_lt_of_pos x h⟩
theorem pow10_18 : powOk 10 18 := ⟨by decide, by decide, by decide⟩
theorem at_ints (ns : List Int) (k : Int) (h0 : 0 ≤ k) (h1 : k < ns.length) : ∃ z, L2.atI (ns.map D.int) k = some (.int z) := by
  obtain ⟨n, rfl⟩ := Int.eq_ofNat_of_zero_le h0
  have hn : n < ns.length := by omega
  exact ⟨ns[n], atI_nat (by rw [List.getElem?_map, List.getElem?_eq_getElem hn]; rfl)⟩
theorem fmod_natAbs (x y : Int) (h : y ≠ 0) : (x.fmod y).natAbs < y.natAbs := by
  by_cases hy : 0 < y
  · obtain ⟨a, b⟩ := fmod_pos (x := x) hy
    omega
  · have hy' : 0 < -y := by omega
    have e : x.fmod y = -((-x).fmod (-y)) := by rw [Int.neg_fmod_neg]; omega
    obtain ⟨a, b⟩ := fmod_pos (x := -x) hy'
    rw [e]
    omega
theorem gcd_fmod (x y : Int) : Int.gcd y (x.fmod y) = Int.gcd x y := by
  have e : x.fmod y = x - y * x.fdiv y := by have := Int.mul_fdiv_add_fmod x y; omega
  rw [e, Int.gcd_comm x y]
  rw [show x - y * x.fdiv y = x + y * (-(x.fdiv y)) by rw [Int.mul_neg]; omega]
  exact Int.gcd_add_mul_left_right ..
theorem ifD_of {o : Option D} {d : D} {P : D → Prop} (h : o = some d) (k : P d) : ifD o P := by rw [h]; exact k
theorem ite_t {c : Prop} {_ : Decidable c} {a b : Prop} (h : c) (k : a) : if c then a else b := by rw [if_pos h]; exact k
theorem ite_f {c : Prop} {_ : Decidable c} {a b : Prop} (h : ¬ c) (k : b) : if c then a else b := by rw [if_neg h]; exact k
theorem isi_cls [NC] {c' c : Nat} (h : c' < NC.n) : isiD (.exc c') (.cls c) = some (subC c' c) := if_pos h
theorem isi_v [NC] {c' : Nat} (h : c' < NC.n) : isiD (.exc c') .vErr = some true := if_pos h
theorem sub0 (c' : Nat) : subC c' 0 = true := rfl
theorem spLaw_of [NC] {ok : List Int → Prop} {n : Nat} {m : MB} (h : ∀ ns μ Q X, ok ns → (∀ μ', Q (.bl true) μ') → wpB m (startD n [.lst (ns.map .int)]) μ (enD Q X)) : ∀ ds μ Q X, spLaw ok ds μ Q X → ds.length = 1 ∧ wpB m (startD n ds) μ (enD Q X) := by
  intro ds μ Q X q
  match ds, q with
  | [.lst ds], ⟨ns, e, o, e2, q⟩ => subst e; exact ⟨rfl, h ns μ Q X o q⟩
theorem rngD_mem {lo : Int} {n : Nat} {d : D} (h : d ∈ rngD lo n) : ∃ j : Int, d = .int j ∧ lo ≤ j ∧ j < lo + (n : Int) := by
  unfold rngD at h
  obtain ⟨k, hk, rfl⟩ := List.mem_map.mp h
  have := List.mem_range.mp hk
  exact ⟨_, rfl, by omega, by omega⟩
theorem nodup_inj {l : List Addr} (h : l.Nodup) {i j : Nat} (hi : i < l.length) (hj : j < l.length) (e : l.getD i 0 = l.getD j 0) : i = j := by
  rw [List.getD_eq_getElem?_getD, List.getD_eq_getElem?_getD, List.getElem?_eq_getElem hi, List.getElem?_eq_getElem hj] at e
  exact (List.getElem_inj h).mp e
/-- the divisor that brings a fraction to its least terms -/
def byI (t b : Int) : Int := if b < 0 then 0 - ((Int.gcd t b : Nat) : Int) else ((Int.gcd t b : Nat) : Int)
def frN (t b : Int) : Int := t.fdiv (byI t b)
def frM (t b : Int) : Int := b.fdiv (byI t b)
def frD (t b : Int) : D := .tup [.int (frN t b), .int (frM t b)]
theorem gcdL_two (t b : Int) : gcdL [t, b] = ((Int.gcd t b : Nat) : Int) := by
  simp [gcdL, Int.gcd]
theorem byI_ne {t b : Int} (h : b ≠ 0) : byI t b ≠ 0 := by
  have : Int.gcd t b ≠ 0 := fun e => h (Int.gcd_eq_zero_iff.mp e).2
  unfold byI; split <;> omega
theorem byI_le {t b : Int} (h : b ≠ 0) : (byI t b).natAbs ≤ b.natAbs := by
  have h1 : Int.gcd t b ≤ b.natAbs := Nat.le_of_dvd (by omega) (by simp only [Int.gcd]; exact Nat.gcd_dvd_right _ _)
  unfold byI; split <;> omega
/-! plain facts of a fraction in its least terms -/
theorem byI_dvd (t b : Int) : byI t b ∣ t ∧ byI t b ∣ b := by
  have h1 : ((Int.gcd t b : Nat) : Int) ∣ t := Int.gcd_dvd_left ..
  have h2 : ((Int.gcd t b : Nat) : Int) ∣ b := Int.gcd_dvd_right ..
  unfold byI
  split
  · rw [Int.zero_sub, Int.neg_dvd, Int.neg_dvd]; exact ⟨h1, h2⟩
  · exact ⟨h1, h2⟩
theorem frN_mul {t b : Int} (h : b ≠ 0) : byI t b * frN t b = t := by
  unfold frN; exact Int.mul_fdiv_cancel_of_dvd (byI_dvd t b).1
theorem frM_mul {t b : Int} (h : b ≠ 0) : byI t b * frM t b = b := by
  unfold frM; exact Int.mul_fdiv_cancel_of_dvd (byI_dvd t b).2
theorem frM_pos {t b : Int} (h : b ≠ 0) : 1 ≤ frM t b := by
  have e := frM_mul (t := t) h
  have hz := byI_ne (t := t) h
  by_cases hb : b < 0
  · have hy : byI t b < 0 := by
      have : Int.gcd t b ≠ 0 := fun e => h (Int.gcd_eq_zero_iff.mp e).2
      unfold byI; rw [if_pos hb]; omega
    rcases Int.lt_or_le 0 (frM t b) with h1 | h1
    · omega
    · have := Int.mul_nonneg_of_nonpos_of_nonpos (Int.le_of_lt hy) h1
      omega
  · have hy : 0 < byI t b := by
      have : Int.gcd t b ≠ 0 := fun e => h (Int.gcd_eq_zero_iff.mp e).2
      unfold byI; rw [if_neg hb]; omega
    rcases Int.lt_or_le 0 (frM t b) with h1 | h1
    · omega
    · have := Int.mul_nonpos_of_nonneg_of_nonpos (Int.le_of_lt hy) h1
      omega
theorem byI_nat (t b : Int) : (byI t b).natAbs = Int.gcd t b := by
  unfold byI; split <;> omega
theorem fr_gcd {t b : Int} (h : b ≠ 0) : Int.gcd (frN t b) (frM t b) = 1 := by
  have h1 : Int.gcd (byI t b * frN t b) (byI t b * frM t b) = (byI t b).natAbs * Int.gcd (frN t b) (frM t b) := Int.gcd_mul_left ..
  rw [frN_mul h, frM_mul h, byI_nat] at h1
  have h2 : Int.gcd t b ≠ 0 := fun e => h (Int.gcd_eq_zero_iff.mp e).2
  exact (Nat.eq_of_mul_eq_mul_left (Nat.pos_of_ne_zero h2) (by rw [Nat.mul_one]; exact h1)).symm
theorem fr_cross {t b : Int} (h : b ≠ 0) : frN t b * b = t * frM t b := by
  have e1 := frN_mul (t := t) h
  have e2 := frM_mul (t := t) h
  generalize frN t b = p at *
  generalize frM t b = q at *
  generalize byI t b = g at *
  subst e1
  rw [← e2]
  grind
theorem fr_self {t b : Int} (h : 0 < b) (hg : Int.gcd t b = 1) : frN t b = t ∧ frM t b = b := by
  have e : byI t b = 1 := by unfold byI; rw [if_neg (by omega), hg]; rfl
  unfold frN frM; rw [e]; simp
theorem natAbs_le_of_mul {g p t : Int} (h : g ≠ 0) (e : g * p = t) : p.natAbs ≤ t.natAbs := by
  rw [← e, Int.natAbs_mul]
  exact Nat.le_mul_of_pos_left _ (by omega)
theorem frN_le {t b : Int} (h : b ≠ 0) : (frN t b).natAbs ≤ t.natAbs := natAbs_le_of_mul (byI_ne h) (frN_mul h)
theorem frM_le {t b : Int} (h : b ≠ 0) : (frM t b).natAbs ≤ b.natAbs := natAbs_le_of_mul (byI_ne h) (frM_mul h)
theorem p200 {n : Nat} (h : n < 2 ^ 200) : n < 2 ^ 8000 := Nat.lt_of_lt_of_le h (Nat.pow_le_pow_right (by decide) (by decide))
theorem blsD_true : ∀ L : List D, blsD (L.map fun _ => .bl true) = some (L.map fun _ => true)
  | [] => rfl
  | _ :: L => by simp [blsD, blsD_true L]
/-! pairs, sizes, roots -/
abbrev pD (n m : Int) : D := .tup [.int n, .int m]
/-- a number of a size that the reckoning bears -/
def sz (x : Int) : Prop := x.natAbs < 2 ^ 3900
theorem sz.mul {a b : Int} (ha : sz a) (hb : sz b) : mulOk a b := mul_ok 3900 3900 ha hb (by decide)
theorem nat_mul_lt {x y a b c : Nat} (ha : x < 2 ^ a) (hb : y < 2 ^ b) (h : a + b ≤ c) : x * y < 2 ^ c :=
  Nat.lt_of_lt_of_le (Nat.mul_lt_mul'' ha hb) (by rw [← Nat.pow_add]; exact Nat.pow_le_pow_right (by decide) h)
theorem abs_mul_lt {x y : Int} {a b c : Nat} (ha : x.natAbs < 2 ^ a) (hb : y.natAbs < 2 ^ b) (h : a + b ≤ c) : (x * y).natAbs < 2 ^ c := by
  rw [Int.natAbs_mul]; exact nat_mul_lt ha hb h
theorem abs_up {x : Int} {a c : Nat} (ha : x.natAbs < 2 ^ a) (h : a ≤ c) : x.natAbs < 2 ^ c := Nat.lt_of_lt_of_le ha (Nat.pow_le_pow_right (by decide) h)
theorem sz.mul8 {a b : Int} (ha : sz a) (hb : sz b) : (a * b).natAbs < 2 ^ 8000 := abs_mul_lt ha hb (by decide)
theorem sz.p8 {a : Int} (ha : sz a) : a.natAbs < 2 ^ 8000 := abs_up ha (by decide)
theorem sz_of {x : Int} {a : Nat} (ha : x.natAbs < 2 ^ a) (h : a ≤ 3900) : sz x := abs_up ha h
theorem mul_ne0 {a b : Int} (ha : a ≠ 0) (hb : b ≠ 0) : a * b ≠ 0 := Int.mul_ne_zero ha hb
/-- r is the whole root of n -/
def isR (n r : Int) : Prop := 0 ≤ r ∧ r * r ≤ n ∧ n < (r + 1) * (r + 1)
theorem isR_eq {n r s : Int} (h : isR n r) (k : isR n s) : r = s := by
  obtain ⟨a, b, c⟩ := h
  obtain ⟨d, e, f⟩ := k
  rcases Int.lt_trichotomy r s with z | z | z
  · have : (r + 1) * (r + 1) ≤ s * s := Int.mul_le_mul (by omega) (by omega) (by omega) (by omega)
    omega
  · exact z
  · have : (s + 1) * (s + 1) ≤ r * r := Int.mul_le_mul (by omega) (by omega) (by omega) (by omega)
    omega
theorem isR_le {n r : Int} (h : isR n r) : r ≤ n := by
  obtain ⟨a, b, c⟩ := h
  rcases Int.lt_or_le 0 r with z | z
  · have : 1 * r ≤ r * r := Int.mul_le_mul_of_nonneg_right (by omega) (by omega)
    omega
  · have : r = 0 := by omega
    subst this; omega
theorem isR.sz {n r : Int} (h : isR n r) (k : sz n) : sz r := by
  have := isR_le h
  have := h.1
  unfold Dl.sz at *
  omega
theorem bits_facts {n : Int} (h0 : 0 ≤ n) (h1 : n.natAbs < 2 ^ 8000) : n < ((2 ^ Builtin.Int.intBits n : Nat) : Int) ∧ Builtin.Int.intBits n ≤ 8000 := by
  have a := (PySem.intBits_le_iff (m := Builtin.Int.intBits n) (x := n)).mp (Nat.le_refl _)
  have b := (PySem.intBits_le_iff (m := 8000) (x := n)).mpr h1
  exact ⟨by omega, b⟩
theorem sqr_nonneg (x : Int) : 0 ≤ x * x := by
  rcases Int.le_total 0 x with h | h
  · exact Int.mul_nonneg h h
  · exact Int.mul_nonneg_of_nonpos_of_nonpos h h
/-- a step of the root's search -/
theorem newton {n f : Int} (h0 : 0 ≤ n) (hf : 0 < f) (ht : n < f * f) : ∃ g : Nat, (f + n.fdiv f).fdiv 2 = (g : Int) ∧ (g : Int) < f ∧ n < ((g : Nat) + 1 : Int) * ((g : Nat) + 1 : Int) := by
  have e1 : n.fdiv f = n / f := Int.fdiv_eq_ediv_of_nonneg _ (Int.le_of_lt hf)
  rw [e1, Int.fdiv_eq_ediv_of_nonneg _ (by decide)]
  have q0 : 0 ≤ n / f := Int.ediv_nonneg h0 (Int.le_of_lt hf)
  have q1 : f * (n / f) ≤ n := Int.mul_ediv_self_le (by omega)
  have q2 : n < f * (n / f + 1) := by
    have a := Int.lt_mul_ediv_self_add (x := n) hf
    rw [Int.mul_add, Int.mul_one]; exact a
  generalize n / f = q at *
  have q3 : q < f := by
    rcases Int.lt_or_le q f with z | z
    · exact z
    · have : f * f ≤ f * q := Int.mul_le_mul_of_nonneg_left z (by omega)
      omega
  refine ⟨((f + q) / 2).toNat, by omega, by omega, ?_⟩
  have hg : (((f + q) / 2).toNat : Int) = (f + q) / 2 := by omega
  rw [hg]
  have hs : f + q + 1 ≤ 2 * ((f + q) / 2 + 1) := by omega
  have hg0 : 0 ≤ (f + q) / 2 := by omega
  generalize (f + q) / 2 = g at *
  have h1 : (f + q + 1) * (f + q + 1) = (f - (q + 1)) * (f - (q + 1)) + 4 * (f * (q + 1)) := by grind
  have h2 := sqr_nonneg (f - (q + 1))
  have h3 : (f + q + 1) * (f + q + 1) ≤ (2 * (g + 1)) * (2 * (g + 1)) := Int.mul_le_mul hs hs (by omega) (by omega)
  have h4 : (2 * (g + 1)) * (2 * (g + 1)) = 4 * ((g + 1) * (g + 1)) := by grind
  omega
def CAof (cs : List Addr) : Nat → Addr := fun c => cs.getD c 0
structure ClsF (K : PySem.W.Frag) (x : Str) (c0 c : Addr) (b : Bool) (cd : ClassData) : Prop where
  g : PySem.W.nsIn K mainGlobals x = some (some (.ref c))
  q : PySem.W.clsIn K c = some cd
  h : cd.hasDict = true
  m : cd.mro = .ref c :: ((if b then [] else [.ref c0]) ++ veT)
  ty : PySem.W.typeIn K (.ref c) = some (.type "type")
  ex : PySem.W.excIn K c veT "ValueError.__new__" = true
  kp : PySem.W.keepIn K (.ref c) = true
  ga : PySem.W.findIn K (.ref c) "__getattribute__" = some (some (.builtin "BaseException.__getattribute__"))
  gg : PySem.W.findIn K (.ref c) "__getattr__" = some none
  cl : PySem.W.findIn K (.ref c) "__class__" = some (some (.builtin "object.__class__"))
theorem clsF_ok [NC] {K : PySem.W.Frag} {mg : Str → Option Value} {h : Heap} (X : K.In h) (G : h.Ns mainGlobals mg) {CA : Nat → Addr} {CN : Nat → Str} {c : Nat} {b : Bool} {cd : ClassData} (F : ClsF K (CN c) (CA 0) (CA c) b cd) (hb : b = decide (c = 0)) (hn : PySem.W.specialIn K (.builtin "object.__class__") "__get__" = some (some (.builtin "getset_descriptor.__get__"))) (ht : PySem.W.takesIn K (.builtin "object.__class__") = some true) : ClsOk K mg CA CN c :=
  { g := PySem.W.mg_of X G F.g, mro := ⟨cd, F.q, F.h, by rw [F.m, hb]; simp only [decide_eq_true_eq]⟩, ty := F.ty, ex := F.ex, kp := F.kp, ga := F.ga, gg := F.gg, cl := F.cl, hn := hn, ht := ht }
end Dl

/-! The data layer, part M: plain fractions. -/
namespace Dl
open PySem L2 PyProof.Rows
abbrev F2 := Int × Int
/-- a fraction as data -/
abbrev fD (p : F2) : D := .tup [.int p.1, .int p.2]
/-- in its least terms -/
def fit2 (p : F2) : Prop := 0 < p.2 ∧ Int.gcd p.1 p.2 = 1
def frP (t b : Int) : F2 := (frN t b, frM t b)
theorem frD_eq (t b : Int) : frD t b = fD (frP t b) := rfl
theorem frP_fit {t b : Int} (h : b ≠ 0) : fit2 (frP t b) := ⟨by have := frM_pos (t := t) h; show 0 < frM t b; omega, fr_gcd h⟩
theorem frP_cross {t b : Int} (h : b ≠ 0) : (frP t b).1 * b = t * (frP t b).2 := fr_cross h
theorem mul_cancel {a b c : Int} (h : c ≠ 0) (e : a * c = b * c) : a = b := Int.eq_of_mul_eq_mul_right h e
theorem fit2_inj {p q : F2} (hp : fit2 p) (hq : fit2 q) (e : p.1 * q.2 = q.1 * p.2) : p = q := by
  obtain ⟨a, b⟩ := p
  obtain ⟨c, d⟩ := q
  obtain ⟨b0, g1⟩ := hp
  obtain ⟨d0, g2⟩ := hq
  simp only at *
  have n1 : b.natAbs ∣ d.natAbs := by
    have : b.natAbs ∣ a.natAbs * d.natAbs := by
      rw [← Int.natAbs_mul, e, Int.natAbs_mul]; exact Nat.dvd_mul_left ..
    exact Nat.Coprime.dvd_of_dvd_mul_left (by rw [Nat.coprime_comm]; exact g1) this
  have n2 : d.natAbs ∣ b.natAbs := by
    have : d.natAbs ∣ c.natAbs * b.natAbs := by
      rw [← Int.natAbs_mul, ← e, Int.natAbs_mul]; exact Nat.dvd_mul_left ..
    exact Nat.Coprime.dvd_of_dvd_mul_left (by rw [Nat.coprime_comm]; exact g2) this
  have hbd : b = d := by have := Nat.dvd_antisymm n1 n2; omega
  subst hbd
  have := mul_cancel (by omega) e
  rw [this]
theorem sign_same {x y z w : Int} (hz : 0 < z) (hy : 0 < y) (e : x * z = w * y) : (0 < x ↔ 0 < w) ∧ (x < 0 ↔ w < 0) := by
  rcases Int.lt_trichotomy w 0 with h | h | h
  · have h1 : w * y < 0 := Int.mul_neg_of_neg_of_pos h hy
    have : x < 0 := by
      rcases Int.lt_or_le x 0 with h | h
      · exact h
      · have := Int.mul_nonneg h (Int.le_of_lt hz)
        omega
    omega
  · subst h
    have : x = 0 := by
      have e1 : x * z = 0 := by rw [e]; omega
      rcases Int.mul_eq_zero.mp e1 with h | h
      · exact h
      · omega
    omega
  · have h1 : 0 < w * y := Int.mul_pos h hy
    have : 0 < x := by
      rcases Int.lt_or_le 0 x with h | h
      · exact h
      · have := Int.mul_nonpos_of_nonpos_of_nonneg h (Int.le_of_lt hz)
        omega
    omega
theorem frP_eq {t b c d : Int} (hb : b ≠ 0) (hd : d ≠ 0) (e : t * d = c * b) : frP t b = frP c d := by
  refine fit2_inj (frP_fit hb) (frP_fit hd) ?_
  have e1 := frP_cross (t := t) hb
  have e2 := frP_cross (t := c) hd
  generalize (frP t b).1 = x at *
  generalize (frP t b).2 = y at *
  generalize (frP c d).1 = u at *
  generalize (frP c d).2 = v at *
  refine mul_cancel (mul_ne0 hb hd) ?_
  have : x * v * (b * d) = (x * b) * v * d := by grind
  rw [this, e1]
  have : u * y * (b * d) = (u * d) * y * b := by grind
  rw [this, e2]
  grind
theorem frP_self {p : F2} (h : fit2 p) : frP p.1 p.2 = p := by
  obtain ⟨a, b⟩ := fr_self h.1 h.2
  show (frN p.1 p.2, frM p.1 p.2) = p
  rw [a, b]
theorem frP_is {t b : Int} {p : F2} (hb : b ≠ 0) (h : fit2 p) (e : t * p.2 = p.1 * b) : frP t b = p := by
  have := frP_eq (c := p.1) (d := p.2) hb (by have := h.1; omega) e
  rw [this, frP_self h]
theorem fit2.ne {p : F2} (h : fit2 p) : p.2 ≠ 0 := by have := h.1; omega
def sumF (p q : F2) : F2 := frP (p.1 * q.2 + q.1 * p.2) (p.2 * q.2)
def lessF (p q : F2) : F2 := frP (p.1 * q.2 - q.1 * p.2) (p.2 * q.2)
def timesF (p q : F2) : F2 := frP (p.1 * q.1) (p.2 * q.2)
def byF (p q : F2) : F2 := frP (p.1 * q.2) (p.2 * q.1)
theorem sumF_fit {p q : F2} (hp : fit2 p) (hq : fit2 q) : fit2 (sumF p q) := frP_fit (mul_ne0 hp.ne hq.ne)
theorem lessF_fit {p q : F2} (hp : fit2 p) (hq : fit2 q) : fit2 (lessF p q) := frP_fit (mul_ne0 hp.ne hq.ne)
theorem timesF_fit {p q : F2} (hp : fit2 p) (hq : fit2 q) : fit2 (timesF p q) := frP_fit (mul_ne0 hp.ne hq.ne)
theorem byF_fit {p q : F2} (hp : fit2 p) (hq : q.1 ≠ 0) : fit2 (byF p q) := frP_fit (mul_ne0 hp.ne hq)
theorem sumF_x {p q : F2} (hp : fit2 p) (hq : fit2 q) : (sumF p q).1 * (p.2 * q.2) = (p.1 * q.2 + q.1 * p.2) * (sumF p q).2 := frP_cross (mul_ne0 hp.ne hq.ne)
theorem lessF_x {p q : F2} (hp : fit2 p) (hq : fit2 q) : (lessF p q).1 * (p.2 * q.2) = (p.1 * q.2 - q.1 * p.2) * (lessF p q).2 := frP_cross (mul_ne0 hp.ne hq.ne)
theorem timesF_x {p q : F2} (hp : fit2 p) (hq : fit2 q) : (timesF p q).1 * (p.2 * q.2) = (p.1 * q.1) * (timesF p q).2 := frP_cross (mul_ne0 hp.ne hq.ne)
theorem byF_x {p q : F2} (hp : fit2 p) (hq : q.1 ≠ 0) : (byF p q).1 * (p.2 * q.1) = (p.1 * q.2) * (byF p q).2 := frP_cross (mul_ne0 hp.ne hq)
theorem sumF_comm (p q : F2) : sumF p q = sumF q p := by
  unfold sumF; rw [Int.add_comm, Int.mul_comm p.2]
theorem timesF_comm (p q : F2) : timesF p q = timesF q p := by
  unfold timesF; rw [Int.mul_comm p.1, Int.mul_comm p.2]
theorem sumF_assoc {p q r : F2} (hp : fit2 p) (hq : fit2 q) (hr : fit2 r) : sumF (sumF p q) r = sumF p (sumF q r) := by
  have hs := sumF_fit hp hq
  have ht := sumF_fit hq hr
  have e1 := sumF_x hp hq
  have e2 := sumF_x hq hr
  refine frP_eq (mul_ne0 hs.ne hr.ne) (mul_ne0 hp.ne ht.ne) (mul_cancel hq.ne ?_)
  generalize sumF p q = s at *
  generalize sumF q r = t at *
  grind
theorem timesF_assoc {p q r : F2} (hp : fit2 p) (hq : fit2 q) (hr : fit2 r) : timesF (timesF p q) r = timesF p (timesF q r) := by
  have hs := timesF_fit hp hq
  have ht := timesF_fit hq hr
  have e1 := timesF_x hp hq
  have e2 := timesF_x hq hr
  refine frP_eq (mul_ne0 hs.ne hr.ne) (mul_ne0 hp.ne ht.ne) (mul_cancel hq.ne ?_)
  generalize timesF p q = s at *
  generalize timesF q r = t at *
  grind
theorem timesF_sum {p q r : F2} (hp : fit2 p) (hq : fit2 q) (hr : fit2 r) : timesF (sumF p q) r = sumF (timesF p r) (timesF q r) := by
  have hs := sumF_fit hp hq
  have ht := timesF_fit hp hr
  have hu := timesF_fit hq hr
  have e1 := sumF_x hp hq
  have e2 := timesF_x hp hr
  have e3 := timesF_x hq hr
  refine frP_eq (mul_ne0 hs.ne hr.ne) (mul_ne0 ht.ne hu.ne) (mul_cancel (mul_ne0 hp.ne (mul_ne0 hq.ne hr.ne)) ?_)
  generalize sumF p q = s at *
  generalize timesF p r = t at *
  generalize timesF q r = u at *
  grind
theorem less_sum {p q : F2} (hp : fit2 p) (hq : fit2 q) : lessF (sumF p q) q = p := by
  have hs := sumF_fit hp hq
  have e1 := sumF_x hp hq
  refine frP_is (mul_ne0 hs.ne hq.ne) hp ?_
  generalize sumF p q = s at *
  grind
theorem sum_less {p q : F2} (hp : fit2 p) (hq : fit2 q) : sumF (lessF p q) q = p := by
  have hs := lessF_fit hp hq
  have e1 := lessF_x hp hq
  refine frP_is (mul_ne0 hs.ne hq.ne) hp ?_
  generalize lessF p q = s at *
  grind
theorem by_times {p q : F2} (hp : fit2 p) (hq : fit2 q) (h : q.1 ≠ 0) : byF (timesF p q) q = p := by
  have hs := timesF_fit hp hq
  have e1 := timesF_x hp hq
  refine frP_is (mul_ne0 hs.ne h) hp ?_
  generalize timesF p q = s at *
  grind
theorem times_by {p q : F2} (hp : fit2 p) (hq : fit2 q) (h : q.1 ≠ 0) : timesF (byF p q) q = p := by
  have hs := byF_fit (p := p) hp h
  have e1 := byF_x (p := p) hp h
  refine frP_is (mul_ne0 hs.ne hq.ne) hp ?_
  generalize byF p q = s at *
  grind
theorem gcd_sq {a b : Int} (h : Int.gcd a b = 1) : Int.gcd (a * a) (b * b) = 1 := by
  have h1 : Nat.Coprime a.natAbs b.natAbs := h
  show Nat.gcd (a * a).natAbs (b * b).natAbs = 1
  rw [Int.natAbs_mul, Int.natAbs_mul]
  exact Nat.Coprime.mul_left (Nat.Coprime.mul_right h1 h1) (Nat.Coprime.mul_right h1 h1)
theorem timesF_sq {p : F2} (hp : fit2 p) : timesF p p = (p.1 * p.1, p.2 * p.2) :=
  frP_is (mul_ne0 hp.ne hp.ne) ⟨Int.mul_pos hp.1 hp.1, gcd_sq hp.2⟩ rfl
/-- sizes -/
def szF (n : Nat) (p : F2) : Prop := p.1.natAbs < 2 ^ n ∧ p.2.natAbs < 2 ^ n
theorem frP_sz {t b : Int} {n : Nat} (h : b ≠ 0) (h1 : t.natAbs < 2 ^ n) (h2 : b.natAbs < 2 ^ n) : szF n (frP t b) :=
  ⟨Nat.lt_of_le_of_lt (frN_le h) h1, Nat.lt_of_le_of_lt (frM_le h) h2⟩
theorem pow_two_add {a n : Nat} (h : a < 2 ^ n) (k : a < 2 ^ n) : a + a < 2 ^ (n + 1) := by rw [Nat.pow_succ]; omega
theorem abs_add_lt {x y : Int} {n : Nat} (hx : x.natAbs < 2 ^ n) (hy : y.natAbs < 2 ^ n) : (x + y).natAbs < 2 ^ (n + 1) := by rw [Nat.pow_succ]; omega
theorem abs_sub_lt {x y : Int} {n : Nat} (hx : x.natAbs < 2 ^ n) (hy : y.natAbs < 2 ^ n) : (x - y).natAbs < 2 ^ (n + 1) := by rw [Nat.pow_succ]; omega
section
variable {p q : F2} {a b : Nat}
theorem sumF_sz (hp : fit2 p) (hq : fit2 q) (h1 : szF a p) (h2 : szF b q) : szF (a + b + 1) (sumF p q) :=
  frP_sz (mul_ne0 hp.ne hq.ne) (abs_add_lt (abs_mul_lt h1.1 h2.2 (Nat.le_refl _)) (abs_mul_lt h2.1 h1.2 (by omega))) (abs_mul_lt h1.2 h2.2 (by omega))
theorem lessF_sz (hp : fit2 p) (hq : fit2 q) (h1 : szF a p) (h2 : szF b q) : szF (a + b + 1) (lessF p q) :=
  frP_sz (mul_ne0 hp.ne hq.ne) (abs_sub_lt (abs_mul_lt h1.1 h2.2 (Nat.le_refl _)) (abs_mul_lt h2.1 h1.2 (by omega))) (abs_mul_lt h1.2 h2.2 (by omega))
theorem timesF_sz (hp : fit2 p) (hq : fit2 q) (h1 : szF a p) (h2 : szF b q) : szF (a + b + 1) (timesF p q) :=
  frP_sz (mul_ne0 hp.ne hq.ne) (abs_mul_lt h1.1 h2.1 (by omega)) (abs_mul_lt h1.2 h2.2 (by omega))
theorem byF_sz (hp : fit2 p) (hq : q.1 ≠ 0) (h1 : szF a p) (h2 : szF b q) : szF (a + b + 1) (byF p q) :=
  frP_sz (mul_ne0 hp.ne hq) (abs_mul_lt h1.1 h2.2 (by omega)) (abs_mul_lt h1.2 h2.1 (by omega))
theorem szF.s1 (h : szF a p) (k : a ≤ 3900) : sz p.1 := sz_of h.1 k
theorem szF.s2 (h : szF a p) (k : a ≤ 3900) : sz p.2 := sz_of h.2 k
theorem szF.up (h : szF a p) (k : a ≤ b) : szF b p := ⟨abs_up h.1 k, abs_up h.2 k⟩
end
/-- no square is the double of one -/
theorem no_double : ∀ (n a b : Nat), b < n → a * a = 2 * (b * b) → b = 0
  | 0, _, _, h, _ => by omega
  | n + 1, a, b, h, e => by
    rcases Nat.eq_zero_or_pos b with z | z
    · exact z
    exfalso
    have ha : a % 2 = 0 := by
      rcases Nat.mod_two_eq_zero_or_one a with h | h
      · exact h
      · have : a * a % 2 = 1 := by rw [Nat.mul_mod, h]
        omega
    obtain ⟨c, rfl⟩ : ∃ c, a = 2 * c := ⟨a / 2, by omega⟩
    have e2 : b * b = 2 * (c * c) := by
      have : 2 * c * (2 * c) = 4 * (c * c) := by grind
      omega
    have hc : c < b := by
      rcases Nat.lt_or_ge c b with y | y
      · exact y
      · have : b * b ≤ c * c := Nat.mul_le_mul y y
        have : 0 < b * b := Nat.mul_pos z z
        omega
    have := no_double n b c (by omega) e2
    subst this
    have : 0 < b * b := Nat.mul_pos z z
    omega
/-- twice a square is no square, among fractions -/
theorem no_root2 {p : F2} (hp : fit2 p) (h : p.1 ≠ 0) {r s : Int} (h1 : r * r = (timesF (timesF p p) (2, 1)).1) (h2 : s * s = (timesF (timesF p p) (2, 1)).2) : False := by
  have f2 : fit2 (2, 1) := ⟨by decide, by decide⟩
  have fs := timesF_fit hp hp
  have ft := timesF_fit fs f2
  have e := timesF_x fs f2
  have e2 := timesF_sq hp
  rw [← h1, ← h2] at e
  rw [e2] at e
  have hs : s ≠ 0 := by
    rintro rfl
    have := ft.1
    omega
  simp only at e
  have k : (r * p.2).natAbs * (r * p.2).natAbs = 2 * ((p.1 * s).natAbs * (p.1 * s).natAbs) := by
    rw [← Int.natAbs_mul, ← Int.natAbs_mul]
    have : r * p.2 * (r * p.2) = 2 * (p.1 * s * (p.1 * s)) := by grind
    rw [this, Int.natAbs_mul]
    rfl
  have := no_double _ _ _ (Nat.lt_succ_self _) k
  have := mul_ne0 h hs
  omega
end Dl

/-! The data layer, part N: rows of whole numbers kept (without a common divisor, the first that isn't 0 above 0). -/
namespace Dl
open PySem L2 PyProof.Rows
abbrev scl (s : Int) (ns : List Int) : List Int := ns.map (s * ·)
def allZ (ns : List Int) : Prop := ∀ n ∈ ns, n = 0
theorem gcd_fold (ns : List Int) : ∀ g : Nat, ∃ k : Nat, ns.foldl (fun g n => ((Int.gcd g n : Nat) : Int)) (g : Int) = (k : Int) ∧ (k : Int) ∣ (g : Int) ∧ (∀ n ∈ ns, (k : Int) ∣ n) ∧ ∀ d : Int, d ∣ (g : Int) → (∀ n ∈ ns, d ∣ n) → d ∣ (k : Int) := by
  induction ns with
  | nil => intro g; exact ⟨g, rfl, Int.dvd_refl _, fun _ h => (List.not_mem_nil h).elim, fun d h _ => h⟩
  | cons n ns ih =>
    intro g
    obtain ⟨k, e, d1, d2, d3⟩ := ih (Int.gcd g n)
    refine ⟨k, e, Int.dvd_trans d1 (Int.gcd_dvd_left ..), fun m hm => ?_, fun d h1 h2 => d3 d (Int.dvd_coe_gcd h1 (h2 n List.mem_cons_self)) fun m hm => h2 m (List.mem_cons_of_mem _ hm)⟩
    rcases List.mem_cons.mp hm with rfl | hm
    · exact Int.dvd_trans d1 (Int.gcd_dvd_right ..)
    · exact d2 m hm
theorem gcdL_nat (ns : List Int) : ∃ k : Nat, gcdL ns = (k : Int) := by
  obtain ⟨k, e, _⟩ := gcd_fold ns 0
  exact ⟨k, e⟩
theorem gcdL_nonneg (ns : List Int) : 0 ≤ gcdL ns := by obtain ⟨k, e⟩ := gcdL_nat ns; omega
theorem gcdL_dvd {ns : List Int} {n : Int} (h : n ∈ ns) : gcdL ns ∣ n := by
  obtain ⟨k, e, _, d2, _⟩ := gcd_fold ns 0
  rw [show gcdL ns = (k : Int) from e]; exact d2 n h
theorem dvd_gcdL {ns : List Int} {d : Int} (h : ∀ n ∈ ns, d ∣ n) : d ∣ gcdL ns := by
  obtain ⟨k, e, _, _, d3⟩ := gcd_fold ns 0
  rw [show gcdL ns = (k : Int) from e]; exact d3 d (Int.dvd_zero d) h
theorem gcdL_ne {ns : List Int} (h : ¬ allZ ns) : gcdL ns ≠ 0 := fun e => h fun n hn => by
  have := gcdL_dvd hn
  rw [e] at this
  exact Int.zero_dvd.mp this
theorem gcdL_scl (s : Int) (ns : List Int) : gcdL (scl s ns) = (s.natAbs : Nat) * gcdL ns := by
  have h1 : ((s.natAbs : Nat) : Int) * gcdL ns ∣ gcdL (scl s ns) := by
    refine dvd_gcdL fun n hn => ?_
    obtain ⟨m, hm, rfl⟩ := List.mem_map.mp hn
    exact Int.mul_dvd_mul (by rw [Int.natAbs_dvd]; exact Int.dvd_refl _) (gcdL_dvd hm)
  have h2 : gcdL (scl s ns) ∣ ((s.natAbs : Nat) : Int) * gcdL ns := by
    by_cases hs : s = 0
    · subst hs; simp
    · obtain ⟨t, ht⟩ : ((s.natAbs : Nat) : Int) ∣ gcdL (scl s ns) := dvd_gcdL fun n hn => by
        obtain ⟨m, hm, rfl⟩ := List.mem_map.mp hn
        rw [Int.natAbs_dvd]; exact Int.dvd_mul_right ..
      rw [ht]
      refine Int.mul_dvd_mul (Int.dvd_refl _) (dvd_gcdL fun n hn => ?_)
      have : gcdL (scl s ns) ∣ s * n := gcdL_dvd (List.mem_map.mpr ⟨n, hn, rfl⟩)
      rw [ht] at this
      have h3 : s * t ∣ s * n := by
        refine Int.dvd_trans (Int.mul_dvd_mul ?_ (Int.dvd_refl t)) this
        rw [Int.dvd_natAbs]; exact Int.dvd_refl _
      exact Int.dvd_of_mul_dvd_mul_left hs h3
  exact Int.dvd_antisymm (gcdL_nonneg _) (Int.mul_nonneg (by omega) (gcdL_nonneg _)) h2 h1
/-- the first number that isn't 0 -/
def fst0 : List Int → Int
  | [] => 0
  | n :: r => if n = 0 then fst0 r else n
def turnT : List Int → List Int → List Int
  | [], w => w
  | n :: r, w => if 0 < n then w else if n < 0 then w.map (0 - ·) else turnT r w
theorem turnT_eq (w : List Int) : ∀ ns : List Int, turnT ns w = if fst0 ns < 0 then scl (-1) w else w
  | [] => by simp [turnT, fst0]
  | n :: r => by
    have e : w.map (0 - ·) = scl (-1) w := by
      refine List.map_congr_left fun x _ => ?_
      omega
    unfold turnT fst0
    by_cases h0 : n = 0
    · subst h0; simp [turnT_eq w r]
    · by_cases h1 : 0 < n
      · have : ¬ n < 0 := by omega
        simp [h0, h1, this]
      · have : n < 0 := by omega
        simp only [h0, h1, this, if_true, if_false, e]
theorem fst0_scl {s : Int} (hs : s ≠ 0) : ∀ ns : List Int, fst0 (scl s ns) = s * fst0 ns
  | [] => by simp [fst0]
  | n :: r => by
    by_cases h : n = 0
    · subst h; simp [fst0, fst0_scl hs r]
    · have : s * n ≠ 0 := mul_ne0 hs h
      simp [fst0, h, this]
theorem fst0_ne {ns : List Int} (h : ¬ allZ ns) : fst0 ns ≠ 0 := by
  induction ns with
  | nil => exact absurd (fun _ z => by cases z) h
  | cons n r ih =>
    unfold fst0
    split
    · rename_i h0
      subst h0
      refine ih fun z => h fun m hm => ?_
      rcases List.mem_cons.mp hm with rfl | hm
      · rfl
      · exact z m hm
    · assumption
def keptL (ns : List Int) : List Int := turnT (ns.map (·.fdiv (gcdL ns))) (ns.map (·.fdiv (gcdL ns)))
/-- kept: without a common divisor, the first that isn't 0 above 0 -/
def nrm (ms : List Int) : Prop := gcdL ms = 1 ∧ 0 < fst0 ms
theorem scl_scl (a b : Int) (ns : List Int) : scl a (scl b ns) = scl (a * b) ns := by
  simp [scl, Int.mul_assoc]
theorem scl_one (ns : List Int) : scl 1 ns = ns := by simp [scl]
theorem fdiv_scl {ns : List Int} (h : gcdL ns ≠ 0) : scl (gcdL ns) (ns.map (·.fdiv (gcdL ns))) = ns := by
  unfold scl
  rw [List.map_map]
  conv => rhs; rw [← List.map_id ns]
  refine List.map_congr_left fun n hn => ?_
  exact Int.mul_fdiv_cancel_of_dvd (gcdL_dvd hn)
theorem scl_inj {s : Int} (hs : s ≠ 0) {a b : List Int} (e : scl s a = scl s b) : a = b := by
  induction a generalizing b with
  | nil => cases b with
    | nil => rfl
    | cons _ _ => simp [scl] at e
  | cons x a ih => cases b with
    | nil => simp [scl] at e
    | cons y b =>
      simp only [scl, List.map_cons, List.cons.injEq] at e
      rw [Int.eq_of_mul_eq_mul_left hs e.1, ih e.2]
/-- what keeping does -/
theorem keptL_is {ns : List Int} (h : ¬ allZ ns) : ∃ g : Int, g ≠ 0 ∧ ns = scl g (keptL ns) ∧ nrm (keptL ns) := by
  have hg := gcdL_ne h
  have hg0 := gcdL_nonneg ns
  have e := fdiv_scl hg
  unfold keptL
  generalize ns.map (·.fdiv (gcdL ns)) = ms at *
  have g1 : gcdL ms = 1 := by
    have := gcdL_scl (gcdL ns) ms
    rw [e] at this
    have e2 : ((gcdL ns).natAbs : Int) = gcdL ns := by omega
    rw [e2] at this
    have : gcdL ns * 1 = gcdL ns * gcdL ms := by omega
    exact (Int.eq_of_mul_eq_mul_left hg this).symm
  have hz : ¬ allZ ms := fun z => h (by
    rw [← e]
    intro n hn
    obtain ⟨m, hm, rfl⟩ := List.mem_map.mp hn
    rw [z m hm]; omega)
  have f0 := fst0_ne hz
  rw [turnT_eq]
  by_cases hn : fst0 ms < 0
  · rw [if_pos hn]
    refine ⟨-gcdL ns, by omega, ?_, ?_, ?_⟩
    · rw [scl_scl]; rw [show -gcdL ns * -1 = gcdL ns by omega]; exact e.symm
    · rw [gcdL_scl, g1]; rfl
    · rw [fst0_scl (by decide)]; omega
  · rw [if_neg hn]
    exact ⟨gcdL ns, hg, e.symm, g1, by omega⟩
theorem nrm_ne {ms : List Int} (h : nrm ms) : ¬ allZ ms := fun z => by
  have h1 : ∀ ms : List Int, allZ ms → fst0 ms = 0 := by
    intro ms
    induction ms with
    | nil => intro _; rfl
    | cons n r ih =>
      intro z
      unfold fst0
      rw [if_pos (z n List.mem_cons_self)]
      exact ih fun m hm => z m (List.mem_cons_of_mem _ hm)
  have := h1 ms z
  have := h.2
  omega
/-- two kept rows of which one is so many times the other are the same -/
theorem nrm_inj {a b : List Int} {p q : Int} (ha : nrm a) (hb : nrm b) (hp : p ≠ 0) (hq : q ≠ 0) (e : scl p a = scl q b) : a = b := by
  have h1 : p.natAbs = q.natAbs := by
    have := congrArg gcdL e
    rw [gcdL_scl, gcdL_scl, ha.1, hb.1] at this
    omega
  rcases Int.natAbs_eq_natAbs_iff.mp h1 with h | h
  · subst h; exact scl_inj hp e
  · subst h
    have h2 := congrArg fst0 e
    rw [fst0_scl hp, fst0_scl hq] at h2
    have h3 := ha.2
    have h4 := hb.2
    exfalso
    generalize fst0 a = x at *
    generalize fst0 b = y at *
    have : q * (x + y) = 0 := by rw [Int.mul_add]; have : -q * x = -(q * x) := Int.neg_mul ..; omega
    rcases Int.mul_eq_zero.mp this with z | z <;> omega
theorem keptL_scl {s : Int} {v : List Int} (hs : s ≠ 0) (h : ¬ allZ v) : keptL (scl s v) = keptL v := by
  obtain ⟨g, g0, e, n⟩ := keptL_is h
  have h2 : ¬ allZ (scl s v) := fun z => h fun m hm => by
    have := z (s * m) (List.mem_map.mpr ⟨m, hm, rfl⟩)
    rcases Int.mul_eq_zero.mp this with y | y
    · exact absurd y hs
    · exact y
  obtain ⟨g', g0', e', n'⟩ := keptL_is h2
  refine nrm_inj n' n g0' (mul_ne0 hs g0) ?_
  rw [← e', ← scl_scl, ← e]
theorem keptL_nrm {v : List Int} (h : nrm v) : keptL v = v := by
  obtain ⟨g, g0, e, n⟩ := keptL_is (nrm_ne h)
  exact nrm_inj n h g0 (show (1 : Int) ≠ 0 by decide) (by rw [← e, scl_one])
/-- of two rows with a common multiple the kept ones are the same -/
theorem keptL_eq {v w : List Int} {p q : Int} (hv : ¬ allZ v) (hw : ¬ allZ w) (hp : p ≠ 0) (hq : q ≠ 0) (e : scl p v = scl q w) : keptL v = keptL w := by
  rw [← keptL_scl hp hv, ← keptL_scl hq hw, e]
theorem keptL_len (ns : List Int) : (keptL ns).length = ns.length := by
  unfold keptL
  rw [turnT_eq]
  split <;> simp [scl]
/-- a tuple of whole numbers -/
abbrev tN (ns : List Int) : D := .tup (ns.map .int)
def isNum : D → Bool
  | .int _ => true
  | _ => false
theorem fit_up : ∀ (n m : Nat) (d : D), n ≤ m → fit n d = true → fit m d = true
  | n, m, .non, _, _ => fit_non m
  | n, m, .bl b, _, _ => fit_bl m b
  | n, m, .int i, _, _ => fit_int m i
  | n, m, .str x, _, h => by rw [fit_str] at h ⊢; exact h
  | n + 1, m + 1, .tup xs, l, h => by
    rw [fit_tup] at h ⊢
    exact List.all_eq_true.mpr fun x hx => fit_up n m x (by omega) (List.all_eq_true.mp h x hx)
  | n + 1, m + 1, .lst xs, l, h => by
    rw [fit_lst] at h ⊢
    exact List.all_eq_true.mpr fun x hx => fit_up n m x (by omega) (List.all_eq_true.mp h x hx)
  | 0, m, .tup xs, l, h => by simp [fit] at h
  | 0, m, .lst xs, l, h => by simp [fit] at h
  | n + 1, 0, .tup xs, l, h => by omega
  | n + 1, 0, .lst xs, l, h => by omega
  | n, m, .exc c, _, h => by cases n <;> simp [fit] at h
  | n, m, .ref c, _, h => by cases n <;> simp [fit] at h
  | n, m, .dct _ _, _, h => by cases n <;> simp [fit] at h
theorem fit_tN (n : Nat) (ns : List Int) : fit (n + 1) (tN ns) = true := by
  rw [fit_tup]
  exact List.all_eq_true.mpr fun x hx => by obtain ⟨i, _, rfl⟩ := List.mem_map.mp hx; exact fit_int n i
theorem deq_tN : ∀ a b : List Int, deq (tN a) (tN b) = (a == b)
  | [], [] => by rw [deq_tup]; simp [ea_nil]
  | [], _ :: _ => by rw [deq_tup]; simp [ea_nc]
  | _ :: _, [] => by rw [deq_tup]; simp [ea_cn]
  | x :: a, y :: b => by
    have h := deq_tN a b
    rw [deq_tup] at h ⊢
    rw [List.map_cons, List.map_cons, ea_cons, h, deq_int]
    rfl
theorem intsD_map : ∀ ns : List Int, intsD (ns.map .int) = some ns
  | [] => rfl
  | n :: ns => by simp [intsD, intsD_map ns]
theorem intsD_of : ∀ (ds : List D) (ns : List Int), intsD ds = some ns → ds = ns.map .int
  | [], ns, h => by simp [intsD] at h; subst h; rfl
  | .int i :: ds, ns, h => by
    simp only [intsD, Option.map_eq_some_iff] at h
    obtain ⟨ms, h1, rfl⟩ := h
    rw [intsD_of ds ms h1]; rfl
  | .non :: _, _, h => by simp [intsD] at h
  | .bl _ :: _, _, h => by simp [intsD] at h
  | .str _ :: _, _, h => by simp [intsD] at h
  | .tup _ :: _, _, h => by simp [intsD] at h
  | .lst _ :: _, _, h => by simp [intsD] at h
  | .exc _ :: _, _, h => by simp [intsD] at h
  | .ref _ :: _, _, h => by simp [intsD] at h
  | .dct _ _ :: _, _, h => by simp [intsD] at h
theorem intsD_all : ∀ ds : List D, ds.all isNum = (intsD ds).isSome
  | [] => rfl
  | .int i :: ds => by simp [intsD, isNum, intsD_all ds]
  | .non :: _ => by simp [intsD, isNum]
  | .bl _ :: _ => by simp [intsD, isNum]
  | .str _ :: _ => by simp [intsD, isNum]
  | .tup _ :: _ => by simp [intsD, isNum]
  | .lst _ :: _ => by simp [intsD, isNum]
  | .exc _ :: _ => by simp [intsD, isNum]
  | .ref _ :: _ => by simp [intsD, isNum]
  | .dct _ _ :: _ => by simp [intsD, isNum]
theorem blsD_map (g : D → Bool) : ∀ L : List D, blsD (L.map fun d => .bl (g d)) = some (L.map g)
  | [] => rfl
  | _ :: L => by simp [blsD, blsD_map g L]
/-- a tuple of n whole numbers -/
def rowOf (n : Nat) : D → Option (List Int)
  | .tup ds => (intsD ds).bind fun ns => if ns.length = n then some ns else none
  | _ => none
theorem rowOf_tN (ns : List Int) : rowOf ns.length (tN ns) = some ns := by simp [rowOf, intsD_map]
theorem rowOf_is {n : Nat} {d : D} {ns : List Int} (h : rowOf n d = some ns) : d = tN ns ∧ ns.length = n := by
  cases d <;> first | (simp [rowOf] at h; done) | skip
  rename_i ds
  simp only [rowOf, Option.bind_eq_some_iff] at h
  obtain ⟨ms, h1, h2⟩ := h
  split at h2
  · cases h2
    rename_i hl
    rw [intsD_of ds ns h1]
    exact ⟨rfl, hl⟩
  · cases h2
def zer (n : Nat) : List Int := List.replicate n 0
theorem zer_iff {n : Nat} {ns : List Int} (h : ns.length = n) : ns = zer n ↔ allZ ns := by
  subst h
  constructor
  · intro e x hx
    rw [e] at hx
    exact (List.mem_replicate.mp hx).2
  · intro z
    exact List.eq_replicate_iff.mpr ⟨rfl, z⟩
def areRow (n : Nat) (d : D) : Bool := match rowOf n d with
  | some ns => !(ns == zer n)
  | none => false
def isRow (n : Nat) (d : D) : Bool := match rowOf n d with
  | some ns => !(ns == zer n) && (keptL ns == ns)
  | none => false
theorem areRow_is {n : Nat} {d : D} (h : areRow n d = true) : ∃ ns, d = tN ns ∧ ns.length = n ∧ ¬ allZ ns := by
  unfold areRow at h
  cases e : rowOf n d with
  | none => rw [e] at h; cases h
  | some ns =>
    rw [e] at h
    obtain ⟨a, b⟩ := rowOf_is e
    refine ⟨ns, a, b, fun z => ?_⟩
    rw [(zer_iff b).mpr z] at h
    simp at h
theorem areRow_of {n : Nat} {ns : List Int} (h : ns.length = n) (hz : ¬ allZ ns) : areRow n (tN ns) = true := by
  subst h
  unfold areRow
  rw [rowOf_tN]
  have : ns ≠ zer ns.length := fun e => hz ((zer_iff rfl).mp e)
  simp [this]
theorem isRow_is {n : Nat} {d : D} (h : isRow n d = true) : ∃ ns, d = tN ns ∧ ns.length = n ∧ nrm ns := by
  unfold isRow at h
  cases e : rowOf n d with
  | none => rw [e] at h; cases h
  | some ns =>
    rw [e] at h
    obtain ⟨a, b⟩ := rowOf_is e
    simp only [Bool.and_eq_true, Bool.not_eq_true', beq_eq_false_iff_ne, beq_iff_eq] at h
    have hz : ¬ allZ ns := fun z => h.1 ((zer_iff b).mpr z)
    obtain ⟨g, _, _, k⟩ := keptL_is hz
    rw [h.2] at k
    exact ⟨ns, a, b, k⟩
theorem isRow_of {n : Nat} {ns : List Int} (h : ns.length = n) (k : nrm ns) : isRow n (tN ns) = true := by
  subst h
  unfold isRow
  rw [rowOf_tN]
  have : ns ≠ zer ns.length := fun e => nrm_ne k ((zer_iff rfl).mp e)
  simp [this, keptL_nrm k]
theorem isRow_eq {n : Nat} {ns : List Int} (h : ns.length = n) (hz : ¬ allZ ns) : isRow n (tN ns) = (keptL ns == ns) := by
  subst h
  unfold isRow
  rw [rowOf_tN]
  have : ns ≠ zer ns.length := fun e => hz ((zer_iff rfl).mp e)
  simp [this]
theorem isRow_are {n : Nat} {d : D} (h : areRow n d = false) : isRow n d = false := by
  unfold areRow at h
  unfold isRow
  cases e : rowOf n d with
  | none => rfl
  | some ns => rw [e] at h; simp only at h ⊢; rw [h]; rfl
/-- sizes of a row -/
def szL (b : Nat) (ns : List Int) : Prop := ∀ n ∈ ns, n.natAbs < 2 ^ b
theorem szL_gcd {b : Nat} {ns : List Int} (h : szL b ns) (hz : ¬ allZ ns) : (gcdL ns).natAbs < 2 ^ b := by
  have : ∃ n ∈ ns, n ≠ 0 := Classical.byContradiction fun z => hz fun n hn => Classical.byContradiction fun y => z ⟨n, hn, y⟩
  obtain ⟨n, hn, n0⟩ := this
  have h1 := Int.natAbs_dvd_natAbs.mpr (gcdL_dvd hn)
  exact Nat.lt_of_le_of_lt (Nat.le_of_dvd (by omega) h1) (h n hn)
theorem szL_up {a b : Nat} {ns : List Int} (h : szL a ns) (l : a ≤ b) : szL b ns := fun n hn => abs_up (h n hn) l
theorem szL_kept {b : Nat} {ns : List Int} (h : szL b ns) (hz : ¬ allZ ns) : szL b (keptL ns) := by
  obtain ⟨g, g0, e, _⟩ := keptL_is hz
  intro n hn
  have : g * n ∈ ns := by rw [e]; exact List.mem_map.mpr ⟨n, hn, rfl⟩
  exact Nat.lt_of_le_of_lt (natAbs_le_of_mul g0 rfl) (h _ this)
/-! ### triples -/
/-- the row of the three crosswise differences -/
def crs : List Int → List Int → List Int
  | [a, b, c], [x, y, z] => [b * z - c * y, c * x - a * z, a * y - b * x]
  | _, _ => []
def dot : List Int → List Int → Int
  | a :: r, b :: s => a * b + dot r s
  | _, _ => 0
theorem len3 {ns : List Int} (h : ns.length = 3) : ∃ a b c, ns = [a, b, c] := by
  match ns, h with
  | [a, b, c], _ => exact ⟨a, b, c, rfl⟩
theorem crs_len {u v : List Int} (hu : u.length = 3) (hv : v.length = 3) : (crs u v).length = 3 := by
  obtain ⟨a, b, c, rfl⟩ := len3 hu
  obtain ⟨x, y, z, rfl⟩ := len3 hv
  rfl
theorem allZ3 {a b c : Int} : allZ [a, b, c] ↔ a = 0 ∧ b = 0 ∧ c = 0 := by
  unfold allZ; simp
/-- two kept triples whose crosswise differences are all 0 are the same -/
theorem crs_zero {u v : List Int} (hu : u.length = 3) (hv : v.length = 3) (nu : nrm u) (nv : nrm v) (h : allZ (crs u v)) : u = v := by
  obtain ⟨a, b, c, rfl⟩ := len3 hu
  obtain ⟨x, y, z, rfl⟩ := len3 hv
  obtain ⟨h1, h2, h3⟩ := allZ3.mp h
  have nz := nrm_ne nu
  have mz := nrm_ne nv
  rw [allZ3] at nz mz
  have key : ∀ p q : Int, p ≠ 0 → x * p = a * q → y * p = b * q → z * p = c * q → [a, b, c] = [x, y, z] := by
    intro p q hp e1 e2 e3
    have hq : q ≠ 0 := by
      rintro rfl
      apply mz
      refine ⟨?_, ?_, ?_⟩
      · exact (Int.mul_eq_zero.mp (by omega : x * p = 0)).resolve_right hp
      · exact (Int.mul_eq_zero.mp (by omega : y * p = 0)).resolve_right hp
      · exact (Int.mul_eq_zero.mp (by omega : z * p = 0)).resolve_right hp
    refine nrm_inj nu nv hq hp ?_
    simp only [scl, List.map_cons, List.map_nil]
    rw [Int.mul_comm q a, Int.mul_comm q b, Int.mul_comm q c, Int.mul_comm p x, Int.mul_comm p y, Int.mul_comm p z, e1, e2, e3]
  by_cases ha : a = 0
  · by_cases hb : b = 0
    · have hc : c ≠ 0 := fun hc => nz ⟨ha, hb, hc⟩
      refine key c z hc (by grind) (by grind) (by grind)
    · refine key b y hb (by grind) (by grind) (by grind)
  · refine key a x ha (by grind) (by grind) (by grind)
theorem szL3 {n : Nat} {a b c : Int} : szL n [a, b, c] ↔ a.natAbs < 2 ^ n ∧ b.natAbs < 2 ^ n ∧ c.natAbs < 2 ^ n := by
  unfold szL; simp
theorem crs_sz {m n : Nat} {u v : List Int} (hu : u.length = 3) (hv : v.length = 3) (su : szL m u) (sv : szL n v) : szL (m + n + 1) (crs u v) := by
  obtain ⟨a, b, c, rfl⟩ := len3 hu
  obtain ⟨x, y, z, rfl⟩ := len3 hv
  obtain ⟨a1, a2, a3⟩ := szL3.mp su
  obtain ⟨b1, b2, b3⟩ := szL3.mp sv
  refine szL3.mpr ⟨abs_sub_lt ?_ ?_, abs_sub_lt ?_ ?_, abs_sub_lt ?_ ?_⟩ <;> exact abs_mul_lt (by assumption) (by assumption) (Nat.le_refl _)
theorem dot_crs {u v : List Int} (hu : u.length = 3) (hv : v.length = 3) : dot u (crs u v) = 0 ∧ dot v (crs u v) = 0 := by
  obtain ⟨a, b, c, rfl⟩ := len3 hu
  obtain ⟨x, y, z, rfl⟩ := len3 hv
  simp only [dot, crs]
  constructor <;> grind
theorem dot_scl (s : Int) : ∀ u v : List Int, dot u (scl s v) = s * dot u v
  | [], _ => by simp [dot]
  | _ :: _, [] => by simp [dot]
  | a :: u, b :: v => by
    have h := dot_scl s u v
    simp only [scl, List.map_cons, dot] at h ⊢
    rw [h]; grind
theorem dot_comm : ∀ u v : List Int, dot u v = dot v u
  | [], [] => rfl
  | [], _ :: _ => by simp [dot]
  | _ :: _, [] => by simp [dot]
  | a :: u, b :: v => by simp only [dot]; rw [dot_comm u v, Int.mul_comm]
theorem dot_kept {u v : List Int} (hz : ¬ allZ v) : dot u (keptL v) = 0 ↔ dot u v = 0 := by
  obtain ⟨g, g0, e, _⟩ := keptL_is hz
  constructor
  · intro h; rw [e, dot_scl, h]; omega
  · intro h
    rw [e, dot_scl] at h
    exact (Int.mul_eq_zero.mp h).resolve_left g0
end Dl

/-! The data layer, part O: points and lines, plain. -/
namespace Dl
open PySem L2 PyProof.Rows
/-- the kept row of the crosswise differences -/
def jn (u v : List Int) : List Int := keptL (crs u v)
def lin (h t : Int) (u v : List Int) : List Int := List.zipWith (fun a x => h * a + t * x) u v
theorem lin_len {h t : Int} {u v : List Int} (hu : u.length = 3) (hv : v.length = 3) : (lin h t u v).length = 3 := by
  simp [lin, hu, hv]
theorem scl_len (s : Int) (u : List Int) : (scl s u).length = u.length := by simp [scl]
theorem allZ_scl {s : Int} {u : List Int} (hs : s ≠ 0) : allZ (scl s u) ↔ allZ u := by
  constructor
  · intro z m hm
    have := z (s * m) (List.mem_map.mpr ⟨m, hm, rfl⟩)
    exact (Int.mul_eq_zero.mp this).resolve_left hs
  · intro z m hm
    obtain ⟨x, hx, rfl⟩ := List.mem_map.mp hm
    rw [z x hx]; omega
theorem allZ_scl0 {s : Int} {u : List Int} (h : ¬ allZ (scl s u)) : s ≠ 0 := fun e => h fun m hm => by
  obtain ⟨x, hx, rfl⟩ := List.mem_map.mp hm
  rw [e]; omega
section
variable {u v w : List Int} (hu : u.length = 3) (hv : v.length = 3) (hw : w.length = 3)
include hu hv in
theorem crs_comm : crs v u = scl (-1) (crs u v) := by
  obtain ⟨a, b, c, rfl⟩ := len3 hu
  obtain ⟨x, y, z, rfl⟩ := len3 hv
  simp only [crs, scl, List.map_cons, List.map_nil, List.cons.injEq, and_true]
  refine ⟨?_, ?_, ?_⟩ <;> grind
include hu hv in
theorem crs_sclr (s : Int) : crs u (scl s v) = scl s (crs u v) := by
  obtain ⟨a, b, c, rfl⟩ := len3 hu
  obtain ⟨x, y, z, rfl⟩ := len3 hv
  simp only [crs, scl, List.map_cons, List.map_nil, List.cons.injEq, and_true]
  refine ⟨?_, ?_, ?_⟩ <;> grind
include hu hv in
theorem crs_scll (s : Int) : crs (scl s u) v = scl s (crs u v) := by
  obtain ⟨a, b, c, rfl⟩ := len3 hu
  obtain ⟨x, y, z, rfl⟩ := len3 hv
  simp only [crs, scl, List.map_cons, List.map_nil, List.cons.injEq, and_true]
  refine ⟨?_, ?_, ?_⟩ <;> grind
include hu hv in
theorem crs_linr (h t : Int) : crs u (lin h t u v) = scl t (crs u v) := by
  obtain ⟨a, b, c, rfl⟩ := len3 hu
  obtain ⟨x, y, z, rfl⟩ := len3 hv
  simp only [lin, List.zipWith, crs, scl, List.map_cons, List.map_nil, List.cons.injEq, and_true]
  refine ⟨?_, ?_, ?_⟩ <;> grind
include hu hv in
theorem crs_linl (h t : Int) : crs (lin h t u v) v = scl h (crs u v) := by
  obtain ⟨a, b, c, rfl⟩ := len3 hu
  obtain ⟨x, y, z, rfl⟩ := len3 hv
  simp only [lin, List.zipWith, crs, scl, List.map_cons, List.map_nil, List.cons.injEq, and_true]
  refine ⟨?_, ?_, ?_⟩ <;> grind
include hu hv hw in
theorem dot_lin (h t : Int) : dot (lin h t u v) w = h * dot u w + t * dot v w := by
  obtain ⟨a, b, c, rfl⟩ := len3 hu
  obtain ⟨x, y, z, rfl⟩ := len3 hv
  obtain ⟨p, q, r, rfl⟩ := len3 hw
  simp only [lin, List.zipWith, dot]
  grind
include hu hv hw in
theorem crs_crs1 : crs (crs u v) (crs u w) = scl (dot w (crs u v)) u := by
  obtain ⟨a, b, c, rfl⟩ := len3 hu
  obtain ⟨x, y, z, rfl⟩ := len3 hv
  obtain ⟨p, q, r, rfl⟩ := len3 hw
  simp only [crs, dot, scl, List.map_cons, List.map_nil, List.cons.injEq, and_true]
  refine ⟨?_, ?_, ?_⟩ <;> grind
include hu hv hw in
theorem crs_crs2 : crs (crs v w) (crs u v) = scl (-dot w (crs u v)) v := by
  obtain ⟨a, b, c, rfl⟩ := len3 hu
  obtain ⟨x, y, z, rfl⟩ := len3 hv
  obtain ⟨p, q, r, rfl⟩ := len3 hw
  simp only [crs, dot, scl, List.map_cons, List.map_nil, List.cons.injEq, and_true]
  refine ⟨?_, ?_, ?_⟩ <;> grind
include hu hv hw in
theorem crs_crs3 : crs (crs u w) (crs v w) = scl (dot w (crs u v)) w := by
  obtain ⟨a, b, c, rfl⟩ := len3 hu
  obtain ⟨x, y, z, rfl⟩ := len3 hv
  obtain ⟨p, q, r, rfl⟩ := len3 hw
  simp only [crs, dot, scl, List.map_cons, List.map_nil, List.cons.injEq, and_true]
  refine ⟨?_, ?_, ?_⟩ <;> grind
end
/-- crosswise differences of kept rows, from those of the rows -/
theorem crs_kept {a b : List Int} (ha : a.length = 3) (hb : b.length = 3) (za : ¬ allZ a) (zb : ¬ allZ b) : ∃ g : Int, g ≠ 0 ∧ crs a b = scl g (crs (keptL a) (keptL b)) := by
  obtain ⟨g, g0, e, _⟩ := keptL_is za
  obtain ⟨k, k0, e', _⟩ := keptL_is zb
  have la : (keptL a).length = 3 := by rw [keptL_len]; exact ha
  have lb : (keptL b).length = 3 := by rw [keptL_len]; exact hb
  refine ⟨g * k, mul_ne0 g0 k0, ?_⟩
  conv => lhs; rw [e, e']
  rw [crs_scll la (by rw [scl_len]; exact lb), crs_sclr la lb, scl_scl]
theorem jn_of {a b e : List Int} {d : Int} (ha : a.length = 3) (hb : b.length = 3) (za : ¬ allZ a) (zb : ¬ allZ b) (d0 : d ≠ 0) (ne : nrm e) (h : crs a b = scl d e) : keptL a ≠ keptL b ∧ jn (keptL a) (keptL b) = e := by
  obtain ⟨g, g0, k⟩ := crs_kept ha hb za zb
  have la : (keptL a).length = 3 := by rw [keptL_len]; exact ha
  have z : ¬ allZ (crs (keptL a) (keptL b)) := fun z => by
    have := (allZ_scl g0).mpr z
    rw [← k, h, allZ_scl d0] at this
    exact nrm_ne ne this
  constructor
  · intro e2
    apply z
    rw [e2]
    obtain ⟨x, y, w, e3⟩ := len3 (by rw [keptL_len]; exact hb : (keptL b).length = 3)
    rw [e3]
    refine allZ3.mpr ⟨?_, ?_, ?_⟩ <;> grind
  · unfold jn
    have := keptL_eq z (nrm_ne ne) g0 d0 (by rw [← k, h])
    rw [this, keptL_nrm ne]
theorem jn_same {a b : List Int} (ha : a.length = 3) (hb : b.length = 3) (za : ¬ allZ a) (zb : ¬ allZ b) (h : allZ (crs a b)) : keptL a = keptL b := by
  obtain ⟨g, g0, k⟩ := crs_kept ha hb za zb
  rw [k, allZ_scl g0] at h
  obtain ⟨_, _, _, n1⟩ := keptL_is za
  obtain ⟨_, _, _, n2⟩ := keptL_is zb
  exact crs_zero (by rw [keptL_len]; exact ha) (by rw [keptL_len]; exact hb) n1 n2 h
/-- a kept triple of a size -/
def tri (b : Nat) (u : List Int) : Prop := u.length = 3 ∧ nrm u ∧ szL b u
theorem tri.up {a b : Nat} {u : List Int} (h : tri a u) (l : a ≤ b) : tri b u := ⟨h.1, h.2.1, szL_up h.2.2 l⟩
theorem tri_kept {b : Nat} {u : List Int} (hl : u.length = 3) (hz : ¬ allZ u) (hs : szL b u) : tri b (keptL u) := by
  obtain ⟨g, _, _, k⟩ := keptL_is hz
  exact ⟨by rw [keptL_len]; exact hl, k, szL_kept hs hz⟩
section
variable {m n k : Nat} {u v w : List Int} (tu : tri m u) (tv : tri n v) (ne : u ≠ v)
include tu tv ne in
theorem tri.crs0 : ¬ allZ (crs u v) := fun z => ne (crs_zero tu.1 tv.1 tu.2.1 tv.2.1 z)
include tu tv ne in
theorem tri.jn : tri (m + n + 1) (jn u v) := tri_kept (crs_len tu.1 tv.1) (tri.crs0 tu tv ne) (crs_sz tu.1 tv.1 tu.2.2 tv.2.2)
include tu tv ne in
theorem jn_comm : Dl.jn v u = Dl.jn u v := by
  unfold Dl.jn
  rw [crs_comm tu.1 tv.1, keptL_scl (by decide) (tri.crs0 tu tv ne)]
include tu tv ne in
theorem on_jn : dot u (Dl.jn u v) = 0 ∧ dot v (Dl.jn u v) = 0 := by
  obtain ⟨a, b⟩ := dot_crs tu.1 tv.1
  exact ⟨(dot_kept (tri.crs0 tu tv ne)).mpr a, (dot_kept (tri.crs0 tu tv ne)).mpr b⟩
include tu tv ne in
theorem on_lin {h t : Int} (hz : ¬ allZ (lin h t u v)) : dot (keptL (lin h t u v)) (Dl.jn u v) = 0 := by
  obtain ⟨a, b⟩ := on_jn tu tv ne
  rw [dot_comm, dot_kept hz, dot_comm, dot_lin tu.1 tv.1 (tri.jn tu tv ne).1, a, b]
  omega
include tu tv ne in
theorem jn_lin1 {h t : Int} (ht : t ≠ 0) (hz : ¬ allZ (lin h t u v)) (hm : keptL (lin h t u v) ≠ u) : Dl.jn u (keptL (lin h t u v)) = Dl.jn u v := by
  have ll := lin_len (h := h) (t := t) tu.1 tv.1
  obtain ⟨g, g0, e, nn⟩ := keptL_is hz
  have lk : (keptL (lin h t u v)).length = 3 := by rw [keptL_len]; exact ll
  have e2 := crs_linr tu.1 tv.1 h t
  rw [e, crs_sclr tu.1 lk] at e2
  exact keptL_eq (fun z => hm (crs_zero tu.1 lk tu.2.1 nn z).symm) (tri.crs0 tu tv ne) g0 ht e2
include tu tv ne in
theorem jn_lin2 {h t : Int} (hz : ¬ allZ (lin h t u v)) (hm : keptL (lin h t u v) ≠ v) : Dl.jn (keptL (lin h t u v)) v = Dl.jn u v := by
  have ll := lin_len (h := h) (t := t) tu.1 tv.1
  obtain ⟨g, g0, e, nn⟩ := keptL_is hz
  have lk : (keptL (lin h t u v)).length = 3 := by rw [keptL_len]; exact ll
  have e2 := crs_linl tu.1 tv.1 h t
  rw [e, crs_scll lk tv.1] at e2
  have z1 : ¬ allZ (crs (keptL (lin h t u v)) v) := fun z => hm (crs_zero lk tv.1 nn tv.2.1 z)
  have h0 : h ≠ 0 := allZ_scl0 (u := crs u v) (by rw [← e2, allZ_scl g0]; exact z1)
  exact keptL_eq z1 (tri.crs0 tu tv ne) g0 h0 e2
variable (tw : tri k w) (nu : w ≠ u) (nv : w ≠ v)
include tu tv ne tw nu nv
/-- a third on the line -/
theorem third_on (h : dot w (Dl.jn u v) = 0) : Dl.jn u w = Dl.jn u v ∧ Dl.jn v w = Dl.jn u v := by
  have c1 := tri.crs0 tu tv ne
  have c2 := tri.crs0 tu tw (Ne.symm nu)
  have c3 := tri.crs0 tv tw (Ne.symm nv)
  have d := (dot_kept c1).mp h
  refine ⟨jn_same (crs_len tu.1 tw.1) (crs_len tu.1 tv.1) c2 c1 ?_, jn_same (crs_len tv.1 tw.1) (crs_len tu.1 tv.1) c3 c1 ?_⟩
  · rw [crs_comm (crs_len tu.1 tv.1) (crs_len tu.1 tw.1), crs_crs1 tu.1 tv.1 tw.1, d, scl_scl]
    intro m hm
    obtain ⟨x, _, rfl⟩ := List.mem_map.mp hm
    omega
  · rw [crs_crs2 tu.1 tv.1 tw.1, d]
    intro m hm
    obtain ⟨x, _, rfl⟩ := List.mem_map.mp hm
    omega
/-- a third beside the line -/
theorem third_off (h : dot w (Dl.jn u v) ≠ 0) : (Dl.jn u v ≠ Dl.jn u w ∧ Dl.jn (Dl.jn u v) (Dl.jn u w) = u) ∧ (Dl.jn v w ≠ Dl.jn u v ∧ Dl.jn (Dl.jn v w) (Dl.jn u v) = v) ∧ (Dl.jn u w ≠ Dl.jn v w ∧ Dl.jn (Dl.jn u w) (Dl.jn v w) = w) := by
  have c1 := tri.crs0 tu tv ne
  have c2 := tri.crs0 tu tw (Ne.symm nu)
  have c3 := tri.crs0 tv tw (Ne.symm nv)
  have d : dot w (crs u v) ≠ 0 := fun e => h ((dot_kept c1).mpr e)
  have l1 := crs_len tu.1 tv.1
  have l2 := crs_len tu.1 tw.1
  have l3 := crs_len tv.1 tw.1
  exact ⟨jn_of l1 l2 c1 c2 d tu.2.1 (crs_crs1 tu.1 tv.1 tw.1), jn_of l3 l1 c3 c1 (by omega) tv.2.1 (crs_crs2 tu.1 tv.1 tw.1), jn_of l2 l3 c2 c3 d tw.2.1 (crs_crs3 tu.1 tv.1 tw.1)⟩
end
/-- the store is kept but for the pile -/
def kpP (p : Addr) (μ μ' : Mu) : Prop := (∃ n', μ' p = some [.int n']) ∧ ∀ b, μ b ≠ none → b ≠ p → μ' b = μ b
theorem kpP.trans {p : Addr} {μ μ1 μ2 : Mu} (h : kpP p μ μ1) (k : kpP p μ1 μ2) : kpP p μ μ2 :=
  ⟨k.1, fun b hb hp => by rw [k.2 b (by rw [h.2 b hb hp]; exact hb) hp, h.2 b hb hp]⟩
theorem kpP_take {p : Addr} {μ μ1 : Mu} {n : Int} (h : kpP p μ μ1) : kpP p μ (mset μ1 p [.int n]) :=
  ⟨⟨n, mset_same ..⟩, fun b hb hp => by rw [mset_ne _ _ hp, h.2 b hb hp]⟩
theorem kpP_refl {p : Addr} {μ : Mu} {n : Int} (h : μ p = some [.int n]) : kpP p μ μ := ⟨⟨n, h⟩, fun _ _ _ => rfl⟩
theorem kpP_self {p : Addr} {μ μ1 : Mu} (h : kpP p μ μ1) : kpP p μ1 μ1 := ⟨h.1, fun _ _ _ => rfl⟩
theorem tN_inj {a b : List Int} (e : tN a = tN b) : a = b := by
  have h3 : (a.map D.int) = b.map D.int := by injection e
  have h4 := congrArg intsD h3
  rw [intsD_map, intsD_map] at h4
  exact Option.some.inj h4
theorem lin_sz {h t : Int} {u v : List Int} {k m : Nat} (hu : u.length = 3) (hv : v.length = 3) (sh : h.natAbs < 2 ^ k) (st : t.natAbs < 2 ^ k) (su : szL m u) (sv : szL m v) : szL (k + m + 1) (lin h t u v) := by
  obtain ⟨a, b, c, rfl⟩ := len3 hu
  obtain ⟨x, y, z, rfl⟩ := len3 hv
  obtain ⟨a1, a2, a3⟩ := szL3.mp su
  obtain ⟨b1, b2, b3⟩ := szL3.mp sv
  refine szL3.mpr ⟨abs_add_lt ?_ ?_, abs_add_lt ?_ ?_, abs_add_lt ?_ ?_⟩ <;> exact abs_mul_lt (by assumption) (by assumption) (Nat.le_refl _)
theorem deq_zer {u : List Int} (h : u.length = 3) : deq (tN u) (.tup [.int 0, .int 0, .int 0]) = true ↔ allZ u := by
  rw [show D.tup [.int 0, .int 0, .int 0] = tN (zer 3) from rfl, deq_tN, beq_iff_eq]
  exact zer_iff h
theorem deq_zer_f {u : List Int} (h : u.length = 3) (hz : ¬ allZ u) : deq (tN u) (.tup [.int 0, .int 0, .int 0]) = false := by
  cases e : deq (tN u) (.tup [.int 0, .int 0, .int 0]) with
  | false => rfl
  | true => exact absurd ((deq_zer h).mp e) hz
end Dl

/-! The data layer, part P: data that can be shown as text. -/
namespace Dl
open PySem L2 PyProof.Rows
/-- signs below 0x110000 -/
def sgn (x : Str) : Prop := ∀ c ∈ x.cps.toList, c < 0x110000
theorem sgn_iff (x : Str) : PyData.strOk x = true ↔ sgn x := by
  unfold PyData.strOk sgn
  rw [Array.all_eq_true']
  constructor
  · intro h c hc
    have := h c (by simpa using hc)
    simpa using this
  · intro h c hc
    have := h c (by simpa using hc)
    simpa using this
theorem sgn_of (s : String) : sgn (Str.ofString s) := by
  intro c hc
  rw [Str.ofString_eq_toList] at hc
  simp only [List.mem_map] at hc
  obtain ⟨k, _, rfl⟩ := hc
  have := k.valid
  rcases this with h | h
  · have : k.toNat < 0xd800 := h
    omega
  · exact h.2
theorem sgn_app {x y : Str} (hx : sgn x) (hy : sgn y) : sgn (x ++ y) := by
  intro c hc
  have : c ∈ x.cps.toList ++ y.cps.toList := by
    have e : (x ++ y).cps = x.cps ++ y.cps := rfl
    rw [e] at hc
    simpa using hc
  rcases List.mem_append.mp this with h | h
  · exact hx c h
  · exact hy c h
theorem dig_lt (n : Nat) : (Nat.digitChar n).toNat < 0x110000 := by
  have := (Nat.digitChar n).valid
  rcases this with h | h
  · have : (Nat.digitChar n).toNat < 0xd800 := h
    omega
  · exact h.2
theorem char_lt (k : Char) : k.toNat < 0x110000 := by
  have := k.valid
  rcases this with h | h
  · have : k.toNat < 0xd800 := h
    omega
  · exact h.2
theorem rchar_sgn {q c : Nat} (hq : q < 0x110000) (hc : c < 0x110000) : ∀ d ∈ Builtin.Str.reprChar q c, d < 0x110000 := by
  have hx : ∀ (w : Nat) d, d ∈ (List.replicate (w - ((Nat.toDigits 16 c).map Char.toNat).length) 48 ++ (Nat.toDigits 16 c).map Char.toNat) → d < 0x110000 := by
    intro w d hd
    rcases List.mem_append.mp hd with h | h
    · have := (List.mem_replicate.mp h).2
      omega
    · obtain ⟨k, _, rfl⟩ := List.mem_map.mp h
      exact char_lt k
  unfold Builtin.Str.reprChar
  dsimp only
  repeat' split
  all_goals intro d hd
  all_goals simp only [List.mem_append, List.mem_cons, List.not_mem_nil, or_false] at hd
  all_goals first
    | (rcases hd with rfl | rfl <;> first | omega | decide)
    | (subst hd; first | omega | decide)
    | (rcases hd with h | h
       · omega
       · exact hx _ _ (by simpa only [List.mem_append] using h))
    | (rcases hd with (h | h) | h
       · omega
       · omega
       · exact hx _ _ (by simpa only [List.mem_append] using h))
    | omega
theorem rtext_sgn {x : Str} (h : sgn x) : sgn (reprText x) := by
  have hq : reprQuote x < 0x110000 := by unfold reprQuote; split <;> decide
  have key : ∀ (l : List Nat) (acc : Array Nat), (∀ c ∈ l, c < 0x110000) → (∀ c ∈ acc.toList, c < 0x110000) → ∀ c ∈ (l.foldl (fun out c => out ++ (Builtin.Str.reprChar (reprQuote x) c).toArray) acc).toList, c < 0x110000 := by
    intro l
    induction l with
    | nil => intro acc _ h; exact h
    | cons c r ih =>
      intro acc h1 h2
      simp only [List.foldl_cons]
      refine ih _ (fun d hd => h1 d (List.mem_cons_of_mem _ hd)) fun d hd => ?_
      rw [Array.toList_append] at hd
      rcases List.mem_append.mp hd with h | h
      · exact h2 d h
      · exact rchar_sgn hq (h1 c List.mem_cons_self) d h
  unfold reprText
  intro c hc
  rw [← Array.foldl_toList] at hc
  simp only [Array.toList_push, List.mem_append, List.mem_cons, List.not_mem_nil, or_false] at hc
  rcases hc with h' | h'
  · exact key _ _ h (by simpa using hq) c h'
  · omega
theorem join_sgn {s : Str} (hs : sgn s) : ∀ {ts : List Str}, (∀ t ∈ ts, sgn t) → sgn (Str.join s ts)
  | [], _ => by intro c hc; exact absurd (show c ∈ ([] : List Nat) from hc) (by simp)
  | [x], h => h x List.mem_cons_self
  | x :: y :: r, h => by
    have e : Str.join s (x :: y :: r) = x ++ s ++ Str.join s (y :: r) := rfl
    rw [e]
    exact sgn_app (sgn_app (h x List.mem_cons_self) hs) (join_sgn hs fun t ht => h t (List.mem_cons_of_mem _ ht))
theorem from_sgn : ∀ {ts : List Str} (k : Nat) {acc : Str}, sgn acc → (∀ t ∈ ts, sgn t) → sgn (textFrom k acc ts)
  | [], _, _, h, _ => h
  | t :: r, k, acc, h, ht => by
    show sgn (textFrom (k + 1) (acc ++ (if k > 0 then ", " else "" : String) ++ t) r)
    refine from_sgn _ (sgn_app (sgn_app h (sgn_of _)) (ht t List.mem_cons_self)) fun t h => ht t (List.mem_cons_of_mem _ h)
mutual
theorem shown_sgn : ∀ (n : Nat) (d : D), fit n d = true → sgn d.py.shown
  | _, .non, _ => by simp only [D.py, PyData.shown]; exact sgn_of _
  | _, .bl b, _ => by simp only [D.py, PyData.shown]; split <;> exact sgn_of _
  | _, .int i, _ => by simp only [D.py, PyData.shown]; exact sgn_of _
  | _, .str x, h => by
    rw [fit_str] at h
    simp only [D.py, PyData.shown]
    exact rtext_sgn ((sgn_iff x).mp h)
  | n + 1, .tup xs, h => by
    rw [fit_tup] at h
    simp only [D.py, PyData.shown]
    unfold tupleText
    exact sgn_app (sgn_app (sgn_of _) (join_sgn (sgn_of _) (shownA_sgn n xs h))) (sgn_of _)
  | n + 1, .lst xs, h => by
    rw [fit_lst] at h
    simp only [D.py, PyData.shown]
    unfold listText
    exact sgn_app (from_sgn _ (sgn_of _) (shownA_sgn n xs h)) (sgn_of _)
  | 0, .tup xs, h => by simp [fit] at h
  | 0, .lst xs, h => by simp [fit] at h
  | n, .exc c, h => by cases n <;> simp [fit] at h
  | n, .ref c, h => by cases n <;> simp [fit] at h
  | n, .dct _ _, h => by cases n <;> simp [fit] at h
theorem shownA_sgn : ∀ (n : Nat) (xs : List D), xs.all (fit n) = true → ∀ t ∈ PyData.shownAll (pys xs), sgn t
  | _, [], _ => by simp [pys, PyData.shownAll]
  | n, x :: xs, h => by
    simp only [List.all_cons, Bool.and_eq_true] at h
    simp only [pys, PyData.shownAll, List.mem_cons]
    rintro t (rfl | ht)
    · exact shown_sgn n x h.1
    · exact shownA_sgn n xs h.2 t ht
end
theorem fit_shown {n m : Nat} {d : D} (h : fit n d = true) : fit m (.str d.py.shown) = true := by
  rw [fit_str]; exact (sgn_iff _).mpr (shown_sgn n d h)
theorem fit_of (m : Nat) (s : String) : fit m (.str (Str.ofString s)) = true := by
  rw [fit_str]; exact (sgn_iff _).mpr (sgn_of s)

/-- whole numbers below 2 ^ b, at most n deep -/
def shb (b : Nat) : Nat → D → Prop
  | _, .non => True
  | _, .bl _ => True
  | _, .int i => i.natAbs < 2 ^ b
  | _, .str x => PyData.strOk x = true
  | n + 1, .tup xs => ∀ x ∈ xs, shb b n x
  | n + 1, .lst xs => ∀ x ∈ xs, shb b n x
  | _, _ => False
mutual
/-- how long its text is at most -/
def wt (b : Nat) : D → Nat
  | .int _ => b + 2
  | .str x => 10 * x.length + 2
  | .tup xs => wts b xs + 3
  | .lst xs => wts b xs + 3
  | _ => 5
def wts (b : Nat) : List D → Nat
  | [] => 0
  | x :: xs => wt b x + 2 + wts b xs
end
theorem shb_fit {b : Nat} : ∀ (n : Nat) (d : D), shb b n d → fit n d = true := by
  intro n
  induction n with
  | zero => intro d h; cases d <;> simp_all [shb, fit]
  | succ n ih =>
    intro d h
    cases d with
    | tup xs => rw [fit_tup, List.all_eq_true]; exact fun x hx => ih x (h x hx)
    | lst xs => rw [fit_lst, List.all_eq_true]; exact fun x hx => ih x (h x hx)
    | _ => simp_all [shb, fit]
theorem log_lt {i : Int} {b : Nat} (h : i.natAbs < 2 ^ b) (hb : 0 < b) : i.natAbs.log2 < b := PySem.Flt.log2_lt_of hb h
theorem show_all {xs : List D} (h : ∀ x ∈ xs, x.py.showable = true) : PyData.showableAll (pys xs) = true := by
  induction xs with
  | nil => simp [pys, PyData.showableAll]
  | cons x r ih => simp [pys, PyData.showableAll, h x List.mem_cons_self, ih fun y hy => h y (List.mem_cons_of_mem _ hy)]
theorem shb_show {b : Nat} (h0 : 0 < b) (h1 : b ≤ 1920) : ∀ (n : Nat) (d : D), shb b n d → d.py.showable = true := by
  intro n
  induction n with
  | zero =>
    intro d h
    cases d <;> simp_all [shb, D.py, PyData.showable]
    have := log_lt h h0
    omega
  | succ n ih =>
    intro d h
    cases d with
    | tup xs => simp only [D.py, PyData.showable]; exact show_all fun x hx => ih x (h x hx)
    | lst xs => simp only [D.py, PyData.showable]; exact show_all fun x hx => ih x (h x hx)
    | int i =>
      simp only [D.py, PyData.showable]
      have := log_lt h h0
      exact decide_eq_true (by omega)
    | _ => simp_all [shb, D.py, PyData.showable]
mutual
theorem shb_wt {b : Nat} (h0 : 0 < b) : ∀ (n : Nat) (d : D), shb b n d → d.py.shown.length ≤ wt b d
  | _, .non, _ => by show (4 : Nat) ≤ _; simp [wt]
  | _, .bl c, _ => by
    have e : (PyData.shown (.bool c)).length ≤ 5 := by cases c <;> decide
    simpa [wt, D.py] using e
  | _, .int i, h => by
    have h : i.natAbs < 2 ^ b := by simpa only [shb] using h
    have := int_text_length_le (a := i) h0 (log_lt h h0)
    simp only [D.py, PyData.shown, wt]
    have e : (Str.ofString (toString i)).length = (toString i).length := by
      rw [Str.ofString_eq_toList]; simp [Str.length, String.length]
    rw [e]; omega
  | _, .str x, h => by
    have h : sgn x := (sgn_iff x).mp (by simpa only [shb] using h)
    have e := StrLaws.reprText_len x (fun c hc => Nat.lt_trans (h c hc) (by decide))
    simpa only [D.py, PyData.shown, wt] using e
  | n + 1, .tup xs, h => by
    have h1 := shbA_wt h0 n xs h
    have h2 := tupleText_len_le (PyData.shownAll (pys xs))
    simp only [D.py, PyData.shown, wt]
    have h3 : (PyData.shownAll (pys xs)).length = xs.length := shA_len xs
    omega
  | n + 1, .lst xs, h => by
    have h1 := shbA_wt h0 n xs h
    have h2 := listText_len_le (PyData.shownAll (pys xs))
    simp only [D.py, PyData.shown, wt]
    have h3 : (PyData.shownAll (pys xs)).length = xs.length := shA_len xs
    omega
  | 0, .tup xs, h => h.elim
  | 0, .lst xs, h => h.elim
  | n, .exc c, h => by cases n <;> exact h.elim
  | n, .ref c, h => by cases n <;> exact h.elim
  | n, .dct _ _, h => by cases n <;> exact h.elim
theorem shbA_wt {b : Nat} (h0 : 0 < b) : ∀ (n : Nat) (xs : List D), (∀ x ∈ xs, shb b n x) → ((PyData.shownAll (pys xs)).map (·.length)).sum + 2 * xs.length ≤ wts b xs
  | _, [], _ => by simp [pys, PyData.shownAll, wts]
  | n, x :: xs, h => by
    have h1 := shb_wt h0 n x (h x List.mem_cons_self)
    have h2 := shbA_wt h0 n xs fun y hy => h y (List.mem_cons_of_mem _ hy)
    simp only [pys, PyData.shownAll, List.map_cons, List.sum_cons, List.length_cons, wts]
    omega
theorem shA_len : ∀ xs : List D, (PyData.shownAll (pys xs)).length = xs.length
  | [] => by simp [pys, PyData.shownAll]
  | x :: xs => by simp [pys, PyData.shownAll, shA_len xs]
end
theorem shb_up {b b' : Nat} (hb : b ≤ b') : ∀ (n m : Nat) (d : D), n ≤ m → shb b n d → shb b' m d := by
  intro n
  induction n with
  | zero =>
    intro m d hm h
    cases d <;> cases m <;> first | exact h | exact h.elim | exact abs_up h hb
  | succ n ih =>
    intro m d hm h
    cases m with
    | zero => omega
    | succ m =>
      cases d with
      | tup xs => exact fun x hx => ih m x (by omega) (h x hx)
      | lst xs => exact fun x hx => ih m x (by omega) (h x hx)
      | int i => exact abs_up h hb
      | _ => exact h
/-- data of a text of at most w signs, whole numbers below 2 ^ b -/
def shw (b n w : Nat) (d : D) : Prop := shb b n d ∧ wt b d ≤ w
section
variable {b n w : Nat} {d : D}
theorem shw.up {m v : Nat} (h : shw b n w d) (hm : n ≤ m) (hv : w ≤ v) : shw b m v d := ⟨shb_up (Nat.le_refl _) n m d hm h.1, Nat.le_trans h.2 hv⟩
theorem shw.fit {m : Nat} (h : shw b n w d) (hm : n ≤ m) : fit m d = true := fit_up n m d hm (shb_fit n d h.1)
theorem shw_int {i : Int} (h : i.natAbs < 2 ^ b) (hw : b + 2 ≤ w) : shw b n w (.int i) := ⟨by cases n <;> exact h, by simpa only [wt] using hw⟩
theorem shw_non (hw : 5 ≤ w) : shw b n w .non := ⟨by cases n <;> exact trivial, by simpa only [wt] using hw⟩
theorem shw_bl {c : Bool} (hw : 5 ≤ w) : shw b n w (.bl c) := ⟨by cases n <;> exact trivial, by simpa only [wt] using hw⟩
theorem shw_str {x : Str} (h : PyData.strOk x = true) (hw : 10 * x.length + 2 ≤ w) : shw b n w (.str x) := ⟨by cases n <;> exact h, by simpa only [wt] using hw⟩
theorem shw_lit {s : String} {k : Nat} (h : (Str.ofString s).length ≤ k) (hw : 10 * k + 2 ≤ w) : shw b n w (.str (Str.ofString s)) := shw_str ((sgn_iff _).mpr (sgn_of s)) (by omega)
theorem wts_le : ∀ {xs : List D}, (∀ x ∈ xs, wt b x ≤ w) → wts b xs ≤ xs.length * (w + 2)
  | [], _ => by simp [wts]
  | x :: xs, h => by
    have h1 := h x List.mem_cons_self
    have h2 := wts_le (xs := xs) fun y hy => h y (List.mem_cons_of_mem _ hy)
    simp only [wts, List.length_cons, Nat.add_mul]
    omega
theorem shw_tup {xs : List D} {k v : Nat} (h : ∀ x ∈ xs, shw b n w x) (hk : xs.length ≤ k) (hv : k * (w + 2) + 3 ≤ v) : shw b (n + 1) v (.tup xs) := by
  refine ⟨fun x hx => (h x hx).1, ?_⟩
  have h1 := wts_le fun x hx => (h x hx).2
  have h2 := Nat.mul_le_mul_right (w + 2) hk
  simp only [wt]
  omega
theorem shw_lst {xs : List D} {k v : Nat} (h : ∀ x ∈ xs, shw b n w x) (hk : xs.length ≤ k) (hv : k * (w + 2) + 3 ≤ v) : shw b (n + 1) v (.lst xs) := by
  refine ⟨fun x hx => (h x hx).1, ?_⟩
  have h1 := wts_le fun x hx => (h x hx).2
  have h2 := Nat.mul_le_mul_right (w + 2) hk
  simp only [wt]
  omega
theorem shw_tN {ns : List Int} {k v : Nat} (h : szL b ns) (hk : ns.length ≤ k) (hv : k * (b + 4) + 3 ≤ v) : shw b (n + 1) v (tN ns) :=
  shw_tup (w := b + 2) (fun x hx => by obtain ⟨i, hi, rfl⟩ := List.mem_map.mp hx; exact shw_int (h i hi) (Nat.le_refl _)) (by rw [List.length_map]; exact hk) (by rw [show b + 2 + 2 = b + 4 from rfl]; exact hv)
theorem shw.ints {ns : List Int} (h : shw b n w (tN ns)) : szL b ns := by
  intro i hi
  cases n with
  | zero => exact h.1.elim
  | succ n =>
    have := h.1 (.int i) (List.mem_map.mpr ⟨i, hi, rfl⟩)
    cases n <;> exact this
theorem shw.mem_t {xs : List D} {x : D} (h : shw b (n + 1) w (.tup xs)) (hx : x ∈ xs) : shb b n x := h.1 x hx
/-- str of data -/
def strD : D → Str
  | .int i => toString i
  | .str x => x
  | d => d.py.shown
theorem fit_strD {m : Nat} (h : fit n d = true) : fit m (.str (strD d)) = true := by
  cases d with
  | int i => exact fit_of m _
  | str x => rw [fit_str] at h; rw [fit_str]; exact h
  | _ => exact fit_shown h
theorem str_of {μ : Mu} {Q : Pst} (h : shw b n w d) (hb : 0 < b) (hb1 : b ≤ 1920) (hn : n ≤ 60) (hw : w ≤ 100000) (q : Q (.str (strD d)) μ) : b1D .str d μ Q := by
  have hs := shb_show hb hb1 n d h.1
  have hl := Nat.le_trans (shb_wt hb n d h.1) (Nat.le_trans h.2 hw)
  have hf := h.fit hn
  cases d with
  | int i =>
    have h1 : shb b n (.int i) := h.1
    have : i.natAbs < 2 ^ b := by cases n <;> exact h1
    exact ⟨by have := log_lt this hb; omega, q⟩
  | str x => exact q
  | exc c => have h1 := h.1; cases n <;> exact h1.elim
  | ref c => have h1 := h.1; cases n <;> exact h1.elim
  | _ => exact ⟨hf, hs, hl, q⟩
end
theorem deq_str_refl (x : Str) : deq (.str x) (.str x) = true := by rw [deq_str]; exact beq_self_eq_true x
/-! ### lists of one's own beside the pile -/
theorem kpP.loc {p d : Addr} {μ μ' : Mu} (h : kpP p μ μ') (hd : μ' d = none) : μ d = none ∧ d ≠ p := by
  have hp : d ≠ p := fun e => by obtain ⟨n, hn⟩ := h.1; rw [e, hn] at hd; cases hd
  refine ⟨?_, hp⟩
  cases e : μ d with
  | none => rfl
  | some x => rw [h.2 d (by rw [e]; exact fun h => nomatch h) hp, e] at hd; cases hd
theorem kpP.put {p d : Addr} {μ μ' : Mu} {xs : List D} (h : kpP p μ μ') (hd : μ d = none) (hp : d ≠ p) : kpP p μ (mset μ' d xs) :=
  ⟨by obtain ⟨n, hn⟩ := h.1; exact ⟨n, by rw [mset_ne _ _ (Ne.symm hp)]; exact hn⟩, fun b hb hbp => by
    have : b ≠ d := fun e => hb (by rw [e]; exact hd)
    rw [mset_ne _ _ this]; exact h.2 b hb hbp⟩
theorem kpP.new {p d : Addr} {μ μ' : Mu} {xs : List D} (h : kpP p μ μ') (hd : μ' d = none) : kpP p μ (mset μ' d xs) := h.put (h.loc hd).1 (h.loc hd).2
theorem kpP.del {p d : Addr} {μ μ' : Mu} (h : kpP p μ μ') (hd : μ d = none) (hp : d ≠ p) : kpP p μ (mdel μ' d) :=
  ⟨by obtain ⟨n, hn⟩ := h.1; exact ⟨n, by rw [mdel_ne _ (Ne.symm hp)]; exact hn⟩, fun b hb hbp => by
    have : b ≠ d := fun e => hb (by rw [e]; exact hd)
    rw [mdel_ne _ this]; exact h.2 b hb hbp⟩
theorem kpP.own {p d : Addr} {μ μ' : Mu} {xs : List D} (h : kpP p μ μ') (hd : μ d = some xs) (hp : d ≠ p) : μ' d = some xs := by
  rw [h.2 d (by rw [hd]; exact fun h => nomatch h) hp]; exact hd
theorem atI_0 {α : Type} (x : α) (xs : List α) : L2.atI (x :: xs) 0 = some x := by
  simp [L2.atI, L2.ixN]
theorem atI_1 {α : Type} (x y : α) (xs : List α) : L2.atI (x :: y :: xs) 1 = some y := by
  have h : (1 : Int) < ((x :: y :: xs).length : Nat) := by simp; omega
  simp only [L2.atI, L2.ixN, if_pos h, show (0 : Int) ≤ 1 by decide, if_true]; rfl
theorem atI_2 {α : Type} (x y z : α) (xs : List α) : L2.atI (x :: y :: z :: xs) 2 = some z := by
  have h : (2 : Int) < ((x :: y :: z :: xs).length : Nat) := by simp; omega
  simp only [L2.atI, L2.ixN, if_pos h, show (0 : Int) ≤ 2 by decide, if_true]; rfl
theorem cutD_mem {xs : List D} {lo hi : Option Int} {x : D} (h : x ∈ cutD xs lo hi) : x ∈ xs := List.mem_of_mem_drop (List.mem_of_mem_take h)
theorem cutD_len (xs : List D) (lo hi : Option Int) : (cutD xs lo hi).length ≤ xs.length := by
  unfold cutD
  simp only [List.length_take, List.length_drop]
  omega
theorem txt_len {i : Int} {b : Nat} (h : i.natAbs < 2 ^ b) (hb : 0 < b) : (Str.ofString (toString i)).length ≤ b + 2 := by
  have := shb_wt hb 0 (.int i) h
  simpa only [D.py, PyData.shown, wt] using this
theorem div2 : divOk 2 := div_ok 2 (by decide) (by decide) (by decide)
theorem keptL_alt {ns : List Int} (h : ¬ allZ ns) : ns.map (·.fdiv (if fst0 ns < 0 then 0 - gcdL ns else gcdL ns)) = keptL ns ∧ (if fst0 ns < 0 then 0 - gcdL ns else gcdL ns) ≠ 0 := by
  obtain ⟨g, g0, e, n1, n2⟩ := keptL_is h
  have hg : gcdL ns = (g.natAbs : Nat) := by conv => lhs; rw [e, gcdL_scl, n1]; 
                                             omega
  have hf : fst0 ns = g * fst0 (keptL ns) := by conv => lhs; rw [e, fst0_scl g0]
  have hb : (if fst0 ns < 0 then 0 - gcdL ns else gcdL ns) = g := by
    rw [hg, hf]
    rcases Int.lt_or_gt_of_ne g0 with k | k
    · rw [if_pos (Int.mul_neg_of_neg_of_pos k n2)]; omega
    · rw [if_neg (by have := Int.mul_pos k n2; omega)]; omega
  rw [hb]
  refine ⟨?_, g0⟩
  conv => lhs; rw [e]
  rw [List.map_map]
  have : ((fun x => x.fdiv g) ∘ fun x => g * x) = fun x : Int => x := by
    funext x
    exact Int.mul_fdiv_cancel_left x g0
  rw [this]
  simp
theorem at_last {α : Type} (M : List α) (b a : α) : L2.atI (M ++ [b, a]) (-1) = some a ∧ L2.atI (M ++ [b, a]) (-2) = some b := by
  unfold L2.atI L2.ixN
  have h1 : ((-1 : Int) + ((M ++ [b, a]).length : Nat)).toNat = M.length + 1 := by simp; omega
  have h2 : ((-2 : Int) + ((M ++ [b, a]).length : Nat)).toNat = M.length := by simp; omega
  constructor
  · rw [if_neg (by decide), if_pos (by simp; omega), h1]
    simp
  · rw [if_neg (by decide), if_pos (by simp; omega), h2]
    simp
theorem at_in {α : Type} {L : List α} {r : Int} (h0 : 0 ≤ r) (h1 : r < (L.length : Int)) : ∃ x ∈ L, L2.atI L r = some x := by
  unfold L2.atI L2.ixN
  rw [if_pos h0, if_pos h1]
  have h : r.toNat < L.length := by omega
  exact ⟨L[r.toNat], List.getElem_mem h, by simp [h]⟩
theorem at_map {α β : Type} (f : α → β) (L : List α) (i : Int) : L2.atI (L.map f) i = (L2.atI L i).map f := by
  unfold L2.atI
  rw [List.length_map]
  cases L2.ixN L.length i <;> simp
/-- the promise a def may use of itself -/
def recS (R : Nat → DSp) : Nat → DSp
  | 0 => fun _ _ _ _ => False
  | n + 1 => R n
/-- a fraction -/
def isFr : D → Bool
  | .tup [.int a, .int b] => decide (1 ≤ b) && (Int.gcd a b == 1)
  | _ => false
theorem isFr_fD {p : F2} (h : fit2 p) : isFr (fD p) = true := by
  have h1 : 1 ≤ p.2 := h.1
  simp [isFr, h1, h.2]
theorem isFr_is {x : D} (h : isFr x = true) : ∃ p, x = fD p ∧ fit2 p := by
  unfold isFr at h
  split at h
  · rename_i a b
    simp only [Bool.and_eq_true, decide_eq_true_eq, beq_iff_eq] at h
    exact ⟨(a, b), rfl, h.1, h.2⟩
  · cases h
theorem isFr_len {ds : List D} (h : ds.length ≠ 2) : isFr (.tup ds) = false := by
  cases e : isFr (.tup ds) with
  | false => rfl
  | true =>
    obtain ⟨p, e, _⟩ := isFr_is e
    cases e
    exact absurd rfl h
theorem isFr_num {x y : D} (h : isNum x = false ∨ isNum y = false) : isFr (.tup [x, y]) = false := by
  cases e : isFr (.tup [x, y]) with
  | false => rfl
  | true =>
    obtain ⟨p, e, _⟩ := isFr_is e
    cases e
    rcases h with h | h <;> cases h
theorem isNum_is {x : D} (h : isNum x = true) : ∃ i, x = .int i := by
  cases x <;> first | exact ⟨_, rfl⟩ | cases h
/-! ### filters -/
theorem lcW_filter {f : D → Mu → (Option D → Mu → Prop) → Prop} {Q : List D → Mu → Prop} (g : D → Bool) : ∀ (ds : List D) (μ : Mu), (∀ d ∈ ds, ∀ k : Option D → Mu → Prop, k (if g d = true then some d else none) μ → f d μ k) → ∀ acc : List D, Q (acc ++ ds.filter g) μ → lcW f ds acc μ Q
  | [], μ, _, acc, q => by simpa [lcW] using q
  | d :: ds, μ, h, acc, q => by
    refine h d List.mem_cons_self _ ?_
    refine lcW_filter g ds μ (fun d' hd => h d' (List.mem_cons_of_mem _ hd)) _ ?_
    cases e : g d with
    | false => simpa [e] using q
    | true => simpa [e] using q
theorem fst_filter {ns : List Int} (h : ¬ allZ ns) : (ns.filter (· != 0))[0]? = some (fst0 ns) := by
  induction ns with
  | nil => exact absurd (fun _ h => nomatch h) h
  | cons n r ih =>
    by_cases h0 : n = 0
    · subst h0
      have : ¬ allZ r := fun z => h fun m hm => by
        rcases List.mem_cons.mp hm with e | e
        · exact e
        · exact z m e
      simpa [fst0] using ih this
    · simp [fst0, h0]
/-! ### six numbers -/
def det6 : List Int → Int
  | [a, b, c, d, e, f] => 4 * a * b * c + d * e * f - a * d * d - b * e * e - c * f * f
  | _ => 0
theorem len6 {ns : List Int} (h : ns.length = 6) : ∃ a b c d e f, ns = [a, b, c, d, e, f] := by
  match ns, h with
  | [a, b, c, d, e, f], _ => exact ⟨a, b, c, d, e, f, rfl⟩
theorem szL6 {n : Nat} {a b c d e f : Int} : szL n [a, b, c, d, e, f] ↔ a.natAbs < 2 ^ n ∧ b.natAbs < 2 ^ n ∧ c.natAbs < 2 ^ n ∧ d.natAbs < 2 ^ n ∧ e.natAbs < 2 ^ n ∧ f.natAbs < 2 ^ n := by
  simp [szL]
theorem det6_ne {ns : List Int} (hl : ns.length = 6) (h : det6 ns ≠ 0) : ¬ allZ ns := fun z => h (by
  obtain ⟨a, b, c, d, e, f, rfl⟩ := len6 hl
  have ha := z a (by simp)
  have hb := z b (by simp)
  have hc := z c (by simp)
  have hd := z d (by simp)
  have he := z e (by simp)
  have hf := z f (by simp)
  subst ha hb hc hd he hf
  rfl)
/-- six whole numbers -/
def isSix (x : D) : Bool := (rowOf 6 x).isSome
/-- a curve -/
def isCv (x : D) : Bool := match rowOf 6 x with
  | some ns => det6 ns != 0 && keptL ns == ns
  | none => false
theorem isSix_is {x : D} (h : isSix x = true) : ∃ ns, x = tN ns ∧ ns.length = 6 := by
  unfold isSix at h
  cases e : rowOf 6 x with
  | none => rw [e] at h; cases h
  | some ns => exact ⟨ns, rowOf_is e⟩
theorem isSix_tN {ns : List Int} (h : ns.length = 6) : isSix (tN ns) = true := by
  unfold isSix
  rw [← h, rowOf_tN]; rfl
theorem isCv_six {x : D} (h : isSix x = false) : isCv x = false := by
  unfold isSix at h
  unfold isCv
  cases e : rowOf 6 x with
  | none => rfl
  | some ns => rw [e] at h; cases h
theorem isCv_tN {ns : List Int} (h : ns.length = 6) : isCv (tN ns) = (det6 ns != 0 && keptL ns == ns) := by
  unfold isCv
  have := rowOf_tN ns
  rw [h] at this
  rw [this]
/-- a kept curve of a size -/
def cur (b : Nat) (u : List Int) : Prop := u.length = 6 ∧ det6 u ≠ 0 ∧ nrm u ∧ szL b u
theorem isCv_is {x : D} (h : isCv x = true) : ∃ ns, x = tN ns ∧ ns.length = 6 ∧ det6 ns ≠ 0 ∧ nrm ns := by
  cases hs : isSix x with
  | false => rw [isCv_six hs] at h; cases h
  | true =>
    obtain ⟨ns, rfl, hl⟩ := isSix_is hs
    rw [isCv_tN hl] at h
    simp only [Bool.and_eq_true, bne_iff_ne, beq_iff_eq] at h
    obtain ⟨g, _, _, k⟩ := keptL_is (det6_ne hl h.1)
    rw [h.2] at k
    exact ⟨ns, rfl, hl, h.1, k⟩
theorem isCv_of {ns : List Int} (h : ns.length = 6) (hd : det6 ns ≠ 0) (hn : nrm ns) : isCv (tN ns) = true := by
  rw [isCv_tN h, keptL_nrm hn]
  simp [hd]
theorem cur.cv {b : Nat} {u : List Int} (h : cur b u) : isCv (tN u) = true := isCv_of h.1 h.2.1 h.2.2.1
theorem cur.up {a b : Nat} {u : List Int} (h : cur a u) (l : a ≤ b) : cur b u := ⟨h.1, h.2.1, h.2.2.1, szL_up h.2.2.2 l⟩
theorem det6_scl {s : Int} {u : List Int} (h : u.length = 6) : det6 (scl s u) = s * s * s * det6 u := by
  obtain ⟨a, b, c, d, e, f, rfl⟩ := len6 h
  simp only [scl, List.map_cons, List.map_nil, det6]
  grind
theorem cur_kept {b : Nat} {u : List Int} (hl : u.length = 6) (hd : det6 u ≠ 0) (hs : szL b u) : cur b (keptL u) := by
  have hz := det6_ne hl hd
  obtain ⟨g, g0, e, k⟩ := keptL_is hz
  have lk : (keptL u).length = 6 := by rw [keptL_len]; exact hl
  refine ⟨lk, fun h => hd ?_, k, szL_kept hs hz⟩
  rw [e, det6_scl lk, h, Int.mul_zero]
theorem lcW_fm {f : D → Mu → (Option D → Mu → Prop) → Prop} {Q : List D → Mu → Prop} (g : D → Option D) : ∀ (ds : List D) (μ : Mu), (∀ d ∈ ds, ∀ k : Option D → Mu → Prop, k (g d) μ → f d μ k) → ∀ acc : List D, Q (acc ++ ds.filterMap g) μ → lcW f ds acc μ Q
  | [], μ, _, acc, q => by simpa [lcW] using q
  | d :: ds, μ, h, acc, q => by
    refine h d List.mem_cons_self _ ?_
    refine lcW_fm g ds μ (fun d' hd => h d' (List.mem_cons_of_mem _ hd)) _ ?_
    cases e : g d with
    | none => simpa [e] using q
    | some x => simpa [e] using q
/-! ### the numbers of two curves -/
def slp6 : List Int → List Int
  | [a, b, c, d, e, f] => [4 * b * c - d * d, 4 * a * c - e * e, 4 * a * b - f * f, e * f - 2 * a * d, d * f - 2 * b * e, d * e - 2 * c * f]
  | _ => []
def dotL (u v : List Int) : Int := (List.zipWith (· * ·) u v).sum
/-- the determinant of t times o and i, from t to the 0 -/
def nums (o i : List Int) : Int × Int × Int × Int := (det6 i, dotL o (slp6 i), dotL i (slp6 o), det6 o)
def dscI (n : Int × Int × Int × Int) : Int := n.2.1 * n.2.1 * n.2.2.1 * n.2.2.1 - 4 * n.1 * n.2.2.1 * n.2.2.1 * n.2.2.1 - 4 * n.2.1 * n.2.1 * n.2.1 * n.2.2.2 - 27 * n.1 * n.1 * n.2.2.2 * n.2.2.2 + 18 * n.1 * n.2.1 * n.2.2.1 * n.2.2.2
theorem det6_mix {o i : List Int} (ho : o.length = 6) (hi : i.length = 6) (t : Int) : det6 (List.zipWith (fun a b => t * a + b) o i) = (nums o i).1 + (nums o i).2.1 * t + (nums o i).2.2.1 * (t * t) + (nums o i).2.2.2 * (t * t * t) := by
  obtain ⟨a, b, c, d, e, f, rfl⟩ := len6 ho
  obtain ⟨x, y, z, u, v, w, rfl⟩ := len6 hi
  simp only [List.zipWith_cons_cons, List.zipWith_nil_left, det6, nums, dotL, slp6, List.sum_cons, List.sum_nil]
  grind
/-- the store has grown at most -/
def exM (μ μ' : Mu) : Prop := ∀ b, μ b ≠ none → μ' b = μ b
theorem exM.refl (μ : Mu) : exM μ μ := fun _ _ => rfl
theorem exM.trans {μ μ1 μ2 : Mu} (h : exM μ μ1) (k : exM μ1 μ2) : exM μ μ2 := fun b hb => by rw [k b (by rw [h b hb]; exact hb), h b hb]
theorem exM.new {μ μ1 : Mu} {d : Addr} {xs : List D} (h : exM μ μ1) (hd : μ1 d = none) : exM μ (mset μ1 d xs) := fun b hb => by
  have : b ≠ d := fun e => by rw [← e, h b hb] at hd; exact hb hd
  rw [mset_ne _ _ this]; exact h b hb
theorem exM.put {μ μ1 : Mu} {d : Addr} {xs : List D} (h : exM μ μ1) (hd : μ d = none) : exM μ (mset μ1 d xs) := fun b hb => by
  have : b ≠ d := fun e => hb (by rw [e]; exact hd)
  rw [mset_ne _ _ this]; exact h b hb
theorem exM.del {μ μ1 : Mu} {d : Addr} (h : exM μ μ1) (hd : μ d = none) : exM μ (mdel μ1 d) := fun b hb => by
  have : b ≠ d := fun e => hb (by rw [e]; exact hd)
  rw [mdel_ne _ this]; exact h b hb
theorem exM.loc {μ μ1 : Mu} {d : Addr} (h : exM μ μ1) (hd : μ1 d = none) : μ d = none := by
  cases e : μ d with
  | none => rfl
  | some x => rw [h d (by rw [e]; exact fun h => nomatch h), e] at hd; cases hd
theorem exM.own {μ μ1 : Mu} {d : Addr} {xs : List D} (h : exM μ μ1) (hd : μ d = some xs) : μ1 d = some xs := by
  rw [h d (by rw [hd]; exact fun h => nomatch h)]; exact hd
theorem kpP.ex {p : Addr} {μ μ1 μ2 : Mu} (h : kpP p μ μ1) (k : exM μ1 μ2) : kpP p μ μ2 :=
  ⟨by obtain ⟨n, hn⟩ := h.1; exact ⟨n, k.own hn⟩, fun b hb hp => by rw [k b (by rw [h.2 b hb hp]; exact hb), h.2 b hb hp]⟩
theorem szL_mix {b : Nat} {t : Int} (ht : t.natAbs < 2) : ∀ {o i : List Int}, szL b o → szL b i → szL (b + 1) (List.zipWith (fun a c => t * a + c) o i)
  | [], _, _, _ => by simp [szL]
  | _ :: _, [], _, _ => by simp [szL]
  | x :: o, y :: i, ho, hi => by
    intro n hn
    simp only [List.zipWith_cons_cons, List.mem_cons] at hn
    rcases hn with rfl | hn
    · have h1 := ho x (by simp)
      have h3 : (t * x).natAbs < 2 ^ b := by
        have : t = 0 ∨ t = 1 ∨ t = -1 := by omega
        rcases this with rfl | rfl | rfl
        · simpa using Nat.two_pow_pos b
        · simpa using h1
        · simpa using h1
      exact abs_add_lt h3 (hi y (by simp))
    · exact szL_mix ht (fun n h => ho n (List.mem_cons_of_mem _ h)) (fun n h => hi n (List.mem_cons_of_mem _ h)) n hn
theorem mul3_sz {x y z : Int} {a : Nat} (hx : x.natAbs < 2 ^ a) (hy : y.natAbs < 2 ^ a) (hz : z.natAbs < 2 ^ a) : (x * y * z).natAbs < 2 ^ (3 * a) :=
  abs_mul_lt (abs_mul_lt hx hy (Nat.le_refl _)) hz (by omega)
theorem det6_sz {b : Nat} {u : List Int} (hl : u.length = 6) (hs : szL b u) : (det6 u).natAbs < 2 ^ (3 * b + 5) := by
  obtain ⟨a, b', c, d, e, f, rfl⟩ := len6 hl
  obtain ⟨s1, s2, s3, s4, s5, s6⟩ := szL6.mp hs
  have h1 := mul3_sz s1 s2 s3
  have h2 := mul3_sz s4 s5 s6
  have h3 := mul3_sz s1 s4 s4
  have h4 := mul3_sz s2 s5 s5
  have h5 := mul3_sz s3 s6 s6
  have e1 : det6 [a, b', c, d, e, f] = 4 * (a * b' * c) + d * e * f - a * d * d - b' * e * e - c * f * f := by simp only [det6]; grind
  rw [e1, Nat.pow_add]
  omega
theorem f4_sz {x y : Int} {n : Nat} (hx : x.natAbs < 2 ^ n) (hy : y.natAbs < 2 ^ n) : (4 * x - y).natAbs < 2 ^ (n + 3) := by rw [Nat.pow_add]; omega
theorem f2_sz {x y : Int} {n : Nat} (hx : x.natAbs < 2 ^ n) (hy : y.natAbs < 2 ^ n) : (x - 2 * y).natAbs < 2 ^ (n + 3) := by rw [Nat.pow_add]; omega
theorem dotS_sz {b : Nat} {u v : List Int} (hu : u.length = 6) (hv : v.length = 6) (su : szL b u) (sv : szL b v) : (dotL u (slp6 v)).natAbs < 2 ^ (3 * b + 8) := by
  obtain ⟨a, b', c, d, e, f, rfl⟩ := len6 hu
  obtain ⟨x, y, z, p, q, r, rfl⟩ := len6 hv
  obtain ⟨s1, s2, s3, s4, s5, s6⟩ := szL6.mp su
  obtain ⟨t1, t2, t3, t4, t5, t6⟩ := szL6.mp sv
  have e1 : dotL [a, b', c, d, e, f] (slp6 [x, y, z, p, q, r]) = (4 * (a * y * z) - a * p * p) + (4 * (b' * x * z) - b' * q * q) + (4 * (c * x * y) - c * r * r) + (d * q * r - 2 * (d * x * p)) + (e * p * r - 2 * (e * y * q)) + (f * p * q - 2 * (f * z * r)) := by
    simp only [dotL, slp6, List.zipWith_cons_cons, List.zipWith_nil_left, List.sum_cons, List.sum_nil]
    grind
  have h1 := f4_sz (mul3_sz s1 t2 t3) (mul3_sz s1 t4 t4)
  have h2 := f4_sz (mul3_sz s2 t1 t3) (mul3_sz s2 t5 t5)
  have h3 := f4_sz (mul3_sz s3 t1 t2) (mul3_sz s3 t6 t6)
  have h4 := f2_sz (mul3_sz s4 t5 t6) (mul3_sz s4 t1 t4)
  have h5 := f2_sz (mul3_sz s5 t4 t6) (mul3_sz s5 t2 t5)
  have h6 := f2_sz (mul3_sz s6 t4 t5) (mul3_sz s6 t3 t6)
  have k1 := abs_add_lt h1 h2
  have k2 := abs_add_lt k1 (abs_up h3 (Nat.le_succ _))
  have k3 := abs_add_lt k2 (abs_up h4 (Nat.le_trans (Nat.le_succ _) (Nat.le_succ _)))
  have k4 := abs_add_lt k3 (abs_up h5 (by omega))
  have k5 := abs_add_lt k4 (abs_up h6 (by omega))
  rw [e1]
  exact abs_up k5 (by omega)
theorem nums_sz {b : Nat} {o i : List Int} (ho : o.length = 6) (hi : i.length = 6) (so : szL b o) (si : szL b i) : (nums o i).1.natAbs < 2 ^ (3 * b + 8) ∧ (nums o i).2.1.natAbs < 2 ^ (3 * b + 8) ∧ (nums o i).2.2.1.natAbs < 2 ^ (3 * b + 8) ∧ (nums o i).2.2.2.natAbs < 2 ^ (3 * b + 8) :=
  ⟨abs_up (det6_sz hi si) (by omega), dotS_sz ho hi so si, dotS_sz hi ho si so, abs_up (det6_sz ho so) (by omega)⟩
end Dl

/-! The data layer, part Q: fractions as the rational numbers of the library. -/
namespace Dl
open PySem L2 PyProof.Rows
abbrev qF (q : Rat) : F2 := (q.num, (q.den : Int))
abbrev qD (q : Rat) : D := fD (qF q)
theorem qF_fit (q : Rat) : fit2 (qF q) := ⟨by have := q.den_nz; show (0 : Int) < (q.den : Int); omega, by
  have := q.reduced
  show Int.gcd q.num (q.den : Int) = 1
  rw [Int.gcd]
  simpa using this⟩
theorem qF_inj {a b : Rat} (e : qF a = qF b) : a = b := by
  have h1 : a.num = b.num := congrArg Prod.fst e
  have h2 : (a.den : Int) = (b.den : Int) := congrArg Prod.snd e
  exact Rat.ext h1 (by omega)
theorem qF_of {p : F2} (h : fit2 p) : ∃ q : Rat, p = qF q := by
  refine ⟨Rat.divInt p.1 p.2, ?_⟩
  have hd : p.2 ≠ 0 := h.ne
  have hq := qF_fit (Rat.divInt p.1 p.2)
  refine fit2_inj h hq ?_
  have e := Rat.num_divInt_den (Rat.divInt p.1 p.2)
  have := (Rat.divInt_eq_divInt_iff hq.ne hd).mp e
  exact this.symm
theorem frP_q {t b : Int} (hb : b ≠ 0) : frP t b = qF (Rat.divInt t b) := by
  have hq := qF_fit (Rat.divInt t b)
  refine frP_is hb hq ?_
  have e := Rat.num_divInt_den (Rat.divInt t b)
  exact ((Rat.divInt_eq_divInt_iff hq.ne hb).mp e).symm
theorem self_q (q : Rat) : q = Rat.divInt q.num (q.den : Int) := (Rat.num_divInt_den q).symm
theorem den_ne (q : Rat) : (q.den : Int) ≠ 0 := (qF_fit q).ne
theorem sumF_q (a b : Rat) : sumF (qF a) (qF b) = qF (a + b) := by
  unfold sumF
  rw [frP_q (mul_ne0 (den_ne a) (den_ne b)), ← Rat.divInt_add_divInt _ _ (den_ne a) (den_ne b), ← self_q, ← self_q]
theorem lessF_q (a b : Rat) : lessF (qF a) (qF b) = qF (a - b) := by
  unfold lessF
  rw [frP_q (mul_ne0 (den_ne a) (den_ne b)), ← Rat.divInt_sub_divInt _ _ (den_ne a) (den_ne b), ← self_q, ← self_q]
theorem timesF_q (a b : Rat) : timesF (qF a) (qF b) = qF (a * b) := by
  unfold timesF
  rw [frP_q (mul_ne0 (den_ne a) (den_ne b)), ← Rat.divInt_mul_divInt, ← self_q, ← self_q]
theorem byF_q (a b : Rat) (h : b ≠ 0) : byF (qF a) (qF b) = qF (a / b) := by
  have hn : b.num ≠ 0 := fun e => h (Rat.num_eq_zero.mp e)
  unfold byF
  rw [frP_q (mul_ne0 (den_ne a) hn), ← Rat.divInt_mul_divInt, ← self_q, ← Rat.inv_divInt, ← self_q, Rat.div_def]
theorem deq_q (a b : Rat) : deq (qD a) (qD b) = decide (a = b) := by
  rw [show qD a = tN [a.num, (a.den : Int)] from rfl, show qD b = tN [b.num, (b.den : Int)] from rfl, deq_tN]
  by_cases h : a = b
  · subst h; simp
  · simp only [h, decide_false]
    cases e : [a.num, (a.den : Int)] == [b.num, (b.den : Int)] with
    | false => rfl
    | true =>
      have := beq_iff_eq.mp e
      simp only [List.cons.injEq, and_true] at this
      exact absurd (Rat.ext this.1 (by omega)) h
theorem fit_q (n : Nat) (a : Rat) : fit (n + 1) (qD a) = true := by simp [fit_tup, fit_int]
theorem isFr_q (a : Rat) : isFr (qD a) = true := isFr_fD (qF_fit a)
theorem isFr_isq {x : D} (h : isFr x = true) : ∃ q : Rat, x = qD q := by
  obtain ⟨p, rfl, hp⟩ := isFr_is h
  obtain ⟨q, rfl⟩ := qF_of hp
  exact ⟨q, rfl⟩
theorem qD_inj {a b : Rat} (e : qD a = qD b) : a = b := by
  injection e with e
  simp only [List.cons.injEq, D.int.injEq, and_true] at e
  exact Rat.ext e.1 (by omega)
theorem q_int (i : Int) : D.tup [.int i, .int 1] = qD (i : Rat) := rfl
theorem q_zero : D.tup [.int 0, .int 1] = qD 0 := rfl
theorem q_one : D.tup [.int 1, .int 1] = qD 1 := rfl
theorem num0 {q : Rat} : q.num = 0 ↔ q = 0 := Rat.num_eq_zero
theorem num0b (q : Rat) : (q.num == 0) = decide (q = 0) := by
  by_cases h : q = 0
  · subst h; rfl
  · have : q.num ≠ 0 := fun e => h (num0.mp e)
    simp [h, this]
/-- sizes -/
def szQ (n : Nat) (q : Rat) : Prop := szF n (qF q)
section
variable {a b : Rat} {m n : Nat}
theorem szQ.up (h : szQ m a) (l : m ≤ n) : szQ n a := szF.up h l
theorem szQ_add (h : szQ m a) (k : szQ n b) : szQ (m + n + 1) (a + b) := by
  have := sumF_sz (qF_fit a) (qF_fit b) h k
  rw [sumF_q] at this; exact this
theorem szQ_sub (h : szQ m a) (k : szQ n b) : szQ (m + n + 1) (a - b) := by
  have := lessF_sz (qF_fit a) (qF_fit b) h k
  rw [lessF_q] at this; exact this
theorem szQ_mul (h : szQ m a) (k : szQ n b) : szQ (m + n) (a * b) := by
  have h1 : (a.num * b.num).natAbs < 2 ^ (m + n) := abs_mul_lt h.1 k.1 (Nat.le_refl _)
  have h2 : ((a.den : Int) * (b.den : Int)).natAbs < 2 ^ (m + n) := abs_mul_lt h.2 k.2 (Nat.le_refl _)
  have := frP_sz (mul_ne0 (den_ne a) (den_ne b)) h1 h2
  have e := timesF_q a b
  unfold timesF at e
  rw [e] at this; exact this
theorem szQ_div (h : szQ m a) (k : szQ n b) (hb : b ≠ 0) : szQ (m + n) (a / b) := by
  have hn : b.num ≠ 0 := fun e => hb (num0.mp e)
  have h1 : (a.num * (b.den : Int)).natAbs < 2 ^ (m + n) := abs_mul_lt h.1 k.2 (Nat.le_refl _)
  have h2 : ((a.den : Int) * b.num).natAbs < 2 ^ (m + n) := abs_mul_lt h.2 k.1 (Nat.le_refl _)
  have := frP_sz (mul_ne0 (den_ne a) hn) h1 h2
  have e := byF_q a b hb
  unfold byF at e
  rw [e] at this; exact this
theorem szQ_int {i : Int} (h : i.natAbs < 2 ^ n) (h1 : 0 < n) : szQ n (i : Rat) := ⟨h, by
  show ((1 : Nat) : Int).natAbs < 2 ^ n
  exact Nat.one_lt_two_pow (by omega)⟩
theorem szQ_mk {t d : Int} (hd : d ≠ 0) (h1 : t.natAbs < 2 ^ n) (h2 : d.natAbs < 2 ^ n) : szQ n (Rat.divInt t d) := by
  have := frP_sz hd h1 h2
  rw [frP_q hd] at this; exact this
end
end Dl

/-! The data layer, part R: constants of the module. -/
namespace Dl
open PySem L2 PyProof.Rows
mutual
inductive KDx (K : PySem.W.Frag) : Value → D → Prop
  | non : KDx K .none .non
  | bl (b : Bool) : KDx K (.bool b) (.bl b)
  | int (i : Int) (t : Tok) : KDx K (.int i t) (.int i)
  | str (x : Str) (t : Tok) : KDx K (.str x t) (.str x)
  | tup {a : Addr} {od : Option Addr} {its : Array Value} {n : Nat} {sl : Array (Option Value)} {ds : List D} : K.lookup a = some ⟨.type "tuple", od, .seq its n, sl⟩ → its.size ≤ sizeLine → KDxA K its.toList ds → KDx K (.ref a) (.tup ds)
  | lst {a : Addr} {its : Array Value} {n : Nat} {sl : Array (Option Value)} {ds : List D} : K.lookup a = some ⟨.type "list", none, .seq its n, sl⟩ → its.size ≤ sizeLine → KDxA K its.toList ds → KDx K (.ref a) (.lst ds)
inductive KDxA (K : PySem.W.Frag) : List Value → List D → Prop
  | nil : KDxA K [] []
  | cons {v : Value} {vs : List Value} {d : D} {ds : List D} : KDx K v d → KDxA K vs ds → KDxA K (v :: vs) (d :: ds)
end
section
variable {K : PySem.W.Frag} {CA : Nat → Addr}
mutual
theorem KDx.dx : ∀ {u : Value} {d : D}, KDx K u d → ∃ v, RelV v u ∧ ∀ F, Dx K CA F v d
  | _, _, .non => ⟨.non, rfl, fun _ => .non⟩
  | _, _, .bl b => ⟨.bl b, rfl, fun _ => .bl b⟩
  | _, _, .int i t => ⟨.int i, ⟨t, rfl⟩, fun _ => .int i⟩
  | _, _, .str x t => ⟨.str x, ⟨t, rfl⟩, fun _ => .str x⟩
  | _, _, .tup (a := a) h s r => by
    obtain ⟨vs, h1, h2⟩ := KDxA.dx r
    exact ⟨.ref a, rfl, fun F => .tup (.inr ⟨_, _, _, h, rfl, rfl, s, h1⟩) (h2 F)⟩
  | _, _, .lst (a := a) h s r => by
    obtain ⟨vs, h1, h2⟩ := KDxA.dx r
    exact ⟨.ref a, rfl, fun F => .lst (.inr ⟨_, _, _, h, rfl, rfl, rfl, s, h1⟩) (h2 F)⟩
theorem KDxA.dx : ∀ {us : List Value} {ds : List D}, KDxA K us ds → ∃ vs, Vals vs us ∧ ∀ F, DxA K CA F vs ds
  | _, _, .nil => ⟨[], .nil, fun _ => .nil⟩
  | _, _, .cons h t => by
    obtain ⟨v, a1, a2⟩ := KDx.dx h
    obtain ⟨vs, b1, b2⟩ := KDxA.dx t
    exact ⟨v :: vs, .cons a1 b1, fun F => .cons (a2 F) (b2 F)⟩
end
end
/-- a constant by the known part of the heap -/
def KG (K : PySem.W.Frag) (x : Str) (d : D) : Prop := ∃ u, PySem.W.nsIn K mainGlobals x = some (some u) ∧ KDx K u d
theorem glS_of {K : PySem.W.Frag} {CA : Nat → Addr} {mg : Str → Option Value} {h : Heap} {x : Str} {d : D} (X : K.In h) (G : h.Ns mainGlobals mg) (g : KG K x d) : GlS CA K mg x d := by
  obtain ⟨u, e, k⟩ := g
  obtain ⟨v, a, b⟩ := KDx.dx (CA := CA) k
  exact ⟨u, v, PySem.W.mg_of X G e, a, b⟩
theorem KG.ofRef {K : PySem.W.Frag} {x : Str} {a : Addr} {d : D} (h : PySem.W.nsIn K mainGlobals x = some (some (.ref a))) (k : KDx K (.ref a) d) : KG K x d := ⟨_, h, k⟩
theorem KG.ofInt {K : PySem.W.Frag} {x : Str} {i : Int} {t : Tok} (h : PySem.W.nsIn K mainGlobals x = some (some (.int i t))) : KG K x (.int i) := ⟨_, h, .int i t⟩
theorem KG.ofStr {K : PySem.W.Frag} {x : Str} {i : Str} {t : Tok} (h : PySem.W.nsIn K mainGlobals x = some (some (.str i t))) : KG K x (.str i) := ⟨_, h, .str i t⟩
end Dl

/-! The data layer, part S: rows of fractions as rows of whole numbers. -/
namespace Dl
open PySem L2 PyProof.Rows
def dpr (vs : List Rat) : Int := vs.foldl (fun s v => s * (v.den : Int)) 1
theorem dpr_snoc (vs : List Rat) (v : Rat) : dpr (vs ++ [v]) = dpr vs * (v.den : Int) := by simp [dpr]
theorem foldl_dvd (d : Int) : ∀ (vs : List Rat) (s : Int), d ∣ s → d ∣ vs.foldl (fun s v => s * (v.den : Int)) s
  | [], _, h => h
  | v :: vs, s, h => foldl_dvd d vs (s * (v.den : Int)) (Int.dvd_trans h (Int.dvd_mul_right ..))
theorem dpr_dvd : ∀ {vs : List Rat} {v : Rat} {s : Int}, v ∈ vs → (v.den : Int) ∣ vs.foldl (fun s v => s * (v.den : Int)) s
  | w :: vs, v, s, h => by
    rcases List.mem_cons.mp h with rfl | h
    · exact foldl_dvd _ vs _ (Int.dvd_mul_left ..)
    · show (v.den : Int) ∣ vs.foldl (fun s v => s * (v.den : Int)) (s * (w.den : Int))
      exact dpr_dvd h
theorem foldl_pos : ∀ (vs : List Rat) (s : Int), 0 < s → 0 < vs.foldl (fun s v => s * (v.den : Int)) s
  | [], _, h => h
  | v :: vs, s, h => foldl_pos vs _ (Int.mul_pos h (qF_fit v).1)
theorem dpr_pos (vs : List Rat) : 0 < dpr vs := foldl_pos vs 1 (by decide)
theorem num_q (v : Rat) : (v.num : Rat) = v * ((v.den : Int) : Rat) := by
  have h := self_q v
  have hd : ((v.den : Int) : Rat) ≠ 0 := fun e => den_ne v (Rat.intCast_inj.mp (by rw [e]; rfl))
  rw [Rat.divInt_eq_div] at h
  grind
def wsx (vs : List Rat) : List Int := vs.map fun v => v.num * (dpr vs).fdiv (v.den : Int)
theorem wsx_q {vs : List Rat} {v : Rat} (h : v ∈ vs) : ((v.num * (dpr vs).fdiv (v.den : Int) : Int) : Rat) = (dpr vs : Rat) * v := by
  obtain ⟨c, hc⟩ : (v.den : Int) ∣ dpr vs := dpr_dvd h
  have hd := den_ne v
  have hd' : ((v.den : Int) : Rat) ≠ 0 := fun e => hd (Rat.intCast_inj.mp (by rw [e]; rfl))
  rw [hc, Int.mul_fdiv_cancel_left c hd, Rat.intCast_mul, Rat.intCast_mul, num_q]
  grind
theorem dpr_sz {b : Nat} : ∀ (vs : List Rat) (s : Int) (a : Nat), s.natAbs < 2 ^ a → (∀ v ∈ vs, szQ b v) → (vs.foldl (fun s v => s * (v.den : Int)) s).natAbs < 2 ^ (a + b * vs.length)
  | [], s, a, h, _ => by simpa using h
  | v :: vs, s, a, h, hv => by
    have h1 : (s * (v.den : Int)).natAbs < 2 ^ (a + b) := abs_mul_lt h (hv v (by simp)).2 (Nat.le_refl _)
    have := dpr_sz vs (s * (v.den : Int)) (a + b) h1 fun w hw => hv w (List.mem_cons_of_mem _ hw)
    rw [List.length_cons, Nat.mul_add, Nat.mul_one, show a + (b * vs.length + b) = a + b + b * vs.length by omega]
    exact this
theorem wsx_sz {b : Nat} {vs : List Rat} (hv : ∀ v ∈ vs, szQ b v) : szL (1 + b * vs.length + b) (wsx vs) := by
  intro n hn
  obtain ⟨v, h, rfl⟩ := List.mem_map.mp hn
  have h1 := dpr_sz vs 1 1 (by decide) hv
  obtain ⟨c, hc⟩ : (v.den : Int) ∣ dpr vs := dpr_dvd h
  have hd := den_ne v
  have h2 : ((dpr vs).fdiv (v.den : Int)).natAbs < 2 ^ (1 + b * vs.length) := by
    rw [hc, Int.mul_fdiv_cancel_left c hd]
    have : dpr vs = (v.den : Int) * c := hc
    refine Nat.lt_of_le_of_lt ?_ h1
    show c.natAbs ≤ (dpr vs).natAbs
    exact natAbs_le_of_mul hd hc.symm
  exact abs_mul_lt (hv v h).1 h2 (by omega)
end Dl

/-! The data layer, part T: a purse of two numbers. -/
namespace Dl
open PySem L2 PyProof.Rows
/-- the store is kept but for the purse -/
def kpU (p : Addr) (μ μ' : Mu) : Prop := (∃ a b : Int, μ' p = some [.int a, .int b]) ∧ ∀ b, μ b ≠ none → b ≠ p → μ' b = μ b
theorem kpU.trans {p : Addr} {μ μ1 μ2 : Mu} (h : kpU p μ μ1) (k : kpU p μ1 μ2) : kpU p μ μ2 :=
  ⟨k.1, fun b hb hp => by rw [k.2 b (by rw [h.2 b hb hp]; exact hb) hp, h.2 b hb hp]⟩
theorem kpU_take {p : Addr} {μ μ1 : Mu} {m n : Int} (h : kpU p μ μ1) : kpU p μ (mset μ1 p [.int m, .int n]) :=
  ⟨⟨m, n, mset_same ..⟩, fun b hb hp => by rw [mset_ne _ _ hp, h.2 b hb hp]⟩
theorem kpU_refl {p : Addr} {μ : Mu} (h : ∃ m n : Int, μ p = some [.int m, .int n]) : kpU p μ μ := ⟨h, fun _ _ _ => rfl⟩
theorem kpU.loc {p d : Addr} {μ μ' : Mu} (h : kpU p μ μ') (hd : μ' d = none) : μ d = none ∧ d ≠ p := by
  have hp : d ≠ p := fun e => by obtain ⟨m, n, hn⟩ := h.1; rw [e, hn] at hd; cases hd
  refine ⟨?_, hp⟩
  cases e : μ d with
  | none => rfl
  | some x => rw [h.2 d (by rw [e]; exact fun h => nomatch h) hp, e] at hd; cases hd
theorem kpU.put {p d : Addr} {μ μ' : Mu} {xs : List D} (h : kpU p μ μ') (hd : μ d = none) (hp : d ≠ p) : kpU p μ (mset μ' d xs) :=
  ⟨by obtain ⟨m, n, hn⟩ := h.1; exact ⟨m, n, by rw [mset_ne _ _ (Ne.symm hp)]; exact hn⟩, fun b hb hbp => by
    have : b ≠ d := fun e => hb (by rw [e]; exact hd)
    rw [mset_ne _ _ this]; exact h.2 b hb hbp⟩
theorem kpU.new {p d : Addr} {μ μ' : Mu} {xs : List D} (h : kpU p μ μ') (hd : μ' d = none) : kpU p μ (mset μ' d xs) := h.put (h.loc hd).1 (h.loc hd).2
theorem kpU.del {p d : Addr} {μ μ' : Mu} (h : kpU p μ μ') (hd : μ d = none) (hp : d ≠ p) : kpU p μ (mdel μ' d) :=
  ⟨by obtain ⟨m, n, hn⟩ := h.1; exact ⟨m, n, by rw [mdel_ne _ (Ne.symm hp)]; exact hn⟩, fun b hb hbp => by
    have : b ≠ d := fun e => hb (by rw [e]; exact hd)
    rw [mdel_ne _ this]; exact h.2 b hb hbp⟩
theorem kpU.own {p d : Addr} {μ μ' : Mu} {xs : List D} (h : kpU p μ μ') (hd : μ d = some xs) (hp : d ≠ p) : μ' d = some xs := by
  rw [h.2 d (by rw [hd]; exact fun h => nomatch h) hp]; exact hd
theorem kpU.ex {p : Addr} {μ μ1 μ2 : Mu} (h : kpU p μ μ1) (k : exM μ1 μ2) : kpU p μ μ2 :=
  ⟨by obtain ⟨m, n, hn⟩ := h.1; exact ⟨m, n, k.own hn⟩, fun b hb hp => by rw [k b (by rw [h.2 b hb hp]; exact hb), h.2 b hb hp]⟩
theorem cutD_ints (ns : List Int) (lo hi : Option Int) : ∃ c : List Int, cutD (ns.map .int) lo hi = c.map .int ∧ c.length ≤ ns.length := by
  unfold cutD
  rw [List.length_map]
  refine ⟨(ns.drop (HT.sIx ns.length 0 lo)).take (HT.sIx ns.length ns.length hi - HT.sIx ns.length 0 lo), by simp, ?_⟩
  rw [List.length_take, List.length_drop]
  omega
theorem ifD_at {L : List D} {r : Int} {P : D → Prop} (h0 : 0 ≤ r) (h1 : r < (L.length : Int)) (h : ∀ x ∈ L, P x) : ifD (L2.atI L r) P := by
  obtain ⟨x, hx, e⟩ := at_in h0 h1
  rw [e]
  exact h x hx
theorem isFr_two (t : Int) : isFr (.tup [.int (2 * t + 2), .int 2]) = false := by
  have : Int.gcd (2 * t + 2) 2 = 2 := by
    rw [show (2 * t + 2) = 2 * (t + 1) by omega, Int.gcd_mul_right_left]
    rfl
  simp [isFr, this]
theorem isFr_low {t b : Int} (h : b < 1) : isFr (.tup [.int t, .int b]) = false := by
  have : ¬ 1 ≤ b := by omega
  simp [isFr, this]
theorem rden_ne (v : Rat) : ((v.den : Int) : Rat) ≠ 0 := fun e => den_ne v (Rat.intCast_inj.mp (by rw [e]; rfl))
theorem rint_ne {i : Int} (h : i ≠ 0) : (i : Rat) ≠ 0 := fun e => h (Rat.intCast_inj.mp (by rw [e]; rfl))
theorem num_pos {v : Rat} (h : 0 < v) : 0 < v.num := by
  have := (Rat.lt_iff 0 v).mp h
  simpa using this
theorem den_pos (v : Rat) : (0 : Int) < (v.den : Int) := (qF_fit v).1
theorem scl_rat {s t : Rat} {p q : Int} (h : (p : Rat) * s = (q : Rat) * t) : ∀ {xs : List Rat} {v w : List Int}, v.map (fun i : Int => (i : Rat)) = xs.map (s * ·) → w.map (fun i : Int => (i : Rat)) = xs.map (t * ·) → scl p v = scl q w
  | [], v, w, hv, hw => by
    cases v with
    | cons => simp at hv
    | nil => cases w with
      | cons => simp at hw
      | nil => rfl
  | x :: xs, [], w, hv, hw => by simp at hv
  | x :: xs, a :: v, [], hv, hw => by simp at hw
  | x :: xs, a :: v, b :: w, hv, hw => by
    simp only [List.map_cons, List.cons.injEq] at hv hw
    simp only [scl, List.map_cons, List.cons.injEq]
    refine ⟨?_, scl_rat h hv.2 hw.2⟩
    refine Rat.intCast_inj.mp ?_
    rw [Rat.intCast_mul, Rat.intCast_mul, hv.1, hw.1]
    grind
theorem kept_rat {xs : List Rat} {v w : List Int} {s t : Rat} (hs : s ≠ 0) (ht : t ≠ 0) (hv : v.map (fun i : Int => (i : Rat)) = xs.map (s * ·)) (hw : w.map (fun i : Int => (i : Rat)) = xs.map (t * ·)) (zv : ¬ allZ v) (zw : ¬ allZ w) : keptL v = keptL w := by
  have r0 : t / s ≠ 0 := by grind
  have h1 := num_q (t / s)
  have h2 := rden_ne (t / s)
  refine keptL_eq (p := (t / s).num) (q := ((t / s).den : Int)) zv zw (fun e => r0 (num0.mp e)) (den_ne _) (scl_rat ?_ hv hw)
  rw [h1]
  generalize (((t / s).den : Int) : Rat) = z at *
  grind
theorem wsx_map (vs : List Rat) : (wsx vs).map (fun i : Int => (i : Rat)) = vs.map ((dpr vs : Rat) * ·) := by
  unfold wsx
  rw [List.map_map]
  exact List.map_congr_left fun v hv => wsx_q hv
theorem dpr_ne (vs : List Rat) : ((dpr vs : Int) : Rat) ≠ 0 := rint_ne (by have := dpr_pos vs; omega)
theorem wsx_z {vs : List Rat} {v : Rat} (h : v ∈ vs) (h0 : v ≠ 0) : ¬ allZ (wsx vs) := fun z => by
  have := z (v.num * (dpr vs).fdiv (v.den : Int)) (by unfold wsx; exact List.mem_map.mpr ⟨v, h, rfl⟩)
  have h1 := wsx_q h
  rw [this] at h1
  have h2 := dpr_ne vs
  have : ((0 : Int) : Rat) = 0 := rfl
  grind
/-! sizes by themselves -/
theorem mul_ok' {x y : Int} {a b : Nat} (h1 : x.natAbs < 2 ^ a) (h2 : y.natAbs < 2 ^ b) (h : a + b ≤ 120000000) : mulOk x y := mul_ok a b h1 h2 h
theorem szm {x y : Int} {a b : Nat} (h1 : x.natAbs < 2 ^ a) (h2 : y.natAbs < 2 ^ b) : (x * y).natAbs < 2 ^ (a + b) := abs_mul_lt h1 h2 (Nat.le_refl _)
theorem sza {x y : Int} {a b : Nat} (h1 : x.natAbs < 2 ^ a) (h2 : y.natAbs < 2 ^ b) : (x + y).natAbs < 2 ^ (max a b + 1) := by
  have h3 : 2 ^ a ≤ 2 ^ max a b := Nat.pow_le_pow_right (by decide) (Nat.le_max_left ..)
  have h4 : 2 ^ b ≤ 2 ^ max a b := Nat.pow_le_pow_right (by decide) (Nat.le_max_right ..)
  rw [Nat.pow_succ]
  omega
theorem szs {x y : Int} {a b : Nat} (h1 : x.natAbs < 2 ^ a) (h2 : y.natAbs < 2 ^ b) : (x - y).natAbs < 2 ^ (max a b + 1) := by
  have h3 : 2 ^ a ≤ 2 ^ max a b := Nat.pow_le_pow_right (by decide) (Nat.le_max_left ..)
  have h4 : 2 ^ b ≤ 2 ^ max a b := Nat.pow_le_pow_right (by decide) (Nat.le_max_right ..)
  rw [Nat.pow_succ]
  omega
theorem szn {x : Int} {a : Nat} (h1 : x.natAbs < 2 ^ a) : (-x).natAbs < 2 ^ a := by rw [Int.natAbs_neg]; exact h1
end Dl

/-! The data layer, part U: curves of second kind in plain numbers. -/
namespace Dl
open PySem L2 PyProof.Rows
def wor : List Int → List Int → Int
  | [a, b, c, d, e, f], [x, y, z] => a * x * x + b * y * y + c * z * z + d * y * z + e * x * z + f * x * y
  | _, _ => 0
def addL (u v : List Int) : List Int := List.zipWith (· + ·) u v
def bot (s u v : List Int) : Int := wor s (addL u v) - wor s u - wor s v
def dual6 : List Int → List Int
  | [a, b, c, d, e, f] => [4 * b * c - d * d, 4 * a * c - e * e, 4 * a * b - f * f, 2 * e * f - 4 * a * d, 2 * d * f - 4 * b * e, 2 * d * e - 4 * c * f]
  | _ => []
theorem dual_len {u : List Int} (h : u.length = 6) : (dual6 u).length = 6 := by
  obtain ⟨a, b, c, d, e, f, rfl⟩ := len6 h; rfl
theorem dual_dual {u : List Int} (h : u.length = 6) : dual6 (dual6 u) = scl (16 * det6 u) u := by
  obtain ⟨a, b, c, d, e, f, rfl⟩ := len6 h
  simp only [dual6, scl, det6, List.map_cons, List.map_nil, List.cons.injEq, and_true]
  refine ⟨by grind, by grind, by grind, by grind, by grind, by grind⟩
theorem det_dual {u : List Int} (h : u.length = 6) : det6 (dual6 u) = 16 * (det6 u * det6 u) := by
  obtain ⟨a, b, c, d, e, f, rfl⟩ := len6 h
  simp only [dual6, det6]
  grind
theorem det_scl (k : Int) {u : List Int} (h : u.length = 6) : det6 (scl k u) = k * k * k * det6 u := by
  obtain ⟨a, b, c, d, e, f, rfl⟩ := len6 h
  simp only [scl, det6, List.map_cons, List.map_nil]
  grind
theorem dual_scl (k : Int) {u : List Int} (h : u.length = 6) : dual6 (scl k u) = scl (k * k) (dual6 u) := by
  obtain ⟨a, b, c, d, e, f, rfl⟩ := len6 h
  simp only [scl, dual6, List.map_cons, List.map_nil, List.cons.injEq, and_true]
  refine ⟨by grind, by grind, by grind, by grind, by grind, by grind⟩
theorem wor_scl (k : Int) {u p : List Int} (h : u.length = 6) (hp : p.length = 3) : wor (scl k u) p = k * wor u p := by
  obtain ⟨a, b, c, d, e, f, rfl⟩ := len6 h
  obtain ⟨x, y, z, rfl⟩ := len3 hp
  simp only [scl, wor, List.map_cons, List.map_nil]
  grind
theorem wor_sclp (k : Int) {u p : List Int} (h : u.length = 6) (hp : p.length = 3) : wor u (scl k p) = k * k * wor u p := by
  obtain ⟨a, b, c, d, e, f, rfl⟩ := len6 h
  obtain ⟨x, y, z, rfl⟩ := len3 hp
  simp only [scl, wor, List.map_cons, List.map_nil]
  grind
theorem det_z {u : List Int} (h : u.length = 6) (hd : det6 u ≠ 0) : ¬ allZ u := fun z => by
  obtain ⟨a, b, c, d, e, f, rfl⟩ := len6 h
  have h1 := z a (by simp)
  have h2 := z b (by simp)
  have h3 := z c (by simp)
  have h4 := z d (by simp)
  have h5 := z e (by simp)
  have h6 := z f (by simp)
  subst h1 h2 h3 h4 h5 h6
  exact hd rfl
theorem det_keptL {u : List Int} (h : u.length = 6) (hd : det6 u ≠ 0) : det6 (keptL u) ≠ 0 := by
  obtain ⟨g, g0, e, _⟩ := keptL_is (det_z h hd)
  intro z
  rw [e, det_scl g (by rw [keptL_len]; exact h), z] at hd
  simp at hd
theorem wor_keptL {u p : List Int} (h : u.length = 6) (hp : p.length = 3) (hz : ¬ allZ u) : wor (keptL u) p = 0 ↔ wor u p = 0 := by
  obtain ⟨g, g0, e, _⟩ := keptL_is hz
  have e2 : wor u p = g * wor (keptL u) p := by
    conv => lhs; rw [e]
    exact wor_scl g (by rw [keptL_len]; exact h) hp
  rw [e2]
  exact ⟨fun z => by rw [z]; simp, fun z => (Int.mul_eq_zero.mp z).resolve_left g0⟩
theorem wor_keptP {u p : List Int} (h : u.length = 6) (hp : p.length = 3) (hz : ¬ allZ p) : wor u (keptL p) = 0 ↔ wor u p = 0 := by
  obtain ⟨g, g0, e, _⟩ := keptL_is hz
  have e2 : wor u p = g * g * wor u (keptL p) := by
    conv => lhs; rw [e]
    exact wor_sclp g h (by rw [keptL_len]; exact hp)
  rw [e2]
  exact ⟨fun z => by rw [z]; simp, fun z => (Int.mul_eq_zero.mp z).resolve_left (Int.mul_ne_zero g0 g0)⟩
theorem dual_keptL {u : List Int} (h : u.length = 6) (hd : det6 u ≠ 0) : keptL (dual6 (keptL u)) = keptL (dual6 u) := by
  obtain ⟨g, g0, e, _⟩ := keptL_is (det_z h hd)
  have hk : (keptL u).length = 6 := by rw [keptL_len]; exact h
  have e2 : dual6 u = scl (g * g) (dual6 (keptL u)) := by
    conv => lhs; rw [e]
    exact dual_scl g hk
  have z : ¬ allZ (dual6 (keptL u)) := by
    refine det_z (dual_len hk) ?_
    rw [det_dual hk]
    have := det_keptL h hd
    have := Int.mul_ne_zero this this
    omega
  rw [e2, keptL_scl (Int.mul_ne_zero g0 g0) z]
theorem dual_det {u : List Int} (h : u.length = 6) (hd : det6 u ≠ 0) : det6 (dual6 u) ≠ 0 := by
  rw [det_dual h]
  have := Int.mul_ne_zero hd hd
  omega
/-- the dual's dual is the curve -/
theorem dual_back {u : List Int} (h : u.length = 6) (hd : det6 u ≠ 0) (hn : nrm u) : keptL (dual6 (keptL (dual6 u))) = u := by
  rw [dual_keptL (dual_len h) (dual_det h hd), dual_dual h, keptL_scl (by omega) (det_z h hd), keptL_nrm hn]
theorem nums_scl (k m : Int) {o i : List Int} (ho : o.length = 6) (hi : i.length = 6) : nums (scl k o) (scl m i) = (m * m * m * (nums o i).1, k * m * m * (nums o i).2.1, k * k * m * (nums o i).2.2.1, k * k * k * (nums o i).2.2.2) := by
  obtain ⟨a, b, c, d, e, f, rfl⟩ := len6 ho
  obtain ⟨a', b', c', d', e', f', rfl⟩ := len6 hi
  simp only [nums, det6, dotL, slp6, scl, List.map_cons, List.map_nil, List.zipWith_cons_cons, List.zipWith_nil_left, List.sum_cons, List.sum_nil]
  refine Prod.ext (by simp only; grind) (Prod.ext (by simp only; grind) (Prod.ext (by simp only; grind) (by simp only; grind)))
theorem dsc_scl (k m : Int) {o i : List Int} (ho : o.length = 6) (hi : i.length = 6) : dscI (nums (scl k o) (scl m i)) = (k * k * k * k * k * k) * (m * m * m * m * m * m) * dscI (nums o i) := by
  rw [nums_scl k m ho hi]
  generalize nums o i = n
  obtain ⟨w, u, v, r⟩ := n
  simp only [dscI]
  grind
theorem dsc_kept {o i : List Int} (ho : o.length = 6) (hi : i.length = 6) (zo : ¬ allZ o) (zi : ¬ allZ i) : dscI (nums (keptL o) (keptL i)) = 0 ↔ dscI (nums o i) = 0 := by
  obtain ⟨g, g0, e, _⟩ := keptL_is zo
  obtain ⟨k, k0, e2, _⟩ := keptL_is zi
  have e3 : dscI (nums o i) = (g * g * g * g * g * g) * (k * k * k * k * k * k) * dscI (nums (keptL o) (keptL i)) := by
    conv => lhs; rw [e, e2]
    exact dsc_scl g k (by rw [keptL_len]; exact ho) (by rw [keptL_len]; exact hi)
  rw [e3]
  have n6 : ∀ {z : Int}, z ≠ 0 → z * z * z * z * z * z ≠ 0 := fun h => mul_ne0 (mul_ne0 (mul_ne0 (mul_ne0 (mul_ne0 h h) h) h) h) h
  exact ⟨fun z => by rw [z]; simp, fun z => (Int.mul_eq_zero.mp z).resolve_left (mul_ne0 (n6 g0) (n6 k0))⟩
/-! shears -/
structure Sh where
  i : Nat
  j : Nat
  a : Int
def Sh.ok (s : Sh) : Prop := s.i < 3 ∧ s.j < 3 ∧ s.i ≠ s.j ∧ s.a.natAbs ≤ 2
def shP (s : Sh) (p : List Int) : List Int := p.set s.i (p.getD s.i 0 + s.a * p.getD s.j 0)
def shI (s : Sh) (p : List Int) : List Int := p.set s.i (p.getD s.i 0 - s.a * p.getD s.j 0)
def shL (s : Sh) (p : List Int) : List Int := p.set s.j (p.getD s.j 0 - s.a * p.getD s.i 0)
theorem sh_cases {s : Sh} (h : s.ok) : (s.i = 0 ∧ s.j = 1) ∨ (s.i = 0 ∧ s.j = 2) ∨ (s.i = 1 ∧ s.j = 0) ∨ (s.i = 1 ∧ s.j = 2) ∨ (s.i = 2 ∧ s.j = 0) ∨ (s.i = 2 ∧ s.j = 1) := by
  obtain ⟨h1, h2, h3, _⟩ := h; omega
theorem shP_len (s : Sh) (p : List Int) : (shP s p).length = p.length := by simp [shP]
theorem shI_len (s : Sh) (p : List Int) : (shI s p).length = p.length := by simp [shI]
theorem shL_len (s : Sh) (p : List Int) : (shL s p).length = p.length := by simp [shL]
def pull1 (s : Sh) (u : List Int) : List Int := [wor u (shI s [1, 0, 0]), wor u (shI s [0, 1, 0]), wor u (shI s [0, 0, 1]), bot u (shI s [0, 1, 0]) (shI s [0, 0, 1]), bot u (shI s [1, 0, 0]) (shI s [0, 0, 1]), bot u (shI s [1, 0, 0]) (shI s [0, 1, 0])]
def endL (L : List Sh) (p : List Int) : List Int := L.foldr shI p
def pullE (L : List Sh) (u : List Int) : List Int := [wor u (endL L [1, 0, 0]), wor u (endL L [0, 1, 0]), wor u (endL L [0, 0, 1]), bot u (endL L [0, 1, 0]) (endL L [0, 0, 1]), bot u (endL L [1, 0, 0]) (endL L [0, 0, 1]), bot u (endL L [1, 0, 0]) (endL L [0, 1, 0])]
def mvP (L : List Sh) (p : List Int) : List Int := L.foldl (fun p s => shP s p) p
def mvL (L : List Sh) (p : List Int) : List Int := L.foldl (fun p s => shL s p) p
section
variable {s : Sh} {u p q : List Int}
theorem pull1_wor (hs : s.ok) (h : u.length = 6) (hp : p.length = 3) : wor u (shI s p) = wor (pull1 s u) p := by
  obtain ⟨a, b, c, d, e, f, rfl⟩ := len6 h
  obtain ⟨x, y, z, rfl⟩ := len3 hp
  obtain ⟨i, j, t⟩ := s
  rcases sh_cases hs with ⟨h1, h2⟩ | ⟨h1, h2⟩ | ⟨h1, h2⟩ | ⟨h1, h2⟩ | ⟨h1, h2⟩ | ⟨h1, h2⟩ <;> simp only at h1 h2 <;> subst h1 h2 <;>
    simp [pull1, shI, wor, bot, addL] <;> grind
theorem pull1_det (hs : s.ok) (h : u.length = 6) : det6 (pull1 s u) = det6 u := by
  obtain ⟨a, b, c, d, e, f, rfl⟩ := len6 h
  obtain ⟨i, j, t⟩ := s
  rcases sh_cases hs with ⟨h1, h2⟩ | ⟨h1, h2⟩ | ⟨h1, h2⟩ | ⟨h1, h2⟩ | ⟨h1, h2⟩ | ⟨h1, h2⟩ <;> simp only at h1 h2 <;> subst h1 h2 <;>
    simp [pull1, shI, wor, bot, addL, det6] <;> grind
theorem pull1_dual (hs : s.ok) (h : u.length = 6) (hp : p.length = 3) : wor (dual6 (pull1 s u)) (shL s p) = wor (dual6 u) p := by
  obtain ⟨a, b, c, d, e, f, rfl⟩ := len6 h
  obtain ⟨x, y, z, rfl⟩ := len3 hp
  obtain ⟨i, j, t⟩ := s
  rcases sh_cases hs with ⟨h1, h2⟩ | ⟨h1, h2⟩ | ⟨h1, h2⟩ | ⟨h1, h2⟩ | ⟨h1, h2⟩ | ⟨h1, h2⟩ <;> simp only at h1 h2 <;> subst h1 h2 <;>
    simp [pull1, shI, shL, wor, bot, addL, dual6] <;> grind
theorem pull1_nums {o i : List Int} (hs : s.ok) (ho : o.length = 6) (hi : i.length = 6) : nums (pull1 s o) (pull1 s i) = nums o i := by
  have d1 := pull1_det hs ho
  have d2 := pull1_det hs hi
  obtain ⟨a, b, c, d, e, f, rfl⟩ := len6 ho
  obtain ⟨a', b', c', d', e', f', rfl⟩ := len6 hi
  simp only [nums, d1, d2]
  refine Prod.ext rfl (Prod.ext ?_ (Prod.ext ?_ rfl)) <;> simp only
  all_goals
    obtain ⟨i, j, t⟩ := s
    rcases sh_cases hs with ⟨h1, h2⟩ | ⟨h1, h2⟩ | ⟨h1, h2⟩ | ⟨h1, h2⟩ | ⟨h1, h2⟩ | ⟨h1, h2⟩ <;> simp only at h1 h2 <;> subst h1 h2 <;>
    simp [pull1, shI, wor, bot, addL, dotL, slp6] <;> grind
theorem shI_P (hs : s.ok) (hp : p.length = 3) : shI s (shP s p) = p := by
  obtain ⟨x, y, z, rfl⟩ := len3 hp
  obtain ⟨i, j, t⟩ := s
  rcases sh_cases hs with ⟨h1, h2⟩ | ⟨h1, h2⟩ | ⟨h1, h2⟩ | ⟨h1, h2⟩ | ⟨h1, h2⟩ | ⟨h1, h2⟩ <;> simp only at h1 h2 <;> subst h1 h2 <;>
    simp [shI, shP] <;> omega
theorem sh_dot (hs : s.ok) (hp : p.length = 3) (hq : q.length = 3) : dot (shP s p) (shL s q) = dot p q := by
  obtain ⟨x, y, z, rfl⟩ := len3 hp
  obtain ⟨x', y', z', rfl⟩ := len3 hq
  obtain ⟨i, j, t⟩ := s
  rcases sh_cases hs with ⟨h1, h2⟩ | ⟨h1, h2⟩ | ⟨h1, h2⟩ | ⟨h1, h2⟩ | ⟨h1, h2⟩ | ⟨h1, h2⟩ <;> simp only at h1 h2 <;> subst h1 h2 <;>
    simp [shL, shP, dot] <;> grind
end
theorem pull1_len (s : Sh) (u : List Int) : (pull1 s u).length = 6 := rfl
theorem pullE_len (L : List Sh) (u : List Int) : (pullE L u).length = 6 := rfl
theorem endL_len (L : List Sh) (p : List Int) : (endL L p).length = p.length := by
  induction L with
  | nil => rfl
  | cons s L ih => show (shI s (endL L p)).length = _; rw [shI_len, ih]
theorem shI_add {s : Sh} {p q : List Int} (hs : s.ok) (hp : p.length = 3) (hq : q.length = 3) : addL (shI s p) (shI s q) = shI s (addL p q) := by
  obtain ⟨x, y, z, rfl⟩ := len3 hp
  obtain ⟨x', y', z', rfl⟩ := len3 hq
  obtain ⟨i, j, t⟩ := s
  rcases sh_cases hs with ⟨h1, h2⟩ | ⟨h1, h2⟩ | ⟨h1, h2⟩ | ⟨h1, h2⟩ | ⟨h1, h2⟩ | ⟨h1, h2⟩ <;> simp only at h1 h2 <;> subst h1 h2 <;>
    simp [shI, addL] <;> grind
theorem addL_len {p q : List Int} (hp : p.length = 3) (hq : q.length = 3) : (addL p q).length = 3 := by
  obtain ⟨x, y, z, rfl⟩ := len3 hp
  obtain ⟨x', y', z', rfl⟩ := len3 hq
  rfl
theorem pull1_bot {s : Sh} {u p q : List Int} (hs : s.ok) (h : u.length = 6) (hp : p.length = 3) (hq : q.length = 3) : bot u (shI s p) (shI s q) = bot (pull1 s u) p q := by
  unfold bot
  rw [shI_add hs hp hq, pull1_wor hs h (addL_len hp hq), pull1_wor hs h hp, pull1_wor hs h hq]
theorem pullE_nil {u : List Int} (h : u.length = 6) : pullE [] u = u := by
  obtain ⟨a, b, c, d, e, f, rfl⟩ := len6 h
  simp [pullE, endL, wor, bot, addL]
  grind
theorem pullE_cons {s : Sh} (L : List Sh) {u : List Int} (hs : s.ok) (h : u.length = 6) : pullE (s :: L) u = pullE L (pull1 s u) := by
  have l0 : (endL L [1, 0, 0]).length = 3 := endL_len ..
  have l1 : (endL L [0, 1, 0]).length = 3 := endL_len ..
  have l2 : (endL L [0, 0, 1]).length = 3 := endL_len ..
  have c : ∀ p, endL (s :: L) p = shI s (endL L p) := fun _ => rfl
  unfold pullE
  rw [c, c, c, pull1_wor hs h l0, pull1_wor hs h l1, pull1_wor hs h l2, pull1_bot hs h l1 l2, pull1_bot hs h l0 l2, pull1_bot hs h l0 l1]
theorem mvP_len (L : List Sh) : ∀ p : List Int, (mvP L p).length = p.length := by
  induction L with
  | nil => intro p; rfl
  | cons s L ih => intro p; show (mvP L (shP s p)).length = _; rw [ih, shP_len]
theorem mvL_len (L : List Sh) : ∀ p : List Int, (mvL L p).length = p.length := by
  induction L with
  | nil => intro p; rfl
  | cons s L ih => intro p; show (mvL L (shL s p)).length = _; rw [ih, shL_len]
abbrev okL (L : List Sh) : Prop := ∀ s ∈ L, s.ok
theorem okL.tl {s : Sh} {L : List Sh} (h : okL (s :: L)) : s.ok ∧ okL L := ⟨h s (by simp), fun t ht => h t (by simp [ht])⟩
theorem pullE_det : ∀ {L : List Sh} {u : List Int}, okL L → u.length = 6 → det6 (pullE L u) = det6 u
  | [], u, _, h => by rw [pullE_nil h]
  | s :: L, u, hL, h => by rw [pullE_cons L hL.tl.1 h, pullE_det hL.tl.2 (pull1_len s u), pull1_det hL.tl.1 h]
theorem pullE_nums : ∀ {L : List Sh} {o i : List Int}, okL L → o.length = 6 → i.length = 6 → nums (pullE L o) (pullE L i) = nums o i
  | [], o, i, _, ho, hi => by rw [pullE_nil ho, pullE_nil hi]
  | s :: L, o, i, hL, ho, hi => by rw [pullE_cons L hL.tl.1 ho, pullE_cons L hL.tl.1 hi, pullE_nums hL.tl.2 (pull1_len s o) (pull1_len s i), pull1_nums hL.tl.1 ho hi]
theorem pullE_wor : ∀ {L : List Sh} {u p : List Int}, okL L → u.length = 6 → p.length = 3 → wor (pullE L u) (mvP L p) = wor u p
  | [], u, p, _, h, _ => by rw [pullE_nil h]; rfl
  | s :: L, u, p, hL, h, hp => by
    have l : (shP s p).length = 3 := by rw [shP_len]; exact hp
    show wor (pullE (s :: L) u) (mvP L (shP s p)) = _
    rw [pullE_cons L hL.tl.1 h, pullE_wor hL.tl.2 (pull1_len s u) l, ← pull1_wor hL.tl.1 h l, shI_P hL.tl.1 hp]
theorem pullE_dual : ∀ {L : List Sh} {u p : List Int}, okL L → u.length = 6 → p.length = 3 → wor (dual6 (pullE L u)) (mvL L p) = wor (dual6 u) p
  | [], u, p, _, h, _ => by rw [pullE_nil h]; rfl
  | s :: L, u, p, hL, h, hp => by
    have l : (shL s p).length = 3 := by rw [shL_len]; exact hp
    show wor (dual6 (pullE (s :: L) u)) (mvL L (shL s p)) = _
    rw [pullE_cons L hL.tl.1 h, pullE_dual hL.tl.2 (pull1_len s u) l, pull1_dual hL.tl.1 h hp]
theorem mv_dot : ∀ {L : List Sh} {p q : List Int}, okL L → p.length = 3 → q.length = 3 → dot (mvP L p) (mvL L q) = dot p q
  | [], p, q, _, _, _ => rfl
  | s :: L, p, q, hL, hp, hq => by
    have l : (shP s p).length = 3 := by rw [shP_len]; exact hp
    have l2 : (shL s q).length = 3 := by rw [shL_len]; exact hq
    show dot (mvP L (shP s p)) (mvL L (shL s q)) = _
    rw [mv_dot hL.tl.2 l l2, sh_dot hL.tl.1 hp hq]
theorem shP_z {s : Sh} {p : List Int} (hs : s.ok) (hp : p.length = 3) (hz : ¬ allZ p) : ¬ allZ (shP s p) := fun z => hz (by
  rw [← shI_P hs hp]
  have hl : (shP s p).length = 3 := by rw [shP_len]; exact hp
  generalize shP s p = q at *
  obtain ⟨x, y, z', rfl⟩ := len3 hl
  have h1 := z x (by simp)
  have h2 := z y (by simp)
  have h3 := z z' (by simp)
  subst h1 h2 h3
  obtain ⟨i, j, t⟩ := s
  rcases sh_cases hs with ⟨h1, h2⟩ | ⟨h1, h2⟩ | ⟨h1, h2⟩ | ⟨h1, h2⟩ | ⟨h1, h2⟩ | ⟨h1, h2⟩ <;> simp only at h1 h2 <;> subst h1 h2 <;>
    simp [shI, allZ])
theorem shL_z {s : Sh} {p : List Int} (hs : s.ok) (hp : p.length = 3) (hz : ¬ allZ p) : ¬ allZ (shL s p) := by
  have e : shL s p = shP ⟨s.j, s.i, -s.a⟩ p := by simp only [shL, shP]; congr 1; grind
  rw [e]
  exact shP_z ⟨hs.2.1, hs.1, Ne.symm hs.2.2.1, by simpa using hs.2.2.2⟩ hp hz
theorem mvP_z : ∀ {L : List Sh} {p : List Int}, okL L → p.length = 3 → ¬ allZ p → ¬ allZ (mvP L p)
  | [], p, _, _, h => h
  | s :: L, p, hL, hp, h => mvP_z (L := L) hL.tl.2 (by rw [shP_len]; exact hp) (shP_z hL.tl.1 hp h)
theorem mvL_z : ∀ {L : List Sh} {p : List Int}, okL L → p.length = 3 → ¬ allZ p → ¬ allZ (mvL L p)
  | [], p, _, _, h => h
  | s :: L, p, hL, hp, h => mvL_z (L := L) hL.tl.2 (by rw [shL_len]; exact hp) (shL_z hL.tl.1 hp h)
theorem two_lt {t y : Int} {n : Nat} (h : t.natAbs ≤ 2) (hy : y.natAbs < 2 ^ n) : (t * y).natAbs < 2 ^ (n + 2) := by
  rw [Int.natAbs_mul, Nat.pow_add]
  have := Nat.mul_le_mul h (Nat.le_refl y.natAbs)
  omega
theorem add_two {x t y : Int} {n : Nat} (hx : x.natAbs < 2 ^ n) (h : t.natAbs ≤ 2) (hy : y.natAbs < 2 ^ n) : (x + t * y).natAbs < 2 ^ (n + 2) ∧ (x - t * y).natAbs < 2 ^ (n + 2) := by
  have e : (t * y).natAbs ≤ 2 * y.natAbs := by rw [Int.natAbs_mul]; exact Nat.mul_le_mul h (Nat.le_refl _)
  rw [Nat.pow_add]
  generalize 2 ^ n = B at *
  omega
theorem shP_sz {s : Sh} {p : List Int} {n : Nat} (hs : s.ok) (hp : p.length = 3) (h : szL n p) : szL (n + 2) (shP s p) ∧ szL (n + 2) (shI s p) := by
  obtain ⟨x, y, z, rfl⟩ := len3 hp
  obtain ⟨h1, h2, h3⟩ := szL3.mp h
  have up : ∀ {x : Int}, x.natAbs < 2 ^ n → x.natAbs < 2 ^ (n + 2) := fun h => abs_up h (by omega)
  have ha := hs.2.2.2
  obtain ⟨i, j, t⟩ := s
  rcases sh_cases hs with ⟨e1, e2⟩ | ⟨e1, e2⟩ | ⟨e1, e2⟩ | ⟨e1, e2⟩ | ⟨e1, e2⟩ | ⟨e1, e2⟩ <;> simp only at e1 e2 ha <;> subst e1 e2 <;>
    refine ⟨szL3.mpr ?_, szL3.mpr ?_⟩ <;> simp only [List.getD_cons_zero, List.getD_cons_succ] <;> refine ⟨?_, ?_, ?_⟩ <;>
    first | exact up (by assumption) | exact (add_two (by assumption) ha (by assumption)).1 | exact (add_two (by assumption) ha (by assumption)).2
theorem shL_sz {s : Sh} {p : List Int} {n : Nat} (hs : s.ok) (hp : p.length = 3) (h : szL n p) : szL (n + 2) (shL s p) := by
  have e : shL s p = shP ⟨s.j, s.i, -s.a⟩ p := by simp only [shL, shP]; congr 1; grind
  rw [e]
  exact (shP_sz ⟨hs.2.1, hs.1, Ne.symm hs.2.2.1, by simpa using hs.2.2.2⟩ hp h).1
theorem mvP_sz : ∀ {L : List Sh} {p : List Int} {n : Nat}, okL L → p.length = 3 → szL n p → szL (n + 2 * L.length) (mvP L p)
  | [], p, n, _, _, h => h
  | s :: L, p, n, hL, hp, h => by
    have := mvP_sz (L := L) (n := n + 2) hL.tl.2 (by rw [shP_len]; exact hp) (shP_sz hL.tl.1 hp h).1
    rw [List.length_cons, show n + 2 * (L.length + 1) = n + 2 + 2 * L.length by omega]
    exact this
theorem mvL_sz : ∀ {L : List Sh} {p : List Int} {n : Nat}, okL L → p.length = 3 → szL n p → szL (n + 2 * L.length) (mvL L p)
  | [], p, n, _, _, h => h
  | s :: L, p, n, hL, hp, h => by
    have := mvL_sz (L := L) (n := n + 2) hL.tl.2 (by rw [shL_len]; exact hp) (shL_sz hL.tl.1 hp h)
    rw [List.length_cons, show n + 2 * (L.length + 1) = n + 2 + 2 * L.length by omega]
    exact this
theorem endL_sz : ∀ {L : List Sh} {p : List Int} {n : Nat}, okL L → p.length = 3 → szL n p → szL (n + 2 * L.length) (endL L p)
  | [], p, n, _, _, h => h
  | s :: L, p, n, hL, hp, h => by
    have := (shP_sz hL.tl.1 (by rw [endL_len]; exact hp) (endL_sz (L := L) hL.tl.2 hp h)).2
    rw [List.length_cons, show n + 2 * (L.length + 1) = n + 2 * L.length + 2 by omega]
    exact this
theorem wor_sz {u p : List Int} {m n : Nat} (h : u.length = 6) (hp : p.length = 3) (su : szL m u) (sp : szL n p) : (wor u p).natAbs < 2 ^ (m + n + n + 5) := by
  obtain ⟨a, b, c, d, e, f, rfl⟩ := len6 h
  obtain ⟨x, y, z, rfl⟩ := len3 hp
  obtain ⟨a1, a2, a3, a4, a5, a6⟩ := szL6.mp su
  obtain ⟨b1, b2, b3⟩ := szL3.mp sp
  have k : ∀ {x y z : Int}, x.natAbs < 2 ^ m → y.natAbs < 2 ^ n → z.natAbs < 2 ^ n → (x * y * z).natAbs < 2 ^ (m + n + n) := fun h1 h2 h3 => szm (szm h1 h2) h3
  simp only [wor]
  exact abs_add_lt (abs_add_lt (abs_add_lt (abs_add_lt (abs_add_lt (k a1 b1 b1) (k a2 b2 b2)) (abs_up (k a3 b3 b3) (by omega))) (abs_up (k a4 b2 b3) (by omega))) (abs_up (k a5 b1 b3) (by omega))) (abs_up (k a6 b1 b2) (by omega))
theorem addL_sz {p q : List Int} {n : Nat} (hp : p.length = 3) (hq : q.length = 3) (sp : szL n p) (sq : szL n q) : szL (n + 1) (addL p q) := by
  obtain ⟨x, y, z, rfl⟩ := len3 hp
  obtain ⟨x', y', z', rfl⟩ := len3 hq
  obtain ⟨a1, a2, a3⟩ := szL3.mp sp
  obtain ⟨b1, b2, b3⟩ := szL3.mp sq
  exact szL3.mpr ⟨abs_add_lt a1 b1, abs_add_lt a2 b2, abs_add_lt a3 b3⟩
theorem bot_sz {u p q : List Int} {m n : Nat} (h : u.length = 6) (hp : p.length = 3) (hq : q.length = 3) (su : szL m u) (sp : szL n p) (sq : szL n q) : (bot u p q).natAbs < 2 ^ (m + n + n + 9) := by
  have h1 := wor_sz h (addL_len hp hq) su (addL_sz hp hq sp sq)
  have h2 := wor_sz h hp su sp
  have h3 := wor_sz h hq su sq
  unfold bot
  exact abs_sub_lt (abs_sub_lt (n := m + n + n + 7) (abs_up h1 (by omega)) (abs_up h2 (by omega))) (abs_up h3 (by omega))
theorem pullE_sz {L : List Sh} {u : List Int} {m : Nat} (hL : okL L) (h : u.length = 6) (su : szL m u) : szL (m + 4 * L.length + 11) (pullE L u) := by
  have s0 : szL 1 [1, 0, 0] := szL3.mpr (by decide)
  have s1 : szL 1 [0, 1, 0] := szL3.mpr (by decide)
  have s2 : szL 1 [0, 0, 1] := szL3.mpr (by decide)
  have t0 := endL_sz (L := L) hL rfl s0
  have t1 := endL_sz (L := L) hL rfl s1
  have t2 := endL_sz (L := L) hL rfl s2
  have l0 : (endL L [1, 0, 0]).length = 3 := endL_len ..
  have l1 : (endL L [0, 1, 0]).length = 3 := endL_len ..
  have l2 : (endL L [0, 0, 1]).length = 3 := endL_len ..
  exact szL6.mpr ⟨abs_up (wor_sz h l0 su t0) (by omega), abs_up (wor_sz h l1 su t1) (by omega), abs_up (wor_sz h l2 su t2) (by omega), abs_up (bot_sz h l1 l2 su t1 t2) (by omega), abs_up (bot_sz h l0 l2 su t0 t2) (by omega), abs_up (bot_sz h l0 l1 su t0 t1) (by omega)⟩
theorem dual_sz {u : List Int} {m : Nat} (h : u.length = 6) (su : szL m u) : szL (m + m + 5) (dual6 u) := by
  obtain ⟨a, b, c, d, e, f, rfl⟩ := len6 h
  obtain ⟨a1, a2, a3, a4, a5, a6⟩ := szL6.mp su
  have k4 : ∀ {x y : Int}, x.natAbs < 2 ^ m → y.natAbs < 2 ^ m → (4 * x * y).natAbs < 2 ^ (3 + m + m) := fun h1 h2 => szm (szm (by decide) h1) h2
  have k2 : ∀ {x y : Int}, x.natAbs < 2 ^ m → y.natAbs < 2 ^ m → (2 * x * y).natAbs < 2 ^ (2 + m + m) := fun h1 h2 => szm (szm (by decide) h1) h2
  have k1 : ∀ {x y : Int}, x.natAbs < 2 ^ m → y.natAbs < 2 ^ m → (x * y).natAbs < 2 ^ (m + m) := fun h1 h2 => szm h1 h2
  refine szL6.mpr ⟨?_, ?_, ?_, ?_, ?_, ?_⟩
  · exact abs_sub_lt (n := m + m + 4) (abs_up (k4 a2 a3) (by omega)) (abs_up (k1 a4 a4) (by omega))
  · exact abs_sub_lt (n := m + m + 4) (abs_up (k4 a1 a3) (by omega)) (abs_up (k1 a5 a5) (by omega))
  · exact abs_sub_lt (n := m + m + 4) (abs_up (k4 a1 a2) (by omega)) (abs_up (k1 a6 a6) (by omega))
  · exact abs_sub_lt (n := m + m + 4) (abs_up (k2 a5 a6) (by omega)) (abs_up (k4 a1 a4) (by omega))
  · exact abs_sub_lt (n := m + m + 4) (abs_up (k2 a4 a6) (by omega)) (abs_up (k4 a2 a5) (by omega))
  · exact abs_sub_lt (n := m + m + 4) (abs_up (k2 a4 a5) (by omega)) (abs_up (k4 a3 a6) (by omega))
/-! the turned shear, for lines -/
def trS (s : Sh) : Sh := ⟨s.j, s.i, -s.a⟩
theorem trS_ok {s : Sh} (h : s.ok) : (trS s).ok := ⟨h.2.1, h.1, Ne.symm h.2.2.1, by simpa [trS] using h.2.2.2⟩
theorem pull1_tr {s : Sh} {u : List Int} (hs : s.ok) (h : u.length = 6) : dual6 (pull1 s u) = pull1 (trS s) (dual6 u) := by
  obtain ⟨a, b, c, d, e, f, rfl⟩ := len6 h
  obtain ⟨i, j, t⟩ := s
  rcases sh_cases hs with ⟨h1, h2⟩ | ⟨h1, h2⟩ | ⟨h1, h2⟩ | ⟨h1, h2⟩ | ⟨h1, h2⟩ | ⟨h1, h2⟩ <;> simp only at h1 h2 <;> subst h1 h2 <;>
    simp [pull1, trS, shI, wor, bot, addL, dual6] <;> (refine ⟨?_, ?_, ?_, ?_, ?_, ?_⟩ <;> grind)
theorem pullE_tr : ∀ {L : List Sh} {u : List Int}, okL L → u.length = 6 → dual6 (pullE L u) = pullE (L.map trS) (dual6 u)
  | [], u, _, h => by rw [pullE_nil h, List.map_nil, pullE_nil (dual_len h)]
  | s :: L, u, hL, h => by rw [pullE_cons L hL.tl.1 h, pullE_tr hL.tl.2 (pull1_len s u), pull1_tr hL.tl.1 h, List.map_cons, pullE_cons (L.map trS) (trS_ok hL.tl.1) (dual_len h)]
theorem bot_sclu (k : Int) {u p q : List Int} (h : u.length = 6) (hp : p.length = 3) (hq : q.length = 3) : bot (scl k u) p q = k * bot u p q := by
  unfold bot
  rw [wor_scl k h (addL_len hp hq), wor_scl k h hp, wor_scl k h hq]
  grind
theorem pullE_scl (k : Int) {L : List Sh} {u : List Int} (h : u.length = 6) : pullE L (scl k u) = scl k (pullE L u) := by
  have l0 : (endL L [1, 0, 0]).length = 3 := endL_len ..
  have l1 : (endL L [0, 1, 0]).length = 3 := endL_len ..
  have l2 : (endL L [0, 0, 1]).length = 3 := endL_len ..
  unfold pullE
  rw [wor_scl k h l0, wor_scl k h l1, wor_scl k h l2, bot_sclu k h l1 l2, bot_sclu k h l0 l2, bot_sclu k h l0 l1]
  rfl
theorem dua_tight {L : List Sh} {six : List Int} (hL : okL L) (h3 : L.length ≤ 3) (h6 : six.length = 6) (s6 : szL 30 six) (hd : det6 six ≠ 0) : szL 53 (keptL (dual6 (keptL (pullE L (keptL (dual6 six)))))) := by
  have l6 : (keptL (dual6 six)).length = 6 := by rw [keptL_len]; exact dual_len h6
  have dd := dual_det h6 hd
  have dk := det_keptL (dual_len h6) dd
  have ei := pullE_det (L := L) hL l6
  have hL' : okL (L.map trS) := fun s hs => by obtain ⟨t, ht, rfl⟩ := List.mem_map.mp hs; exact trS_ok (hL t ht)
  rw [dual_keptL (pullE_len _ _) (by rw [ei]; exact dk), pullE_tr hL l6]
  obtain ⟨g, g0, eg, _⟩ := keptL_is (det_z (dual_len h6) dd)
  have e1 : scl (g * g) (dual6 (keptL (dual6 six))) = scl (16 * det6 six) six := by
    rw [← dual_scl g l6, ← eg, dual_dual h6]
  have e2 : scl (g * g) (pullE (L.map trS) (dual6 (keptL (dual6 six)))) = scl (16 * det6 six) (pullE (L.map trS) six) := by
    rw [← pullE_scl _ (dual_len l6), e1, pullE_scl _ h6]
  have z1 : ¬ allZ (pullE (L.map trS) (dual6 (keptL (dual6 six)))) := det_z (pullE_len _ _) (by rw [pullE_det hL' (dual_len l6)]; exact dual_det l6 dk)
  have z2 : ¬ allZ (pullE (L.map trS) six) := det_z (pullE_len _ _) (by rw [pullE_det hL' h6]; exact hd)
  rw [keptL_eq z1 z2 (mul_ne0 g0 g0) (by omega) e2]
  exact szL_kept (szL_up (pullE_sz hL' h6 s6) (by rw [List.length_map]; omega)) z2
/-! two curves and a flag -/
def laid (s t u v w x y : Int) : List Int := [0 - (v * (0 - s - t) * (0 - s - t) + w * (s * t) * (s * t) + 2 * x * (0 - s - t) * (s * t) + 2 * y * (s * t) + 2 * u * (0 - s - t)), v, w, 2 * x, 2 * y, 2 * u]
structure Flg (o i p l : List Int) : Prop where
  co : cur 100 o
  ci : cur 100 i
  pr : dscI (nums o i) ≠ 0
  tp : tri 100 p
  tl : tri 100 l
  po : wor o p = 0
  pl : dot p l = 0
  li : wor (dual6 i) l = 0
  so : szL 25 o
  sd : szL 53 (keptL (dual6 i))
  sp : szL 14 p
  sl : szL 14 l
theorem flg_of {L : List Sh} {s t : Int} {six : List Int} (hL : okL L) (h3 : L.length ≤ 3) (hs : s.natAbs < 2 ^ 4) (ht : t.natAbs < 2 ^ 4) (h6 : six.length = 6) (s6 : szL 30 six) (hd : det6 six ≠ 0) (hp : dscI (nums [0, 1, 0, 0, -1, 0] (keptL (dual6 six))) ≠ 0) (hw : wor six [1, 0 - s - t, s * t] = 0) :
    Flg (keptL (pullE L [0, 1, 0, 0, -1, 0])) (keptL (pullE L (keptL (dual6 six)))) (keptL (mvP L [s * s, s, 1])) (keptL (mvL L [1, 0 - s - t, s * t])) := by
  have l6 : (keptL (dual6 six)).length = 6 := by rw [keptL_len]; exact dual_len h6
  have dd := dual_det h6 hd
  have dk := det_keptL (dual_len h6) dd
  have so : szL 2 [0, 1, 0, 0, -1, 0] := szL6.mpr (by decide)
  have d0 : det6 [0, 1, 0, 0, -1, 0] ≠ 0 := by decide
  have eo := pullE_det (L := L) (u := [0, 1, 0, 0, -1, 0]) hL rfl
  have ei := pullE_det (L := L) hL l6
  have zo := det_z (pullE_len L [0, 1, 0, 0, -1, 0]) (by rw [eo]; exact d0)
  have zi := det_z (pullE_len L (keptL (dual6 six))) (by rw [ei]; exact dk)
  have si : szL 65 (keptL (dual6 six)) := szL_kept (dual_sz h6 s6) (det_z (dual_len h6) dd)
  have zp0 : ¬ allZ [s * s, s, 1] := fun z => by have := z 1 (by simp); omega
  have zl0 : ¬ allZ [1, 0 - s - t, s * t] := fun z => by have := z 1 (by simp); omega
  have sp : szL 8 [s * s, s, 1] := szL3.mpr ⟨szm hs hs, abs_up hs (by decide), by decide⟩
  have hst : (0 - s - t).natAbs < 2 ^ 8 := by omega
  have sl : szL 8 [1, 0 - s - t, s * t] := szL3.mpr ⟨by decide, hst, szm hs ht⟩
  have zp := mvP_z (L := L) hL rfl zp0
  have zl := mvL_z (L := L) hL rfl zl0
  have lp : (mvP L [s * s, s, 1]).length = 3 := mvP_len ..
  have ll : (mvL L [1, 0 - s - t, s * t]).length = 3 := mvL_len ..
  have lo : (pullE L [0, 1, 0, 0, -1, 0]).length = 6 := rfl
  have li : (pullE L (keptL (dual6 six))).length = 6 := rfl
  refine ⟨cur_kept lo (by rw [eo]; exact d0) (szL_up (pullE_sz hL rfl so) (by omega)), cur_kept li (by rw [ei]; exact dk) (szL_up (pullE_sz hL l6 si) (by omega)), ?_, tri_kept lp zp (szL_up (mvP_sz hL rfl sp) (by omega)), tri_kept ll zl (szL_up (mvL_sz hL rfl sl) (by omega)), ?_, ?_, ?_, szL_kept (szL_up (pullE_sz hL rfl so) (by omega)) zo, dua_tight hL h3 h6 s6 hd, szL_kept (szL_up (mvP_sz hL rfl sp) (by omega)) zp, szL_kept (szL_up (mvL_sz hL rfl sl) (by omega)) zl⟩
  · intro z
    rw [dsc_kept lo li zo zi, pullE_nums hL rfl l6] at z
    exact hp z
  · rw [wor_keptL lo (by rw [keptL_len]; exact lp) zo, wor_keptP lo lp zp, pullE_wor hL rfl rfl]
    simp only [wor]; grind
  · have h1 := (dot_kept (u := keptL (mvP L [s * s, s, 1])) zl).mpr
    refine h1 ?_
    rw [dot_comm, dot_kept zp, dot_comm, mv_dot hL rfl rfl]
    simp [dot]; grind
  · have hk : (keptL (pullE L (keptL (dual6 six)))).length = 6 := by rw [keptL_len]; rfl
    have z2 : ¬ allZ (dual6 (pullE L (keptL (dual6 six)))) := det_z (dual_len li) (dual_det li (by rw [ei]; exact dk))
    have z3 : ¬ allZ (dual6 (keptL (pullE L (keptL (dual6 six))))) := det_z (dual_len hk) (dual_det hk (det_keptL li (by rw [ei]; exact dk)))
    have e1 := dual_keptL li (by rw [ei]; exact dk)
    rw [wor_keptP (dual_len hk) ll zl, ← wor_keptL (dual_len hk) ll z3, e1, wor_keptL (dual_len li) ll z2, pullE_dual hL l6 rfl]
    have z4 : ¬ allZ (dual6 (keptL (dual6 six))) := det_z (dual_len l6) (dual_det l6 dk)
    rw [← wor_keptL (dual_len l6) rfl z4, dual_keptL (dual_len h6) dd, dual_dual h6, keptL_scl (by omega) (det_z h6 hd), wor_keptL h6 rfl (det_z h6 hd)]
    exact hw
theorem laid_wor (s t u v w x y : Int) : wor (laid s t u v w x y) [1, 0 - s - t, s * t] = 0 := by
  simp only [laid, wor]; grind
theorem rngD_cons (j : Int) (n : Nat) : rngD j (n + 1) = .int j :: rngD (j + 1) n := by
  unfold rngD
  rw [List.range_succ_eq_map, List.map_cons, List.map_map]
  simp only [List.cons.injEq, Function.comp_def]
  exact ⟨by simp, List.map_congr_left fun a _ => by simp; omega⟩
/-! the line that touches at a point -/
def pol (u p : List Int) : List Int := [bot u p [1, 0, 0], bot u p [0, 1, 0], bot u p [0, 0, 1]]
theorem pol_is (a b c d e f x y z : Int) : pol [a, b, c, d, e, f] [x, y, z] = [2 * a * x + f * y + e * z, f * x + 2 * b * y + d * z, e * x + d * y + 2 * c * z] := by
  simp only [pol, bot, addL, wor, List.zipWith_cons_cons, List.zipWith_nil_left, List.cons.injEq, and_true]
  refine ⟨by grind, by grind, by grind⟩
theorem pol_z {u p : List Int} (h : u.length = 6) (hp : p.length = 3) (hd : det6 u ≠ 0) (hz : ¬ allZ p) : ¬ allZ (pol u p) := by
  obtain ⟨a, b, c, d, e, f, rfl⟩ := len6 h
  obtain ⟨x, y, z, rfl⟩ := len3 hp
  rw [pol_is, allZ3]
  rintro ⟨h1, h2, h3⟩
  apply hz
  rw [allZ3]
  have k1 : 2 * det6 [a, b, c, d, e, f] * x = 0 := by
    have : (4 * b * c - d * d) * (2 * a * x + f * y + e * z) + (d * e - 2 * c * f) * (f * x + 2 * b * y + d * z) + (d * f - 2 * b * e) * (e * x + d * y + 2 * c * z) = 2 * det6 [a, b, c, d, e, f] * x := by simp only [det6]; grind
    rw [h1, h2, h3] at this; omega
  have k2 : 2 * det6 [a, b, c, d, e, f] * y = 0 := by
    have : (d * e - 2 * c * f) * (2 * a * x + f * y + e * z) + (4 * a * c - e * e) * (f * x + 2 * b * y + d * z) + (e * f - 2 * a * d) * (e * x + d * y + 2 * c * z) = 2 * det6 [a, b, c, d, e, f] * y := by simp only [det6]; grind
    rw [h1, h2, h3] at this; omega
  have k3 : 2 * det6 [a, b, c, d, e, f] * z = 0 := by
    have : (d * f - 2 * b * e) * (2 * a * x + f * y + e * z) + (e * f - 2 * a * d) * (f * x + 2 * b * y + d * z) + (4 * a * b - f * f) * (e * x + d * y + 2 * c * z) = 2 * det6 [a, b, c, d, e, f] * z := by simp only [det6]; grind
    rw [h1, h2, h3] at this; omega
  have n : 2 * det6 [a, b, c, d, e, f] ≠ 0 := by omega
  exact ⟨(Int.mul_eq_zero.mp k1).resolve_left n, (Int.mul_eq_zero.mp k2).resolve_left n, (Int.mul_eq_zero.mp k3).resolve_left n⟩
theorem pol_dual {u p : List Int} (h : u.length = 6) (hp : p.length = 3) : wor (dual6 u) (pol u p) = 4 * det6 u * wor u p := by
  obtain ⟨a, b, c, d, e, f, rfl⟩ := len6 h
  obtain ⟨x, y, z, rfl⟩ := len3 hp
  rw [pol_is]
  simp only [dual6, wor, det6]
  grind
theorem pol_dot {u p : List Int} (h : u.length = 6) (hp : p.length = 3) : dot (pol u p) p = 2 * wor u p := by
  obtain ⟨a, b, c, d, e, f, rfl⟩ := len6 h
  obtain ⟨x, y, z, rfl⟩ := len3 hp
  rw [pol_is]
  simp only [wor, dot]
  grind
theorem pol_len (u p : List Int) : (pol u p).length = 3 := rfl
theorem pol_sz {u p : List Int} {m : Nat} (h : u.length = 6) (hp : p.length = 3) (su : szL m u) (sp : szL m p) (hm : 1 ≤ m) : szL (m + m + m + 9) (pol u p) := by
  have s0 : szL m [1, 0, 0] := szL_up (szL3.mpr (by decide)) hm
  have s1 : szL m [0, 1, 0] := szL_up (szL3.mpr (by decide)) hm
  have s2 : szL m [0, 0, 1] := szL_up (szL3.mpr (by decide)) hm
  exact szL3.mpr ⟨bot_sz h hp rfl su sp s0, bot_sz h hp rfl su sp s1, bot_sz h hp rfl su sp s2⟩
theorem cur_up {m n : Nat} {u : List Int} (h : cur m u) (l : m ≤ n) : cur n u := ⟨h.1, h.2.1, h.2.2.1, szL_up h.2.2.2 l⟩
theorem tri_up {m n : Nat} {u : List Int} (h : tri m u) (l : m ≤ n) : tri n u := ⟨h.1, h.2.1, szL_up h.2.2 l⟩
/-- the dual curve -/
def dua (u : List Int) : List Int := keptL (dual6 u)
theorem dua_cur {m : Nat} {u : List Int} (h : cur m u) : cur (m + m + 5) (dua u) := cur_kept (dual_len h.1) (dual_det h.1 h.2.1) (dual_sz h.1 h.2.2.2)
theorem dua_dua {m : Nat} {u : List Int} (h : cur m u) : dua (dua u) = u := dual_back h.1 h.2.1 h.2.2.1
theorem dua_wor {m : Nat} {u p : List Int} (h : cur m u) (hp : p.length = 3) : wor (dua u) p = 0 ↔ wor (dual6 u) p = 0 := wor_keptL (dual_len h.1) hp (det_z (dual_len h.1) (dual_det h.1 h.2.1))
theorem beq0 {a b : Int} (h : a = 0 ↔ b = 0) : (a == 0) = (b == 0) := by
  by_cases hb : b = 0
  · rw [hb, h.mpr hb]
  · rw [beq_eq_false_iff_ne.mpr hb, beq_eq_false_iff_ne.mpr fun z => hb (h.mp z)]
/-! things that are shown, by their depth -/
def shA (b n w : Nat) : List D → Prop
  | [] => True
  | x :: xs => shw b n w x ∧ shA b n w xs
theorem shA_mem {b n w : Nat} : ∀ {xs : List D}, shA b n w xs → ∀ x ∈ xs, shw b n w x
  | [], _, x, h => by cases h
  | y :: ys, h, x, hx => by
    rcases List.mem_cons.mp hx with rfl | hx
    · exact h.1
    · exact shA_mem h.2 x hx
theorem shT1 {xs : List D} (h : shA 200 0 300 xs) (hl : xs.length ≤ 6) : shw 200 1 2000 (.tup xs) := shw_tup (k := 6) (shA_mem h) hl (by decide)
theorem shL1 {xs : List D} (h : shA 200 0 300 xs) (hl : xs.length ≤ 6) : shw 200 1 2000 (.lst xs) := shw_lst (k := 6) (shA_mem h) hl (by decide)
theorem shT2 {xs : List D} (h : shA 200 1 2000 xs) (hl : xs.length ≤ 6) : shw 200 2 14000 (.tup xs) := shw_tup (k := 6) (shA_mem h) hl (by decide)
theorem shL2 {xs : List D} (h : shA 200 1 2000 xs) (hl : xs.length ≤ 6) : shw 200 2 14000 (.lst xs) := shw_lst (k := 6) (shA_mem h) hl (by decide)
theorem shT3 {xs : List D} (h : shA 200 2 14000 xs) (hl : xs.length ≤ 6) : shw 200 3 90000 (.tup xs) := shw_tup (k := 6) (shA_mem h) hl (by decide)
theorem shL3 {xs : List D} (h : shA 200 2 14000 xs) (hl : xs.length ≤ 6) : shw 200 3 90000 (.lst xs) := shw_lst (k := 6) (shA_mem h) hl (by decide)
end Dl

/-! The data layer, part V: the other point of a line on a curve. -/
namespace Dl
open PySem L2 PyProof.Rows
theorem pol_crs {u p q : List Int} (h : u.length = 6) (hp : p.length = 3) (hq : q.length = 3) : pol (dual6 u) (crs p q) = scl 2 (crs (pol u p) (pol u q)) := by
  obtain ⟨a, b, c, d, e, f, rfl⟩ := len6 h
  obtain ⟨x, y, z, rfl⟩ := len3 hp
  obtain ⟨x', y', z', rfl⟩ := len3 hq
  rw [pol_is, pol_is]
  simp only [dual6, crs]
  rw [pol_is]
  simp only [scl, List.map_cons, List.map_nil, List.cons.injEq, and_true]
  refine ⟨by grind, by grind, by grind⟩
theorem pol_bot {u p q : List Int} (h : u.length = 6) (hp : p.length = 3) (hq : q.length = 3) : dot (pol u p) q = bot u p q ∧ dot (pol u q) p = bot u p q := by
  obtain ⟨a, b, c, d, e, f, rfl⟩ := len6 h
  obtain ⟨x, y, z, rfl⟩ := len3 hp
  obtain ⟨x', y', z', rfl⟩ := len3 hq
  rw [pol_is, pol_is]
  simp only [dot, bot, wor, addL, List.zipWith_cons_cons, List.zipWith_nil_left]
  exact ⟨by grind, by grind⟩
/-- what is crosswise to two is alike -/
theorem par_of {w m n : List Int} (hw : w.length = 3) (hm : m.length = 3) (hn : n.length = 3) (zw : ¬ allZ w) (h1 : allZ (crs w m)) (h2 : allZ (crs w n)) : allZ (crs m n) := by
  obtain ⟨a, b, c, rfl⟩ := len3 hw
  obtain ⟨x, y, z, rfl⟩ := len3 hm
  obtain ⟨x', y', z', rfl⟩ := len3 hn
  simp only [crs, allZ3] at h1 h2 zw ⊢
  obtain ⟨e1, e2, e3⟩ := h1
  obtain ⟨f1, f2, f3⟩ := h2
  have c0 : ∀ {s t : Int}, s ≠ 0 → s * s * t = 0 → t = 0 := fun hs h => (Int.mul_eq_zero.mp h).resolve_left (Int.mul_ne_zero hs hs)
  by_cases ha : a = 0
  · by_cases hb : b = 0
    · have hc : c ≠ 0 := fun e => zw ⟨ha, hb, e⟩
      subst ha hb
      refine ⟨c0 hc (by grind), c0 hc (by grind), c0 hc (by grind)⟩
    · refine ⟨c0 hb (by grind), c0 hb (by grind), c0 hb (by grind)⟩
  · refine ⟨c0 ha (by grind), c0 ha (by grind), c0 ha (by grind)⟩
theorem crs_perp {p q m : List Int} (hp : p.length = 3) (hq : q.length = 3) (hm : m.length = 3) (h1 : dot m p = 0) (h2 : dot m q = 0) : allZ (crs (crs p q) m) := by
  obtain ⟨a, b, c, rfl⟩ := len3 hp
  obtain ⟨x, y, z, rfl⟩ := len3 hq
  obtain ⟨x', y', z', rfl⟩ := len3 hm
  simp only [dot] at h1 h2
  simp only [crs, allZ3]
  refine ⟨by grind, by grind, by grind⟩
/-- no curve has a whole line -/
theorem no_line {u p q : List Int} (h : u.length = 6) (hd : det6 u ≠ 0) (hp : p.length = 3) (hq : q.length = 3) (z : ¬ allZ (crs p q)) (h1 : wor u p = 0) (h2 : wor u q = 0) : bot u p q ≠ 0 := by
  intro hb
  obtain ⟨b1, b2⟩ := pol_bot h hp hq
  have m1 : dot (pol u p) p = 0 := by rw [pol_dot h hp, h1]; rfl
  have m2 : dot (pol u p) q = 0 := by rw [b1, hb]
  have n1 : dot (pol u q) p = 0 := by rw [b2, hb]
  have n2 : dot (pol u q) q = 0 := by rw [pol_dot h hq, h2]; rfl
  have lw := crs_len hp hq
  have k := par_of lw (pol_len u p) (pol_len u q) z (crs_perp hp hq (pol_len u p) m1 m2) (crs_perp hp hq (pol_len u q) n1 n2)
  refine pol_z (dual_len h) lw (dual_det h hd) z ?_
  rw [pol_crs h hp hq]
  intro n hn
  obtain ⟨t, ht, rfl⟩ := List.mem_map.mp hn
  rw [k t ht]; rfl
/-- two points of a line -/
theorem on_two {l p q : List Int} (hl : l.length = 3) (nl : nrm l) (hp : p.length = 3) (np : nrm p) (hq : q.length = 3) (nq : nrm q) (dp : dot p l = 0) (dq : dot q l = 0) (ne : p ≠ q) : ¬ allZ (crs p q) ∧ ∃ k : Int, k ≠ 0 ∧ crs p q = scl k l := by
  have z : ¬ allZ (crs p q) := fun z => ne (crs_zero hp hq np nq z)
  refine ⟨z, ?_⟩
  have lw := crs_len hp hq
  obtain ⟨k, k0, e, nk⟩ := keptL_is z
  have zz := crs_perp hp hq hl (by rw [dot_comm]; exact dp) (by rw [dot_comm]; exact dq)
  have lk : (keptL (crs p q)).length = 3 := by rw [keptL_len]; exact lw
  have : allZ (crs (keptL (crs p q)) l) := by
    rw [e, crs_scll lk hl] at zz
    intro n hn
    have := zz (k * n) (List.mem_map.mpr ⟨n, hn, rfl⟩)
    exact (Int.mul_eq_zero.mp this).resolve_left k0
  have e2 := crs_zero lk hl nk nl this
  exact ⟨k, k0, by rw [e, e2]⟩
/-- the other point -/
structure Oth (u l p r : List Int) : Prop where
  len : r.length = 3
  nr : nrm r
  on : wor u r = 0
  dl : dot r l = 0
  eq : r = p ↔ wor (dual6 u) l = 0
theorem bot_sq {u p q : List Int} (h : u.length = 6) (hp : p.length = 3) (hq : q.length = 3) : bot u p q * bot u p q - 4 * wor u p * wor u q = - wor (dual6 u) (crs p q) := by
  obtain ⟨a, b, c, d, e', f', rfl⟩ := len6 h
  obtain ⟨x, y, z, rfl⟩ := len3 hp
  obtain ⟨x', y', z', rfl⟩ := len3 hq
  simp [bot, wor, addL, dual6, crs]
  grind
theorem tan_iff {u l p q : List Int} {k : Int} (h : u.length = 6) (hl : l.length = 3) (hp : p.length = 3) (hq : q.length = 3) (k0 : k ≠ 0) (e : crs p q = scl k l) (h1 : wor u p = 0) : bot u p q = 0 ↔ wor (dual6 u) l = 0 := by
  have i := bot_sq h hp hq
  rw [h1, e, wor_sclp k (dual_len h) hl] at i
  have i : bot u p q * bot u p q = - (k * k * wor (dual6 u) l) := by omega
  constructor
  · intro hb
    rw [hb] at i
    have : k * k * wor (dual6 u) l = 0 := by omega
    exact (Int.mul_eq_zero.mp this).resolve_left (Int.mul_ne_zero k0 k0)
  · intro hw
    rw [hw] at i
    have : bot u p q * bot u p q = 0 := by omega
    rcases Int.mul_eq_zero.mp this with h | h <;> exact h
/-- the other point is one -/
theorem oth_uniq {u l p r s : List Int} (h : u.length = 6) (hd : det6 u ≠ 0) (hl : l.length = 3) (nl : nrm l) (hp : p.length = 3) (np : nrm p) (dp : dot p l = 0) (h1 : wor u p = 0) (a : Oth u l p r) (b : Oth u l p s) : r = s := by
  by_cases ht : wor (dual6 u) l = 0
  · rw [a.eq.mpr ht, b.eq.mpr ht]
  have nr : p ≠ r := fun e => ht (a.eq.mp e.symm)
  have ns : p ≠ s := fun e => ht (b.eq.mp e.symm)
  apply Classical.byContradiction
  intro hrs
  obtain ⟨z1, k, k0, e1⟩ := on_two hl nl hp np a.len a.nr dp a.dl nr
  obtain ⟨_, m, m0, e2⟩ := on_two hl nl hp np b.len b.nr dp b.dl ns
  obtain ⟨_, n, n0, e3⟩ := on_two hl nl a.len a.nr b.len b.nr a.dl b.dl hrs
  have hb := no_line h hd hp a.len z1 h1 a.on
  have hr := a.on
  have hs := b.on
  have la := a.len
  have lb := b.len
  have zl := nrm_ne nl
  clear a b hrs nr ns
  obtain ⟨ua, ub, uc, ud, ue, uf, rfl⟩ := len6 h
  obtain ⟨p0, p1, p2, rfl⟩ := len3 hp
  obtain ⟨r0, r1, r2, rfl⟩ := len3 la
  obtain ⟨s0, s1, s2, rfl⟩ := len3 lb
  obtain ⟨l0, l1, l2, rfl⟩ := len3 hl
  simp only [crs, scl, List.map_cons, List.map_nil, List.cons.injEq, and_true] at e1 e2 e3
  simp only [dot] at dp
  obtain ⟨e10, e11, e12⟩ := e1
  obtain ⟨e20, e21, e22⟩ := e2
  obtain ⟨e30, e31, e32⟩ := e3
  -- n p - m r + k s = 0
  have key : n * p0 - m * r0 + k * s0 = 0 ∧ n * p1 - m * r1 + k * s1 = 0 ∧ n * p2 - m * r2 + k * s2 = 0 := by
    have c0 : ∀ {s t : Int}, s ≠ 0 → s * t = 0 → t = 0 := fun hs h => (Int.mul_eq_zero.mp h).resolve_left hs
    rw [allZ3] at zl
    by_cases h0 : l0 = 0
    · by_cases h1 : l1 = 0
      · have h2 : l2 ≠ 0 := fun e => zl ⟨h0, h1, e⟩
        exact ⟨c0 h2 (by grind), c0 h2 (by grind), c0 h2 (by grind)⟩
      · exact ⟨c0 h1 (by grind), c0 h1 (by grind), c0 h1 (by grind)⟩
    · exact ⟨c0 h0 (by grind), c0 h0 (by grind), c0 h0 (by grind)⟩
  obtain ⟨k1, k2, k3⟩ := key
  have f : k * k * wor [ua, ub, uc, ud, ue, uf] [s0, s1, s2] = m * m * wor [ua, ub, uc, ud, ue, uf] [r0, r1, r2] - m * n * bot [ua, ub, uc, ud, ue, uf] [p0, p1, p2] [r0, r1, r2] + n * n * wor [ua, ub, uc, ud, ue, uf] [p0, p1, p2] := by
    have g0 : k * s0 = m * r0 - n * p0 := by omega
    have g1 : k * s1 = m * r1 - n * p1 := by omega
    have g2 : k * s2 = m * r2 - n * p2 := by omega
    have t : k * k * wor [ua, ub, uc, ud, ue, uf] [s0, s1, s2] = wor [ua, ub, uc, ud, ue, uf] [k * s0, k * s1, k * s2] := by simp only [wor]; grind
    rw [t, g0, g1, g2]
    simp only [wor, bot, addL, List.zipWith_cons_cons, List.zipWith_nil_left]
    grind
  rw [hs, hr, h1] at f
  have : m * n * bot [ua, ub, uc, ud, ue, uf] [p0, p1, p2] [r0, r1, r2] = 0 := by omega
  rcases Int.mul_eq_zero.mp this with h | h
  · exact (mul_ne0 m0 n0) h
  · exact hb h
/-- the other point, worked out -/
def othR (u p q : List Int) : List Int := List.zipWith (fun a b => bot u p q * b - wor u q * a) p q
theorem othR_is {u l p q : List Int} (h : u.length = 6) (hd : det6 u ≠ 0) (hl : l.length = 3) (nl : nrm l) (hp : p.length = 3) (np : nrm p) (dp : dot p l = 0) (h1 : wor u p = 0) (hq : q.length = 3) (nq : nrm q) (dq : dot q l = 0) (ne : p ≠ q) : ¬ allZ (othR u p q) ∧ Oth u l p (keptL (othR u p q)) := by
  obtain ⟨z, k, k0, e⟩ := on_two hl nl hp np hq nq dp dq ne
  have ti := tan_iff h hl hp hq k0 e h1
  have lr : (othR u p q).length = 3 := by
    obtain ⟨p0, p1, p2, rfl⟩ := len3 hp
    obtain ⟨r0, r1, r2, rfl⟩ := len3 hq
    rfl
  have cr : crs p (othR u p q) = scl (bot u p q) (crs p q) := by
    obtain ⟨p0, p1, p2, rfl⟩ := len3 hp
    obtain ⟨r0, r1, r2, rfl⟩ := len3 hq
    unfold othR
    generalize bot u [p0, p1, p2] [r0, r1, r2] = B
    generalize wor u [r0, r1, r2] = A
    simp only [crs, scl, List.zipWith_cons_cons, List.zipWith_nil_left, List.map_cons, List.map_nil, List.cons.injEq, and_true]
    refine ⟨by grind, by grind, by grind⟩
  have cr2 : crs q (othR u p q) = scl (wor u q) (crs p q) := by
    obtain ⟨p0, p1, p2, rfl⟩ := len3 hp
    obtain ⟨r0, r1, r2, rfl⟩ := len3 hq
    unfold othR
    generalize bot u [p0, p1, p2] [r0, r1, r2] = B
    generalize wor u [r0, r1, r2] = A
    simp only [crs, scl, List.zipWith_cons_cons, List.zipWith_nil_left, List.map_cons, List.map_nil, List.cons.injEq, and_true]
    refine ⟨by grind, by grind, by grind⟩
  have crz : ∀ {v w : List Int}, v.length = 3 → w.length = 3 → allZ w → allZ (crs v w) := by
    intro v w hv hw hz
    obtain ⟨a, b, c, rfl⟩ := len3 hv
    obtain ⟨x, y, t, rfl⟩ := len3 hw
    rw [allZ3] at hz
    obtain ⟨rfl, rfl, rfl⟩ := hz
    simp [crs, allZ]
  have sz : ∀ {c : Int}, allZ (scl c (crs p q)) → c = 0 := fun {c} hc => Classical.byContradiction fun c0 => z fun n hn => (Int.mul_eq_zero.mp (hc (c * n) (List.mem_map.mpr ⟨n, hn, rfl⟩))).resolve_left c0
  have nz : ¬ allZ (othR u p q) := fun hz => by
    have hb : bot u p q = 0 := sz (by rw [← cr]; exact crz hp lr hz)
    have ha : wor u q = 0 := sz (by rw [← cr2]; exact crz hq lr hz)
    exact no_line h hd hp hq z h1 ha hb
  refine ⟨nz, ⟨by rw [keptL_len]; exact lr, by obtain ⟨_, _, _, n⟩ := keptL_is nz; exact n, ?_, ?_, ?_⟩⟩
  · rw [wor_keptP h lr nz]
    have : wor u (othR u p q) = bot u p q * bot u p q * wor u q - wor u q * bot u p q * bot u p q + wor u q * wor u q * wor u p := by
      obtain ⟨ua, ub, uc, ud, ue, uf, rfl⟩ := len6 h
      obtain ⟨p0, p1, p2, rfl⟩ := len3 hp
      obtain ⟨r0, r1, r2, rfl⟩ := len3 hq
      have gen : ∀ A B : Int, wor [ua, ub, uc, ud, ue, uf] (List.zipWith (fun a b => B * b - A * a) [p0, p1, p2] [r0, r1, r2]) = B * B * wor [ua, ub, uc, ud, ue, uf] [r0, r1, r2] - A * B * bot [ua, ub, uc, ud, ue, uf] [p0, p1, p2] [r0, r1, r2] + A * A * wor [ua, ub, uc, ud, ue, uf] [p0, p1, p2] := by
        intro A B
        simp only [wor, bot, addL, List.zipWith_cons_cons, List.zipWith_nil_left]
        grind
      exact gen _ _
    rw [this, h1]
    grind
  · rw [dot_comm, dot_kept nz, dot_comm]
    obtain ⟨p0, p1, p2, rfl⟩ := len3 hp
    obtain ⟨r0, r1, r2, rfl⟩ := len3 hq
    obtain ⟨l0, l1, l2, rfl⟩ := len3 hl
    unfold othR
    generalize bot u [p0, p1, p2] [r0, r1, r2] = B
    generalize wor u [r0, r1, r2] = A
    simp only [dot] at dp dq
    simp only [dot, List.zipWith_cons_cons, List.zipWith_nil_left]
    grind
  · rw [← ti]
    constructor
    · intro er
      obtain ⟨g, g0, eg, _⟩ := keptL_is nz
      rw [er] at eg
      refine sz ?_
      rw [← cr, eg]
      obtain ⟨p0, p1, p2, rfl⟩ := len3 hp
      simp only [crs, scl, List.map_cons, List.map_nil, allZ3]
      refine ⟨by grind, by grind, by grind⟩
    · intro hb
      have e2 : othR u p q = scl (- wor u q) p := by
        obtain ⟨p0, p1, p2, rfl⟩ := len3 hp
        obtain ⟨r0, r1, r2, rfl⟩ := len3 hq
        unfold othR
        rw [hb]
        simp only [scl, List.zipWith_cons_cons, List.zipWith_nil_left, List.map_cons, List.map_nil, List.cons.injEq, and_true]
        refine ⟨by grind, by grind, by grind⟩
      have a0 : - wor u q ≠ 0 := fun a0 => nz (by
        rw [e2, a0]
        intro n hn
        obtain ⟨t, _, rfl⟩ := List.mem_map.mp hn
        simp)
      rw [e2, keptL_scl a0 (nrm_ne np), keptL_nrm np]
/-- back again -/
theorem oth_back {u l p r : List Int} (h1 : wor u p = 0) (hp : p.length = 3) (np : nrm p) (dp : dot p l = 0) (a : Oth u l p r) : Oth u l r p := ⟨hp, np, h1, dp, ⟨fun e => a.eq.mp e.symm, fun e => (a.eq.mpr e).symm⟩⟩
/-! ### how great the other point is -/
theorem dv1 {d m : Int} {p : List Int} (np : nrm p) (h : ∀ x ∈ p, d ∣ m * x) : d ∣ m := by
  have h1 : d ∣ gcdL (scl m p) := dvd_gcdL fun x hx => by
    obtain ⟨y, hy, rfl⟩ := List.mem_map.mp hx
    exact h y hy
  rw [gcdL_scl, np.1, Int.mul_one] at h1
  exact Int.dvd_natAbs.mp h1
def cof : List Int → List Int → List Int
  | [a, b, c], [x, y, z] => [a * x, b * y, c * z, b * z + c * y, a * z + c * x, a * y + b * x]
  | _, _ => []
/-- the product of two kept rows is kept -/
theorem gauss {p q : List Int} (hp : p.length = 3) (hq : q.length = 3) (np : nrm p) (nq : nrm q) {d : Int} (h : ∀ x ∈ cof p q, d ∣ x) : d ∣ 1 := by
  obtain ⟨a, b, c, rfl⟩ := len3 hp
  obtain ⟨x, y, z, rfl⟩ := len3 hq
  have h0 := h (a * x) (by simp [cof])
  have h1 := h (b * y) (by simp [cof])
  have h2 := h (c * z) (by simp [cof])
  have h3 := h (b * z + c * y) (by simp [cof])
  have h4 := h (a * z + c * x) (by simp [cof])
  have h5 := h (a * y + b * x) (by simp [cof])
  have sub : ∀ {s t w v : Int}, d ∣ s → d ∣ t → w = v * s - t → d ∣ w := fun hs ht e => by rw [e]; exact Int.dvd_sub (Int.dvd_mul_of_dvd_right hs) ht
  have sq : ∀ t ∈ [a, b, c], d ∣ t * t := by
    intro t ht
    refine dv1 nq fun w hw => ?_
    simp only [List.mem_cons, List.not_mem_nil, or_false] at ht hw
    rcases ht with rfl | rfl | rfl <;> rcases hw with rfl | rfl | rfl
    · exact ⟨t * (h0.choose), by have := h0.choose_spec; grind⟩
    · exact sub (v := t) h5 (t := b * (t * x)) (Int.dvd_mul_of_dvd_right h0) (by grind)
    · exact sub (v := t) h4 (t := c * (t * x)) (Int.dvd_mul_of_dvd_right h0) (by grind)
    · exact sub (v := t) h5 (t := a * (t * y)) (Int.dvd_mul_of_dvd_right h1) (by grind)
    · exact ⟨t * (h1.choose), by have := h1.choose_spec; grind⟩
    · exact sub (v := t) h3 (t := c * (t * y)) (Int.dvd_mul_of_dvd_right h1) (by grind)
    · exact sub (v := t) h4 (t := a * (t * z)) (Int.dvd_mul_of_dvd_right h2) (by grind)
    · exact sub (v := t) h3 (t := b * (t * z)) (Int.dvd_mul_of_dvd_right h2) (by grind)
    · exact ⟨t * (h2.choose), by have := h2.choose_spec; grind⟩
  refine dv1 np fun s hs => dv1 np fun t ht => dv1 np fun v hv => dv1 np fun w hw => ?_
  have pig : s = t ∨ s = v ∨ s = w ∨ t = v ∨ t = w ∨ v = w := by
    simp only [List.mem_cons, List.not_mem_nil, or_false] at hs ht hv hw
    rcases hs with rfl | rfl | rfl <;> rcases ht with rfl | rfl | rfl <;> rcases hv with rfl | rfl | rfl <;> rcases hw with rfl | rfl | rfl <;> simp
  have fin : ∀ {m n : Int}, m ∈ [a, b, c] → n = m * m → ∀ k, d ∣ n * k := fun hm e k => by rw [e]; exact Int.dvd_mul_of_dvd_left (sq _ hm)
  rcases pig with rfl | rfl | rfl | rfl | rfl | rfl
  · have := fin hs rfl (v * w); rwa [show 1 * s * s * v * w = s * s * (v * w) by grind]
  · have := fin hs rfl (t * w); rwa [show 1 * s * t * s * w = s * s * (t * w) by grind]
  · have := fin hs rfl (t * v); rwa [show 1 * s * t * v * s = s * s * (t * v) by grind]
  · have := fin ht rfl (s * w); rwa [show 1 * s * t * t * w = t * t * (s * w) by grind]
  · have := fin ht rfl (s * v); rwa [show 1 * s * t * v * t = t * t * (s * v) by grind]
  · have := fin hv rfl (s * t); rwa [show 1 * s * t * v * v = v * v * (s * t) by grind]
theorem wor_crs {u p q x : List Int} (h : u.length = 6) (hp : p.length = 3) (hq : q.length = 3) (hx : x.length = 3) : wor u (crs (crs p q) x) = dot p x * dot p x * wor u q - dot p x * dot q x * bot u p q + dot q x * dot q x * wor u p := by
  obtain ⟨a, b, c, d, e, f, rfl⟩ := len6 h
  obtain ⟨p0, p1, p2, rfl⟩ := len3 hp
  obtain ⟨q0, q1, q2, rfl⟩ := len3 hq
  obtain ⟨x0, x1, x2, rfl⟩ := len3 hx
  simp only [crs, wor, bot, addL, dot, List.zipWith_cons_cons, List.zipWith_nil_left]
  grind
theorem wor_lin {u v w : List Int} (h : u.length = 6) (hv : v.length = 3) (hw : w.length = 3) : wor u (addL v w) = wor u v + wor u w + bot u v w := by
  unfold bot; omega
/-- the six numbers of a line's two points -/
def qf (u l : List Int) : List Int := [wor u (crs l [1, 0, 0]), wor u (crs l [0, 1, 0]), wor u (crs l [0, 0, 1]), bot u (crs l [0, 1, 0]) (crs l [0, 0, 1]), bot u (crs l [1, 0, 0]) (crs l [0, 0, 1]), bot u (crs l [1, 0, 0]) (crs l [0, 1, 0])]
theorem bot_scl (k : Int) {u v w : List Int} (h : u.length = 6) (hv : v.length = 3) (hw : w.length = 3) : bot u (scl k v) (scl k w) = k * k * bot u v w := by
  obtain ⟨a, b, c, d, e, f, rfl⟩ := len6 h
  obtain ⟨p0, p1, p2, rfl⟩ := len3 hv
  obtain ⟨q0, q1, q2, rfl⟩ := len3 hw
  simp only [scl, wor, bot, addL, List.map_cons, List.map_nil, List.zipWith_cons_cons, List.zipWith_nil_left]
  grind
theorem qf_scl (k : Int) {u l : List Int} (h : u.length = 6) (hl : l.length = 3) : qf u (scl k l) = scl (k * k) (qf u l) := by
  have c : ∀ {x : List Int}, x.length = 3 → crs (scl k l) x = scl k (crs l x) := fun hx => crs_scll hl hx k
  have ln : ∀ {x : List Int}, x.length = 3 → (crs l x).length = 3 := fun hx => crs_len hl hx
  unfold qf
  rw [c rfl, c rfl, c rfl, wor_sclp k h (ln rfl), wor_sclp k h (ln rfl), wor_sclp k h (ln rfl), bot_scl k h (ln rfl) (ln rfl), bot_scl k h (ln rfl) (ln rfl), bot_scl k h (ln rfl) (ln rfl)]
  rfl
theorem qf_cof {u p q : List Int} (h : u.length = 6) (hp : p.length = 3) (hq : q.length = 3) (h1 : wor u p = 0) : qf u (crs p q) = scl (-1) (cof p (othR u p q)) := by
  have w0 := fun (x : List Int) (hx : x.length = 3) => wor_crs h hp hq hx
  obtain ⟨p0, p1, p2, rfl⟩ := len3 hp
  obtain ⟨q0, q1, q2, rfl⟩ := len3 hq
  have b0 : ∀ v w : List Int, bot u v w = wor u (addL v w) - wor u v - wor u w := fun _ _ => rfl
  have ad : ∀ x y : List Int, x.length = 3 → y.length = 3 → addL (crs (crs [p0, p1, p2] [q0, q1, q2]) x) (crs (crs [p0, p1, p2] [q0, q1, q2]) y) = crs (crs [p0, p1, p2] [q0, q1, q2]) (addL x y) := by
    intro x y hx hy
    obtain ⟨x0, x1, x2, rfl⟩ := len3 hx
    obtain ⟨y0, y1, y2, rfl⟩ := len3 hy
    simp only [crs, addL, List.zipWith_cons_cons, List.zipWith_nil_left, List.cons.injEq, and_true]
    refine ⟨by grind, by grind, by grind⟩
  unfold qf
  rw [b0 (crs (crs [p0, p1, p2] [q0, q1, q2]) [0, 1, 0]), b0 (crs (crs [p0, p1, p2] [q0, q1, q2]) [1, 0, 0]) (crs (crs [p0, p1, p2] [q0, q1, q2]) [0, 0, 1]), b0 (crs (crs [p0, p1, p2] [q0, q1, q2]) [1, 0, 0]) (crs (crs [p0, p1, p2] [q0, q1, q2]) [0, 1, 0]), ad _ _ rfl rfl, ad _ _ rfl rfl, ad _ _ rfl rfl, w0 _ rfl, w0 _ rfl, w0 _ rfl, w0 _ rfl, w0 _ rfl, w0 _ rfl, h1]
  unfold othR
  generalize bot u [p0, p1, p2] [q0, q1, q2] = B
  generalize wor u [q0, q1, q2] = A
  simp only [cof, scl, dot, addL, List.zipWith_cons_cons, List.zipWith_nil_left, List.map_cons, List.map_nil, List.cons.injEq, and_true]
  refine ⟨by grind, by grind, by grind, by grind, by grind, by grind⟩
theorem cof_scl (g : Int) {p r : List Int} (hp : p.length = 3) (hr : r.length = 3) : cof p (scl g r) = scl g (cof p r) := by
  obtain ⟨p0, p1, p2, rfl⟩ := len3 hp
  obtain ⟨q0, q1, q2, rfl⟩ := len3 hr
  simp only [cof, scl, List.map_cons, List.map_nil, List.cons.injEq, and_true]
  refine ⟨by grind, by grind, by grind, by grind, by grind, by grind⟩
/-- the product of the two points is no greater than the line's six numbers -/
theorem cof_le {u l p r q : List Int} (h : u.length = 6) (hd : det6 u ≠ 0) (hl : l.length = 3) (nl : nrm l) (hp : p.length = 3) (np : nrm p) (dp : dot p l = 0) (h1 : wor u p = 0) (hq : q.length = 3) (nq : nrm q) (dq : dot q l = 0) (ne : p ≠ q) (hr : r = keptL (othR u p q)) : ∃ c : Int, c ≠ 0 ∧ qf u l = scl c (cof p r) := by
  obtain ⟨z, k, k0, e⟩ := on_two hl nl hp np hq nq dp dq ne
  obtain ⟨nz, o⟩ := othR_is h hd hl nl hp np dp h1 hq nq dq ne
  rw [← hr] at o
  obtain ⟨g, g0, eg, _⟩ := keptL_is nz
  rw [← hr] at eg
  have i := qf_cof h hp hq h1
  rw [e, qf_scl k h hl, eg, cof_scl g hp o.len, scl_scl] at i
  have lq : (qf u l).length = 6 := rfl
  have lc : (cof p r).length = 6 := by
    obtain ⟨p0, p1, p2, rfl⟩ := len3 hp
    obtain ⟨q0, q1, q2, rfl⟩ := len3 o.len
    rfl
  have kk : k * k ≠ 0 := mul_ne0 k0 k0
  -- k k divides g
  have kd : k * k ∣ g := by
    have h2 : k * k ∣ gcdL (scl (-1 * g) (cof p r)) := dvd_gcdL fun n hn => by
      rw [← i] at hn
      obtain ⟨t, _, rfl⟩ := List.mem_map.mp hn
      exact Int.dvd_mul_right ..
    rw [gcdL_scl] at h2
    have h3 : gcdL (cof p r) = 1 := by
      have h4 : gcdL (cof p r) ∣ 1 := gauss hp o.len np o.nr fun x hx => gcdL_dvd hx
      have h5 := gcdL_nonneg (cof p r)
      have := Int.le_of_dvd (by decide) h4
      have h6 : gcdL (cof p r) ≠ 0 := fun e => by rw [e] at h4; simp at h4
      omega
    rw [h3, Int.mul_one] at h2
    have := Int.dvd_natAbs.mp h2
    rw [show (-1 * g) = -g by omega] at this
    exact (Int.dvd_neg).mp this
  obtain ⟨c, hc⟩ := kd
  refine ⟨-c, fun e => g0 (by rw [hc, show c = 0 by omega]; simp), ?_⟩
  refine scl_inj kk ?_
  rw [i, scl_scl, hc]
  congr 1
  grind
/-- the greatest of three -/
def mx : List Int → Nat
  | [a, b, c] => max a.natAbs (max b.natAbs c.natAbs)
  | _ => 0
theorem mx_le {v : List Int} (hv : v.length = 3) {n : Nat} : mx v ≤ n ↔ ∀ x ∈ v, x.natAbs ≤ n := by
  obtain ⟨a, b, c, rfl⟩ := len3 hv
  simp only [mx, List.mem_cons, List.not_mem_nil, or_false]
  constructor
  · rintro h x (rfl | rfl | rfl) <;> omega
  · intro h
    have h1 := h a (by simp)
    have h2 := h b (by simp)
    have h3 := h c (by simp)
    omega
theorem mx_mem {v : List Int} (hv : v.length = 3) : ∃ x ∈ v, x.natAbs = mx v := by
  obtain ⟨a, b, c, rfl⟩ := len3 hv
  simp only [mx]
  by_cases h1 : a.natAbs ≥ b.natAbs ∧ a.natAbs ≥ c.natAbs
  · exact ⟨a, by simp, by omega⟩
  · by_cases h2 : b.natAbs ≥ c.natAbs
    · exact ⟨b, by simp, by omega⟩
    · exact ⟨c, by simp, by omega⟩
theorem mx_sz {v : List Int} (hv : v.length = 3) {n : Nat} : szL n v ↔ mx v < 2 ^ n := by
  have hp : 0 < 2 ^ n := Nat.two_pow_pos n
  constructor
  · intro h
    have := (mx_le hv (n := 2 ^ n - 1)).mpr fun x hx => by have := h x hx; omega
    omega
  · intro h x hx
    have := (mx_le hv).mp (Nat.le_refl (mx v)) x hx
    omega
theorem mx_pos {v : List Int} (hv : v.length = 3) (nv : nrm v) : 1 ≤ mx v := by
  rcases Nat.eq_zero_or_pos (mx v) with h | h
  · refine absurd (fun x hx => ?_) (nrm_ne nv)
    have := (mx_le hv).mp (Nat.le_of_eq h) x hx
    omega
  · exact h
theorem two_q {a b q : Nat} (h1 : a ≤ q + b) (h2 : a * b ≤ q * q) : a ≤ 2 * q := by
  apply Classical.byContradiction
  intro h
  have h3 : 2 * q + 1 ≤ a := by omega
  have h4 : q + 1 ≤ b := by omega
  have h5 := Nat.mul_le_mul h3 h4
  have h6 : q * q < (2 * q + 1) * (q + 1) := by
    have : q * q ≤ (2 * q + 1) * q := Nat.mul_le_mul_right _ (by omega)
    have : (2 * q + 1) * q < (2 * q + 1) * (q + 1) := Nat.mul_lt_mul_of_pos_left (by omega) (by omega)
    omega
  omega
/-- two rows by the six numbers of their product -/
theorem mx_cof {p r : List Int} (hp : p.length = 3) (hr : r.length = 3) {q : Nat} (h : ∀ x ∈ cof p r, x.natAbs ≤ q) : mx p * mx r ≤ 2 * q := by
  obtain ⟨x, hx, ex⟩ := mx_mem hp
  obtain ⟨y, hy, ey⟩ := mx_mem hr
  rw [← ex, ← ey, ← Int.natAbs_mul]
  obtain ⟨a, b, c, rfl⟩ := len3 hp
  obtain ⟨s, t, w, rfl⟩ := len3 hr
  have h0 := h (a * s) (by simp [cof])
  have h1 := h (b * t) (by simp [cof])
  have h2 := h (c * w) (by simp [cof])
  have h3 := h (b * w + c * t) (by simp [cof])
  have h4 := h (a * w + c * s) (by simp [cof])
  have h5 := h (a * t + b * s) (by simp [cof])
  have k : ∀ {i j m n : Int}, (i * m).natAbs ≤ q → (j * n).natAbs ≤ q → (i * n + j * m).natAbs ≤ q → (i * n).natAbs ≤ 2 * q := by
    intro i j m n hm hn hs
    refine two_q (b := (j * m).natAbs) (by omega) ?_
    have e : (i * n).natAbs * (j * m).natAbs = (i * m).natAbs * (j * n).natAbs := by
      rw [← Int.natAbs_mul, ← Int.natAbs_mul]; congr 1; grind
    rw [e]
    exact Nat.mul_le_mul hm hn
  have sw : ∀ {m n : Int}, (m + n).natAbs ≤ q → (n + m).natAbs ≤ q := fun h => by rw [Int.add_comm]; exact h
  simp only [List.mem_cons, List.not_mem_nil, or_false] at hx hy
  rcases hx with rfl | rfl | rfl <;> rcases hy with rfl | rfl | rfl
  · omega
  · exact k h0 h1 h5
  · exact k h0 h2 h4
  · exact k h1 h0 (sw h5)
  · omega
  · exact k h1 h2 h3
  · exact k h2 h0 (sw h4)
  · exact k h2 h1 (sw h3)
  · omega
theorem nadd {x y : Int} {a b : Nat} (h : x.natAbs ≤ a) (k : y.natAbs ≤ b) : (x + y).natAbs ≤ a + b := Nat.le_trans (Int.natAbs_add_le x y) (Nat.add_le_add h k)
theorem n2 {x : Int} {a : Nat} (h : x.natAbs ≤ a) : (2 * x).natAbs ≤ a + a := by omega
theorem wor_mx {u v : List Int} {M n : Nat} (h : u.length = 6) (hv : v.length = 3) (hM : ∀ x ∈ u, x.natAbs ≤ M) (hn : ∀ x ∈ v, x.natAbs ≤ n) : (wor u v).natAbs ≤ 6 * (M * (n * n)) := by
  obtain ⟨a, b, c, d, e, f, rfl⟩ := len6 h
  obtain ⟨x, y, z, rfl⟩ := len3 hv
  have k : ∀ {i j m : Int}, i ∈ [a, b, c, d, e, f] → j ∈ [x, y, z] → m ∈ [x, y, z] → (i * j * m).natAbs ≤ M * (n * n) := fun hi hj hm => by
    rw [Int.natAbs_mul, Int.natAbs_mul, Nat.mul_assoc]
    exact Nat.mul_le_mul (hM _ hi) (Nat.mul_le_mul (hn _ hj) (hn _ hm))
  have k1 := k (i := a) (j := x) (m := x) (by simp) (by simp) (by simp)
  have k2 := k (i := b) (j := y) (m := y) (by simp) (by simp) (by simp)
  have k3 := k (i := c) (j := z) (m := z) (by simp) (by simp) (by simp)
  have k4 := k (i := d) (j := y) (m := z) (by simp) (by simp) (by simp)
  have k5 := k (i := e) (j := x) (m := z) (by simp) (by simp) (by simp)
  have k6 := k (i := f) (j := x) (m := y) (by simp) (by simp) (by simp)
  simp only [wor]
  refine Nat.le_trans (nadd (nadd (nadd (nadd (nadd k1 k2) k3) k4) k5) k6) (Nat.le_of_eq ?_)
  generalize M * (n * n) = T
  omega
theorem bot_mx {u v w : List Int} {M n : Nat} (h : u.length = 6) (hv : v.length = 3) (hw : w.length = 3) (hM : ∀ x ∈ u, x.natAbs ≤ M) (hn : ∀ x ∈ v, x.natAbs ≤ n) (hm : ∀ x ∈ w, x.natAbs ≤ n) : (bot u v w).natAbs ≤ 12 * (M * (n * n)) := by
  obtain ⟨a, b, c, d, e, f, rfl⟩ := len6 h
  obtain ⟨x, y, z, rfl⟩ := len3 hv
  obtain ⟨x', y', z', rfl⟩ := len3 hw
  have k : ∀ {i j m : Int}, i ∈ [a, b, c, d, e, f] → j ∈ [x, y, z] → m ∈ [x', y', z'] → (i * j * m).natAbs ≤ M * (n * n) := fun hi hj hm' => by
    rw [Int.natAbs_mul, Int.natAbs_mul, Nat.mul_assoc]
    exact Nat.mul_le_mul (hM _ hi) (Nat.mul_le_mul (hn _ hj) (hm _ hm'))
  have e1 : bot [a, b, c, d, e, f] [x, y, z] [x', y', z'] = 2 * (a * x * x') + 2 * (b * y * y') + 2 * (c * z * z') + (d * y * z' + d * z * y') + (e * x * z' + e * z * x') + (f * x * y' + f * y * x') := by
    simp only [bot, wor, addL, List.zipWith_cons_cons, List.zipWith_nil_left]; grind
  have k1 := k (i := a) (j := x) (m := x') (by simp) (by simp) (by simp)
  have k2 := k (i := b) (j := y) (m := y') (by simp) (by simp) (by simp)
  have k3 := k (i := c) (j := z) (m := z') (by simp) (by simp) (by simp)
  have k4 := k (i := d) (j := y) (m := z') (by simp) (by simp) (by simp)
  have k5 := k (i := d) (j := z) (m := y') (by simp) (by simp) (by simp)
  have k6 := k (i := e) (j := x) (m := z') (by simp) (by simp) (by simp)
  have k7 := k (i := e) (j := z) (m := x') (by simp) (by simp) (by simp)
  have k8 := k (i := f) (j := x) (m := y') (by simp) (by simp) (by simp)
  have k9 := k (i := f) (j := y) (m := x') (by simp) (by simp) (by simp)
  rw [e1]
  refine Nat.le_trans (nadd (nadd (nadd (nadd (nadd (n2 k1) (n2 k2)) (n2 k3)) (nadd k4 k5)) (nadd k6 k7)) (nadd k8 k9)) (Nat.le_of_eq ?_)
  generalize M * (n * n) = T
  omega
theorem qf_mx {u l : List Int} {M : Nat} (h : u.length = 6) (hl : l.length = 3) (hM : ∀ x ∈ u, x.natAbs ≤ M) : ∀ x ∈ qf u l, x.natAbs ≤ 12 * (M * (mx l * mx l)) := by
  have c : ∀ {e : List Int}, e ∈ [[1, 0, 0], [0, 1, 0], [0, 0, 1]] → ∀ x ∈ crs l e, x.natAbs ≤ mx l := by
    obtain ⟨a, b, c, rfl⟩ := len3 hl
    intro e he x hx
    simp only [List.mem_cons, List.not_mem_nil, or_false] at he
    simp only [mx]
    rcases he with rfl | rfl | rfl <;> simp [crs] at hx <;> rcases hx with rfl | rfl | rfl <;> omega
  have c0 := c (e := [1, 0, 0]) (by simp)
  have c1 := c (e := [0, 1, 0]) (by simp)
  have c2 := c (e := [0, 0, 1]) (by simp)
  have ln : ∀ {x : List Int}, x.length = 3 → (crs l x).length = 3 := fun hx => crs_len hl hx
  have w0 := wor_mx h (ln rfl) hM c0
  have w1 := wor_mx h (ln rfl) hM c1
  have w2 := wor_mx h (ln rfl) hM c2
  have b0 := bot_mx h (ln rfl) (ln rfl) hM c1 c2
  have b1 := bot_mx h (ln rfl) (ln rfl) hM c0 c2
  have b2 := bot_mx h (ln rfl) (ln rfl) hM c0 c1
  intro x hx
  simp only [qf, List.mem_cons, List.not_mem_nil, or_false] at hx
  rcases hx with rfl | rfl | rfl | rfl | rfl | rfl <;> omega
/-- heights: the two points of a line on a curve -/
theorem oth_mx {u l p r q : List Int} {m : Nat} (h : u.length = 6) (hd : det6 u ≠ 0) (su : szL m u) (hl : l.length = 3) (nl : nrm l) (hp : p.length = 3) (np : nrm p) (dp : dot p l = 0) (h1 : wor u p = 0) (hq : q.length = 3) (nq : nrm q) (dq : dot q l = 0) (ne : p ≠ q) (hr : r = keptL (othR u p q)) : mx p * mx r ≤ 2 ^ (m + 5) * (mx l * mx l) := by
  obtain ⟨c, c0, e⟩ := cof_le h hd hl nl hp np dp h1 hq nq dq ne hr
  obtain ⟨nz, o⟩ := othR_is h hd hl nl hp np dp h1 hq nq dq ne
  rw [← hr] at o
  have hM : ∀ x ∈ u, x.natAbs ≤ 2 ^ m := fun x hx => Nat.le_of_lt (su x hx)
  have hq := qf_mx h hl hM
  have k := mx_cof hp o.len (q := 12 * (2 ^ m * (mx l * mx l))) fun x hx => by
    have h2 := hq (c * x) (by rw [e]; exact List.mem_map.mpr ⟨x, hx, rfl⟩)
    rw [Int.natAbs_mul] at h2
    have : 1 * x.natAbs ≤ c.natAbs * x.natAbs := Nat.mul_le_mul_right _ (by omega)
    omega
  have e5 : 2 ^ (m + 5) * (mx l * mx l) = 32 * (2 ^ m * (mx l * mx l)) := by
    rw [Nat.pow_add, Nat.mul_comm (2 ^ m), Nat.mul_assoc]
  rw [e5]
  omega
/-- so: heights that go up step by step -/
theorem oth_up {p l r : List Int} {c s : Nat} (hp : 1 ≤ mx p) (k : mx p * mx r ≤ 2 ^ c * (mx l * mx l)) (hs : mx l ≤ 2 ^ s * mx p) : mx r ≤ 2 ^ (c + s) * mx l := by
  have h1 : mx p * mx r ≤ mx p * (2 ^ (c + s) * mx l) := by
    refine Nat.le_trans k ?_
    have : 2 ^ c * (mx l * mx l) ≤ 2 ^ c * (2 ^ s * mx p * mx l) := Nat.mul_le_mul_left _ (Nat.mul_le_mul_right _ hs)
    refine Nat.le_trans this (Nat.le_of_eq ?_)
    rw [Nat.pow_add]
    grind
  exact Nat.le_of_mul_le_mul_left h1 hp
def sp5 (f : D → D → D → D → D → Mu → Pst → Xst → Prop) : DSp
  | [a, b, c, d, e], μ, Q, X => f a b c d e μ Q X
  | _, _, _, _ => False
theorem sp5_of [NC] {f : D → D → D → D → D → Mu → Pst → Xst → Prop} {n : Nat} {m : MB} (h : ∀ a b c d e μ Q X, f a b c d e μ Q X → wpB m (startD n [a, b, c, d, e]) μ (enD Q X)) : ∀ ds μ Q X, sp5 f ds μ Q X → ds.length = 5 ∧ wpB m (startD n ds) μ (enD Q X)
  | [a, b, c, d, e], μ, Q, X, q => ⟨rfl, h a b c d e μ Q X q⟩
  | [], _, _, _, q => q.elim
  | [_], _, _, _, q => q.elim
  | [_, _], _, _, _, q => q.elim
  | [_, _, _], _, _, _, q => q.elim
  | [_, _, _, _], _, _, _, q => q.elim
  | _ :: _ :: _ :: _ :: _ :: _ :: _, _, _, _, q => q.elim
end Dl

/-! The data layer, part W: curves through five points. -/
namespace Dl
open PySem L2 PyProof.Rows
/-- two lines taken together, so many times -/
def two6 : List Int → List Int → Int → List Int
  | [a, b, c], [x, y, z], k => [k * (a * x), k * (b * y), k * (c * z), k * (b * z + c * y), k * (a * z + c * x), k * (a * y + b * x)]
  | _, _, _ => []
def sub6 (u v : List Int) : List Int := List.zipWith (· - ·) u v
/-- the bracket of three points -/
def brk (u v w : List Int) : Int := dot (crs u v) w
theorem two6_len {l m : List Int} {k : Int} (hl : l.length = 3) (hm : m.length = 3) : (two6 l m k).length = 6 := by
  obtain ⟨a, b, c, rfl⟩ := len3 hl
  obtain ⟨x, y, z, rfl⟩ := len3 hm
  rfl
theorem sub6_len {u v : List Int} (hu : u.length = 6) (hv : v.length = 6) : (sub6 u v).length = 6 := by
  simp [sub6, hu, hv]
theorem two6_wor {l m p : List Int} {k : Int} (hl : l.length = 3) (hm : m.length = 3) (hp : p.length = 3) : wor (two6 l m k) p = k * (dot l p * dot m p) := by
  obtain ⟨a, b, c, rfl⟩ := len3 hl
  obtain ⟨x, y, z, rfl⟩ := len3 hm
  obtain ⟨r, s, t, rfl⟩ := len3 hp
  simp only [two6, wor, dot]
  grind
theorem sub6_wor {u v p : List Int} (hu : u.length = 6) (hv : v.length = 6) (hp : p.length = 3) : wor (sub6 u v) p = wor u p - wor v p := by
  obtain ⟨a, b, c, d, e, f, rfl⟩ := len6 hu
  obtain ⟨a', b', c', d', e', f', rfl⟩ := len6 hv
  obtain ⟨r, s, t, rfl⟩ := len3 hp
  simp only [sub6, List.zipWith_cons_cons, List.zipWith_nil_left, wor]
  grind
theorem two6_slp {q n r : List Int} {k : Int} (hq : q.length = 6) (hn : n.length = 3) (hr : r.length = 3) : dotL q (slp6 (two6 n r k)) = -(k * k) * wor q (crs n r) := by
  obtain ⟨a, b, c, d, e, f, rfl⟩ := len6 hq
  obtain ⟨x, y, z, rfl⟩ := len3 hn
  obtain ⟨u, v, w, rfl⟩ := len3 hr
  simp only [two6, slp6, dotL, wor, crs, List.zipWith_cons_cons, List.zipWith_nil_left, List.sum_cons, List.sum_nil]
  grind
theorem two6_det {n r : List Int} {k : Int} (hn : n.length = 3) (hr : r.length = 3) : det6 (two6 n r k) = 0 := by
  obtain ⟨x, y, z, rfl⟩ := len3 hn
  obtain ⟨u, v, w, rfl⟩ := len3 hr
  simp only [two6, det6]
  grind
theorem two6_neg {n r : List Int} {k : Int} (hn : n.length = 3) (hr : r.length = 3) {q : List Int} (hq : q.length = 6) : sub6 q (two6 n r k) = List.zipWith (fun a b => 1 * a + b) q (two6 n r (-k)) := by
  obtain ⟨a, b, c, d, e, f, rfl⟩ := len6 hq
  obtain ⟨x, y, z, rfl⟩ := len3 hn
  obtain ⟨u, v, w, rfl⟩ := len3 hr
  simp only [two6, sub6, List.zipWith_cons_cons, List.zipWith_nil_left, List.cons.injEq, and_true]
  grind
/-- the determinant of two pairs of lines -/
theorem two_det {l m n r : List Int} {s t : Int} (hl : l.length = 3) (hm : m.length = 3) (hn : n.length = 3) (hr : r.length = 3) :
    det6 (sub6 (two6 l m s) (two6 n r t)) = s * s * t * (dot n (crs l m) * dot r (crs l m)) - s * t * t * (dot l (crs n r) * dot m (crs n r)) := by
  have l1 := two6_len (k := s) hl hm
  have l2 := two6_len (k := -t) hn hr
  have h := det6_mix l1 l2 1
  rw [← two6_neg hn hr l1] at h
  simp only [nums] at h
  rw [two6_det hn hr, two6_det hl hm, two6_slp l1 hn hr, two6_slp l2 hl hm, two6_wor hl hm (crs_len hn hr), two6_wor hn hr (crs_len hl hm)] at h
  rw [h]
  grind
section
variable {p q r s : List Int} (hp : p.length = 3) (hq : q.length = 3) (hr : r.length = 3) (hs : s.length = 3)
include hp hq hr
theorem brk_rot : brk q r p = brk p q r := by
  obtain ⟨a, b, c, rfl⟩ := len3 hp
  obtain ⟨d, e, f, rfl⟩ := len3 hq
  obtain ⟨g, h, i, rfl⟩ := len3 hr
  simp only [brk, dot, crs]
  grind
theorem brk_sw : brk q p r = - brk p q r := by
  obtain ⟨a, b, c, rfl⟩ := len3 hp
  obtain ⟨d, e, f, rfl⟩ := len3 hq
  obtain ⟨g, h, i, rfl⟩ := len3 hr
  simp only [brk, dot, crs]
  grind
include hs
/-- lines through four points -/
theorem four1 : dot (crs p q) (crs (crs p r) (crs q s)) = brk p q r * brk p q s := by
  obtain ⟨a, b, c, rfl⟩ := len3 hp
  obtain ⟨d, e, f, rfl⟩ := len3 hq
  obtain ⟨g, h, i, rfl⟩ := len3 hr
  obtain ⟨j, k, l, rfl⟩ := len3 hs
  simp only [brk, dot, crs]
  grind
theorem four2 : dot (crs r s) (crs (crs p r) (crs q s)) = brk p r s * brk q r s := by
  obtain ⟨a, b, c, rfl⟩ := len3 hp
  obtain ⟨d, e, f, rfl⟩ := len3 hq
  obtain ⟨g, h, i, rfl⟩ := len3 hr
  obtain ⟨j, k, l, rfl⟩ := len3 hs
  simp only [brk, dot, crs]
  grind
end
section
variable {a b c d e : List Int} (ha : a.length = 3) (hb : b.length = 3) (hc : c.length = 3) (hd : d.length = 3) (he : e.length = 3)
include ha hb hc hd he
theorem pluck : brk a c e * brk b d e - brk a b e * brk c d e = brk a d e * brk b c e := by
  obtain ⟨a1, a2, a3, rfl⟩ := len3 ha
  obtain ⟨b1, b2, b3, rfl⟩ := len3 hb
  obtain ⟨c1, c2, c3, rfl⟩ := len3 hc
  obtain ⟨d1, d2, d3, rfl⟩ := len3 hd
  obtain ⟨e1, e2, e3, rfl⟩ := len3 he
  simp only [brk, dot, crs]
  grind
theorem pluck2 : brk a d c * brk a b e - brk a b d * brk a e c = brk a b c * brk a d e := by
  obtain ⟨a1, a2, a3, rfl⟩ := len3 ha
  obtain ⟨b1, b2, b3, rfl⟩ := len3 hb
  obtain ⟨c1, c2, c3, rfl⟩ := len3 hc
  obtain ⟨d1, d2, d3, rfl⟩ := len3 hd
  obtain ⟨e1, e2, e3, rfl⟩ := len3 he
  simp only [brk, dot, crs]
  grind
end
/-- five points, no three on one line -/
structure Free (a b c d e : List Int) : Prop where
  abc : brk a b c ≠ 0
  abd : brk a b d ≠ 0
  abe : brk a b e ≠ 0
  acd : brk a c d ≠ 0
  ace : brk a c e ≠ 0
  ade : brk a d e ≠ 0
  bcd : brk b c d ≠ 0
  bce : brk b c e ≠ 0
  bde : brk b d e ≠ 0
  cde : brk c d e ≠ 0
/-- the six numbers of the curve through five points, not kept -/
def thr (a b c d e : List Int) : List Int := sub6 (two6 (jn a b) (jn c d) (dot (jn a c) e * dot (jn b d) e)) (two6 (jn a c) (jn b d) (dot (jn a b) e * dot (jn c d) e))
theorem dot_scll (s : Int) {u v : List Int} : dot (scl s u) v = s * dot u v := by rw [dot_comm, dot_scl, dot_comm]
section
variable {n : Nat} {a b c d e : List Int} (ta : tri n a) (tb : tri n b) (tc : tri n c) (td : tri n d) (te : tri n e) (nab : a ≠ b) (ncd : c ≠ d) (nac : a ≠ c) (nbd : b ≠ d)
include ta tb tc td te nab ncd nac nbd
theorem thr_len : (thr a b c d e).length = 6 := sub6_len (two6_len (tri.jn ta tb nab).1 (tri.jn tc td ncd).1) (two6_len (tri.jn ta tc nac).1 (tri.jn tb td nbd).1)
theorem thr_det : ∃ g : Int, g ≠ 0 ∧ g * det6 (thr a b c d e) = (brk a c e * brk b d e) * (brk a b e * brk c d e) * (brk a b c * brk a b d * (brk a c d * brk b c d)) * (brk a d e * brk b c e) := by
  have l1 := (tri.jn ta tb nab).1
  have l2 := (tri.jn tc td ncd).1
  have l3 := (tri.jn ta tc nac).1
  have l4 := (tri.jn tb td nbd).1
  obtain ⟨g1, z1, e1, _⟩ := keptL_is (tri.crs0 ta tb nab)
  obtain ⟨g2, z2, e2, _⟩ := keptL_is (tri.crs0 tc td ncd)
  obtain ⟨g3, z3, e3, _⟩ := keptL_is (tri.crs0 ta tc nac)
  obtain ⟨g4, z4, e4, _⟩ := keptL_is (tri.crs0 tb td nbd)
  have e1 : crs a b = scl g1 (jn a b) := e1
  have e2 : crs c d = scl g2 (jn c d) := e2
  have e3 : crs a c = scl g3 (jn a c) := e3
  have e4 : crs b d = scl g4 (jn b d) := e4
  have f1 := four1 ta.1 tc.1 tb.1 td.1
  have f2 := four2 ta.1 tc.1 tb.1 td.1
  have f3 := four1 ta.1 tb.1 tc.1 td.1
  have f4 := four2 ta.1 tb.1 tc.1 td.1
  have b1 : brk a c b = - brk a b c := by rw [← brk_rot ta.1 tb.1 tc.1, ← brk_rot tb.1 tc.1 ta.1, brk_sw ta.1 tc.1 tb.1] <;> first | rfl | omega
  have b2 : brk c b d = - brk b c d := brk_sw tb.1 tc.1 td.1
  have p := pluck ta.1 tb.1 tc.1 td.1 te.1
  have s1 : brk a c e = g3 * dot (jn a c) e := by unfold brk; rw [e3, dot_scll]
  have s2 : brk b d e = g4 * dot (jn b d) e := by unfold brk; rw [e4, dot_scll]
  have s3 : brk a b e = g1 * dot (jn a b) e := by unfold brk; rw [e1, dot_scll]
  have s4 : brk c d e = g2 * dot (jn c d) e := by unfold brk; rw [e2, dot_scll]
  rw [e3, e1, e2, crs_scll l1 (by rw [scl_len]; exact l2), crs_sclr l1 l2, dot_scll, dot_scl, dot_scl, b1] at f1
  rw [e4, e1, e2, crs_scll l1 (by rw [scl_len]; exact l2), crs_sclr l1 l2, dot_scll, dot_scl, dot_scl, b2] at f2
  rw [e1, e3, e4, crs_scll l3 (by rw [scl_len]; exact l4), crs_sclr l3 l4, dot_scll, dot_scl, dot_scl] at f3
  rw [e2, e3, e4, crs_scll l3 (by rw [scl_len]; exact l4), crs_sclr l3 l4, dot_scll, dot_scl, dot_scl] at f4
  refine ⟨(g1 * g2 * g3 * g4) * (g1 * g2 * g3 * g4) * (g1 * g2 * g3 * g4), ?_, ?_⟩
  · have z : g1 * g2 * g3 * g4 ≠ 0 := Int.mul_ne_zero (Int.mul_ne_zero (Int.mul_ne_zero z1 z2) z3) z4
    exact Int.mul_ne_zero (Int.mul_ne_zero z z) z
  · unfold thr
    rw [two_det l1 l2 l3 l4, ← p, s1, s2, s3, s4]
    generalize dot (jn a c) (crs (jn a b) (jn c d)) = A at *
    generalize dot (jn b d) (crs (jn a b) (jn c d)) = B at *
    generalize dot (jn a b) (crs (jn a c) (jn b d)) = C at *
    generalize dot (jn c d) (crs (jn a c) (jn b d)) = D at *
    generalize dot (jn a c) e = x1 at *
    generalize dot (jn b d) e = x2 at *
    generalize dot (jn a b) e = x3 at *
    generalize dot (jn c d) e = x4 at *
    generalize brk a b c = y1 at *
    generalize brk a b d = y2 at *
    generalize brk a c d = y3 at *
    generalize brk b c d = y4 at *
    clear p s1 s2 s3 s4 e1 e2 e3 e4 b1 b2
    have h : (g1 * g2 * g3 * g4) * (g1 * g2 * g3 * g4) * (g1 * g2 * g3 * g4) * ((x1 * x2) * (x1 * x2) * (x3 * x4) * (A * B) - (x1 * x2) * (x3 * x4) * (x3 * x4) * (C * D)) = (g3 * x1 * (g4 * x2)) * (g3 * x1 * (g4 * x2)) * (g1 * x3 * (g2 * x4)) * ((g3 * (g1 * (g2 * A))) * (g4 * (g1 * (g2 * B)))) - (g3 * x1 * (g4 * x2)) * (g1 * x3 * (g2 * x4)) * (g1 * x3 * (g2 * x4)) * ((g1 * (g3 * (g4 * C))) * (g2 * (g3 * (g4 * D)))) := by grind
    rw [h, f1, f2, f3, f4]
    grind
theorem thr_free : det6 (thr a b c d e) ≠ 0 ↔ Free a b c d e := by
  obtain ⟨g, g0, h⟩ := thr_det ta tb tc td te nab ncd nac nbd
  constructor
  · intro k
    have h1 := Int.mul_ne_zero g0 k
    rw [h] at h1
    refine ⟨?_, ?_, ?_, ?_, ?_, ?_, ?_, ?_, ?_, ?_⟩ <;> (intro z; rw [z] at h1; simp at h1)
  · intro F k
    rw [k, Int.mul_zero] at h
    exact Int.mul_ne_zero (Int.mul_ne_zero (Int.mul_ne_zero (Int.mul_ne_zero F.ace F.bde) (Int.mul_ne_zero F.abe F.cde)) (Int.mul_ne_zero (Int.mul_ne_zero F.abc F.abd) (Int.mul_ne_zero F.acd F.bcd))) (Int.mul_ne_zero F.ade F.bce) h.symm
/-- it goes through all five -/
theorem thr_on : wor (thr a b c d e) a = 0 ∧ wor (thr a b c d e) b = 0 ∧ wor (thr a b c d e) c = 0 ∧ wor (thr a b c d e) d = 0 ∧ wor (thr a b c d e) e = 0 := by
  have l1 := (tri.jn ta tb nab).1
  have l2 := (tri.jn tc td ncd).1
  have l3 := (tri.jn ta tc nac).1
  have l4 := (tri.jn tb td nbd).1
  have o1 := on_jn ta tb nab
  have o2 := on_jn tc td ncd
  have o3 := on_jn ta tc nac
  have o4 := on_jn tb td nbd
  have key : ∀ p : List Int, p.length = 3 → wor (thr a b c d e) p = dot (jn a c) e * dot (jn b d) e * (dot (jn a b) p * dot (jn c d) p) - dot (jn a b) e * dot (jn c d) e * (dot (jn a c) p * dot (jn b d) p) := by
    intro p hp
    unfold thr
    rw [sub6_wor (two6_len l1 l2) (two6_len l3 l4) hp, two6_wor l1 l2 hp, two6_wor l3 l4 hp]
  refine ⟨?_, ?_, ?_, ?_, ?_⟩
  · rw [key a ta.1, dot_comm (jn a b) a, dot_comm (jn a c) a, o1.1, o3.1]; simp
  · rw [key b tb.1, dot_comm (jn a b) b, dot_comm (jn b d) b, o1.2, o4.1]; simp
  · rw [key c tc.1, dot_comm (jn c d) c, dot_comm (jn a c) c, o2.1, o3.2]; simp
  · rw [key d td.1, dot_comm (jn c d) d, dot_comm (jn b d) d, o2.2, o4.2]; simp
  · rw [key e te.1]; grind
end
/-! one curve alone goes through five points -/
theorem wor_ext {u v : List Int} {s t : Int} (hu : u.length = 6) (hv : v.length = 6) (h : ∀ x : List Int, x.length = 3 → s * wor u x = t * wor v x) : scl s u = scl t v := by
  obtain ⟨a, b, c, d, e, f, rfl⟩ := len6 hu
  obtain ⟨a', b', c', d', e', f', rfl⟩ := len6 hv
  have h1 := h [1, 0, 0] rfl
  have h2 := h [0, 1, 0] rfl
  have h3 := h [0, 0, 1] rfl
  have h4 := h [0, 1, 1] rfl
  have h5 := h [1, 0, 1] rfl
  have h6 := h [1, 1, 0] rfl
  simp only [wor] at h1 h2 h3 h4 h5 h6
  simp only [scl, List.map_cons, List.map_nil, List.cons.injEq, and_true]
  refine ⟨?_, ?_, ?_, ?_, ?_, ?_⟩ <;> grind
section
variable {p q r x u : List Int} (hp : p.length = 3) (hq : q.length = 3) (hr : r.length = 3) (hx : x.length = 3) (hu : u.length = 6)
include hp hq hr hx hu
/-- a form through three points, by the brackets -/
theorem wor_three (h1 : wor u p = 0) (h2 : wor u q = 0) (h3 : wor u r = 0) : brk p q r * brk p q r * wor u x = brk x q r * brk p x r * bot u p q + brk x q r * brk p q x * bot u p r + brk p x r * brk p q x * bot u q r := by
  have e : ∀ al be ga : Int, wor u (addL (addL (scl al p) (scl be q)) (scl ga r)) = al * al * wor u p + be * be * wor u q + ga * ga * wor u r + al * be * bot u p q + al * ga * bot u p r + be * ga * bot u q r := by
    intro al be ga
    obtain ⟨a, b, c, d, e, f, rfl⟩ := len6 hu
    obtain ⟨p1, p2, p3, rfl⟩ := len3 hp
    obtain ⟨q1, q2, q3, rfl⟩ := len3 hq
    obtain ⟨r1, r2, r3, rfl⟩ := len3 hr
    simp only [wor, bot, addL, scl, List.map_cons, List.map_nil, List.zipWith_cons_cons, List.zipWith_nil_left]
    grind
  have c : addL (addL (scl (brk x q r) p) (scl (brk p x r) q)) (scl (brk p q x) r) = scl (brk p q r) x := by
    obtain ⟨p1, p2, p3, rfl⟩ := len3 hp
    obtain ⟨q1, q2, q3, rfl⟩ := len3 hq
    obtain ⟨r1, r2, r3, rfl⟩ := len3 hr
    obtain ⟨x1, x2, x3, rfl⟩ := len3 hx
    simp only [brk, dot, crs, addL, scl, List.map_cons, List.map_nil, List.zipWith_cons_cons, List.zipWith_nil_left, List.cons.injEq, and_true]
    refine ⟨?_, ?_, ?_⟩ <;> grind
  have k := e (brk x q r) (brk p x r) (brk p q x)
  rw [c, wor_sclp _ hu hx, h1, h2, h3] at k
  rw [k]
  grind
end
theorem five_uniq {a b c d e u v : List Int} (ha : a.length = 3) (hb : b.length = 3) (hc : c.length = 3) (hd : d.length = 3) (he : e.length = 3) (F : Free a b c d e) (hu : u.length = 6) (hv : v.length = 6) (nu : nrm u) (nv : nrm v)
    (u1 : wor u a = 0) (u2 : wor u b = 0) (u3 : wor u c = 0) (u4 : wor u d = 0) (u5 : wor u e = 0) (v1 : wor v a = 0) (v2 : wor v b = 0) (v3 : wor v c = 0) (v4 : wor v d = 0) (v5 : wor v e = 0) : u = v := by
  have ku := fun (x : List Int) (hx : x.length = 3) => wor_three ha hb hc hx hu u1 u2 u3
  have kv := fun (x : List Int) (hx : x.length = 3) => wor_three ha hb hc hx hv v1 v2 v3
  have bx : ∀ x : List Int, x.length = 3 → brk x b c = brk b c x := fun x hx => (brk_rot hx hb hc).symm
  have d0 : brk d b c ≠ 0 := by rw [bx d hd]; exact F.bcd
  have e0 : brk e b c ≠ 0 := by rw [bx e he]; exact F.bce
  have fd := ku d hd
  have fe := ku e he
  have gd := kv d hd
  have ge := kv e he
  rw [u4, Int.mul_zero] at fd
  rw [u5, Int.mul_zero] at fe
  rw [v4, Int.mul_zero] at gd
  rw [v5, Int.mul_zero] at ge
  have w0 : ¬ allZ (crs [brk d b c * brk a d c, brk d b c * brk a b d, brk a d c * brk a b d] [brk e b c * brk a e c, brk e b c * brk a b e, brk a e c * brk a b e]) := by
    intro z
    have z3 := (allZ3.mp z).2.2
    have p2 := pluck2 ha hb hc hd he
    have : (brk d b c * brk e b c) * (brk a b c * brk a d e) = 0 := by rw [← p2]; rw [← z3]; grind
    exact Int.mul_ne_zero (Int.mul_ne_zero d0 e0) (Int.mul_ne_zero F.abc F.ade) this
  generalize brk d b c = X at *
  generalize brk a d c = Y at *
  generalize brk a b d = Z at *
  generalize brk e b c = X' at *
  generalize brk a e c = Y' at *
  generalize brk a b e = Z' at *
  have m1 : allZ (crs (crs [X * Y, X * Z, Y * Z] [X' * Y', X' * Z', Y' * Z']) [bot u a b, bot u a c, bot u b c]) := crs_perp rfl rfl rfl (by simp only [dot]; rw [fd]; grind) (by simp only [dot]; rw [fe]; grind)
  have m2 : allZ (crs (crs [X * Y, X * Z, Y * Z] [X' * Y', X' * Z', Y' * Z']) [bot v a b, bot v a c, bot v b c]) := crs_perp rfl rfl rfl (by simp only [dot]; rw [gd]; grind) (by simp only [dot]; rw [ge]; grind)
  have m3 := par_of (crs_len rfl rfl) rfl rfl w0 m1 m2
  obtain ⟨q1, q2, q3⟩ := allZ3.mp m3
  have D0 := F.abc
  have DD := Int.mul_ne_zero D0 D0
  have nz : ∀ {w : List Int}, w.length = 6 → nrm w → (∀ x : List Int, x.length = 3 → brk a b c * brk a b c * wor w x = brk x b c * brk a x c * bot w a b + brk x b c * brk a b x * bot w a c + brk a x c * brk a b x * bot w b c) → ¬ (bot w a b = 0 ∧ bot w a c = 0 ∧ bot w b c = 0) := by
    rintro w hw nw k ⟨z1, z2, z3⟩
    refine nrm_ne nw ?_
    have : scl 1 w = scl 0 w := wor_ext hw hw fun x hx => by
      have h := k x hx
      rw [z1, z2, z3, Int.mul_zero, Int.mul_zero, Int.mul_zero] at h
      rcases Int.mul_eq_zero.mp (show brk a b c * brk a b c * wor w x = 0 by omega) with h | h
      · exact absurd h DD
      · rw [h]; omega
    rw [scl_one] at this
    rw [this]
    intro m hm
    obtain ⟨y, _, rfl⟩ := List.mem_map.mp hm
    omega
  have n1 := nz hu nu ku
  have n2 := nz hv nv kv
  have fin : ∀ s t : Int, s ≠ 0 → t ≠ 0 → (∀ x : List Int, x.length = 3 → s * wor u x = t * wor v x) → u = v := fun s t s0 t0 h => nrm_inj nu nv s0 t0 (wor_ext hu hv h)
  generalize bot u a b = A at *
  generalize bot u a c = B at *
  generalize bot u b c = C at *
  generalize bot v a b = A' at *
  generalize bot v a c = B' at *
  generalize bot v b c = C' at *
  have all : ∀ s t : Int, s * A = t * A' → s * B = t * B' → s * C = t * C' → ∀ x : List Int, x.length = 3 → s * wor u x = t * wor v x := by
    intro s t h1 h2 h3 x hx
    have k1 := ku x hx
    have k2 := kv x hx
    refine Int.eq_of_mul_eq_mul_left DD ?_
    rw [show brk a b c * brk a b c * (s * wor u x) = s * (brk a b c * brk a b c * wor u x) by grind, show brk a b c * brk a b c * (t * wor v x) = t * (brk a b c * brk a b c * wor v x) by grind, k1, k2]
    grind
  by_cases hA : A = 0
  · by_cases hB : B = 0
    · have hC : C ≠ 0 := fun h => n1 ⟨hA, hB, h⟩
      subst hA hB
      have a0 : A' = 0 := by
        rcases Int.mul_eq_zero.mp (show C * A' = 0 by grind) with h | h
        · exact absurd h hC
        · exact h
      have b0 : B' = 0 := by
        rcases Int.mul_eq_zero.mp (show C * B' = 0 by grind) with h | h
        · exact absurd h hC
        · exact h
      have hC' : C' ≠ 0 := fun h => n2 ⟨a0, b0, h⟩
      subst a0 b0
      exact fin C' C hC' hC (all C' C (by omega) (by omega) (by grind))
    · subst hA
      have a0 : A' = 0 := by
        rcases Int.mul_eq_zero.mp (show B * A' = 0 by grind) with h | h
        · exact absurd h hB
        · exact h
      subst a0
      have hB' : B' ≠ 0 := fun h => by
        subst h
        have c0 : C' = 0 := by
          rcases Int.mul_eq_zero.mp (show B * C' = 0 by grind) with h | h
          · exact absurd h hB
          · exact h
        exact n2 ⟨rfl, rfl, c0⟩
      exact fin B' B hB' hB (all B' B (by omega) (by grind) (by grind))
  · have hA' : A' ≠ 0 := fun h => by
      subst h
      have b0 : B' = 0 := by
        rcases Int.mul_eq_zero.mp (show A * B' = 0 by grind) with h | h
        · exact absurd h hA
        · exact h
      have c0 : C' = 0 := by
        rcases Int.mul_eq_zero.mp (show A * C' = 0 by grind) with h | h
        · exact absurd h hA
        · exact h
      exact n2 ⟨rfl, b0, c0⟩
    exact fin A' A hA' hA (all A' A (by grind) (by grind) (by grind))
end Dl

/-! The data layer, part X: rows of roots of cubics. -/
namespace Dl
open PySem L2 PyProof.Rows
theorem at_natD {α : Type} {L : List α} {k : Nat} {x : α} (h : L[k]? = some x) : L2.atI L (k : Int) = some x := by
  have hk := (List.getElem?_eq_some_iff.mp h).1
  unfold L2.atI L2.ixN
  rw [if_pos (by omega), if_pos (by omega)]
  simpa using h
def cv (s : Nat → Rat) (n lo : Nat) : Nat → Rat
  | 0 => 0
  | j + 1 => cv s n lo j + s (lo + j) * s (n - (lo + j))
theorem cv_congr {f g : Nat → Rat} {n lo : Nat} : ∀ m : Nat, (∀ j, j < m → f (lo + j) = g (lo + j) ∧ f (n - (lo + j)) = g (n - (lo + j))) → cv f n lo m = cv g n lo m
  | 0, _ => rfl
  | m + 1, h => by
    have a := h m (by omega)
    unfold cv
    rw [cv_congr m fun j hj => h j (by omega), a.1, a.2]
def nxt (c : Nat → Rat) (L : List Rat) : Rat := (c L.length - cv (fun i => L.getD i 0) L.length 1 (L.length - 1)) * (1 / 2)
def rowL (c : Nat → Rat) : Nat → List Rat
  | 0 => [1]
  | m + 1 => rowL c m ++ [nxt c (rowL c m)]
def rr (c : Nat → Rat) (n : Nat) : Rat := (rowL c n).getD n 0
theorem rowL_len (c : Nat → Rat) : ∀ m, (rowL c m).length = m + 1
  | 0 => rfl
  | m + 1 => by simp [rowL, rowL_len c m]
theorem rowL_get (c : Nat → Rat) {j : Nat} : ∀ {m : Nat}, j ≤ m → (rowL c m)[j]? = some (rr c j)
  | 0, h => by
    have : j = 0 := by omega
    subst this; rfl
  | m + 1, h => by
    by_cases e : j = m + 1
    · subst e
      have l := rowL_len c (m + 1)
      rw [List.getElem?_eq_getElem (by omega)]
      unfold rr
      rw [List.getD_eq_getElem?_getD, List.getElem?_eq_getElem (by omega)]
      rfl
    · unfold rowL
      rw [List.getElem?_append_left (by rw [rowL_len]; omega)]
      exact rowL_get c (by omega)
theorem rowL_getD (c : Nat → Rat) {j m : Nat} (h : j ≤ m) : (rowL c m).getD j 0 = rr c j := by
  rw [List.getD_eq_getElem?_getD, rowL_get c h]; rfl
theorem rr0 (c : Nat → Rat) : rr c 0 = 1 := rfl
theorem nxt_is (c : Nat → Rat) (m : Nat) : nxt c (rowL c m) = (c (m + 1) - cv (rr c) (m + 1) 1 m) * (1 / 2) := by
  unfold nxt
  rw [rowL_len]
  rw [show m + 1 - 1 = m by omega]
  rw [cv_congr (g := rr c) m fun j hj => ⟨rowL_getD c (by omega), rowL_getD c (by omega)⟩]
theorem rr_succ (c : Nat → Rat) (m : Nat) : rr c (m + 1) = (c (m + 1) - cv (rr c) (m + 1) 1 m) * (1 / 2) := by
  rw [← nxt_is]
  unfold rr
  rw [List.getD_eq_getElem?_getD]
  show ((rowL c m ++ [nxt c (rowL c m)])[m + 1]?).getD 0 = _
  rw [List.getElem?_append_right (by rw [rowL_len]; omega), rowL_len]
  simp
theorem cv_head (s : Nat → Rat) (n : Nat) : ∀ j, cv s n 0 (j + 1) = s 0 * s n + cv s n 1 j
  | 0 => by simp [cv]; grind
  | j + 1 => by
    rw [cv, cv_head s n j]
    conv => rhs; rw [cv]
    rw [Nat.zero_add, Nat.add_comm 1 j]
    grind
/-- the square of the row is the cubic's row -/
theorem row_law (c : Nat → Rat) (c0 : c 0 = 1) : ∀ n, cv (rr c) n 0 (n + 1) = c n
  | 0 => by simp [cv, rr0, c0]; grind
  | n + 1 => by
    rw [cv_head, cv, Nat.add_comm 1 n, Nat.sub_self, rr0]
    have := rr_succ c n
    grind
/-! sizes -/
def Fr (W : Int) (n : Nat) (x : Int) (q : Rat) : Prop := q * ((W ^ n : Int) : Rat) = (x : Rat)
section
variable {W : Int} {m n : Nat} {x y : Int} {p q : Rat}
theorem Fr.mul (h : Fr W m x p) (k : Fr W n y q) : Fr W (m + n) (x * y) (p * q) := by
  unfold Fr at *
  rw [Int.pow_add, Rat.intCast_mul, Rat.intCast_mul, ← h, ← k]; grind
theorem Fr.add (h : Fr W n x p) (k : Fr W n y q) : Fr W n (x + y) (p + q) := by
  unfold Fr at *
  rw [Rat.intCast_add, ← h, ← k]; grind
theorem Fr.sub (h : Fr W n x p) (k : Fr W n y q) : Fr W n (x - y) (p - q) := by
  unfold Fr at *
  rw [Rat.intCast_sub, ← h, ← k]; grind
theorem Fr.half (h : Fr W n (2 * x) p) : Fr W n x (p * (1 / 2)) := by
  unfold Fr at *
  rw [Rat.intCast_mul] at h
  have e : ((2 : Int) : Rat) = 2 := rfl
  rw [e] at h
  grind
theorem Fr.zero : Fr W n 0 0 := by unfold Fr; simp
theorem pow_ne {W : Int} (h : W ≠ 0) : ∀ n : Nat, W ^ n ≠ 0
  | 0 => by simp
  | n + 1 => by rw [Int.pow_succ]; exact Int.mul_ne_zero (pow_ne h n) h
theorem Fr.is (hW : W ≠ 0) (h : Fr W n x q) : q = Rat.divInt x (W ^ n) := by
  unfold Fr at h
  have h0 : ((W ^ n : Int) : Rat) ≠ 0 := fun e => pow_ne hW n (Rat.intCast_eq_zero_iff.mp e)
  rw [Rat.divInt_eq_div, ← h]
  grind
end
theorem abs_pow (W : Int) : ∀ n : Nat, (W ^ n).natAbs = W.natAbs ^ n
  | 0 => by simp
  | n + 1 => by rw [Int.pow_succ, Int.natAbs_mul, abs_pow W n, Nat.pow_succ]
structure Rw (W : Int) (K : Nat) (c : Nat → Rat) : Prop where
  w0 : W ≠ 0
  c0 : c 0 = 1
  hc : ∀ n, 1 ≤ n → ∃ C : Int, Fr W n (4 * C) (c n) ∧ 32 * (4 * C).natAbs ≤ K ^ n
section
variable {W : Int} {K : Nat} {c : Nat → Rat}
theorem cv_fr {n : Nat} (ih : ∀ k, 1 ≤ k → k < n → ∃ x : Int, Fr W k (2 * x) (rr c k) ∧ 32 * (2 * x).natAbs ≤ K ^ k) : ∀ j, j + 1 ≤ n → ∃ y : Int, Fr W n (4 * y) (cv (rr c) n 1 j) ∧ 1024 * (4 * y).natAbs ≤ j * K ^ n
  | 0, _ => ⟨0, by simpa [cv] using Fr.zero, by simp⟩
  | j + 1, h => by
    obtain ⟨y, h1, h2⟩ := cv_fr ih j (by omega)
    obtain ⟨x, a1, a2⟩ := ih (1 + j) (by omega) (by omega)
    obtain ⟨z, b1, b2⟩ := ih (n - (1 + j)) (by omega) (by omega)
    refine ⟨y + x * z, ?_, ?_⟩
    · have := a1.mul b1
      rw [show 1 + j + (n - (1 + j)) = n by omega] at this
      have t := h1.add this
      rw [cv]
      rw [show 4 * (y + x * z) = 4 * y + 2 * x * (2 * z) by grind]
      exact t
    · rw [show 4 * (y + x * z) = 4 * y + 2 * x * (2 * z) by grind]
      have l := Int.natAbs_add_le (4 * y) (2 * x * (2 * z))
      rw [Int.natAbs_mul (2 * x)] at l
      have e : 1024 * ((2 * x).natAbs * (2 * z).natAbs) ≤ K ^ n := by
        have := Nat.mul_le_mul a2 b2
        rw [← Nat.pow_add, show 1 + j + (n - (1 + j)) = n by omega] at this
        calc 1024 * ((2 * x).natAbs * (2 * z).natAbs) = 32 * (2 * x).natAbs * (32 * (2 * z).natAbs) := by grind
          _ ≤ K ^ n := this
      rw [Nat.add_mul, Nat.one_mul]
      omega
theorem Rw.at (R : Rw W K c) : ∀ n, 1 ≤ n → n ≤ 30 → ∃ x : Int, Fr W n (2 * x) (rr c n) ∧ 32 * (2 * x).natAbs ≤ K ^ n := by
  intro n
  induction n using Nat.strongRecOn with
  | ind n ih =>
    intro h1 h2
    obtain ⟨C, c1, c2⟩ := R.hc n h1
    obtain ⟨y, y1, y2⟩ := cv_fr (W := W) (K := K) (c := c) (n := n) (fun k a b => ih k b a (by omega)) (n - 1) (by omega)
    refine ⟨C - y, ?_, ?_⟩
    · have t := c1.sub y1
      rw [show 4 * C - 4 * y = 2 * (2 * (C - y)) by grind] at t
      have := t.half
      obtain ⟨m, rfl⟩ : ∃ m, n = m + 1 := ⟨n - 1, by omega⟩
      rw [rr_succ]
      exact this
    · have l : (n - 1) * K ^ n ≤ 29 * K ^ n := Nat.mul_le_mul_right _ (by omega)
      omega
theorem Rw.part (R : Rw W K c) {n : Nat} (h1 : 1 ≤ n) (h2 : n ≤ 30) {j : Nat} (hj : j + 1 ≤ n) : ∃ x : Int, Fr W n x (c n - cv (rr c) n 1 j) ∧ x.natAbs ≤ K ^ n := by
  obtain ⟨C, c1, c2⟩ := R.hc n h1
  obtain ⟨y, y1, y2⟩ := cv_fr (W := W) (K := K) (c := c) (n := n) (fun k a b => R.at k a (by omega)) j hj
  refine ⟨_, c1.sub y1, ?_⟩
  have l : j * K ^ n ≤ 29 * K ^ n := Nat.mul_le_mul_right _ (by omega)
  omega
theorem Rw.all (R : Rw W K c) (K0 : 1 ≤ K) {n : Nat} (h2 : n ≤ 30) {j : Nat} (hj : j ≤ n + 1) : ∃ x : Int, Fr W n x (cv (rr c) n 0 j) ∧ x.natAbs ≤ K ^ n := by
  cases j with
  | zero => exact ⟨0, Fr.zero, by simp⟩
  | succ j =>
    by_cases hn : n = 0
    · subst hn
      have : j = 0 := by omega
      subst this
      refine ⟨1, ?_, by simp⟩
      rw [show cv (rr c) 0 0 (0 + 1) = 1 by simp [cv, rr0]; grind]
      unfold Fr
      simp
    · by_cases e : j = n
      · subst e
        obtain ⟨C, c1, c2⟩ := R.hc j (by omega)
        rw [row_law c R.c0]
        exact ⟨_, c1, by omega⟩
      · rw [cv_head, rr0]
        obtain ⟨x, x1, x2⟩ := R.at n (by omega) h2
        obtain ⟨y, y1, y2⟩ := cv_fr (W := W) (K := K) (c := c) (n := n) (fun k a b => R.at k a (by omega)) j (by omega)
        refine ⟨2 * x + 4 * y, ?_, ?_⟩
        · rw [Rat.one_mul]; exact x1.add y1
        · have l : j * K ^ n ≤ 29 * K ^ n := Nat.mul_le_mul_right _ (by omega)
          omega
end
/-- a cubic's numbers -/
def cofR (g h k : Rat) : Nat → Rat
  | 0 => 1
  | 1 => g
  | 2 => h
  | 3 => k
  | _ => 0
theorem rmul_ne {a b : Rat} (ha : a ≠ 0) (hb : b ≠ 0) : a * b ≠ 0 := fun e => (Rat.mul_eq_zero.mp e).elim ha hb
instance (j : Int) : Decidable (divOk j) := by unfold divOk; exact inferInstance
theorem mul_den (q : Rat) : q * ((q.den : Int) : Rat) = (q.num : Rat) := by
  have h := self_q q
  have h0 : ((q.den : Int) : Rat) ≠ 0 := fun e => den_ne q (Rat.intCast_eq_zero_iff.mp e)
  rw [Rat.divInt_eq_div] at h
  grind
def wW (g h k : Rat) : Int := 4 * ((g.den : Int) * h.den * k.den)
theorem cub_rw {g h k : Rat} {a b c : Nat} (sg : szQ a g) (sh : szQ b h) (sk : szQ c k) : Rw (wW g h k) (2 ^ (a + b + c + 7)) (cofR g h k) := by
  have dg := den_ne g
  have dh := den_ne h
  have dk := den_ne k
  have mg := mul_den g
  have mh := mul_den h
  have mk := mul_den k
  have e4 : ((4 : Int) : Rat) = 4 := rfl
  have sg1 : g.num.natAbs < 2 ^ a := sg.1
  have sh1 : h.num.natAbs < 2 ^ b := sh.1
  have sk1 : k.num.natAbs < 2 ^ c := sk.1
  have sg2 : ((g.den : Int)).natAbs < 2 ^ a := sg.2
  have sh2 : ((h.den : Int)).natAbs < 2 ^ b := sh.2
  have sk2 : ((k.den : Int)).natAbs < 2 ^ c := sk.2
  have W1 : ((g.den : Int) * h.den * k.den).natAbs < 2 ^ (a + b + c) := abs_mul_lt (abs_mul_lt sg2 sh2 (Nat.le_refl _)) sk2 (Nat.le_refl _)
  have lift : ∀ {x : Int} {m n : Nat}, x.natAbs < 2 ^ m → 5 + 2 + m ≤ n → 32 * (4 * x).natAbs ≤ 2 ^ n := by
    intro x m n h1 h2
    have : 2 ^ (5 + 2 + m) ≤ 2 ^ n := Nat.pow_le_pow_right (by decide) h2
    rw [Nat.pow_add] at this
    rw [Int.natAbs_mul]
    have e : (2 : Nat) ^ (5 + 2) = 128 := rfl
    have e' : (4 : Int).natAbs = 4 := rfl
    rw [e] at this
    rw [e']
    omega
  refine ⟨?_, rfl, ?_⟩
  · unfold wW
    exact mul_ne0 (by decide) (mul_ne0 (mul_ne0 dg dh) dk)
  · intro n hn
    rcases n with _ | _ | _ | _ | n
    · omega
    · refine ⟨g.num * h.den * k.den, ?_, ?_⟩
      · unfold Fr wW cofR
        simp only [Nat.zero_add, Int.pow_succ, Int.pow_zero, Rat.intCast_mul, e4, ← mg, Int.one_mul]
        grind
      · rw [Nat.zero_add, Nat.pow_one]
        exact lift (abs_mul_lt (abs_mul_lt sg1 sh2 (Nat.le_refl _)) sk2 (Nat.le_refl _)) (by omega)
    · refine ⟨4 * (((g.den : Int) * h.den * k.den) * ((g.den : Int) * h.num * k.den)), ?_, ?_⟩
      · unfold Fr wW cofR
        simp only [Nat.zero_add, Int.pow_succ, Int.pow_zero, Rat.intCast_mul, e4, ← mh, Int.one_mul]
        grind
      · rw [← Nat.pow_mul]
        have t : (4 * (((g.den : Int) * h.den * k.den) * ((g.den : Int) * h.num * k.den))).natAbs < 2 ^ (3 + ((a + b + c) + (a + b + c))) :=
          abs_mul_lt (a := 3) (by decide) (abs_mul_lt W1 (abs_mul_lt (abs_mul_lt sg2 sh1 (Nat.le_refl _)) sk2 (Nat.le_refl _)) (Nat.le_refl _)) (Nat.le_refl _)
        exact lift t (by omega)
    · refine ⟨16 * (((g.den : Int) * h.den * k.den) * (((g.den : Int) * h.den * k.den) * ((g.den : Int) * h.den * k.num))), ?_, ?_⟩
      · unfold Fr wW cofR
        have e16 : ((16 : Int) : Rat) = 16 := rfl
        simp only [Nat.zero_add, Int.pow_succ, Int.pow_zero, Rat.intCast_mul, e4, e16, ← mk, Int.one_mul]
        grind
      · rw [← Nat.pow_mul]
        have t : (16 * (((g.den : Int) * h.den * k.den) * (((g.den : Int) * h.den * k.den) * ((g.den : Int) * h.den * k.num)))).natAbs < 2 ^ (5 + ((a + b + c) + ((a + b + c) + (a + b + c)))) :=
          abs_mul_lt (a := 5) (by decide) (abs_mul_lt W1 (abs_mul_lt W1 (abs_mul_lt (abs_mul_lt sg2 sh2 (Nat.le_refl _)) sk1 (Nat.le_refl _)) (Nat.le_refl _)) (Nat.le_refl _)) (Nat.le_refl _)
        exact lift t (by omega)
    · exact ⟨0, by unfold cofR; exact Fr.zero, by simp⟩
theorem wW_sz {g h k : Rat} {a b c : Nat} (sg : szQ a g) (sh : szQ b h) (sk : szQ c k) : (wW g h k).natAbs < 2 ^ (a + b + c + 7) := by
  unfold wW
  exact abs_mul_lt (a := 3) (b := a + b + c) (by decide) (abs_mul_lt (abs_mul_lt sg.2 sh.2 (Nat.le_refl _)) sk.2 (Nat.le_refl _)) (by omega)
/-- the size of all that the row is made of -/
def rowN (a b c : Nat) : Nat := 30 * (a + b + c + 7) + 1
theorem fr_sz {W x : Int} {n s : Nat} {q : Rat} (w0 : W ≠ 0) (hW : W.natAbs < 2 ^ s) (hn : n ≤ 30) (h : Fr W n x q) (hx : x.natAbs ≤ (2 ^ s) ^ n) : szQ (30 * s + 1) q := by
  rw [h.is w0]
  have l : s * n ≤ 30 * s := by rw [Nat.mul_comm]; exact Nat.mul_le_mul_right _ hn
  have l2 : 2 ^ (s * n) < 2 ^ (30 * s + 1) := Nat.pow_lt_pow_right (by decide) (by omega)
  refine szQ_mk (pow_ne w0 n) ?_ ?_
  · rw [← Nat.pow_mul] at hx; omega
  · rw [abs_pow]
    have := Nat.pow_le_pow_left (Nat.le_of_lt hW) n
    rw [← Nat.pow_mul] at this
    omega
section
variable {g h k : Rat} {a b c : Nat} (sg : szQ a g) (sh : szQ b h) (sk : szQ c k)
include sg sh sk
theorem rr_sz {n : Nat} (hn : n ≤ 30) : szQ (rowN a b c) (rr (cofR g h k) n) := by
  have R := cub_rw sg sh sk
  have hw := wW_sz sg sh sk
  by_cases e : n = 0
  · subst e
    rw [rr0]
    refine ⟨?_, ?_⟩
    · show (1 : Int).natAbs < _
      exact Nat.one_lt_two_pow (by unfold rowN; omega)
    · show ((1 : Nat) : Int).natAbs < _
      exact Nat.one_lt_two_pow (by unfold rowN; omega)
  · obtain ⟨x, h1, h2⟩ := R.at n (by omega) hn
    exact fr_sz R.w0 hw hn h1 (by omega)
theorem part_sz {n : Nat} (h1 : 1 ≤ n) (hn : n ≤ 30) {j : Nat} (hj : j + 1 ≤ n) : szQ (rowN a b c) (cofR g h k n - cv (rr (cofR g h k)) n 1 j) := by
  have R := cub_rw sg sh sk
  obtain ⟨x, p1, p2⟩ := R.part h1 hn hj
  exact fr_sz R.w0 (wW_sz sg sh sk) hn p1 p2
theorem conv_sz {n : Nat} (hn : n ≤ 30) {j : Nat} (hj : j ≤ n + 1) : szQ (rowN a b c) (cv (rr (cofR g h k)) n 0 j) := by
  have R := cub_rw sg sh sk
  obtain ⟨x, p1, p2⟩ := R.all Nat.one_le_two_pow hn hj
  exact fr_sz R.w0 (wW_sz sg sh sk) hn p1 p2
end
end Dl

/-! The data layer, part Y: spots of a cubic and their sums. -/
namespace Dl
open PySem L2 PyProof.Rows
/-! spots of a cubic and their sums, plain -/
abbrev Cub := Rat × Rat × Rat
abbrev Sp := Rat × Rat
def ngP (P : Sp) : Sp := (P.1, 0 - P.2)
def hgt (c : Cub) (t : Rat) : Rat := 1 + t * (c.1 + t * (c.2.1 + t * c.2.2))
def OnC (c : Cub) (P : Sp) : Prop := P.2 * P.2 = hgt c P.1
def dsQ (g h k : Rat) : Rat := g * h * g * h - 4 * h * h * h - 4 * k * g * g * g - 27 * k * k + 18 * g * h * k
structure GdC (c : Cub) : Prop where
  k0 : c.2.2 ≠ 0
  ds : dsQ c.1 c.2.1 c.2.2 ≠ 0
def slp (c : Cub) (P Q : Sp) : Rat := if P = Q then (c.1 + P.1 * (2 * c.2.1 + 3 * (P.1 * c.2.2))) / (2 * P.2) else (Q.2 - P.2) / (Q.1 - P.1)
def thr3 (c : Cub) (P Q : Sp) : Rat := (slp c P Q * slp c P Q - c.2.1) / c.2.2 - P.1 - Q.1
def sm2 (c : Cub) (P Q : Sp) : Sp := (thr3 c P Q, 0 - (P.2 + slp c P Q * (thr3 c P Q - P.1)))
def smP (c : Cub) : Option Sp → Option Sp → Option Sp
  | none, Q => Q
  | P, none => P
  | some P, some Q => if P = ngP Q then none else some (sm2 c P Q)
/-- three spots on one line -/
def ColW (c : Cub) (P Q R : Sp) (a b : Rat) : Prop := P.2 = a * P.1 + b ∧ Q.2 = a * Q.1 + b ∧ R.2 = a * R.1 + b ∧
  c.2.1 - a * a = -(c.2.2 * (P.1 + Q.1 + R.1)) ∧ c.1 - 2 * a * b = c.2.2 * (P.1 * Q.1 + P.1 * R.1 + Q.1 * R.1) ∧ 1 - b * b = -(c.2.2 * P.1 * Q.1 * R.1)
def Col (c : Cub) (P Q R : Sp) : Prop := ∃ a b : Rat, ColW c P Q R a b
theorem ng_ng (P : Sp) : ngP (ngP P) = P := by
  obtain ⟨t, y⟩ := P
  simp only [ngP, Prod.mk.injEq, true_and]
  grind
theorem Col.s12 {c : Cub} {P Q R : Sp} (h : Col c P Q R) : Col c Q P R := by
  obtain ⟨a, b, h1, h2, h3, e1, e2, e3⟩ := h
  exact ⟨a, b, h2, h1, h3, by grind, by grind, by grind⟩
theorem Col.s23 {c : Cub} {P Q R : Sp} (h : Col c P Q R) : Col c P R Q := by
  obtain ⟨a, b, h1, h2, h3, e1, e2, e3⟩ := h
  exact ⟨a, b, h1, h3, h2, by grind, by grind, by grind⟩
theorem Col.ng {c : Cub} {P Q R : Sp} (h : Col c P Q R) : Col c (ngP P) (ngP Q) (ngP R) := by
  obtain ⟨a, b, h1, h2, h3, e1, e2, e3⟩ := h
  refine ⟨-a, -b, ?_, ?_, ?_, ?_, ?_, ?_⟩ <;> simp only [ngP] <;> grind
theorem Col.on {c : Cub} {P Q R : Sp} (h : Col c P Q R) : OnC c P := by
  obtain ⟨a, b, h1, h2, h3, e1, e2, e3⟩ := h
  unfold OnC hgt
  rw [h1]
  grind
theorem ng_on {c : Cub} {P : Sp} (h : OnC c P) : OnC c (ngP P) := by
  unfold OnC at *
  simp only [ngP]
  grind
theorem on_t {c : Cub} {P Q : Sp} (hP : OnC c P) (hQ : OnC c Q) (e : P.1 = Q.1) : P = Q ∨ P = ngP Q := by
  obtain ⟨p, x⟩ := P
  obtain ⟨q, y⟩ := Q
  simp only at e
  subst e
  unfold OnC at hP hQ
  simp only at hP hQ
  have : (x - y) * (x + y) = 0 := by grind
  rcases Rat.mul_eq_zero.mp this with h | h
  · left
    simp only [Prod.mk.injEq, true_and]
    grind
  · right
    simp only [ngP, Prod.mk.injEq, true_and]
    grind
theorem two_ne {y : Rat} (h : y ≠ 0) : 2 * y ≠ 0 := by grind
theorem sum_colW {c : Cub} (G : GdC c) {P Q : Sp} (hP : OnC c P) (hQ : OnC c Q) (hn : P ≠ ngP Q) : ColW c P Q (ngP (sm2 c P Q)) (slp c P Q) (P.2 - slp c P Q * P.1) := by
  have k0 := G.k0
  by_cases e : P = Q
  · subst e
    obtain ⟨p, x⟩ := P
    obtain ⟨g, h, k⟩ := c
    have x0 : x ≠ 0 := fun e => hn (by rw [e]; simp only [ngP, Prod.mk.injEq, true_and]; grind)
    have hs : slp (g, h, k) (p, x) (p, x) = (g + p * (2 * h + 3 * (p * k))) / (2 * x) := by unfold slp; rw [if_pos rfl]
    have ha : slp (g, h, k) (p, x) (p, x) * (2 * x) = g + p * (2 * h + 3 * (p * k)) := by
      have := two_ne x0
      rw [hs]; grind
    generalize hv : slp (g, h, k) (p, x) (p, x) = a at *
    have hr : k * (thr3 (g, h, k) (p, x) (p, x) + p + p) = a * a - h := by
      unfold thr3; rw [hv]; simp only at k0 ⊢; grind
    unfold sm2
    rw [hv]
    generalize thr3 (g, h, k) (p, x) (p, x) = r at *
    unfold OnC hgt at hP
    simp only [ngP] at *
    refine ⟨?_, ?_, ?_, ?_, ?_, ?_⟩ <;> simp only <;> grind
  · obtain ⟨p, x⟩ := P
    obtain ⟨q, y⟩ := Q
    obtain ⟨g, h, k⟩ := c
    have hpq : q - p ≠ 0 := fun z => by
      rcases on_t hP hQ (show p = q by grind) with h | h
      · exact e h
      · exact hn h
    have hs : slp (g, h, k) (p, x) (q, y) = (y - x) / (q - p) := by unfold slp; rw [if_neg e]
    have ha : slp (g, h, k) (p, x) (q, y) * (q - p) = y - x := by rw [hs]; grind
    generalize hv : slp (g, h, k) (p, x) (q, y) = a at *
    have hr : k * (thr3 (g, h, k) (p, x) (q, y) + p + q) = a * a - h := by
      unfold thr3; rw [hv]; simp only at k0 ⊢; grind
    unfold sm2
    rw [hv]
    generalize thr3 (g, h, k) (p, x) (q, y) = r at *
    unfold OnC hgt at hP hQ
    simp only [ngP] at *
    have h1 : (q - p) * (g - 2 * a * (x - a * p) - k * (p * q + p * r + q * r)) = 0 := by grind
    have h2 := (Rat.mul_eq_zero.mp h1).resolve_left hpq
    refine ⟨?_, ?_, ?_, ?_, ?_, ?_⟩ <;> simp only <;> grind
theorem sum_col {c : Cub} (G : GdC c) {P Q : Sp} (hP : OnC c P) (hQ : OnC c Q) (hn : P ≠ ngP Q) : Col c P Q (ngP (sm2 c P Q)) := ⟨_, _, sum_colW G hP hQ hn⟩
/-- what lies on one line with two is the sum turned about -/
theorem col_sum {c : Cub} (G : GdC c) {P Q R : Sp} (H : Col c P Q R) : P ≠ ngP Q ∧ R = ngP (sm2 c P Q) := by
  have k0 := G.k0
  have hP := H.on
  have hQ := H.s12.on
  have hn : P ≠ ngP Q := by
    intro e
    apply G.ds
    obtain ⟨a, b, h1, h2, h3, e1, e2, e3⟩ := H
    obtain ⟨p, x⟩ := P
    obtain ⟨q, y⟩ := Q
    obtain ⟨r, z⟩ := R
    obtain ⟨g, h, k⟩ := c
    simp only [ngP, Prod.mk.injEq] at e
    simp only at *
    obtain ⟨rfl, rfl⟩ := e
    have y0 : y = 0 := by grind
    have hb : b = -(a * p) := by grind
    have hw : a * a * p * p - k * p * p * r = 1 := by grind
    have hh : h = a * a - k * (2 * p + r) := by grind
    have hg : g = k * (p * p + 2 * p * r) - 2 * a * a * p := by grind
    have D : ∀ w, w = a * a * p * p - k * p * p * r → g * h * g * h - 4 * h * h * h * w - 4 * k * g * g * g - 27 * k * k * w * w + 18 * g * h * k * w = 0 := by
      intro w hw'
      rw [hw', hg, hh]
      clear hw' hg hh hw hb y0 h1 h2 h3 e1 e2 e3 hP hQ G k0
      grind
    have := D 1 hw.symm
    unfold dsQ
    grind
  refine ⟨hn, ?_⟩
  obtain ⟨a', b', h1', h2', h3', e1', e2', e3'⟩ := sum_col G hP hQ hn
  obtain ⟨a, b, h1, h2, h3, e1, e2, e3⟩ := H
  have ea : a = a' := by
    by_cases hpq : P.1 = Q.1
    · rcases on_t hP hQ hpq with h | h
      · subst h
        have y0 : P.2 ≠ 0 := fun z => hn (by
          obtain ⟨p, x⟩ := P
          simp only at z
          subst z
          simp only [ngP, Prod.mk.injEq, true_and]; grind)
        have z1 : 2 * P.2 * (a - a') = 0 := by grind
        have := (Rat.mul_eq_zero.mp z1).resolve_left (two_ne y0)
        grind
      · exact absurd h hn
    · have z1 : (P.1 - Q.1) * (a - a') = 0 := by grind
      have := (Rat.mul_eq_zero.mp z1).resolve_left (by grind)
      grind
  subst ea
  have eb : b = b' := by grind
  subst eb
  generalize ngP (sm2 c P Q) = S at *
  have ek : c.2.2 * (R.1 - S.1) = 0 := by grind
  have er := (Rat.mul_eq_zero.mp ek).resolve_left k0
  have e1 : R.1 = S.1 := by grind
  have e2 : R.2 = S.2 := by grind
  exact Prod.ext e1 e2
/-- the sum's line, joined -/
theorem col_assoc {c : Cub} (G : GdC c) {P Q R S U V : Sp} (H1 : Col c P Q (ngP S)) (H2 : Col c S R (ngP U)) (H3 : Col c Q R (ngP V)) : Col c P V (ngP U) := by
  have k0 := G.k0
  have nQR := (col_sum G H3).1
  have hQ := H3.on
  have hR := H3.s12.on
  obtain ⟨a1, b1, p1, p2, p3, p4, p5, p6⟩ := H1
  obtain ⟨a2, b2, q1, q2, q3, q4, q5, q6⟩ := H2
  obtain ⟨a3, b3, r1, r2, r3, r4, r5, r6⟩ := H3
  obtain ⟨p, yp⟩ := P
  obtain ⟨q, yq⟩ := Q
  obtain ⟨r, yr⟩ := R
  obtain ⟨s, ys⟩ := S
  obtain ⟨u, yu⟩ := U
  obtain ⟨v, yv⟩ := V
  obtain ⟨g, h, k⟩ := c
  simp only [ngP] at *
  have hc : b1 + b2 = -((a1 + a2) * s) := by grind
  -- the two lines of the sum, taken by the vertical one
  have s1 : (a1 + a2) * a1 - k * (p + q) = (a1 + a2) * a2 - k * (r + u) := by grind
  have s0 : (a1 + a2) * b1 + k * p * q = (a1 + a2) * b2 + k * r * u := by
    clear p1 p2 p3 p4 p6 q1 q2 q3 q4 q6 r1 r2 r3 r4 r5 r6 nQR hQ hR G k0
    have x1 : s * ((a1 + a2) * a1 - k * (p + q)) = s * ((a1 + a2) * a2 - k * (r + u)) := by rw [s1]
    have x2 : (a2 - a1) * (b1 + b2) = (a2 - a1) * (-((a1 + a2) * s)) := by rw [hc]
    clear s1 hc
    grind
  have E1 : (a1 + a2) * (a1 - a3) = k * (p - r) := by
    by_cases hqr : q = r
    · subst hqr
      rcases on_t hQ hR rfl with e | e
      · simp only [Prod.mk.injEq, true_and] at e
        subst e
        have y0 : yq ≠ 0 := fun z => nQR (by subst z; simp only [Prod.mk.injEq, true_and]; grind)
        have t1 : (a1 + a2) * (q - s) = 2 * yq := by grind
        have t2 : (a1 - a3) * (2 * yq) = -(k * (q - p) * (q - s)) := by grind
        have n0 : q - s ≠ 0 := fun z => two_ne y0 (by rw [← t1, z]; grind)
        have t3 : (q - s) * ((a1 + a2) * (a1 - a3) - k * (p - q)) = 0 := by grind
        have := (Rat.mul_eq_zero.mp t3).resolve_left n0
        grind
      · exact absurd e nQR
    · have t : (q - r) * ((a1 + a2) * (a1 - a3) - k * (p - r)) = 0 := by grind
      have := (Rat.mul_eq_zero.mp t).resolve_left (by grind)
      grind
  have E2 : (a1 + a2) * (a2 - a3) = k * (u - q) := by grind
  have E3 : k * (v - s) = (a1 - a3) * (a2 - a3) := by grind
  have E4 : (a1 + a2) * (a1 + a2) * (v - s) = k * (p - r) * (u - q) := by
    have t : k * ((a1 + a2) * (a1 + a2) * (v - s) - k * (p - r) * (u - q)) = 0 := by
      have : (a1 + a2) * (a1 + a2) * (k * (v - s)) = k * (p - r) * (k * (u - q)) := by rw [E3, ← E1, ← E2]; grind
      grind
    have := (Rat.mul_eq_zero.mp t).resolve_left k0
    grind
  have F1 : (a1 + a2) * a1 - k * (p + q) + (a1 + a2) * a3 - (a1 + a2) * (a1 + a2) = -(k * (p + u)) := by grind
  have F0 : (a1 + a2) * b1 + k * p * q + (a1 + a2) * b3 + (a1 + a2) * (a1 + a2) * v = k * p * u := by grind
  have G1 : -(k * (q + r)) + 2 * (a1 + a2) * a3 - (a1 + a2) * (a1 + a2) = -(k * (p + u)) := by grind
  have G0 : k * q * r + 2 * (a1 + a2) * b3 + (a1 + a2) * (a1 + a2) * v = k * p * u := by grind
  have M1 : a1 * p + b1 = (a1 + a2 - a3) * p + (-((a1 + a2) * v) - b3) := by
    by_cases hz : a1 + a2 = 0
    · have hp : p - r = 0 := (Rat.mul_eq_zero.mp (show k * (p - r) = 0 by rw [← E1, hz]; grind)).resolve_left k0
      have hp' : p = r := by grind
      subst hp'
      grind
    · have t : (a1 + a2) * (a1 * p + b1 - ((a1 + a2 - a3) * p + (-((a1 + a2) * v) - b3))) = 0 := by
        clear p1 p2 p3 p4 p5 p6 q1 q2 q3 q4 q5 q6 r1 r2 r3 r4 r5 r6 nQR hQ hR G
        have x1 : p * ((a1 + a2) * a1 - k * (p + q) + (a1 + a2) * a3 - (a1 + a2) * (a1 + a2)) = p * (-(k * (p + u))) := by rw [F1]
        clear E1 E2 E3 E4 F1 G1 G0 s1 s0 hc k0 hz
        grind
      have := (Rat.mul_eq_zero.mp t).resolve_left hz
      grind
  have M2 : a2 * u + b2 = (a1 + a2 - a3) * u + (-((a1 + a2) * v) - b3) := by
    by_cases hz : a1 + a2 = 0
    · have hp : u - q = 0 := (Rat.mul_eq_zero.mp (show k * (u - q) = 0 by rw [← E2, hz]; grind)).resolve_left k0
      have hp' : u = q := by grind
      subst hp'
      grind
    · have t : (a1 + a2) * (a2 * u + b2 - ((a1 + a2 - a3) * u + (-((a1 + a2) * v) - b3))) = 0 := by
        clear p1 p2 p3 p4 p5 p6 q1 q2 q3 q4 q5 q6 r1 r2 r3 r4 r5 r6 nQR hQ hR G
        have x1 : u * ((a1 + a2) * a1 - k * (p + q) + (a1 + a2) * a3 - (a1 + a2) * (a1 + a2)) = u * (-(k * (p + u))) := by rw [F1]
        have x2 : u * ((a1 + a2) * a1 - k * (p + q)) = u * ((a1 + a2) * a2 - k * (r + u)) := by rw [s1]
        clear E1 E2 E3 E4 F1 G1 G0 s1 hc k0 hz
        grind
      have := (Rat.mul_eq_zero.mp t).resolve_left hz
      grind
  refine ⟨a1 + a2 - a3, -((a1 + a2) * v) - b3, ?_, ?_, ?_, ?_, ?_, ?_⟩
  · simp only; rw [← M1]; exact p1
  · simp only; grind
  · simp only; rw [← M2]; exact q3
  · simp only; grind
  · simp only
    have x1 : v * (-(k * (q + r)) + 2 * (a1 + a2) * a3 - (a1 + a2) * (a1 + a2)) = v * (-(k * (p + u))) := by rw [G1]
    clear p1 p2 p3 p4 p5 p6 q1 q2 q3 q4 q5 q6 r1 r2 r3 r4 r6 nQR hQ hR G M1 M2 E1 E2 E3 E4 F1 F0 G1 s0 s1 hc k0
    grind
  · simp only
    have x0 : v * (k * q * r + 2 * (a1 + a2) * b3 + (a1 + a2) * (a1 + a2) * v) = v * (k * p * u) := by rw [G0]
    clear p1 p2 p3 p4 p5 p6 q1 q2 q3 q4 q5 q6 r1 r2 r3 r4 r5 nQR hQ hR G M1 M2 E1 E2 E3 E4 F1 F0 G1 G0 s0 s1 hc k0
    grind
/-! the sums as a group -/
def OnO (c : Cub) : Option Sp → Prop
  | none => True
  | some P => OnC c P
def ngO : Option Sp → Option Sp
  | none => none
  | some P => some (ngP P)
section
variable {c : Cub} (G : GdC c)
include G
theorem smP_some {P Q : Sp} (h : P ≠ ngP Q) : smP c (some P) (some Q) = some (sm2 c P Q) := if_neg h
theorem smP_ng (P : Sp) : smP c (some P) (some (ngP P)) = none := if_pos (ng_ng P).symm
theorem smP_none (P : Option Sp) : smP c P none = P := by cases P <;> rfl
theorem sm2_on {P Q : Sp} (hP : OnC c P) (hQ : OnC c Q) (h : P ≠ ngP Q) : OnC c (sm2 c P Q) := by
  have := ng_on (sum_col G hP hQ h).s23.s12.on
  rwa [ng_ng] at this
theorem smP_on {P Q : Option Sp} (hP : OnO c P) (hQ : OnO c Q) : OnO c (smP c P Q) := by
  cases P with
  | none => exact hQ
  | some P =>
    cases Q with
    | none => exact hP
    | some Q =>
      by_cases h : P = ngP Q
      · rw [show smP c (some P) (some Q) = none from if_pos h]; trivial
      · rw [smP_some G h]; exact sm2_on G hP hQ h
theorem sm2_comm {P Q : Sp} (hP : OnC c P) (hQ : OnC c Q) (h : P ≠ ngP Q) : sm2 c P Q = sm2 c Q P := by
  have := (col_sum G (sum_col G hP hQ h).s12).2
  rw [← ng_ng (sm2 c P Q), this, ng_ng]
theorem ng_sym {P Q : Sp} (h : P = ngP Q) : Q = ngP P := by rw [h, ng_ng]
theorem smP_comm {P Q : Option Sp} (hP : OnO c P) (hQ : OnO c Q) : smP c P Q = smP c Q P := by
  cases P with
  | none => cases Q <;> rfl
  | some P =>
    cases Q with
    | none => rfl
    | some Q =>
      by_cases h : P = ngP Q
      · rw [show smP c (some P) (some Q) = none from if_pos h, show smP c (some Q) (some P) = none from if_pos (ng_sym G h)]
      · rw [smP_some G h, smP_some G (fun e => h (ng_sym G e)), sm2_comm G hP hQ h]
theorem smP_back {P Q : Option Sp} (hP : OnO c P) (hQ : OnO c Q) : smP c (smP c P Q) (ngO Q) = P := by
  cases P with
  | none =>
    cases Q with
    | none => rfl
    | some Q => exact smP_ng G Q
  | some P =>
    cases Q with
    | none => rfl
    | some Q =>
      by_cases h : P = ngP Q
      · rw [show smP c (some P) (some Q) = none from if_pos h, h]; rfl
      · rw [smP_some G h]
        have H := (sum_col G hP hQ h).ng
        rw [ng_ng] at H
        obtain ⟨n, e⟩ := col_sum G H.s12.s23.s12
        show smP c (some (sm2 c P Q)) (some (ngP Q)) = some P
        rw [smP_some G n, ← ng_ng (sm2 c (sm2 c P Q) (ngP Q)), ← e, ng_ng]
theorem ngO_on {P : Option Sp} (hP : OnO c P) : OnO c (ngO P) := by
  cases P with
  | none => trivial
  | some P => exact ng_on hP
theorem ngO_ngO (P : Option Sp) : ngO (ngO P) = P := by
  cases P with
  | none => rfl
  | some P => show some (ngP (ngP P)) = some P; rw [ng_ng]
theorem smP_back' {P Q : Option Sp} (hP : OnO c P) (hQ : OnO c Q) : smP c (ngO Q) (smP c Q P) = P := by
  rw [smP_comm G (ngO_on G hQ) (smP_on G hQ hP), smP_comm G hQ hP, smP_back G hP hQ]
theorem smP_assoc {P Q R : Option Sp} (hP : OnO c P) (hQ : OnO c Q) (hR : OnO c R) : smP c (smP c P Q) R = smP c P (smP c Q R) := by
  cases P with
  | none => rfl
  | some P =>
  cases Q with
  | none => rfl
  | some Q =>
  cases R with
  | none => rw [smP_none G, smP_none G]
  | some R =>
  by_cases h1 : P = ngP Q
  · subst h1
    have := smP_back' G (P := some R) (Q := some Q) hR hQ
    rw [show ngO (some Q) = some (ngP Q) from rfl] at this
    rw [this, show smP c (some (ngP Q)) (some Q) = none from if_pos rfl]; rfl
  by_cases h2 : Q = ngP R
  · have h3 := ng_sym G h2
    subst h3
    have := smP_back G (P := some P) (Q := some Q) hP hQ
    rw [show ngO (some Q) = some (ngP Q) from rfl] at this
    rw [this, smP_ng G, smP_none G]
  have C1 := sum_col G hP hQ h1
  have C3 := sum_col G hQ hR h2
  have oS := sm2_on G hP hQ h1
  have oV := sm2_on G hQ hR h2
  rw [smP_some G h1, smP_some G h2]
  generalize sm2 c P Q = S at *
  generalize sm2 c Q R = V at *
  by_cases h4 : S = ngP R
  · subst h4
    rw [ng_ng] at C1
    have e := (col_sum G C3).2
    obtain ⟨n, e2⟩ := col_sum G C1.s12.s23
    rw [show smP c (some (ngP R)) (some R) = none from if_pos rfl]
    have : P = ngP V := by rw [e2, ← e]
    rw [show smP c (some P) (some V) = none from if_pos this]
  by_cases h5 : P = ngP V
  · exfalso
    have C := C3
    rw [← h5] at C
    have e := (col_sum G C.s23.s12).2
    have e2 := (col_sum G C1).2
    rw [← e2] at e
    exact h4 (by rw [e, ng_ng])
  rw [smP_some G h4, smP_some G h5]
  have C2 := sum_col G oS hR h4
  have C4 := col_assoc G C1 C2 C3
  have e := (col_sum G C4).2
  rw [← ng_ng (sm2 c S R), e, ng_ng]
/-- so many times -/
def tmP (c : Cub) (P : Option Sp) : Nat → Option Sp
  | 0 => none
  | n + 1 => smP c (tmP c P n) P
theorem tmP_on {P : Option Sp} (hP : OnO c P) : ∀ n, OnO c (tmP c P n)
  | 0 => trivial
  | n + 1 => smP_on G (tmP_on hP n) hP
theorem tmP_add {P : Option Sp} (hP : OnO c P) (m : Nat) : ∀ n, smP c (tmP c P m) (tmP c P n) = tmP c P (m + n)
  | 0 => smP_none G _
  | n + 1 => by
    show smP c (tmP c P m) (smP c (tmP c P n) P) = smP c (tmP c P (m + n)) P
    rw [← smP_assoc G (tmP_on G hP m) (tmP_on G hP n) hP, tmP_add hP m n]
theorem tmP_mul {P : Option Sp} (hP : OnO c P) (m : Nat) : ∀ n, tmP c (tmP c P m) n = tmP c P (m * n)
  | 0 => rfl
  | n + 1 => by
    show smP c (tmP c (tmP c P m) n) (tmP c P m) = _
    rw [tmP_mul hP m n, tmP_add G hP]; rfl
end
end Dl

/-! The data layer, part Z: how great the times of the first spot are. -/
namespace Dl
open PySem L2 PyProof.Rows
def hq (q : Rat) : Nat := max q.num.natAbs q.den
theorem hq_sz {q : Rat} {n : Nat} : szQ n q ↔ hq q < 2 ^ n := by
  unfold hq
  constructor
  · intro h
    have h1 : q.num.natAbs < 2 ^ n := h.1
    have h2 : ((q.den : Int)).natAbs < 2 ^ n := h.2
    omega
  · intro h
    exact ⟨show q.num.natAbs < 2 ^ n by omega, show ((q.den : Int)).natAbs < 2 ^ n by omega⟩
theorem hq_pos (q : Rat) : 1 ≤ hq q := by
  have := q.den_pos
  unfold hq; omega
/-- Gauss, for two -/
theorem gaussQ {a1 d1 a2 d2 A B C : Int} (g1 : Int.gcd a1 d1 = 1) (g2 : Int.gcd a2 d2 = 1) (e1 : A * (a1 * a2) = C * (d1 * d2)) (e2 : A * (a1 * d2 + a2 * d1) = B * (d1 * d2)) : d1 * d2 ∣ A := by
  have x1 : d1 * d2 ∣ A * (a1 * a2) := ⟨C, by rw [e1, Int.mul_comm]⟩
  have x2 : d1 * d2 ∣ A * (a1 * d2 + a2 * d1) := ⟨B, by rw [e2, Int.mul_comm]⟩
  have x3 : d1 * d2 ∣ A * (d1 * d2) := ⟨A, Int.mul_comm _ _⟩
  have scl : ∀ {D k a b : Int}, Int.gcd a b = 1 → D ∣ k * a → D ∣ k * b → D ∣ k := by
    intro D k a b hg ha hb
    have := Int.dvd_coe_gcd ha hb
    rw [Int.gcd_mul_left, hg, Nat.mul_one] at this
    exact Int.dvd_natAbs.mp this
  have y1 : d1 * d2 ∣ A * (a1 * a1) := scl g2 (by
      have : d1 * d2 ∣ A * (a1 * a2) * a1 := Int.dvd_mul_of_dvd_left x1
      rwa [show A * (a1 * a1) * a2 = A * (a1 * a2) * a1 by grind]) (by
      have h1 : d1 * d2 ∣ A * (a1 * d2 + a2 * d1) * a1 := Int.dvd_mul_of_dvd_left x2
      have h2 : d1 * d2 ∣ A * (a1 * a2) * d1 := Int.dvd_mul_of_dvd_left x1
      have := Int.dvd_sub h1 h2
      rwa [show A * (a1 * a1) * d2 = A * (a1 * d2 + a2 * d1) * a1 - A * (a1 * a2) * d1 by grind])
  have y2 : d1 * d2 ∣ A * (d1 * d1) := scl g2 (by
      have h1 : d1 * d2 ∣ A * (a1 * d2 + a2 * d1) * d1 := Int.dvd_mul_of_dvd_left x2
      have h2 : d1 * d2 ∣ A * (d1 * d2) * a1 := Int.dvd_mul_of_dvd_left x3
      have := Int.dvd_sub h1 h2
      rwa [show A * (d1 * d1) * a2 = A * (a1 * d2 + a2 * d1) * d1 - A * (d1 * d2) * a1 by grind]) (by
      have : d1 * d2 ∣ A * (d1 * d2) * d1 := Int.dvd_mul_of_dvd_left x3
      rwa [show A * (d1 * d1) * d2 = A * (d1 * d2) * d1 by grind])
  exact scl (gcd_sq g1) y1 y2
theorem two_roots {x y M : Nat} {X Y : Int} (hs : (X + Y).natAbs ≤ M) (hp : (X * Y).natAbs ≤ M * M) : X.natAbs ≤ 2 * M := by
  rw [Int.natAbs_mul] at hp
  apply Nat.le_of_not_lt
  intro h
  have h1 : M < Y.natAbs := by omega
  have h2 : (2 * M + 1) * (M + 1) ≤ X.natAbs * Y.natAbs := Nat.mul_le_mul h h1
  have h3 : M * M < (2 * M + 1) * (M + 1) := by
    have : (2 * M + 1) * (M + 1) = M * M + M * M + 3 * M + 1 := by grind
    omega
  omega
/-- the heights of two roots -/
theorem hq_two {x y : Rat} {A B C : Int} {M : Nat} (A0 : A ≠ 0) (h1 : (A : Rat) * (x * y) = (C : Rat)) (h2 : (A : Rat) * (x + y) = (B : Rat)) (hA : A.natAbs ≤ M) (hB : B.natAbs ≤ M) (hC : C.natAbs ≤ M) : hq x * hq y ≤ 2 * M := by
  have gx := (qF_fit x).2
  have gy := (qF_fit y).2
  have dx := den_ne x
  have dy := den_ne y
  have mx := mul_den x
  have my := mul_den y
  have e1 : A * (x.num * y.num) = C * ((x.den : Int) * y.den) := by
    apply Rat.intCast_inj.mp
    simp only [Rat.intCast_mul]
    rw [← mx, ← my, ← h1]; grind
  have e2 : A * (x.num * y.den + y.num * x.den) = B * ((x.den : Int) * y.den) := by
    apply Rat.intCast_inj.mp
    simp only [Rat.intCast_mul, Rat.intCast_add]
    rw [← mx, ← my, ← h2]; grind
  obtain ⟨m, hm⟩ := gaussQ gx gy e1 e2
  have m0 : m ≠ 0 := fun e => A0 (by rw [hm, e, Int.mul_zero])
  have dd := mul_ne0 dx dy
  have e3 : C = m * (x.num * y.num) := by
    refine Int.eq_of_mul_eq_mul_right dd ?_
    rw [← e1, hm]; grind
  have e4 : B = m * (x.num * y.den + y.num * x.den) := by
    refine Int.eq_of_mul_eq_mul_right dd ?_
    rw [← e2, hm]; grind
  have up : ∀ {z : Int}, (m * z).natAbs ≤ M → z.natAbs ≤ M := by
    intro z h
    rw [Int.natAbs_mul] at h
    have : 1 ≤ m.natAbs := by omega
    exact Nat.le_trans (Nat.le_mul_of_pos_left _ this) h
  have k1 : (x.num * y.num).natAbs ≤ M := up (by rw [← e3]; exact hC)
  have k2 : (x.num * y.den + y.num * x.den).natAbs ≤ M := up (by rw [← e4]; exact hB)
  have k3 : ((x.den : Int) * y.den).natAbs ≤ M := up (by rw [Int.mul_comm m, ← hm]; exact hA)
  have k4 : (x.num * y.den * (y.num * x.den)).natAbs ≤ M * M := by
    rw [show x.num * y.den * (y.num * x.den) = (x.num * y.num) * ((x.den : Int) * y.den) by grind, Int.natAbs_mul]
    exact Nat.mul_le_mul k1 k3
  have k5 : (x.num * y.den).natAbs ≤ 2 * M := two_roots (x := 0) (y := 0) k2 k4
  have k6 : (y.num * x.den).natAbs ≤ 2 * M := two_roots (x := 0) (y := 0) (X := y.num * x.den) (Y := x.num * y.den) (by rw [Int.add_comm]; exact k2) (by rw [Int.mul_comm]; exact k4)
  rw [Int.natAbs_mul] at k1 k3 k5 k6
  have t1 : ((x.den : Int)).natAbs = x.den := rfl
  have t2 : ((y.den : Int)).natAbs = y.den := rfl
  rw [t1] at k3 k6
  rw [t2] at k3 k5
  unfold hq
  rcases Nat.le_total x.num.natAbs x.den with h | h <;> rcases Nat.le_total y.num.natAbs y.den with h' | h'
  · rw [Nat.max_eq_right h, Nat.max_eq_right h']; omega
  · rw [Nat.max_eq_right h, Nat.max_eq_left h', Nat.mul_comm]; omega
  · rw [Nat.max_eq_left h, Nat.max_eq_right h']; omega
  · rw [Nat.max_eq_left h, Nat.max_eq_left h']; omega
abbrev F1 : Sp := (0, 1)
theorem F_on (c : Cub) : OnC c F1 := by unfold OnC hgt; simp only; grind
theorem F_ng : F1 ≠ ngP F1 := by decide +kernel
section
variable {c : Cub} (G : GdC c)
include G
/-- one step on, by the line to the first spot -/
theorem plus_t {P : Sp} (oP : OnC c P) (t0 : P.1 ≠ 0) : c.2.2 * (P.1 * P.1) * (sm2 c P F1).1 = 2 + c.1 * P.1 - 2 * P.2 ∧ c.2.2 * (P.1 * P.1) * (sm2 c P (ngP F1)).1 = 2 + c.1 * P.1 + 2 * P.2 := by
  have k0 := G.k0
  obtain ⟨t, y⟩ := P
  obtain ⟨g, h, k⟩ := c
  unfold OnC hgt at oP
  simp only at oP t0 k0
  have n1 : (t, y) ≠ F1 := fun e => t0 (by injection e)
  have n2 : (t, y) ≠ ngP F1 := fun e => t0 (by simp only [ngP, Prod.mk.injEq] at e; exact e.1)
  constructor
  · have ha : slp (g, h, k) (t, y) F1 * t = y - 1 := by
      unfold slp
      rw [if_neg n1]
      show (1 - y) / (0 - t) * t = y - 1
      have : (0 - t) ≠ 0 := by grind
      have z : (1 - y) / (0 - t) * (0 - t) = 1 - y := by grind
      grind
    have hr : k * ((sm2 (g, h, k) (t, y) F1).1 + t) = slp (g, h, k) (t, y) F1 * slp (g, h, k) (t, y) F1 - h := by
      show k * ((slp (g, h, k) (t, y) F1 * slp (g, h, k) (t, y) F1 - h) / k - t - 0 + t) = _
      generalize slp (g, h, k) (t, y) F1 = a
      grind
    generalize slp (g, h, k) (t, y) F1 = a at *
    generalize (sm2 (g, h, k) (t, y) F1).1 = r at *
    simp only
    have e : a * t * (a * t) = (y - 1) * (y - 1) := by rw [ha]
    grind
  · have ha : slp (g, h, k) (t, y) (ngP F1) * t = y + 1 := by
      unfold slp
      rw [if_neg n2]
      show ((0 - 1) - y) / (0 - t) * t = y + 1
      have : (0 - t) ≠ 0 := by grind
      have z : ((0 - 1) - y) / (0 - t) * (0 - t) = (0 - 1) - y := by grind
      grind
    have hr : k * ((sm2 (g, h, k) (t, y) (ngP F1)).1 + t) = slp (g, h, k) (t, y) (ngP F1) * slp (g, h, k) (t, y) (ngP F1) - h := by
      show k * ((slp (g, h, k) (t, y) (ngP F1) * slp (g, h, k) (t, y) (ngP F1) - h) / k - t - 0 + t) = _
      generalize slp (g, h, k) (t, y) (ngP F1) = a
      grind
    generalize slp (g, h, k) (t, y) (ngP F1) = a at *
    generalize (sm2 (g, h, k) (t, y) (ngP F1)).1 = r at *
    simp only
    have e : a * t * (a * t) = (y + 1) * (y + 1) := by rw [ha]
    grind
end
theorem idC (W D t k g h x z : Rat) (q3 : k * k * (t * t) * (x * z) = g * g - 4 * h - 4 * k * t) : k * W * (k * W) * (t * D * (t * D)) * (x * z) = g * W * (g * W) * (D * D) - 4 * (h * W * W * (D * D)) - 4 * (k * W * W * (t * D * D)) := by
  have e : k * W * (k * W) * (t * D * (t * D)) * (x * z) = W * W * (D * D) * (k * k * (t * t) * (x * z)) := by clear q3; grind
  rw [e, q3]
  clear q3 e
  grind
theorem idB (W D t k g x z : Rat) (q1 : k * (t * t) * (x + z) = 4 + 2 * g * t) : k * W * (k * W) * (t * D * (t * D)) * (x + z) = 4 * (k * W * W * (D * D)) + 2 * (k * W * (g * W) * (t * D * D)) := by
  have e : k * W * (k * W) * (t * D * (t * D)) * (x + z) = k * W * W * (D * D) * (k * (t * t) * (x + z)) := by clear q1; grind
  rw [e, q1]
  clear q1 e
  grind
/-- the exponent -/
def eC (m : Nat) : Nat := 6 * m + 6
theorem szQ_den {m : Nat} {q : Rat} (h : szQ m q) : q.num.natAbs < 2 ^ m ∧ ((q.den : Int)).natAbs < 2 ^ m := ⟨h.1, h.2⟩
theorem step_hq {c : Cub} (G : GdC c) {m : Nat} (s1 : szQ m c.1) (s2 : szQ m c.2.1) (s3 : szQ m c.2.2) {P : Sp} (oP : OnC c P) (t0 : P.1 ≠ 0) : hq (sm2 c P F1).1 * hq (sm2 c P (ngP F1)).1 ≤ 2 ^ eC m * (hq P.1 * hq P.1) := by
  obtain ⟨p1, p2⟩ := plus_t G oP t0
  have k0 := G.k0
  generalize (sm2 c P F1).1 = x at *
  generalize (sm2 c P (ngP F1)).1 = z at *
  obtain ⟨t, y⟩ := P
  obtain ⟨g, h, k⟩ := c
  unfold OnC hgt at oP
  simp only at *
  obtain ⟨gn, gd⟩ := szQ_den s1
  obtain ⟨hn, hd⟩ := szQ_den s2
  obtain ⟨kn, kd⟩ := szQ_den s3
  have mg := mul_den g
  have mh := mul_den h
  have mk := mul_den k
  have mt := mul_den t
  have dk := den_ne k
  have kt : k * t * (k * t) ≠ 0 := rmul_ne (rmul_ne k0 t0) (rmul_ne k0 t0)
  -- the sum and the product
  have q1 : k * (t * t) * (x + z) = 4 + 2 * g * t := by grind
  have q2 : k * (t * t) * (k * (t * t)) * (x * z) = (t * t) * (g * g - 4 * h - 4 * k * t) := by
    have : k * (t * t) * x * (k * (t * t) * z) = (2 + g * t - 2 * y) * (2 + g * t + 2 * y) := by rw [p1, p2]
    grind
  have q3 : k * k * (t * t) * (x * z) = g * g - 4 * h - 4 * k * t := by
    have tt : t * t ≠ 0 := rmul_ne t0 t0
    have : (t * t) * (k * k * (t * t) * (x * z) - (g * g - 4 * h - 4 * k * t)) = 0 := by grind
    have := (Rat.mul_eq_zero.mp this).resolve_left tt
    grind
  -- whole numbers
  have sw : ((g.den : Int) * h.den * k.den).natAbs < 2 ^ (3 * m) := abs_mul_lt (abs_mul_lt gd hd (Nat.le_refl _)) kd (by omega)
  have sG : (g.num * h.den * k.den).natAbs < 2 ^ (3 * m) := abs_mul_lt (abs_mul_lt gn hd (Nat.le_refl _)) kd (by omega)
  have sH : ((g.den : Int) * h.num * k.den).natAbs < 2 ^ (3 * m) := abs_mul_lt (abs_mul_lt gd hn (Nat.le_refl _)) kd (by omega)
  have sK : ((g.den : Int) * h.den * k.num).natAbs < 2 ^ (3 * m) := abs_mul_lt (abs_mul_lt gd hd (Nat.le_refl _)) kn (by omega)
  have rG : ((g.num * h.den * k.den : Int) : Rat) = g * (((g.den : Int) * h.den * k.den : Int) : Rat) := by simp only [Rat.intCast_mul, ← mg]; grind
  have rH : (((g.den : Int) * h.num * k.den : Int) : Rat) = h * (((g.den : Int) * h.den * k.den : Int) : Rat) := by simp only [Rat.intCast_mul, ← mh]; grind
  have rK : (((g.den : Int) * h.den * k.num : Int) : Rat) = k * (((g.den : Int) * h.den * k.den : Int) : Rat) := by simp only [Rat.intCast_mul, ← mk]; grind
  have w0 : ((g.den : Int) * h.den * k.den) ≠ 0 := mul_ne0 (mul_ne0 (den_ne g) (den_ne h)) dk
  generalize ((g.den : Int) * h.den * k.den) = w at *
  generalize (g.num * h.den * k.den) = Gw at *
  generalize ((g.den : Int) * h.num * k.den) = Hw at *
  generalize ((g.den : Int) * h.den * k.num) = Kw at *
  have K0 : Kw ≠ 0 := fun e => by
    rw [e] at rK
    have : k * (w : Rat) = 0 := rK.symm
    exact rmul_ne k0 (rint_ne w0) this
  have a0 : t.num ≠ 0 := fun e => t0 (num0.mp e)
  have ha : t.num.natAbs ≤ hq t := by unfold hq; omega
  have hb : ((t.den : Int)).natAbs ≤ hq t := by unfold hq; exact Nat.le_max_right _ _
  have hN := hq_pos t
  generalize hq t = N at *
  generalize t.num = a at *
  generalize (t.den : Int) = d at *
  have e4 : ((4 : Int) : Rat) = 4 := rfl
  have e2 : ((2 : Int) : Rat) = 2 := rfl
  have bnd : ∀ {u v : Int}, u.natAbs < 2 ^ (3 * m) → v.natAbs < 2 ^ (3 * m) → (u * v).natAbs ≤ 2 ^ (6 * m) := by
    intro u v hu hv
    exact Nat.le_of_lt (abs_mul_lt hu hv (by omega))
  have bn2 : ∀ {u v : Int}, u.natAbs ≤ N → v.natAbs ≤ N → (u * v).natAbs ≤ N * N := by
    intro u v hu hv
    rw [Int.natAbs_mul]; exact Nat.mul_le_mul hu hv
  have bn3 : ∀ {u v : Int}, u.natAbs ≤ 2 ^ (6 * m) → v.natAbs ≤ N * N → (u * v).natAbs ≤ 2 ^ (6 * m) * (N * N) := by
    intro u v hu hv
    rw [Int.natAbs_mul]; exact Nat.mul_le_mul hu hv
  have fin := hq_two (x := x) (y := z) (A := (Kw * Kw) * (a * a)) (B := 4 * ((Kw * w) * (d * d)) + 2 * ((Kw * Gw) * (a * d))) (C := (Gw * Gw) * (d * d) - 4 * ((Hw * w) * (d * d)) - 4 * ((Kw * w) * (a * d))) (M := 16 * (2 ^ (6 * m) * (N * N)))
    (mul_ne0 (mul_ne0 K0 K0) (mul_ne0 a0 a0))
    (by simp only [Rat.intCast_mul, Rat.intCast_sub, rG, rH, rK, e4, ← mt]; exact idC _ _ _ _ _ _ _ _ q3)
    (by simp only [Rat.intCast_mul, Rat.intCast_add, rG, rH, rK, e4, e2, ← mt]; exact idB _ _ _ _ _ _ _ q1)
    (by have := bn3 (bnd sK sK) (bn2 ha ha); omega)
    (by
      have h1 := bn3 (bnd sK sw) (bn2 hb hb)
      have h2 := bn3 (bnd sK sG) (bn2 ha hb)
      omega)
    (by
      have h1 := bn3 (bnd sG sG) (bn2 hb hb)
      have h2 := bn3 (bnd sH sw) (bn2 hb hb)
      have h3 := bn3 (bnd sK sw) (bn2 ha hb)
      omega)
  have e : 2 * (16 * (2 ^ (6 * m) * (N * N))) = 2 ^ (6 * m + 5) * (N * N) := by rw [Nat.pow_add]; grind
  rw [e] at fin
  refine Nat.le_trans fin (Nat.mul_le_mul_right _ (Nat.pow_le_pow_right (by decide) (by unfold eC; omega)))
theorem ten_sz {c : Cub} {m : Nat} (k0 : c.2.2 ≠ 0) (s1 : szQ m c.1) (s2 : szQ m c.2.1) (s3 : szQ m c.2.2) : szQ (eC m) (sm2 c F1 F1).1 := by
  have e : (sm2 c F1 F1).1 = (c.1 / 2 * (c.1 / 2) - c.2.1) / c.2.2 := by
    have hs : slp c F1 F1 = c.1 / 2 := by
      unfold slp
      rw [if_pos rfl]
      show (c.1 + 0 * _) / (2 * 1) = c.1 / 2
      rw [Rat.zero_mul, Rat.add_zero, Rat.mul_one]
    show (slp c F1 F1 * slp c F1 F1 - c.2.1) / c.2.2 - 0 - 0 = _
    rw [hs]; grind
  rw [e]
  have t2 : szQ 2 (2 : Rat) := ⟨by decide +kernel, by decide +kernel⟩
  have h1 := szQ_div s1 t2 (by decide +kernel)
  exact (szQ_div (szQ_sub (szQ_mul h1 h1) s2) s3 k0).up (by unfold eC; omega)
theorem ngF_sum {c : Cub} : smP c (some (ngP F1)) (some F1) = none := if_pos rfl
theorem tm_hq {c : Cub} (G : GdC c) {m : Nat} (s1 : szQ m c.1) (s2 : szQ m c.2.1) (s3 : szQ m c.2.2) : ∀ n : Nat, (∀ P, tmP c (some F1) n = some P → hq P.1 ≤ 2 ^ (eC m * (n * n))) ∧ (∀ P P', tmP c (some F1) n = some P' → tmP c (some F1) (n + 1) = some P → hq P.1 ≤ 2 ^ (eC m * (n + 1)) * hq P'.1) := by
  have oF : OnO c (some F1) := F_on c
  have one : hq F1.1 = 1 := by decide +kernel
  intro n
  induction n with
  | zero => exact ⟨fun P e => (by cases e), fun P P' e => (by cases e)⟩
  | succ n ih =>
    obtain ⟨A, B⟩ := ih
    have A' : ∀ P, tmP c (some F1) (n + 1) = some P → hq P.1 ≤ 2 ^ (eC m * ((n + 1) * (n + 1))) := by
      intro P e
      cases h : tmP c (some F1) n with
      | none =>
        have : tmP c (some F1) (n + 1) = some F1 := by show smP c (tmP c (some F1) n) (some F1) = _; rw [h]; rfl
        rw [this] at e
        cases e
        rw [one]; exact Nat.one_le_two_pow
      | some P' =>
        have h1 := B P P' h e
        have h2 := A P' h
        refine Nat.le_trans h1 (Nat.le_trans (Nat.mul_le_mul_left _ h2) ?_)
        rw [← Nat.pow_add]
        refine Nat.pow_le_pow_right (by decide) ?_
        rw [← Nat.mul_add]
        refine Nat.mul_le_mul_left _ ?_
        have : (n + 1) * (n + 1) = n * n + n + n + 1 := by grind
        omega
    refine ⟨A', ?_⟩
    intro P P' e' e
    have oP' : OnC c P' := by have := tmP_on G oF (n + 1); rw [e'] at this; exact this
    have e2 : smP c (some P') (some F1) = some P := by rw [← e']; exact e
    by_cases t0 : P'.1 = 0
    · rcases on_t oP' (F_on c) t0 with h | h
      · subst h
        rw [smP_some G F_ng] at e2
        cases e2
        have := hq_sz.mp (ten_sz G.k0 s1 s2 s3)
        rw [one, Nat.mul_one]
        refine Nat.le_trans (Nat.le_of_lt this) (Nat.pow_le_pow_right (by decide) ?_)
        exact Nat.le_mul_of_pos_right _ (by omega)
      · subst h
        rw [ngF_sum] at e2
        cases e2
    · have n1 : P' ≠ ngP F1 := fun e => t0 (by rw [e]; rfl)
      have n2 : P' ≠ ngP (ngP F1) := fun e => t0 (by rw [e]; rfl)
      rw [smP_some G n1] at e2
      cases e2
      have bk : smP c (some P') (some (ngP F1)) = tmP c (some F1) n := by
        rw [← e']
        exact smP_back G (tmP_on G oF n) oF
      rw [smP_some G n2] at bk
      have h1 := step_hq G s1 s2 s3 oP' t0
      have h2 := B P' _ bk.symm e'
      have p0 := hq_pos (sm2 c P' (ngP F1)).1
      generalize hq (sm2 c P' (ngP F1)).1 = u at *
      generalize hq (sm2 c P' F1).1 = v at *
      generalize hq P'.1 = w at *
      have h3 : v * u ≤ (2 ^ (eC m * (n + 1 + 1)) * w) * u := by
        refine Nat.le_trans h1 ?_
        have h4 : 2 ^ eC m * (w * w) ≤ 2 ^ eC m * (w * (2 ^ (eC m * (n + 1)) * u)) := Nat.mul_le_mul_left _ (Nat.mul_le_mul_left _ h2)
        refine Nat.le_trans h4 (Nat.le_of_eq ?_)
        rw [show eC m * (n + 1 + 1) = eC m + eC m * (n + 1) by grind, Nat.pow_add]
        grind
      exact Nat.le_of_mul_le_mul_right h3 p0
theorem y_sz {c : Cub} {m n : Nat} (s1 : szQ m c.1) (s2 : szQ m c.2.1) (s3 : szQ m c.2.2) {P : Sp} (oP : OnC c P) (st : szQ n P.1) {j : Nat} (hj : 3 * n + 3 * m + 6 ≤ 2 * j) : szQ j P.2 := by
  have s : szQ (j + j) (P.2 * P.2) := by
    unfold OnC hgt at oP
    rw [oP]
    have one : szQ 1 (1 : Rat) := ⟨by decide +kernel, by decide +kernel⟩
    exact (szQ_add one (szQ_mul st (szQ_add s1 (szQ_mul st (szQ_add s2 (szQ_mul st s3)))))).up (by omega)
  have e := timesF_sq (qF_fit P.2)
  rw [timesF_q] at e
  have e1 : (P.2 * P.2).num = P.2.num * P.2.num := congrArg Prod.fst e
  have e2 : ((P.2 * P.2).den : Int) = (P.2.den : Int) * P.2.den := congrArg Prod.snd e
  have a1 : (P.2 * P.2).num.natAbs < 2 ^ (j + j) := s.1
  have a2 : (((P.2 * P.2).den : Int)).natAbs < 2 ^ (j + j) := s.2
  rw [e1, Int.natAbs_mul, Nat.pow_add] at a1
  rw [e2, Int.natAbs_mul, Nat.pow_add] at a2
  have up : ∀ {x N : Nat}, x * x < N * N → x < N := by
    intro x N h
    apply Nat.lt_of_not_le
    intro h2
    have := Nat.mul_le_mul h2 h2
    omega
  exact ⟨up a1, up a2⟩
/-- the size of so many times the first spot -/
def tmN (m n : Nat) : Nat := (3 * (eC m * (n * n) + 1) + 3 * m + 8) / 2
theorem tm_sz {c : Cub} (G : GdC c) {m : Nat} (s1 : szQ m c.1) (s2 : szQ m c.2.1) (s3 : szQ m c.2.2) {n : Nat} {P : Sp} (e : tmP c (some F1) n = some P) : szQ (tmN m n) P.1 ∧ szQ (tmN m n) P.2 := by
  have oF : OnO c (some F1) := F_on c
  have oP : OnC c P := by have := tmP_on G oF n; rw [e] at this; exact this
  have h1 : szQ (eC m * (n * n) + 1) P.1 := hq_sz.mpr (Nat.lt_of_le_of_lt ((tm_hq G s1 s2 s3 n).1 P e) (Nat.pow_lt_pow_right (by decide) (by omega)))
  exact ⟨h1.up (by unfold tmN; omega), y_sz s1 s2 s3 oP h1 (by unfold tmN; omega)⟩
end Dl

/-! The data layer, part Za: pairs of curves and their cubics, moved. -/
namespace Dl
open PySem L2 PyProof.Rows
theorem fdiv_le {n m : Int} (h : 0 < m) : (n.fdiv m).natAbs ≤ n.natAbs := by
  rw [Int.fdiv_eq_ediv_of_nonneg _ (by omega)]
  exact Int.natAbs_ediv_le_natAbs n m
instance (b : Nat) (ns : List Int) : Decidable (szL b ns) := by unfold szL; exact inferInstance
def det3 : List Int → List Int → List Int → Int
  | [a, b, c], [d, e, f], [g, h, i] => a * (e * i - f * h) - b * (d * i - f * g) + c * (d * h - e * g)
  | _, _, _ => 0
theorem det3_rows (a b c d e f : Int) : det3 [2 * a, f, e] [f, 2 * b, d] [e, d, 2 * c] = 2 * det6 [a, b, c, d, e, f] := by
  simp only [det3, det6]; grind
/-- a table of nine -/
structure Tab where
  a : Int
  b : Int
  c : Int
  d : Int
  e : Int
  f : Int
  g : Int
  h : Int
  i : Int
def Tab.det (T : Tab) : Int := det3 [T.a, T.b, T.c] [T.d, T.e, T.f] [T.g, T.h, T.i]
/-- the sum of the products, by columns -/
def tq (T : Tab) (u : List Int) (x y z x' y' z' : Int) : Int :=
  match u with
  | [a, b, c, d, e, f] => x * (2 * a) * x' + x * f * y' + x * e * z' + y * f * x' + y * (2 * b) * y' + y * d * z' + z * e * x' + z * d * y' + z * (2 * c) * z'
  | _ => 0
def mv6 (T : Tab) (u : List Int) : List Int :=
  [tq T u T.a T.d T.g T.a T.d T.g, tq T u T.b T.e T.h T.b T.e T.h, tq T u T.c T.f T.i T.c T.f T.i, 2 * tq T u T.b T.e T.h T.c T.f T.i, 2 * tq T u T.a T.d T.g T.c T.f T.i, 2 * tq T u T.a T.d T.g T.b T.e T.h]
theorem mv6_len (T : Tab) (u : List Int) : (mv6 T u).length = 6 := rfl
theorem det3_mul (a b c d e f g h i a' b' c' d' e' f' g' h' i' : Int) : det3 [a * a' + b * d' + c * g', a * b' + b * e' + c * h', a * c' + b * f' + c * i'] [d * a' + e * d' + f * g', d * b' + e * e' + f * h', d * c' + e * f' + f * i'] [g * a' + h * d' + i * g', g * b' + h * e' + i * h', g * c' + h * f' + i * i'] = det3 [a, b, c] [d, e, f] [g, h, i] * det3 [a', b', c'] [d', e', f'] [g', h', i'] := by
  simp only [det3]; grind
theorem det3_tr (a b c d e f g h i : Int) : det3 [a, d, g] [b, e, h] [c, f, i] = det3 [a, b, c] [d, e, f] [g, h, i] := by
  simp only [det3]; grind
theorem det3_scl (s a b c d e f g h i : Int) : det3 [s * a, s * b, s * c] [s * d, s * e, s * f] [s * g, s * h, s * i] = s * s * s * det3 [a, b, c] [d, e, f] [g, h, i] := by
  simp only [det3]; grind
theorem det6_mv (T : Tab) {u : List Int} (hu : u.length = 6) : det6 (mv6 T u) = 8 * (T.det * T.det) * det6 u := by
  obtain ⟨a, b, c, d, e, f, rfl⟩ := len6 hu
  obtain ⟨A, B, C, D, E, F, G, H, I⟩ := T
  -- twice both sides as determinants of tables
  have h1 : 2 * det6 (mv6 ⟨A, B, C, D, E, F, G, H, I⟩ [a, b, c, d, e, f]) = 16 * (Tab.det ⟨A, B, C, D, E, F, G, H, I⟩ * Tab.det ⟨A, B, C, D, E, F, G, H, I⟩) * det6 [a, b, c, d, e, f] := by
    have s1 := det3_mul A D G B E H C F I (2 * a) f e f (2 * b) d e d (2 * c)
    have s2 := det3_mul (A * (2 * a) + D * f + G * e) (A * f + D * (2 * b) + G * d) (A * e + D * d + G * (2 * c)) (B * (2 * a) + E * f + H * e) (B * f + E * (2 * b) + H * d) (B * e + E * d + H * (2 * c)) (C * (2 * a) + F * f + I * e) (C * f + F * (2 * b) + I * d) (C * e + F * d + I * (2 * c)) A B C D E F G H I
    rw [s1, det3_rows, det3_tr A B C D E F G H I] at s2
    simp only [mv6]
    rw [← det3_rows]
    have r1 : ∀ x y z x' y' z' : Int, tq ⟨A, B, C, D, E, F, G, H, I⟩ [a, b, c, d, e, f] x y z x' y' z' = (x * (2 * a) + y * f + z * e) * x' + (x * f + y * (2 * b) + z * d) * y' + (x * e + y * d + z * (2 * c)) * z' := by
      intro x y z x' y' z'; simp only [tq]; grind
    have sy : ∀ x y z x' y' z' : Int, tq ⟨A, B, C, D, E, F, G, H, I⟩ [a, b, c, d, e, f] x y z x' y' z' = tq ⟨A, B, C, D, E, F, G, H, I⟩ [a, b, c, d, e, f] x' y' z' x y z := by
      intro x y z x' y' z'; simp only [tq]; grind
    have s3 := det3_scl 2 (tq ⟨A, B, C, D, E, F, G, H, I⟩ [a, b, c, d, e, f] A D G A D G) (tq ⟨A, B, C, D, E, F, G, H, I⟩ [a, b, c, d, e, f] A D G B E H) (tq ⟨A, B, C, D, E, F, G, H, I⟩ [a, b, c, d, e, f] A D G C F I) (tq ⟨A, B, C, D, E, F, G, H, I⟩ [a, b, c, d, e, f] B E H A D G) (tq ⟨A, B, C, D, E, F, G, H, I⟩ [a, b, c, d, e, f] B E H B E H) (tq ⟨A, B, C, D, E, F, G, H, I⟩ [a, b, c, d, e, f] B E H C F I) (tq ⟨A, B, C, D, E, F, G, H, I⟩ [a, b, c, d, e, f] C F I A D G) (tq ⟨A, B, C, D, E, F, G, H, I⟩ [a, b, c, d, e, f] C F I B E H) (tq ⟨A, B, C, D, E, F, G, H, I⟩ [a, b, c, d, e, f] C F I C F I)
    rw [sy B E H A D G, sy C F I A D G, sy C F I B E H] at s3
    simp only [← r1] at s2
    rw [sy B E H A D G, sy C F I A D G, sy C F I B E H] at s2
    rw [s3, s2]
    simp only [Tab.det]
    grind
  refine Int.eq_of_mul_eq_mul_left (show (2 : Int) ≠ 0 by decide) ?_
  rw [h1]
  generalize Tab.det _ = x
  grind
theorem nums_scl2 {o i : List Int} (ho : o.length = 6) (hi : i.length = 6) (g h : Int) : nums (scl g o) (scl h i) = (h * h * h * (nums o i).1, h * h * g * (nums o i).2.1, h * g * g * (nums o i).2.2.1, g * g * g * (nums o i).2.2.2) := by
  obtain ⟨a, b, c, d, e, f, rfl⟩ := len6 ho
  obtain ⟨a', b', c', d', e', f', rfl⟩ := len6 hi
  simp only [nums, scl, List.map_cons, List.map_nil, det6, slp6, dotL, List.zipWith_cons_cons, List.zipWith_nil_left, List.sum_cons, List.sum_nil, Prod.mk.injEq]
  refine ⟨by grind, by grind, by grind, by grind⟩
theorem dscI_scl (n : Int × Int × Int × Int) (g h : Int) : dscI (h * h * h * n.1, h * h * g * n.2.1, h * g * g * n.2.2.1, g * g * g * n.2.2.2) = h * h * h * h * h * h * (g * g * g * g * g * g) * dscI n := by
  obtain ⟨w, u, v, r⟩ := n
  simp only [dscI]; grind
theorem mv_mix (T : Tab) {o i : List Int} (ho : o.length = 6) (hi : i.length = 6) (t : Int) : mv6 T (List.zipWith (fun a b => t * a + b) o i) = List.zipWith (fun a b => t * a + b) (mv6 T o) (mv6 T i) := by
  obtain ⟨a, b, c, d, e, f, rfl⟩ := len6 ho
  obtain ⟨a', b', c', d', e', f', rfl⟩ := len6 hi
  have r : ∀ x y z x' y' z' : Int, tq T [t * a + a', t * b + b', t * c + c', t * d + d', t * e + e', t * f + f'] x y z x' y' z' = t * tq T [a, b, c, d, e, f] x y z x' y' z' + tq T [a', b', c', d', e', f'] x y z x' y' z' := by
    intro x y z x' y' z'; simp only [tq]; grind
  simp only [mv6, List.zipWith_cons_cons, List.zipWith_nil_left, r, List.cons.injEq, and_true, true_and]
  refine ⟨by grind, by grind, by grind⟩
theorem nums_mv (T : Tab) {o i : List Int} (ho : o.length = 6) (hi : i.length = 6) : nums (mv6 T o) (mv6 T i) = (8 * (T.det * T.det) * (nums o i).1, 8 * (T.det * T.det) * (nums o i).2.1, 8 * (T.det * T.det) * (nums o i).2.2.1, 8 * (T.det * T.det) * (nums o i).2.2.2) := by
  have k : ∀ t : Int, (nums (mv6 T o) (mv6 T i)).1 + (nums (mv6 T o) (mv6 T i)).2.1 * t + (nums (mv6 T o) (mv6 T i)).2.2.1 * (t * t) + (nums (mv6 T o) (mv6 T i)).2.2.2 * (t * t * t) = 8 * (T.det * T.det) * ((nums o i).1 + (nums o i).2.1 * t + (nums o i).2.2.1 * (t * t) + (nums o i).2.2.2 * (t * t * t)) := by
    intro t
    have h1 := det6_mix (mv6_len T o) (mv6_len T i) t
    have h2 := det6_mix ho hi t
    rw [← mv_mix T ho hi, det6_mv T (by rw [List.length_zipWith, ho, hi]; rfl), h2] at h1
    exact h1.symm
  have k0 := k 0
  have k1 := k 1
  have k2 := k (-1)
  have k3 : (nums (mv6 T o) (mv6 T i)).2.2.2 = 8 * (T.det * T.det) * (nums o i).2.2.2 := det6_mv T ho
  generalize nums (mv6 T o) (mv6 T i) = n at *
  generalize nums o i = m at *
  generalize 8 * (T.det * T.det) = s at *
  obtain ⟨w, u, v, r⟩ := n
  obtain ⟨w', u', v', r'⟩ := m
  simp only at *
  simp only [Prod.mk.injEq]
  refine ⟨by grind, by grind, by grind, k3⟩
/-- the cubic of two curves -/
def cubP (o i : List Int) : Cub := ((nums o i).2.1 / ((nums o i).1 : Rat), (nums o i).2.2.1 / ((nums o i).1 : Rat), (nums o i).2.2.2 / ((nums o i).1 : Rat))
def scaled (c c' : Cub) : Prop := ∃ l : Rat, l ≠ 0 ∧ c' = (l * c.1, l * l * c.2.1, l * l * l * c.2.2)
theorem scaled.refl (c : Cub) : scaled c c := ⟨1, by decide +kernel, by obtain ⟨g, h, k⟩ := c; simp only [Prod.mk.injEq]; refine ⟨by grind, by grind, by grind⟩⟩
theorem scaled.trans {a b c : Cub} (h : scaled a b) (k : scaled b c) : scaled a c := by
  obtain ⟨l, l0, rfl⟩ := h
  obtain ⟨m, m0, rfl⟩ := k
  exact ⟨m * l, rmul_ne m0 l0, by simp only [Prod.mk.injEq]; refine ⟨by grind, by grind, by grind⟩⟩
theorem cub_scl {o i : List Int} (ho : o.length = 6) (hi : i.length = 6) {g h : Int} (g0 : g ≠ 0) (h0 : h ≠ 0) (w0 : det6 i ≠ 0) : scaled (cubP (scl g o) (scl h i)) (cubP o i) := by
  have gq := rint_ne g0
  have hq := rint_ne h0
  have wq : ((nums o i).1 : Rat) ≠ 0 := rint_ne w0
  refine ⟨(h : Rat) / g, fun e => ?_, ?_⟩
  · have : (h : Rat) / g * g = 0 := by rw [e, Rat.zero_mul]
    exact hq (by grind)
  · unfold cubP
    rw [nums_scl2 ho hi]
    generalize nums o i = n at *
    simp only [Rat.intCast_mul, Prod.mk.injEq]
    generalize (g : Rat) = G at *
    generalize (h : Rat) = H at *
    generalize (n.1 : Rat) = W at *
    refine ⟨by grind, by grind, by grind⟩
theorem cub_mv (T : Tab) {o i : List Int} (ho : o.length = 6) (hi : i.length = 6) (t0 : T.det ≠ 0) (w0 : det6 i ≠ 0) : cubP (mv6 T o) (mv6 T i) = cubP o i := by
  have s0 : ((8 * (T.det * T.det) : Int) : Rat) ≠ 0 := rint_ne (mul_ne0 (by decide) (mul_ne0 t0 t0))
  have wq : ((nums o i).1 : Rat) ≠ 0 := rint_ne w0
  unfold cubP
  rw [nums_mv T ho hi]
  generalize nums o i = n at *
  generalize 8 * (T.det * T.det) = s at *
  simp only [Rat.intCast_mul, Prod.mk.injEq]
  refine ⟨by grind, by grind, by grind⟩
theorem dsc_cub {o i : List Int} (ci : det6 i ≠ 0) : ((dscI (nums o i) : Int) : Rat) = ((nums o i).1 : Rat) * (nums o i).1 * (nums o i).1 * (nums o i).1 * dsQ (cubP o i).1 (cubP o i).2.1 (cubP o i).2.2 := by
  have w0 : ((nums o i).1 : Rat) ≠ 0 := rint_ne ci
  unfold dscI cubP dsQ
  generalize nums o i = n at *
  simp only [Rat.intCast_mul, Rat.intCast_sub, Rat.intCast_add]
  have e4 : ((4 : Int) : Rat) = 4 := rfl
  have e27 : ((27 : Int) : Rat) = 27 := rfl
  have e18 : ((18 : Int) : Rat) = 18 := rfl
  rw [e4, e27, e18]
  generalize (n.1 : Rat) = W at *
  generalize hu : (n.2.1 : Rat) / W = g at *
  generalize hv : (n.2.2.1 : Rat) / W = h at *
  generalize hr : (n.2.2.2 : Rat) / W = k at *
  have u1 : (n.2.1 : Rat) = g * W := by rw [← hu]; grind
  have u2 : (n.2.2.1 : Rat) = h * W := by rw [← hv]; grind
  have u3 : (n.2.2.2 : Rat) = k * W := by rw [← hr]; grind
  rw [u1, u2, u3]
  clear u1 u2 u3 hu hv hr
  grind
theorem scaled.gd {c c' : Cub} (h : scaled c c') (g : GdC c) : GdC c' := by
  obtain ⟨l, l0, rfl⟩ := h
  obtain ⟨a, b, k⟩ := c
  have k0 := g.k0
  have d0 := g.ds
  refine ⟨rmul_ne (rmul_ne (rmul_ne l0 l0) l0) k0, ?_⟩
  simp only at *
  have e : dsQ (l * a) (l * l * b) (l * l * l * k) = l * l * (l * l) * (l * l) * dsQ a b k := by unfold dsQ; grind
  rw [e]
  exact rmul_ne (rmul_ne (rmul_ne (rmul_ne l0 l0) (rmul_ne l0 l0)) (rmul_ne l0 l0)) d0
theorem dsc_of {o i : List Int} (ci : det6 i ≠ 0) (g : GdC (cubP o i)) : dscI (nums o i) ≠ 0 := fun e => by
  have h := dsc_cub (o := o) ci
  have w0 : ((nums o i).1 : Rat) ≠ 0 := rint_ne ci
  rw [e] at h
  exact rmul_ne (rmul_ne (rmul_ne (rmul_ne w0 w0) w0) w0) g.ds h.symm
theorem gd_cub {o i : List Int} (co : det6 o ≠ 0) (ci : det6 i ≠ 0) (hd : dscI (nums o i) ≠ 0) : GdC (cubP o i) := by
  have w0 : ((nums o i).1 : Rat) ≠ 0 := rint_ne ci
  have r0 : ((nums o i).2.2.2 : Rat) ≠ 0 := rint_ne co
  have d0 : ((dscI (nums o i) : Int) : Rat) ≠ 0 := rint_ne hd
  unfold dscI at d0
  unfold cubP
  generalize nums o i = n at *
  simp only [Rat.intCast_mul, Rat.intCast_sub, Rat.intCast_add] at d0
  have e4 : ((4 : Int) : Rat) = 4 := rfl
  have e27 : ((27 : Int) : Rat) = 27 := rfl
  have e18 : ((18 : Int) : Rat) = 18 := rfl
  rw [e4, e27, e18] at d0
  refine ⟨?_, ?_⟩
  · show (n.2.2.2 : Rat) / (n.1 : Rat) ≠ 0
    intro e
    apply r0
    have : (n.2.2.2 : Rat) / (n.1 : Rat) * n.1 = 0 := by rw [e, Rat.zero_mul]
    grind
  · show dsQ ((n.2.1 : Rat) / n.1) ((n.2.2.1 : Rat) / n.1) ((n.2.2.2 : Rat) / n.1) ≠ 0
    intro e
    apply d0
    unfold dsQ at e
    generalize (n.1 : Rat) = W at *
    generalize hu : (n.2.1 : Rat) / W = g at *
    generalize hv : (n.2.2.1 : Rat) / W = h at *
    generalize hr : (n.2.2.2 : Rat) / W = k at *
    have u1 : (n.2.1 : Rat) = g * W := by rw [← hu]; grind
    have u2 : (n.2.2.1 : Rat) = h * W := by rw [← hv]; grind
    have u3 : (n.2.2.2 : Rat) = k * W := by rw [← hr]; grind
    rw [u1, u2, u3]
    have z : g * W * (g * W) * (h * W) * (h * W) - 4 * W * (h * W) * (h * W) * (h * W) - 4 * (g * W) * (g * W) * (g * W) * (k * W) - 27 * W * W * (k * W) * (k * W) + 18 * W * (g * W) * (h * W) * (k * W) = W * W * W * W * (g * h * g * h - 4 * h * h * h - 4 * k * g * g * g - 27 * k * k + 18 * g * h * k) := by
      clear e u1 u2 u3 hu hv hr
      grind
    rw [z, e, Rat.mul_zero]
/-- the curves of a cubic have its numbers -/
theorem nums_of {g h k b : Rat} {o : List Int} (e0 : k - g * h ≠ 0) (b0 : b ≠ 0) (ho : o.map (fun x : Int => (x : Rat)) = [-h / (k - g * h) * b, g * b, (k - g * h) * b, 0, 0, 2 * b]) : ((nums o [0, 1, 0, 0, 2, 0]).1 : Rat) = -4 ∧ ((nums o [0, 1, 0, 0, 2, 0]).2.1 : Rat) = -4 * (g * b) ∧ ((nums o [0, 1, 0, 0, 2, 0]).2.2.1 : Rat) = -4 * (h * (b * b)) ∧ ((nums o [0, 1, 0, 0, 2, 0]).2.2.2 : Rat) = -4 * (k * (b * b * b)) := by
  have hl : o.length = 6 := by have := congrArg List.length ho; simpa using this
  obtain ⟨A, B, C, D, E, F, rfl⟩ := len6 hl
  simp only [List.map_cons, List.map_nil, List.cons.injEq, and_true] at ho
  obtain ⟨hA, hB, hC, hD, hE, hF⟩ := ho
  have d0 : D = 0 := Rat.intCast_eq_zero_iff.mp hD
  have e0' : E = 0 := Rat.intCast_eq_zero_iff.mp hE
  subst d0 e0'
  have hAe : (A : Rat) * (k - g * h) = -h * b := by rw [hA]; grind
  have v1 : (nums [A, B, C, 0, 0, F] [0, 1, 0, 0, 2, 0]).1 = -4 := by simp [nums, det6]
  have v2 : (nums [A, B, C, 0, 0, F] [0, 1, 0, 0, 2, 0]).2.1 = -4 * B := by simp [nums, slp6, dotL]; omega
  have v3 : (nums [A, B, C, 0, 0, F] [0, 1, 0, 0, 2, 0]).2.2.1 = 4 * A * C := by simp [nums, slp6, dotL]
  have v4 : (nums [A, B, C, 0, 0, F] [0, 1, 0, 0, 2, 0]).2.2.2 = 4 * A * B * C - C * F * F := by simp [nums, det6]
  have e4 : ((4 : Int) : Rat) = 4 := rfl
  have em : ((-4 : Int) : Rat) = -4 := rfl
  rw [v1, v2, v3, v4]
  refine ⟨rfl, ?_, ?_, ?_⟩
  · rw [Rat.intCast_mul, em, hB]
  · rw [Rat.intCast_mul, Rat.intCast_mul, e4, hC]
    have : 4 * (A : Rat) * ((k - g * h) * b) = 4 * ((A : Rat) * (k - g * h)) * b := by grind
    rw [this, hAe]; grind
  · rw [Rat.intCast_sub, Rat.intCast_mul, Rat.intCast_mul, Rat.intCast_mul, Rat.intCast_mul, Rat.intCast_mul, e4, hB, hC, hF]
    have : 4 * (A : Rat) * (g * b) * ((k - g * h) * b) = 4 * ((A : Rat) * (k - g * h)) * (g * b) * b := by grind
    rw [this, hAe]; grind
end Dl

/-! The data layer, part Zb: tables of fractions, brought to steps. -/
namespace Dl
open PySem L2 PyProof.Rows
abbrev Mx := Nat → Nat → Rat
def smQ (f : Nat → Rat) : Nat → Rat
  | 0 => 0
  | n + 1 => smQ f n + f n
theorem smQ_congr {f g : Nat → Rat} : ∀ n, (∀ j < n, f j = g j) → smQ f n = smQ g n
  | 0, _ => rfl
  | n + 1, h => by rw [smQ, smQ, smQ_congr n fun j hj => h j (by omega), h n (by omega)]
theorem smQ_lin (f g : Nat → Rat) (c : Rat) : ∀ n, smQ (fun j => f j - c * g j) n = smQ f n - c * smQ g n
  | 0 => by simp only [smQ]; grind
  | n + 1 => by simp only [smQ]; rw [smQ_lin f g c n]; grind
theorem smQ_zero {f : Nat → Rat} : ∀ n, (∀ j < n, f j = 0) → smQ f n = 0
  | 0, _ => rfl
  | n + 1, h => by rw [smQ, smQ_zero n fun j hj => h j (by omega), h n (by omega)]; grind
theorem smQ_one {f : Nat → Rat} {i : Nat} : ∀ n, i < n → (∀ j < n, j ≠ i → f j = 0) → smQ f n = f i
  | 0, h, _ => absurd h (by omega)
  | n + 1, h, k => by
    by_cases e : i = n
    · subst e
      rw [smQ, smQ_zero i fun j hj => k j (by omega) (by omega)]; grind
    · rw [smQ, smQ_one n (by omega) fun j hj hn => k j (by omega) hn, k n (by omega) (by omega)]; grind
theorem smQ_split {f : Nat → Rat} {i : Nat} (x : Rat) : ∀ n, i < n → smQ (fun j => if j = i then x else f j) n = smQ f n - f i + x
  | 0, h => absurd h (by omega)
  | n + 1, h => by
    by_cases e : i = n
    · subst e
      simp only [smQ, if_true]
      rw [smQ_congr (g := f) i fun j hj => if_neg (by omega)]
      grind
    · simp only [smQ]
      rw [smQ_split x n (by omega), if_neg (by omega)]
      grind
def Sol (n : Nat) (M : Mx) (β : Nat → Rat) : Prop := ∀ i < n, smQ (fun j => M i j * β j) n = 0
def sing (n : Nat) (M : Mx) : Prop := ∃ β : Nat → Rat, (∃ j, j < n ∧ β j ≠ 0) ∧ Sol n M β
def upd (M : Mx) (k : Nat) (f : Nat → Rat) : Mx := fun i j => if i = k then f j else M i j
theorem upd_same (M : Mx) (k : Nat) (f : Nat → Rat) (j : Nat) : upd M k f k j = f j := if_pos rfl
theorem upd_ne (M : Mx) {k i : Nat} (f : Nat → Rat) (h : i ≠ k) (j : Nat) : upd M k f i j = M i j := if_neg h
def swpM (M : Mx) (a p : Nat) : Mx := upd (upd M a (M p)) p (M a)
def elM (M : Mx) (p k : Nat) : Mx := upd M k fun j => M k j - M k p / M p p * M p j
theorem sol_sw {n : Nat} {M : Mx} {a p : Nat} (ha : a < n) (hp : p < n) (β : Nat → Rat) : Sol n (swpM M a p) β ↔ Sol n M β := by
  have e1 : ∀ j, swpM M a p p j = M a j := fun j => upd_same ..
  have e2 : ∀ i j, i ≠ p → i ≠ a → swpM M a p i j = M i j := fun i j h1 h2 => by unfold swpM; rw [upd_ne _ _ h1, upd_ne _ _ h2]
  have e3 : a ≠ p → ∀ j, swpM M a p a j = M p j := fun h j => by unfold swpM; rw [upd_ne _ _ h, upd_same]
  constructor
  · intro h i hi
    by_cases ia : i = a
    · subst ia
      have := h p hp
      rw [smQ_congr n fun j _ => by rw [e1 j]] at this
      exact this
    · by_cases ip : i = p
      · subst ip
        have := h a ha
        rw [smQ_congr n fun j _ => by rw [e3 (Ne.symm ia) j]] at this
        exact this
      · have := h i hi
        rw [smQ_congr n fun j _ => by rw [e2 i j ip ia]] at this
        exact this
  · intro h i hi
    by_cases ip : i = p
    · subst ip
      rw [smQ_congr n fun j _ => by rw [e1 j]]
      exact h a ha
    · by_cases ia : i = a
      · subst ia
        rw [smQ_congr n fun j _ => by rw [e3 ip j]]
        exact h p hp
      · rw [smQ_congr n fun j _ => by rw [e2 i j ip ia]]
        exact h i hi
theorem sol_el {n : Nat} {M : Mx} {p k : Nat} (hp : p < n) (hk : k < n) (hn : p ≠ k) (β : Nat → Rat) : Sol n (elM M p k) β ↔ Sol n M β := by
  have e1 : ∀ j, elM M p k k j * β j = M k j * β j - M k p / M p p * (M p j * β j) := fun j => by unfold elM; rw [upd_same]; grind
  have e2 : ∀ i j, i ≠ k → elM M p k i j = M i j := fun i j h => upd_ne _ _ h j
  have key : smQ (fun j => elM M p k k j * β j) n = smQ (fun j => M k j * β j) n - M k p / M p p * smQ (fun j => M p j * β j) n := by
    rw [smQ_congr n fun j _ => e1 j, smQ_lin]
  constructor
  · intro h i hi
    by_cases ik : i = k
    · subst ik
      have h1 := h i hi
      have h2 := h p hp
      rw [smQ_congr n fun j _ => by rw [e2 p j hn]] at h2
      rw [key, h2] at h1
      grind
    · have := h i hi
      rw [smQ_congr n fun j _ => by rw [e2 i j ik]] at this
      exact this
  · intro h i hi
    by_cases ik : i = k
    · subst ik
      rw [key, h i hi, h p hp]; grind
    · rw [smQ_congr n fun j _ => by rw [e2 i j ik]]
      exact h i hi
/-- the first rows brought to steps -/
structure Stp (n p : Nat) (M : Mx) : Prop where
  dg : ∀ i < p, M i i ≠ 0
  lo : ∀ i < n, ∀ j < p, j < i → M i j = 0
theorem stp_all {n : Nat} {M : Mx} (h : Stp n n M) : ¬ sing n M := by
  rintro ⟨β, ⟨j, hj, bj⟩, hs⟩
  have key : ∀ t, ∀ i, i < n → n ≤ i + t → β i = 0 := by
    intro t
    induction t with
    | zero => intro i hi h; omega
    | succ t ih =>
      intro i hi ht
      have := hs i hi
      rw [smQ_one n hi fun j hj hn => by
        by_cases hji : j < i
        · rw [h.lo i hi j hj hji]; grind
        · rw [ih j hj (by omega)]; grind] at this
      exact (Rat.mul_eq_zero.mp this).resolve_left (h.dg i hi)
  exact bj (key n j hj (by omega))
theorem stp_sing {n p : Nat} {M : Mx} (hp : p < n) (h : Stp n p M) (hz : ∀ i, p ≤ i → i < n → M i p = 0) : sing n M := by
  have key : ∀ t, t ≤ p → ∃ β : Nat → Rat, β p = 1 ∧ (∀ j, p < j → β j = 0) ∧ ∀ i, p ≤ i + t → i < p → smQ (fun j => M i j * β j) n = 0 := by
    intro t
    induction t with
    | zero => intro _; exact ⟨fun j => if j = p then 1 else 0, if_pos rfl, fun j hj => if_neg (by omega), fun i h1 h2 => by omega⟩
    | succ t ih =>
      intro ht
      obtain ⟨β, b1, b2, b3⟩ := ih (by omega)
      have q0 := h.dg (p - (t + 1)) (by omega)
      have qn : p - (t + 1) < n := by omega
      have qp : p - (t + 1) < p := by omega
      have qt : p = p - (t + 1) + (t + 1) := by omega
      generalize p - (t + 1) = q at *
      refine ⟨fun j => if j = q then β q - smQ (fun j => M q j * β j) n / M q q else β j, ?_, ?_, ?_⟩
      · show (if p = q then _ else _) = _
        rw [if_neg (by omega)]; exact b1
      · intro j hj
        show (if j = q then _ else _) = _
        rw [if_neg (by omega)]; exact b2 j hj
      · intro i h1 h2
        have e : ∀ x, smQ (fun j => M i j * (if j = q then x else β j)) n = smQ (fun j => M i j * β j) n - M i q * β q + M i q * x := by
          intro x
          rw [← smQ_split (f := fun j => M i j * β j) (M i q * x) n qn]
          refine smQ_congr n fun j _ => ?_
          by_cases hjq : j = q
          · subst hjq; rw [if_pos rfl, if_pos rfl]
          · rw [if_neg hjq, if_neg hjq]
        rw [e]
        by_cases hiq : i = q
        · subst hiq
          generalize smQ (fun j => M i j * β j) n = S
          grind
        · rw [b3 i (by omega) h2, h.lo i (by omega) q qp (by omega)]
          grind
  obtain ⟨β, b1, b2, b3⟩ := key p (Nat.le_refl _)
  refine ⟨β, ⟨p, hp, by rw [b1]; decide +kernel⟩, fun i hi => ?_⟩
  by_cases hip : i < p
  · exact b3 i (by omega) hip
  · refine smQ_zero n fun j hj => ?_
    by_cases h1 : j < p
    · rw [h.lo i hi j h1 (by omega)]; grind
    · by_cases h2 : j = p
      · subst h2; rw [hz i (by omega) hi]; grind
      · rw [b2 j (by omega)]; grind
theorem sing_of {n : Nat} {M M' : Mx} (h : ∀ β, Sol n M' β ↔ Sol n M β) : sing n M' ↔ sing n M :=
  ⟨fun ⟨β, b, s⟩ => ⟨β, b, (h β).mp s⟩, fun ⟨β, b, s⟩ => ⟨β, b, (h β).mpr s⟩⟩
/-- all parts have one bottom, and are not too great -/
def bdM (n b : Nat) (M : Mx) : Prop := ∃ d : Int, d ≠ 0 ∧ d.natAbs < 2 ^ b ∧ ∀ i < n, ∀ j < n, ∃ y : Int, M i j * (d : Rat) = (y : Rat) ∧ y.natAbs < 2 ^ b
theorem bdM.up {n b c : Nat} {M : Mx} (h : bdM n b M) (l : b ≤ c) : bdM n c M := by
  obtain ⟨d, d0, db, h⟩ := h
  refine ⟨d, d0, abs_up db l, fun i hi j hj => ?_⟩
  obtain ⟨y, e, yb⟩ := h i hi j hj
  exact ⟨y, e, abs_up yb l⟩
theorem bdM.sz {n b : Nat} {M : Mx} (h : bdM n b M) {i j : Nat} (hi : i < n) (hj : j < n) : szQ b (M i j) := by
  obtain ⟨d, d0, db, h⟩ := h
  obtain ⟨y, e, yb⟩ := h i hi j hj
  have e2 : M i j = Rat.divInt y d := by
    rw [Rat.divInt_eq_div, ← e]
    have := rint_ne d0
    grind
  rw [e2]
  exact szQ_mk d0 yb db
theorem bdM.sw {n b : Nat} {M : Mx} (h : bdM n b M) {a p : Nat} (ha : a < n) (hp : p < n) : bdM n b (swpM M a p) := by
  obtain ⟨d, d0, db, h⟩ := h
  refine ⟨d, d0, db, fun i hi j hj => ?_⟩
  unfold swpM upd
  by_cases ip : i = p
  · simp only [ip, if_true]; exact h a ha j hj
  · by_cases ia : i = a
    · subst ia
      simp only [ip, if_true, if_false]; exact h p hp j hj
    · simp only [ip, ia, if_false]; exact h i hi j hj
/-- all rows below p less so many times row p -/
def elA (M : Mx) (p k : Nat) : Mx := fun i j => if p < i ∧ i < k then M i j - M i p / M p p * M p j else M i j
theorem elA_bd {n b p : Nat} {M : Mx} (h : bdM n b M) (hp : p < n) (k : Nat) (m0 : M p p ≠ 0) : bdM n (2 * b + 1) (elA M p k) := by
  obtain ⟨d, d0, db, h⟩ := h
  obtain ⟨yp, ep, ypb⟩ := h p hp p hp
  have dq := rint_ne d0
  have yp0 : yp ≠ 0 := fun e => by
    rw [e] at ep
    exact rmul_ne m0 dq ep
  refine ⟨d * yp, mul_ne0 d0 yp0, Nat.lt_of_lt_of_le (abs_mul_lt db ypb (Nat.le_refl _)) (Nat.pow_le_pow_right (by decide) (by omega)), fun i hi j hj => ?_⟩
  obtain ⟨y, e, yb⟩ := h i hi j hj
  unfold elA
  split
  · obtain ⟨u, eu, ub⟩ := h i hi p hp
    obtain ⟨v, ev, vb⟩ := h p hp j hj
    refine ⟨y * yp - u * v, ?_, ?_⟩
    · simp only [Rat.intCast_mul, Rat.intCast_sub, ← e, ← ep, ← eu, ← ev]
      grind
    · rw [show 2 * b + 1 = b + b + 1 by omega]
      exact abs_sub_lt (abs_mul_lt yb ypb (Nat.le_refl _)) (abs_mul_lt ub vb (Nat.le_refl _))
  · refine ⟨y * yp, ?_, ?_⟩
    · simp only [Rat.intCast_mul, ← e, ← ep]; grind
    · exact Nat.lt_of_lt_of_le (abs_mul_lt yb ypb (Nat.le_refl _)) (Nat.pow_le_pow_right (by decide) (by omega))
theorem elA_zero (M : Mx) (p : Nat) : elA M p (p + 1) = M := by
  funext i j; unfold elA; rw [if_neg (by omega)]
theorem elA_succ (M : Mx) {p k : Nat} (h : p < k) : elA M p (k + 1) = upd (elA M p k) k fun j => M k j - M k p / M p p * M p j := by
  funext i j
  unfold elA upd
  by_cases e : i = k
  · subst e; rw [if_pos ⟨h, by omega⟩, if_pos rfl]
  · rw [if_neg e]
    show (if p < i ∧ i < k + 1 then _ else _) = (if p < i ∧ i < k then _ else _)
    by_cases c : p < i ∧ i < k
    · rw [if_pos c, if_pos ⟨c.1, by omega⟩]
    · rw [if_neg c, if_neg (by omega)]
theorem elA_self (M : Mx) (p k j : Nat) : elA M p k p j = M p j := by unfold elA; rw [if_neg (by omega)]
theorem elA_ge (M : Mx) {p k i : Nat} (h : k ≤ i) (j : Nat) : elA M p k i j = M i j := by unfold elA; rw [if_neg (by omega)]
theorem sol_elA {n : Nat} {M : Mx} {p : Nat} (hp : p < n) (β : Nat → Rat) : ∀ k, p < k → k ≤ n → (Sol n (elA M p k) β ↔ Sol n M β)
  | 0, h, _ => absurd h (by omega)
  | k + 1, h, hk => by
    by_cases e : p = k
    · subst e; rw [elA_zero]
    · have ih := sol_elA (M := M) hp β k (by omega) (by omega)
      have : elA M p (k + 1) = elM (elA M p k) p k := by
        rw [elA_succ M (by omega)]
        unfold elM
        congr 1
        funext j
        rw [elA_ge M (Nat.le_refl k), elA_ge M (Nat.le_refl k), elA_self, elA_self]
      rw [this, sol_el hp (by omega) e, ih]
theorem stp_el {n p : Nat} {M : Mx} (hp : p < n) (h : Stp n p M) (m0 : M p p ≠ 0) : Stp n (p + 1) (elA M p n) := by
  refine ⟨fun i hi => ?_, fun i hi j hj hji => ?_⟩
  · by_cases e : i = p
    · subst e; rw [elA_self]; exact m0
    · unfold elA
      rw [if_neg (by omega)]
      exact h.dg i (by omega)
  · unfold elA
    by_cases c : p < i ∧ i < n
    · rw [if_pos c]
      by_cases e : j = p
      · subst e
        grind
      · rw [h.lo i hi j (by omega) hji, h.lo p hp j (by omega) (by omega)]
        grind
    · rw [if_neg c]
      by_cases e : j = p
      · omega
      · exact h.lo i hi j (by omega) hji
theorem stp_sw {n p a : Nat} {M : Mx} (h : Stp n p M) (ha : p ≤ a) (hn : a < n) (hp : p < n) : Stp n p (swpM M a p) := by
  have e2 : ∀ i j, i < p → swpM M a p i j = M i j := fun i j h1 => by unfold swpM; rw [upd_ne _ _ (by omega), upd_ne _ _ (by omega)]
  refine ⟨fun i hi => by rw [e2 i i hi]; exact h.dg i hi, fun i hi j hj hji => ?_⟩
  unfold swpM upd
  by_cases ip : i = p
  · simp only [ip, if_true]; exact h.lo a hn j hj (by omega)
  · by_cases ia : i = a
    · subst ia
      simp only [ip, if_true, if_false]; exact h.lo p hp j hj (by omega)
    · simp only [ip, ia, if_false]; exact h.lo i hi j hj hji
end Dl

/-! The data layer, part Zc: rows without end, as a ring. -/
namespace Dl
open PySem L2 PyProof.Rows
structure Ser where
  co : Nat → Rat
@[ext] theorem Ser.ext' {a b : Ser} (h : ∀ n, a.co n = b.co n) : a = b := by
  obtain ⟨a⟩ := a; obtain ⟨b⟩ := b
  congr 1
  funext n; exact h n
theorem smQ_rev (f : Nat → Rat) : ∀ n, smQ f (n + 1) = smQ (fun i => f (n - i)) (n + 1)
  | 0 => rfl
  | n + 1 => by
    have e : smQ (fun i => f (n + 1 - i)) (n + 1 + 1) = f (n + 1) + smQ (fun i => f (n - i)) (n + 1) := by
      have gen : ∀ (g : Nat → Rat) m, smQ g (m + 1) = g 0 + smQ (fun i => g (i + 1)) m := by
        intro g m
        induction m with
        | zero => simp only [smQ]; grind
        | succ m ih => rw [smQ, ih]; conv => rhs; rw [smQ]
                       grind
      rw [gen]
      congr 1
      refine smQ_congr _ fun j _ => ?_
      congr 1
      omega
    rw [e, smQ, smQ_rev f n]; grind
theorem smQ_add (f g : Nat → Rat) : ∀ n, smQ (fun i => f i + g i) n = smQ f n + smQ g n
  | 0 => by simp only [smQ]; grind
  | n + 1 => by simp only [smQ]; rw [smQ_add f g n]; grind
theorem smQ_mul (f : Nat → Rat) (c : Rat) : ∀ n, smQ (fun i => f i * c) n = smQ f n * c
  | 0 => by simp only [smQ]; grind
  | n + 1 => by simp only [smQ]; rw [smQ_mul f c n]; grind
theorem smQ_lmul (f : Nat → Rat) (c : Rat) : ∀ n, smQ (fun i => c * f i) n = c * smQ f n
  | 0 => by simp only [smQ]; grind
  | n + 1 => by simp only [smQ]; rw [smQ_lmul f c n]; grind
/-- a three-cornered sum, the other way about -/
theorem smQ_tri (F : Nat → Nat → Rat) : ∀ n, smQ (fun i => smQ (fun j => F j (i - j)) (i + 1)) (n + 1) = smQ (fun j => smQ (fun l => F j l) (n - j + 1)) (n + 1)
  | 0 => rfl
  | n + 1 => by
    rw [smQ, smQ_tri F n]
    have e : smQ (fun j => smQ (fun l => F j l) (n + 1 - j + 1)) (n + 1) = smQ (fun j => smQ (fun l => F j l) (n - j + 1) + F j (n + 1 - j)) (n + 1) := by
      refine smQ_congr _ fun j hj => ?_
      rw [show n + 1 - j + 1 = (n - j + 1) + 1 by omega, smQ, show n - j + 1 = n + 1 - j by omega]
    conv => rhs; rw [smQ, e, smQ_add]
    rw [smQ]
    have e2 : n + 1 - (n + 1) + 1 = 1 := by omega
    rw [e2]
    simp only [smQ]
    rw [show n + 1 - (n + 1) = 0 by omega]
    grind
def serMul (a b : Ser) : Ser := ⟨fun n => smQ (fun i => a.co i * b.co (n - i)) (n + 1)⟩
def serC (r : Rat) : Ser := ⟨fun n => if n = 0 then r else 0⟩
def serPow (a : Ser) : Nat → Ser
  | 0 => serC 1
  | n + 1 => serMul (serPow a n) a
theorem ser_mul_comm (a b : Ser) : serMul a b = serMul b a := by
  refine Ser.ext' fun n => ?_
  show smQ _ _ = smQ _ _
  rw [smQ_rev]
  refine smQ_congr _ fun i hi => ?_
  rw [show n - (n - i) = i by omega]
  grind
theorem ser_C_mul (r : Rat) (a : Ser) (n : Nat) : (serMul (serC r) a).co n = r * a.co n := by
  show smQ (fun i => (if i = 0 then r else 0) * a.co (n - i)) (n + 1) = _
  rw [smQ_one (i := 0) (n + 1) (by omega) fun j hj h => by rw [if_neg h]; grind]
  rw [if_pos rfl]; rfl
theorem ser_mul_assoc (a b c : Ser) : serMul (serMul a b) c = serMul a (serMul b c) := by
  refine Ser.ext' fun n => ?_
  show smQ (fun i => smQ (fun j => a.co j * b.co (i - j)) (i + 1) * c.co (n - i)) (n + 1) = smQ (fun j => a.co j * smQ (fun l => b.co l * c.co (n - j - l)) (n - j + 1)) (n + 1)
  have h := smQ_tri (fun j l => a.co j * b.co l * c.co (n - (j + l))) n
  have e1 : smQ (fun i => smQ (fun j => a.co j * b.co (i - j)) (i + 1) * c.co (n - i)) (n + 1) = smQ (fun i => smQ (fun j => a.co j * b.co (i - j) * c.co (n - (j + (i - j)))) (i + 1)) (n + 1) := by
    refine smQ_congr _ fun i hi => ?_
    rw [← smQ_mul]
    refine smQ_congr _ fun j hj => ?_
    rw [show j + (i - j) = i by omega]
  have e2 : smQ (fun j => a.co j * smQ (fun l => b.co l * c.co (n - j - l)) (n - j + 1)) (n + 1) = smQ (fun j => smQ (fun l => a.co j * b.co l * c.co (n - (j + l))) (n - j + 1)) (n + 1) := by
    refine smQ_congr _ fun j hj => ?_
    rw [← smQ_lmul]
    refine smQ_congr _ fun l hl => ?_
    rw [show n - j - l = n - (j + l) by omega]
    grind
  rw [e1, e2]
  exact h
theorem ser_distrib (a b c : Ser) : serMul a ⟨fun n => b.co n + c.co n⟩ = ⟨fun n => (serMul a b).co n + (serMul a c).co n⟩ := by
  refine Ser.ext' fun n => ?_
  show smQ _ _ = smQ _ _ + smQ _ _
  rw [← smQ_add]
  refine smQ_congr _ fun i _ => ?_
  grind
instance : Lean.Grind.CommRing Ser where
  add a b := ⟨fun n => a.co n + b.co n⟩
  mul := serMul
  natCast := ⟨fun k => serC k⟩
  ofNat k := ⟨serC k⟩
  nsmul := ⟨fun k a => serMul (serC k) a⟩
  npow := ⟨serPow⟩
  neg a := ⟨fun n => - a.co n⟩
  sub a b := ⟨fun n => a.co n - b.co n⟩
  intCast := ⟨fun k => serC k⟩
  zsmul := ⟨fun k a => serMul (serC k) a⟩
  add_zero a := Ser.ext' fun n => by show a.co n + (if n = 0 then ((0 : Nat) : Rat) else 0) = a.co n; split <;> grind
  add_comm a b := Ser.ext' fun n => by show a.co n + b.co n = b.co n + a.co n; grind
  add_assoc a b c := Ser.ext' fun n => by show a.co n + b.co n + c.co n = a.co n + (b.co n + c.co n); grind
  mul_assoc := ser_mul_assoc
  mul_comm := ser_mul_comm
  mul_one a := Ser.ext' fun n => by
    show (serMul a (serC ((1 : Nat) : Rat))).co n = a.co n
    rw [ser_mul_comm, ser_C_mul]; grind
  one_mul a := Ser.ext' fun n => by
    show (serMul (serC ((1 : Nat) : Rat)) a).co n = a.co n
    rw [ser_C_mul]; grind
  left_distrib a b c := ser_distrib a b c
  right_distrib a b c := by
    show serMul ⟨fun n => a.co n + b.co n⟩ c = ⟨fun n => (serMul a c).co n + (serMul b c).co n⟩
    rw [ser_mul_comm, ser_distrib, ser_mul_comm c a, ser_mul_comm c b]
  zero_mul a := Ser.ext' fun n => by
    show (serMul (serC ((0 : Nat) : Rat)) a).co n = (serC ((0 : Nat) : Rat)).co n
    rw [ser_C_mul]
    show _ = if n = 0 then ((0 : Nat) : Rat) else 0
    split <;> grind
  mul_zero a := Ser.ext' fun n => by
    show (serMul a (serC ((0 : Nat) : Rat))).co n = (serC ((0 : Nat) : Rat)).co n
    rw [ser_mul_comm, ser_C_mul]
    show _ = if n = 0 then ((0 : Nat) : Rat) else 0
    split <;> grind
  pow_zero a := rfl
  pow_succ a n := rfl
  ofNat_succ k := Ser.ext' fun n => by
    show (if n = 0 then ((k + 1 : Nat) : Rat) else 0) = (if n = 0 then ((k : Nat) : Rat) else 0) + (if n = 0 then ((1 : Nat) : Rat) else 0)
    split
    · rw [Rat.natCast_add]
    · grind
  ofNat_eq_natCast k := rfl
  nsmul_eq_natCast_mul k a := rfl
  neg_add_cancel a := Ser.ext' fun n => by
    show - a.co n + a.co n = if n = 0 then ((0 : Nat) : Rat) else 0
    split <;> grind
  sub_eq_add_neg a b := Ser.ext' fun n => by show a.co n - b.co n = a.co n + - b.co n; grind
  neg_zsmul k a := Ser.ext' fun n => by
    show (serMul (serC ((-k : Int) : Rat)) a).co n = - (serMul (serC (k : Rat)) a).co n
    rw [ser_C_mul, ser_C_mul, Rat.intCast_neg]; grind
  zsmul_natCast_eq_nsmul k a := rfl
  intCast_ofNat k := rfl
  intCast_neg k := Ser.ext' fun n => by
    show (if n = 0 then ((-k : Int) : Rat) else 0) = - (if n = 0 then (k : Rat) else 0)
    split
    · rw [Rat.intCast_neg]
    · grind
end Dl

/-! The data layer, part Zd: tables of a row of roots, and times of the first spot. -/
namespace Dl
open PySem L2 PyProof.Rows
theorem co_add (a b : Ser) (n : Nat) : (a + b).co n = a.co n + b.co n := rfl
theorem co_sub (a b : Ser) (n : Nat) : (a - b).co n = a.co n - b.co n := rfl
theorem co_neg (a : Ser) (n : Nat) : (-a).co n = - a.co n := rfl
theorem co_mul (a b : Ser) (n : Nat) : (a * b).co n = smQ (fun i => a.co i * b.co (n - i)) (n + 1) := rfl
theorem co_C (r : Rat) (a : Ser) (n : Nat) : (serC r * a).co n = r * a.co n := ser_C_mul r a n
theorem co_0 (n : Nat) : (0 : Ser).co n = 0 := by show (if n = 0 then ((0 : Nat) : Rat) else 0) = 0; split <;> rfl
theorem co_1 (n : Nat) : (1 : Ser).co n = if n = 0 then 1 else 0 := rfl
theorem C_add (a b : Rat) : serC (a + b) = serC a + serC b := Ser.ext' fun n => by show (if n = 0 then _ else _) = (if n = 0 then _ else _) + (if n = 0 then _ else _); split <;> grind
theorem C_sub (a b : Rat) : serC (a - b) = serC a - serC b := Ser.ext' fun n => by show (if n = 0 then _ else _) = (if n = 0 then _ else _) - (if n = 0 then _ else _); split <;> grind
theorem C_neg (a : Rat) : serC (-a) = -serC a := Ser.ext' fun n => by show (if n = 0 then _ else _) = -(if n = 0 then _ else _); split <;> grind
theorem C_mul (a b : Rat) : serC (a * b) = serC a * serC b := Ser.ext' fun n => by
  rw [co_C]
  show (if n = 0 then _ else _) = a * (if n = 0 then _ else _)
  split <;> grind
theorem C_one : serC 1 = 1 := rfl
theorem C_zero : serC 0 = 0 := rfl
theorem C_two : serC 2 = 2 := rfl
/-- the first parts are 0 -/
def orS (a : Ser) (k : Nat) : Prop := ∀ i < k, a.co i = 0
/-- the parts from there on are 0 -/
def dgS (a : Ser) (d : Nat) : Prop := ∀ i, d < i → a.co i = 0
theorem orS.up {a : Ser} {k l : Nat} (h : orS a k) (e : l ≤ k) : orS a l := fun i hi => h i (by omega)
theorem orS.add {a b : Ser} {k : Nat} (h : orS a k) (g : orS b k) : orS (a + b) k := fun i hi => by rw [co_add, h i hi, g i hi]; grind
theorem orS.sub {a b : Ser} {k : Nat} (h : orS a k) (g : orS b k) : orS (a - b) k := fun i hi => by rw [co_sub, h i hi, g i hi]; grind
theorem orS.mul {a b : Ser} {k l : Nat} (h : orS a k) (g : orS b l) : orS (a * b) (k + l) := fun n hn => by
  rw [co_mul]
  refine smQ_zero _ fun i hi => ?_
  by_cases e : i < k
  · rw [h i e]; grind
  · rw [g (n - i) (by omega)]; grind
theorem orS_low {a b : Ser} {k l : Nat} (h : orS a k) (g : orS b l) : (a * b).co (k + l) = a.co k * b.co l := by
  rw [co_mul, smQ_one (i := k) _ (by omega) fun i hi hn => ?_, show k + l - k = l by omega]
  by_cases e : i < k
  · rw [h i e]; grind
  · rw [g (k + l - i) (by omega)]; grind
theorem orS_unit {a b : Ser} (h : a.co 0 ≠ 0) : ∀ n, orS (a * b) n → orS b n
  | 0, _ => fun i hi => absurd hi (by omega)
  | n + 1, hn => by
    have ih := orS_unit h n (hn.up (by omega))
    intro i hi
    by_cases e : i = n
    · subst e
      have := hn i (by omega)
      have z := orS_low (a := a) (k := 0) (fun _ h => absurd h (by omega)) ih
      rw [Nat.zero_add] at z
      rw [z] at this
      exact (Rat.mul_eq_zero.mp this).resolve_left h
    · exact ih i (by omega)
theorem dg_mul {a b : Ser} {d e : Nat} (h : dgS a d) (g : dgS b e) : dgS (a * b) (d + e) := fun n hn => by
  rw [co_mul]
  refine smQ_zero _ fun i hi => ?_
  by_cases c : d < i
  · rw [h i c]; grind
  · rw [g (n - i) (by omega)]; grind
theorem dg_top {a b : Ser} {d e : Nat} (h : dgS a d) (g : dgS b e) : (a * b).co (d + e) = a.co d * b.co e := by
  rw [co_mul, smQ_one (i := d) _ (by omega) fun i hi hn => ?_, show d + e - d = e by omega]
  by_cases c : d < i
  · rw [h i c]; grind
  · rw [g (d + e - i) (by omega)]; grind
theorem dg_exists {a : Ser} : ∀ d, dgS a d → (∃ i, a.co i ≠ 0) → ∃ e, e ≤ d ∧ a.co e ≠ 0 ∧ dgS a e
  | 0, h, ⟨i, hi⟩ => by
    have : i = 0 := by
      apply Classical.byContradiction
      intro e
      exact hi (h i (by omega))
    subst this
    exact ⟨0, Nat.le_refl _, hi, h⟩
  | d + 1, h, k => by
    by_cases e : a.co (d + 1) = 0
    · obtain ⟨e', h1, h2, h3⟩ := dg_exists d (fun i hi => by
        by_cases c : i = d + 1
        · rw [c, e]
        · exact h i (by omega)) k
      exact ⟨e', by omega, h2, h3⟩
    · exact ⟨d + 1, Nat.le_refl _, e, h⟩
def mono (k : Nat) : Ser := ⟨fun n => if n = k then 1 else 0⟩
abbrev Xs : Ser := mono 1
theorem co_mono (k : Nat) (a : Ser) (n : Nat) : (mono k * a).co n = if k ≤ n then a.co (n - k) else 0 := by
  rw [co_mul]
  by_cases h : k ≤ n
  · rw [if_pos h, smQ_one (i := k) _ (by omega) fun i hi hn => by
      show (if i = k then (1 : Rat) else 0) * _ = 0
      rw [if_neg hn]; grind]
    show (if k = k then (1 : Rat) else 0) * _ = _
    rw [if_pos rfl]; grind
  · rw [if_neg h]
    refine smQ_zero _ fun i hi => ?_
    show (if i = k then (1 : Rat) else 0) * _ = 0
    rw [if_neg (by omega)]; grind
theorem mono_mul (k l : Nat) : mono k * mono l = mono (k + l) := Ser.ext' fun n => by
  rw [co_mono]
  show (if k ≤ n then (if n - k = l then (1 : Rat) else 0) else 0) = if n = k + l then 1 else 0
  by_cases h : k ≤ n
  · rw [if_pos h]
    by_cases e : n = k + l
    · rw [if_pos e, if_pos (by omega)]
    · rw [if_neg e, if_neg (by omega)]
  · rw [if_neg h, if_neg (by omega)]
theorem mono_zero : mono 0 = 1 := Ser.ext' fun n => rfl
def shf (a : Ser) (k : Nat) : Ser := ⟨fun n => a.co (n + k)⟩
theorem shf_is {a : Ser} {k : Nat} (h : orS a k) : a = mono k * shf a k := Ser.ext' fun n => by
  rw [co_mono]
  by_cases e : k ≤ n
  · rw [if_pos e]
    show a.co n = a.co (n - k + k)
    rw [show n - k + k = n by omega]
  · rw [if_neg e]; exact h n (by omega)
theorem mono_or (k : Nat) (a : Ser) : orS (mono k * a) k := fun i hi => by rw [co_mono, if_neg (by omega)]
theorem mono_cancel {k : Nat} {a b : Ser} (h : mono k * a = mono k * b) : a = b := Ser.ext' fun n => by
  have := congrArg (fun s => s.co (n + k)) h
  simp only [co_mono] at this
  rw [if_pos (by omega), if_pos (by omega), show n + k - k = n by omega] at this
  exact this
theorem unit_cancel {a b c : Ser} (h : a.co 0 ≠ 0) (e : a * b = a * c) : b = c := by
  have z : a * (b - c) = 0 := by grind
  have o : ∀ n, orS (a * (b - c)) n := fun n i _ => by rw [z]; exact co_0 i
  refine Ser.ext' fun n => ?_
  have := orS_unit h (n + 1) (o (n + 1)) n (by omega)
  rw [co_sub] at this
  grind
/-! the cubic and its root -/
def cuS (c : Cub) : Ser := ⟨cofR c.1 c.2.1 c.2.2⟩
def rtS (c : Cub) : Ser := ⟨rr (cofR c.1 c.2.1 c.2.2)⟩
theorem cv_sm (s : Nat → Rat) (n : Nat) : ∀ m, cv s n 0 m = smQ (fun i => s i * s (n - i)) m
  | 0 => rfl
  | m + 1 => by rw [cv, smQ, cv_sm s n m, Nat.zero_add]
theorem s_sq (c : Cub) : rtS c * rtS c = cuS c := Ser.ext' fun n => by
  rw [co_mul]
  show smQ (fun i => rr _ i * rr _ (n - i)) (n + 1) = _
  rw [← cv_sm, row_law _ rfl]; rfl
theorem s_0 (c : Cub) : (rtS c).co 0 = 1 := rfl
theorem s_1 (c : Cub) : (rtS c).co 1 = c.1 * (1 / 2) := by
  show rr _ 1 = _
  rw [rr_succ]
  show (c.1 - 0) * (1 / 2) = _
  grind
theorem f_is (c : Cub) : cuS c = 1 + serC c.1 * Xs + serC c.2.1 * (Xs * Xs) + serC c.2.2 * (Xs * (Xs * Xs)) := Ser.ext' fun n => by
  rw [mono_mul, mono_mul, co_add, co_add, co_add, co_C, co_C, co_C, co_1]
  show cofR c.1 c.2.1 c.2.2 n = (if n = 0 then 1 else 0) + c.1 * (if n = 1 then 1 else 0) + c.2.1 * (if n = 1 + 1 then 1 else 0) + c.2.2 * (if n = 1 + (1 + 1) then 1 else 0)
  rcases n with _ | _ | _ | _ | n
  · simp [cofR]; try grind
  · simp [cofR]; try grind
  · simp [cofR]; try grind
  · simp [cofR]; try grind
  · simp only [cofR]
    rw [if_neg (by omega), if_neg (by omega), if_neg (by omega), if_neg (by omega)]
    grind
theorem f_dg (c : Cub) : dgS (cuS c) 3 := fun i hi => by
  show cofR _ _ _ i = 0
  rcases i with _ | _ | _ | _ | i
  · omega
  · omega
  · omega
  · omega
  · rfl
theorem al1 (X t y a U B : Ser) (r1 : y = a * t + 1) : (X - t) * (U + a * B) = (X - t) * U - y * B + B * (1 + a * X) := by rw [r1]; grind
theorem al2 (X t y a κ V B : Ser) (r2 : -y = a * t + 1) : (X - t) * (a * V + κ * (X * B)) - y * V = (1 + a * X) * V + κ * (X * ((X - t) * B)) := by
  have : y = -(a * t + 1) := by grind
  rw [this]; grind
theorem al3 (X t t' a κ V B s f : Ser) (l3 : f = (1 + a * X) * (1 + a * X) + κ * (X * ((X - t) * (X - t')))) : (X - t) * ((1 + a * X) * V + κ * (X * ((X - t') * B)) - V * s) = (1 + a * X) * ((X - t) * V) + (f - (1 + a * X) * (1 + a * X)) * B - ((X - t) * V) * s := by rw [l3]; grind
theorem al4 (X a A B s : Ser) : (1 + a * X) * (A + B * (1 + a * X)) + (s * s - (1 + a * X) * (1 + a * X)) * B - (A + B * (1 + a * X)) * s = -((s - (1 + a * X)) * (A - B * s)) := by grind
theorem al5 (X t t' a κ V B f : Ser) (l3 : f = (1 + a * X) * (1 + a * X) + κ * (X * ((X - t) * (X - t')))) : (X - t) * (2 * ((1 + a * X) * (V * B)) + κ * (X * ((X - t') * (B * B))) - (X - t) * (V * V)) = -(((X - t) * V - B * (1 + a * X)) * ((X - t) * V - B * (1 + a * X)) - f * (B * B)) := by rw [l3]; grind
theorem al6 (X t t' a κ V B f : Ser) (l3 : f = (1 + a * X) * (1 + a * X) + κ * (X * ((X - t) * (X - t')))) : ((1 + a * X) * V + κ * (X * ((X - t') * B))) * ((1 + a * X) * V + κ * (X * ((X - t') * B))) - f * (V * V) = κ * (X * ((X - t') * (2 * ((1 + a * X) * (V * B)) + κ * (X * ((X - t') * (B * B))) - (X - t) * (V * V)))) := by rw [l3]; grind
theorem al9 (x y : Ser) : x = x + y - y := by grind
theorem al10 (x y z : Ser) : (x - y) * z = x * z - y * z := by grind
theorem al11 (x : Ser) : 1 * x = x := by grind
theorem al7 (e m p : Ser) : -(e * (m * p)) = p * (-(e * m)) := by grind
theorem al8 (κ e m X p : Ser) : κ * (X * (p * (-(e * m)))) = -(κ * e) * (m * X * p) := by grind
/-! the functions along the times -/
structure Hk (c : Cub) (k : Nat) (P : Sp) (A B U : Ser) : Prop where
  eA : A = (Xs - serC P.1) * U - serC P.2 * B
  dB : ∀ i, k < 2 * i + 2 → B.co i = 0
  dU : ∀ i, k < 2 * i + 1 → U.co i = 0
  oA : orS (A - B * rtS c) k
  nm : ∃ e : Rat, e ≠ 0 ∧ A * A - cuS c * (B * B) = serC e * (mono k * (Xs - serC P.1))
  b0 : B.co 0 ≠ 0
/-- the line through a spot and the first one -/
theorem line_f {c : Cub} (G : GdC c) {P : Sp} (oP : OnC c P) (hn : P ≠ ngP F1) : P.2 = slp c P F1 * P.1 + 1 ∧ 0 - (sm2 c P F1).2 = slp c P F1 * (sm2 c P F1).1 + 1 ∧ cuS c = (1 + serC (slp c P F1) * Xs) * (1 + serC (slp c P F1) * Xs) + serC c.2.2 * (Xs * ((Xs - serC P.1) * (Xs - serC (sm2 c P F1).1))) := by
  obtain ⟨h1, h2, h3, h4, h5, h6⟩ := sum_colW G oP (F_on c) hn
  generalize slp c P F1 = a at *
  generalize sm2 c P F1 = S at *
  simp only [ngP] at h3 h4 h5 h6
  have hb : P.2 - a * P.1 = 1 := by
    have e : (1 : Rat) = a * 0 + (P.2 - a * P.1) := h2
    grind
  rw [hb] at h1 h3 h5
  refine ⟨h1, h3, ?_⟩
  have g4 : c.2.1 = a * a - c.2.2 * (P.1 + 0 + S.1) := by
    have : c.2.1 - a * a = -(c.2.2 * (P.1 + 0 + S.1)) := h4
    grind
  have g5 : c.1 = 2 * a * 1 + c.2.2 * (P.1 * 0 + P.1 * S.1 + 0 * S.1) := by
    have : c.1 - 2 * a * 1 = c.2.2 * (P.1 * 0 + P.1 * S.1 + 0 * S.1) := h5
    grind
  rw [f_is, g4, g5]
  simp only [C_add, C_sub, C_mul, C_one, C_zero, C_two]
  grind
theorem hk_step {c : Cub} (G : GdC c) {k : Nat} {P : Sp} {A B U : Ser} (oP : OnC c P) (t0 : P.1 ≠ 0) (h : Hk c k P A B U) : ∃ A' B' U', Hk c (k + 1) (sm2 c P F1) A' B' U' := by
  have hn : P ≠ ngP F1 := fun e => t0 (by rw [e]; rfl)
  obtain ⟨l1, l2, l3⟩ := line_f G oP hn
  have k0 := G.k0
  have ss := s_sq c
  obtain ⟨e, e0, nm⟩ := h.nm
  have eA := h.eA
  have r1 : serC P.2 = serC (slp c P F1) * serC P.1 + 1 := by rw [l1, C_add, C_mul, C_one]
  have r2 : -serC (sm2 c P F1).2 = serC (slp c P F1) * serC (sm2 c P F1).1 + 1 := by
    rw [← C_mul, ← C_one, ← C_add, ← l2, C_sub, C_zero]; grind
  have at0 : slp c P F1 * P.1 = P.2 - 1 := by grind
  generalize slp c P F1 = a at *
  generalize sm2 c P F1 = S at *
  have o0 := h.oA
  have p0 : (Xs - serC P.1).co 0 ≠ 0 := by
    rw [co_sub]
    show (if (0 : Nat) = 1 then (1 : Rat) else 0) - (if (0 : Nat) = 0 then P.1 else 0) ≠ 0
    rw [if_neg (by decide), if_pos rfl]; grind
  -- what is asked of ring elements
  have pV : (Xs - serC P.1) * (U + serC a * B) = A + B * (1 + serC a * Xs) := by rw [eA]; exact al1 _ _ _ _ _ _ r1
  have A'is : (Xs - serC S.1) * (serC a * (U + serC a * B) + serC c.2.2 * (Xs * B)) - serC S.2 * (U + serC a * B) = (1 + serC a * Xs) * (U + serC a * B) + serC c.2.2 * (Xs * ((Xs - serC S.1) * B)) := al2 _ _ _ _ _ _ _ r2
  refine ⟨(Xs - serC S.1) * (serC a * (U + serC a * B) + serC c.2.2 * (Xs * B)) - serC S.2 * (U + serC a * B), U + serC a * B, serC a * (U + serC a * B) + serC c.2.2 * (Xs * B), rfl, ?_, ?_, ?_, ?_, ?_⟩
  · intro i hi
    rw [co_add, co_C, h.dU i (by omega), h.dB i (by omega)]; grind
  · intro i hi
    rw [co_add, co_C, co_C, co_add, co_C, co_mono, h.dU i (by omega), h.dB i (by omega)]
    by_cases z : 1 ≤ i
    · rw [if_pos z, h.dB (i - 1) (by omega)]; grind
    · rw [if_neg z]; grind
  · rw [A'is]
    generalize U + serC a * B = V at *
    have key : (Xs - serC P.1) * ((1 + serC a * Xs) * V + serC c.2.2 * (Xs * ((Xs - serC S.1) * B)) - V * rtS c) = -((rtS c - (1 + serC a * Xs)) * (A - B * rtS c)) := by
      rw [al3 _ _ _ _ _ _ _ _ _ l3, pV, ← ss]; exact al4 _ _ _ _ _
    refine orS_unit p0 (k + 1) ?_
    rw [key]
    have o1 : orS (rtS c - (1 + serC a * Xs)) 1 := fun i hi => by
      have : i = 0 := by omega
      subst this
      rw [co_sub, co_add, co_C, s_0, co_1]
      show 1 - ((if (0 : Nat) = 0 then (1 : Rat) else 0) + a * (if (0 : Nat) = 1 then (1 : Rat) else 0)) = 0
      rw [if_pos rfl, if_neg (by decide)]; grind
    have o2 := o1.mul o0
    intro i hi
    rw [co_neg, o2 i (by omega)]; grind
  · rw [A'is]
    generalize U + serC a * B = V at *
    refine ⟨-(c.2.2 * e), by intro z; exact rmul_ne k0 e0 (by grind), ?_⟩
    have A2 : A = (Xs - serC P.1) * V - B * (1 + serC a * Xs) := by rw [pV]; exact al9 _ _
    have br : (Xs - serC P.1) * (2 * ((1 + serC a * Xs) * (V * B)) + serC c.2.2 * (Xs * ((Xs - serC S.1) * (B * B))) - (Xs - serC P.1) * (V * V)) = (Xs - serC P.1) * (-(serC e * mono k)) := by
      rw [al5 _ _ _ _ _ _ _ _ l3, ← A2, nm]; exact al7 _ _ _
    have br2 := unit_cancel p0 br
    rw [al6 _ _ _ _ _ _ _ _ l3, br2, C_neg, C_mul, ← mono_mul k 1]
    exact al8 _ _ _ _ _
  · rw [co_add, co_C]
    have z := o0
    have hA0 : A.co 0 = -(P.1 * U.co 0) - P.2 * B.co 0 := by
      rw [eA, co_sub, co_C]
      have : ((Xs - serC P.1) * U).co 0 = -(P.1 * U.co 0) := by
        rw [al10, co_sub, co_C, co_mono, if_neg (by decide)]; grind
      rw [this]
    intro hz
    have b0 := h.b0
    by_cases k1 : k = 0
    · subst k1
      exact b0 (h.dB 0 (by omega))
    · have z0 := o0 0 (by omega)
      rw [co_sub, hA0] at z0
      have : (B * rtS c).co 0 = B.co 0 := by
        rw [co_mul]
        show 0 + B.co 0 * (rtS c).co 0 = _
        rw [s_0]; grind
      rw [this] at z0
      have : P.1 * (U.co 0 + a * B.co 0) = -2 * B.co 0 := by grind
      rw [hz] at this
      apply b0
      grind
theorem hk_two {c : Cub} (G : GdC c) : ∃ A B U, Hk c 2 (sm2 c F1 F1) A B U := by
  obtain ⟨l1, l2, l3⟩ := line_f G (F_on c) F_ng
  have hs : slp c F1 F1 = c.1 / 2 := by
    unfold slp
    rw [if_pos rfl]
    show (c.1 + 0 * _) / (2 * 1) = c.1 / 2
    rw [Rat.zero_mul, Rat.add_zero, Rat.mul_one]
  have k0 := G.k0
  have r2 : -serC (sm2 c F1 F1).2 = serC (slp c F1 F1) * serC (sm2 c F1 F1).1 + 1 := by
    rw [← C_mul, ← C_one, ← C_add, ← l2, C_sub, C_zero]; grind
  generalize slp c F1 F1 = a at *
  generalize sm2 c F1 F1 = S at *
  have Ais : (Xs - serC S.1) * serC a - serC S.2 * 1 = 1 + serC a * Xs := by grind
  refine ⟨(Xs - serC S.1) * serC a - serC S.2 * 1, 1, serC a, rfl, ?_, ?_, ?_, ?_, ?_⟩
  · intro i hi; rw [co_1, if_neg (by omega)]
  · intro i hi; show (if i = 0 then a else 0) = 0; rw [if_neg (by omega)]
  · rw [Ais]
    intro i hi
    rw [al11, co_sub, co_add, co_C, co_1]
    show (if i = 0 then (1 : Rat) else 0) + a * (if i = 1 then (1 : Rat) else 0) - (rtS c).co i = 0
    rcases i with _ | _ | i
    · rw [s_0, if_pos rfl, if_neg (by decide)]; grind
    · rw [s_1, if_neg (by decide), if_pos rfl, hs]; grind
    · omega
  · rw [Ais]
    refine ⟨-c.2.2, by intro z; exact k0 (by grind), ?_⟩
    have f1 : serC F1.1 = 0 := rfl
    rw [f1] at l3
    rw [l3, C_neg, show mono 2 = Xs * Xs from (mono_mul 1 1).symm]
    grind
  · rw [co_1, if_pos rfl]; decide +kernel
/-! what has its zeros at the first spot alone -/
def hdS (a p : Nat) (A : Ser) : Prop := ∀ i, a < 2 * i + p → A.co i = 0
theorem hd_mul {a b p q : Nat} {A B : Ser} (h : hdS a p A) (g : hdS b q B) : hdS (a + b) (p + q) (A * B) := fun n hn => by
  rw [co_mul]
  refine smQ_zero _ fun i hi => ?_
  by_cases c : a < 2 * i + p
  · rw [h i c]; grind
  · rw [g (n - i) (by omega)]; grind
theorem hd_add {a p : Nat} {A B : Ser} (h : hdS a p A) (g : hdS a p B) : hdS a p (A + B) := fun i hi => by rw [co_add, h i hi, g i hi]; grind
theorem hd_sub {a p : Nat} {A B : Ser} (h : hdS a p A) (g : hdS a p B) : hdS a p (A - B) := fun i hi => by rw [co_sub, h i hi, g i hi]; grind
theorem hd_up {a p b q : Nat} {A : Ser} (h : hdS a p A) (l : ∀ i, b < 2 * i + q → a < 2 * i + p) : hdS b q A := fun i hi => h i (l i hi)
theorem f_hd (c : Cub) : hdS 6 0 (cuS c) := fun i hi => f_dg c i (by omega)
structure El (c : Cub) (n : Nat) (A B : Ser) : Prop where
  dA : hdS n 0 A
  dB : hdS n 3 B
  oo : orS (A - B * rtS c) n
theorem nm_split (A B s : Ser) : A * A - s * s * (B * B) = (A - B * s) * (A + B * s) := by grind
theorem or_zero (a : Ser) : orS a 0 := fun i h => absurd h (by omega)
theorem only_n {a : Ser} {n : Nat} (h : orS a n) (g : ∀ i, n < i → a.co i = 0) : a = serC (a.co n) * mono n := Ser.ext' fun i => by
  rw [co_C]
  show a.co i = a.co n * (if i = n then 1 else 0)
  by_cases e : i = n
  · subst e; rw [if_pos rfl]; grind
  · rw [if_neg e]
    by_cases l : i < n
    · rw [h i l]; grind
    · rw [g i (by omega)]; grind
theorem el_nm {c : Cub} {n : Nat} {A B : Ser} (h : El c n A B) : ∃ e, A * A - cuS c * (B * B) = serC e * mono n := by
  refine ⟨_, only_n (n := n) ?_ ?_⟩
  · rw [← s_sq, nm_split]
    have := h.oo.mul (or_zero (A + B * rtS c))
    exact this
  · intro i hi
    rw [co_sub, hd_mul h.dA h.dA i (by omega), hd_mul (f_hd c) (hd_mul h.dB h.dB) i (by omega)]; grind
theorem hd_dg {a p : Nat} {A : Ser} (h : hdS a p A) : dgS A a := fun i hi => h i (by omega)
theorem f_3 (c : Cub) : (cuS c).co 3 = c.2.2 := rfl
theorem el_ne {c : Cub} (G : GdC c) {n : Nat} {A B : Ser} (h : El c n A B) (hB : ∃ i, B.co i ≠ 0) : A * A - cuS c * (B * B) ≠ 0 := by
  intro e
  have e2 : A * A = cuS c * (B * B) := by grind
  obtain ⟨l, _, l0, lt⟩ := dg_exists n (hd_dg h.dB) hB
  have b2 := dg_mul lt lt
  have t1 := dg_top (f_dg c) b2
  rw [dg_top lt lt, f_3, ← e2] at t1
  have t0 : (A * A).co (3 + (l + l)) ≠ 0 := by rw [t1]; exact rmul_ne G.k0 (rmul_ne l0 l0)
  have hA : ∃ i, A.co i ≠ 0 := by
    apply Classical.byContradiction
    intro z
    apply t0
    rw [co_mul]
    refine smQ_zero _ fun i _ => ?_
    have : A.co i = 0 := by
      apply Classical.byContradiction
      intro y
      exact z ⟨i, y⟩
    rw [this]; grind
  obtain ⟨d, _, d0, dt⟩ := dg_exists n (hd_dg h.dA) hA
  have a2 := dg_mul dt dt
  have f2 := dg_mul (f_dg c) b2
  rcases Nat.lt_trichotomy (d + d) (3 + (l + l)) with z | z | z
  · exact t0 (a2 _ z)
  · omega
  · have := f2 _ z
    rw [← e2, dg_top dt dt] at this
    exact rmul_ne d0 d0 this
section
variable {c : Cub} (G : GdC c)
include G
theorem tm_back {n : Nat} : smP c (tmP c (some F1) (n + 1)) (some (ngP F1)) = tmP c (some F1) n :=
  smP_back G (tmP_on G (show OnO c (some F1) from F_on c) n) (show OnO c (some F1) from F_on c)
theorem tm_one : tmP c (some F1) 1 = some F1 := rfl
theorem tm_two : tmP c (some F1) 2 = some (sm2 c F1 F1) := smP_some G F_ng
theorem tm_t0 {k : Nat} (hk : ∀ j, 1 ≤ j → j ≤ k → tmP c (some F1) j ≠ none) {j : Nat} (h2 : 2 ≤ j) (hj : j < k) {P : Sp} (e : tmP c (some F1) j = some P) : P.1 ≠ 0 := by
  intro z
  have oP : OnC c P := by have := tmP_on G (show OnO c (some F1) from F_on c) j; rw [e] at this; exact this
  rcases on_t oP (F_on c) z with h | h
  · subst h
    obtain ⟨i, rfl⟩ : ∃ i, j = i + 1 := ⟨j - 1, by omega⟩
    have := tm_back G (n := i)
    rw [e, smP_ng G] at this
    exact hk i (by omega) (by omega) this.symm
  · subst h
    refine hk (j + 1) (by omega) (by omega) ?_
    show smP c (tmP c (some F1) j) (some F1) = none
    rw [e]; exact ngF_sum
theorem hk_all : ∀ k, 2 ≤ k → (∀ j, 1 ≤ j → j ≤ k → tmP c (some F1) j ≠ none) → ∃ P A B U, tmP c (some F1) k = some P ∧ Hk c k P A B U
  | 0, h, _ => absurd h (by omega)
  | k + 1, h2, hk => by
    by_cases e : k = 1
    · subst e
      obtain ⟨A, B, U, H⟩ := hk_two G
      exact ⟨_, A, B, U, tm_two G, H⟩
    · obtain ⟨P, A, B, U, eP, H⟩ := hk_all k (by omega) fun j a b => hk j a (by omega)
      have t0 := tm_t0 G hk (show 2 ≤ k by omega) (by omega) eP
      have oP : OnC c P := by have := tmP_on G (show OnO c (some F1) from F_on c) k; rw [eP] at this; exact this
      obtain ⟨A', B', U', H'⟩ := hk_step G oP t0 H
      have hn : P ≠ ngP F1 := fun e => t0 (by rw [e]; rfl)
      refine ⟨sm2 c P F1, A', B', U', ?_, H'⟩
      show smP c (tmP c (some F1) k) (some F1) = _
      rw [eP, smP_some G hn]
theorem hk_hd {k : Nat} {P : Sp} {A B U : Ser} (H : Hk c k P A B U) : hdS (k + 1) 0 A ∧ hdS (k + 1) 3 B := by
  refine ⟨?_, fun i hi => H.dB i (by omega)⟩
  rw [H.eA, al10]
  refine hd_sub (hd_sub ?_ ?_) ?_
  · intro i hi
    rw [co_mono]
    by_cases z : 1 ≤ i
    · rw [if_pos z]; exact H.dU (i - 1) (by omega)
    · rw [if_neg z]
  · intro i hi
    rw [co_C, H.dU i (by omega)]; grind
  · intro i hi
    rw [co_C, H.dB i (by omega)]; grind
theorem co0_mul (a b : Ser) : (a * b).co 0 = a.co 0 * b.co 0 := by
  rw [co_mul]
  show 0 + a.co 0 * b.co 0 = _
  grind
/-- the first time that all is back -/
def lst (c : Cub) (d : Nat) : Prop := 1 ≤ d ∧ tmP c (some F1) d = none ∧ ∀ j, 1 ≤ j → j < d → tmP c (some F1) j ≠ none
theorem lst_of : ∀ n, 1 ≤ n → tmP c (some F1) n = none → ∃ d, d ≤ n ∧ lst c d := by
  intro n
  induction n using Nat.strongRecOn with
  | ind n ih =>
    intro h1 e
    by_cases z : ∃ j, 1 ≤ j ∧ j < n ∧ tmP c (some F1) j = none
    · obtain ⟨j, j1, j2, j3⟩ := z
      obtain ⟨d, d1, d2⟩ := ih j j2 j1 j3
      exact ⟨d, by omega, d2⟩
    · exact ⟨n, Nat.le_refl _, h1, e, fun j a b y => z ⟨j, a, b, y⟩⟩
theorem lst_3 {d : Nat} (h : lst c d) : 3 ≤ d := by
  obtain ⟨h1, h2, _⟩ := h
  rcases d with _ | _ | _ | d
  · omega
  · rw [tm_one G] at h2; cases h2
  · rw [tm_two G] at h2; cases h2
  · omega
theorem el_base {d : Nat} (h : lst c d) : ∃ A B e, El c d A B ∧ e ≠ 0 ∧ A * A - cuS c * (B * B) = serC e * mono d := by
  have d3 := lst_3 G h
  obtain ⟨k, rfl⟩ : ∃ k, d = k + 1 := ⟨d - 1, by omega⟩
  obtain ⟨P, A, B, U, eP, H⟩ := hk_all G k (by omega) fun j a b => h.2.2 j a (by omega)
  have hP : P = ngP F1 := by
    have := h.2.1
    have e : smP c (some P) (some F1) = none := by rw [← eP]; exact this
    apply Classical.byContradiction
    intro z
    rw [smP_some G z] at e
    cases e
  obtain ⟨e, e0, nm⟩ := H.nm
  have t0 : serC P.1 = 0 := by rw [hP]; rfl
  rw [t0, show (mono k * (Xs - 0) : Ser) = mono k * Xs by grind, mono_mul] at nm
  obtain ⟨dA, dB⟩ := hk_hd G H
  refine ⟨A, B, e, ⟨dA, dB, ?_⟩, e0, nm⟩
  have u0 : (A + B * rtS c).co 0 ≠ 0 := by
    have z := H.oA 0 (by omega)
    rw [co_sub, co0_mul G, s_0] at z
    rw [co_add, co0_mul G, s_0]
    have := H.b0
    intro y
    apply this
    grind
  refine orS_unit u0 (k + 1) ?_
  have : (A + B * rtS c) * (A - B * rtS c) = serC e * mono (k + 1) := by rw [← nm, ← s_sq]; grind
  rw [this]
  intro i hi
  rw [co_C]
  show e * (if i = k + 1 then 1 else 0) = 0
  rw [if_neg (by omega)]; grind
theorem el_times {m n : Nat} {A B A' B' : Ser} (h : El c m A B) (g : El c n A' B') : El c (m + n) (A * A' + cuS c * (B * B')) (A * B' + B * A') := by
  refine ⟨hd_add (hd_mul h.dA g.dA) ?_, hd_add (hd_mul h.dA g.dB) ?_, ?_⟩
  · exact hd_up (hd_mul (f_hd c) (hd_mul h.dB g.dB)) fun i hi => by omega
  · exact hd_up (hd_mul h.dB g.dA) fun i hi => by omega
  · have := h.oo.mul g.oo
    have e : A * A' + cuS c * (B * B') - (A * B' + B * A') * rtS c = (A - B * rtS c) * (A' - B' * rtS c) := by rw [← s_sq]; grind
    rw [e]; exact this
theorem nm_times (A B A' B' f : Ser) : (A * A' + f * (B * B')) * (A * A' + f * (B * B')) - f * ((A * B' + B * A') * (A * B' + B * A')) = (A * A - f * (B * B)) * (A' * A' - f * (B' * B')) := by grind
theorem tm_less {d n : Nat} (h : tmP c (some F1) d = none) (l : d ≤ n) : tmP c (some F1) n = tmP c (some F1) (n - d) := by
  have := tmP_add G (show OnO c (some F1) from F_on c) (n - d) d
  rw [h, smP_none G, show n - d + d = n by omega] at this
  exact this.symm
theorem cay1 : ∀ n, 1 ≤ n → tmP c (some F1) n = none → ∃ A B e, El c n A B ∧ e ≠ 0 ∧ A * A - cuS c * (B * B) = serC e * mono n := by
  intro n
  induction n using Nat.strongRecOn with
  | ind n ih =>
    intro h1 e
    obtain ⟨d, dn, hd⟩ := lst_of G n h1 e
    by_cases z : d = n
    · subst z; exact el_base G hd
    · have d1 := hd.1
      rw [tm_less G hd.2.1 dn] at e
      obtain ⟨A, B, x, E1, x0, n1⟩ := ih (n - d) (by omega) (by omega) e
      obtain ⟨A', B', y, E2, y0, n2⟩ := el_base G hd
      have E := el_times G E1 E2
      rw [show n - d + d = n by omega] at E
      refine ⟨_, _, x * y, E, rmul_ne x0 y0, ?_⟩
      rw [nm_times G, n1, n2, C_mul]
      have : mono n = mono (n - d) * mono d := by rw [mono_mul, show n - d + d = n by omega]
      rw [this]; grind
theorem el_b0 {n : Nat} {A B : Ser} {e : Rat} (n1 : 1 ≤ n) (h : El c n A B) (e0 : e ≠ 0) (nm : A * A - cuS c * (B * B) = serC e * mono n) : ∃ i, B.co i ≠ 0 := by
  apply Classical.byContradiction
  intro z
  have bz : ∀ i, B.co i = 0 := fun i => by
    apply Classical.byContradiction
    intro y
    exact z ⟨i, y⟩
  have B0 : B = 0 := Ser.ext' fun i => by rw [bz i, co_0]
  subst B0
  have az : A = 0 := Ser.ext' fun i => by
    rw [co_0]
    by_cases hi : i < n
    · have := h.oo i hi
      rw [show (A - 0 * rtS c : Ser) = A by grind] at this
      exact this
    · exact h.dA i (by omega)
  subst az
  have := congrArg (fun s => s.co n) nm
  simp only [co_C] at this
  rw [show ((0 : Ser) * 0 - cuS c * (0 * 0)) = 0 by grind, co_0] at this
  have m1 : (mono n).co n = 1 := if_pos rfl
  rw [m1] at this
  exact e0 (by grind)
/-- both ways about -/
theorem con_nm (A B A' B' f : Ser) : (A * A' - f * (B * B')) * (A * A' - f * (B * B')) - f * ((B * A' - A * B') * (B * A' - A * B')) = (A * A - f * (B * B)) * (A' * A' - f * (B' * B')) := by grind
theorem con_m (A B A' B' s : Ser) : A * A' - s * s * (B * B') - (B * A' - A * B') * s = (A - B * s) * (A' + B' * s) := by grind
theorem con_p (A B A' B' s : Ser) : A * A' - s * s * (B * B') + (B * A' - A * B') * s = (A + B * s) * (A' - B' * s) := by grind
theorem both_or {C D : Ser} {k : Nat} (h1 : orS (C - D * rtS c) k) (h2 : orS (C + D * rtS c) k) : orS C k ∧ orS D k := by
  have hC : orS C k := fun i hi => by
    have a := h1 i hi
    have b := h2 i hi
    rw [co_sub] at a
    rw [co_add] at b
    grind
  refine ⟨hC, orS_unit (a := rtS c) (by rw [s_0]; decide +kernel) k fun i hi => ?_⟩
  have b := h2 i hi
  rw [co_add, hC i hi] at b
  rw [show (rtS c * D : Ser) = D * rtS c by grind]
  grind
theorem cay2 : ∀ n, (∃ A B, El c n A B ∧ ∃ i, B.co i ≠ 0) → tmP c (some F1) n = none := by
  intro n
  induction n using Nat.strongRecOn with
  | ind n ih =>
    rintro ⟨A, B, E, hB⟩
    have n3 : 3 ≤ n := by
      apply Classical.byContradiction
      intro z
      obtain ⟨i, hi⟩ := hB
      exact hi (E.dB i (by omega))
    obtain ⟨e, nm⟩ := el_nm E
    have e0 : e ≠ 0 := fun z => el_ne G E hB (by rw [nm, z, C_zero]; grind)
    by_cases hz : ∃ j, 1 ≤ j ∧ j < n ∧ tmP c (some F1) j = none
    · obtain ⟨j, j1, j2, j3⟩ := hz
      obtain ⟨d, dj, hd⟩ := lst_of G j j1 j3
      have d3 := lst_3 G hd
      have dn : d < n := by omega
      obtain ⟨A', B', e', E', e0', nm'⟩ := el_base G hd
      rw [tm_less G hd.2.1 (by omega)]
      have o1 : orS (A * A' - cuS c * (B * B') - (B * A' - A * B') * rtS c) n := by
        rw [← s_sq, con_m G]
        exact (E.oo.mul (or_zero _)).up (by omega)
      have o2 : orS (A * A' - cuS c * (B * B') + (B * A' - A * B') * rtS c) d := by
        rw [← s_sq, con_p G]
        exact ((or_zero (A + B * rtS c)).mul E'.oo).up (by omega)
      have cn := con_nm G A B A' B' (cuS c)
      have hC : hdS (n + d) 0 (A * A' - cuS c * (B * B')) := hd_sub (hd_mul E.dA E'.dA) (hd_up (hd_mul (f_hd c) (hd_mul E.dB E'.dB)) fun i hi => by omega)
      have hD : hdS (n + d) 3 (B * A' - A * B') := hd_sub (hd_up (hd_mul E.dB E'.dA) fun i hi => by omega) (hd_mul E.dA E'.dB)
      rw [nm, nm'] at cn
      generalize A * A' - cuS c * (B * B') = C at *
      generalize B * A' - A * B' = Dd at *
      obtain ⟨oC, oD⟩ := both_or G (o1.up (by omega)) o2
      have eC := shf_is oC
      have eD := shf_is oD
      refine ih (n - d) (by omega) ⟨shf C d, shf Dd d, ⟨?_, ?_, ?_⟩, ?_⟩
      · intro i hi
        exact hC (i + d) (by omega)
      · intro i hi
        exact hD (i + d) (by omega)
      · intro i hi
        have z := o1 (i + d) (by omega)
        have : C - Dd * rtS c = mono d * (shf C d - shf Dd d * rtS c) := by
          conv => lhs; rw [eC, eD]
          grind
        rw [this, co_mono, if_pos (by omega), show i + d - d = i by omega] at z
        exact z
      · apply Classical.byContradiction
        intro z
        have dz : Dd = 0 := Ser.ext' fun i => by
          rw [co_0]
          by_cases hi : i < d
          · exact oD i hi
          · apply Classical.byContradiction
            intro y
            exact z ⟨i - d, by show Dd.co (i - d + d) ≠ 0; rw [show i - d + d = i by omega]; exact y⟩
        subst dz
        have cz : C = 0 := Ser.ext' fun i => by
          rw [co_0]
          by_cases hi : i < n
          · have := o1 i hi
            rw [show (C - 0 * rtS c : Ser) = C by grind] at this
            exact this
          · exact hC i (by omega)
        subst cz
        have := congrArg (fun s => s.co (n + d)) cn
        try simp only at this
        rw [show ((0 : Ser) * 0 - cuS c * (0 * 0)) = 0 by grind, co_0, show (serC e * mono n * (serC e' * mono d) : Ser) = serC e * (serC e' * (mono n * mono d)) by grind, co_C, co_C, mono_mul] at this
        have m1 : (mono (n + d)).co (n + d) = 1 := if_pos rfl
        rw [m1] at this
        exact rmul_ne e0 e0' (by grind)
    · have ha : ∀ j, 1 ≤ j → j ≤ n - 1 → tmP c (some F1) j ≠ none := fun j a b y => hz ⟨j, a, by omega, y⟩
      obtain ⟨k, rfl⟩ : ∃ k, n = k + 1 := ⟨n - 1, by omega⟩
      rw [show k + 1 - 1 = k by omega] at ha
      obtain ⟨P, A', B', U, eP, H⟩ := hk_all G k (by omega) ha
      obtain ⟨e', e0', nm'⟩ := H.nm
      obtain ⟨dA', dB'⟩ := hk_hd G H
      have o1 : orS (A * A' - cuS c * (B * B') - (B * A' - A * B') * rtS c) (k + 1) := by
        rw [← s_sq, con_m G]
        exact (E.oo.mul (or_zero _)).up (by omega)
      have o2 : orS (A * A' - cuS c * (B * B') + (B * A' - A * B') * rtS c) k := by
        rw [← s_sq, con_p G]
        exact ((or_zero (A + B * rtS c)).mul H.oA).up (by omega)
      have cn := con_nm G A B A' B' (cuS c)
      have hC : hdS (k + 1 + (k + 1)) 0 (A * A' - cuS c * (B * B')) := hd_sub (hd_mul E.dA dA') (hd_up (hd_mul (f_hd c) (hd_mul E.dB dB')) fun i hi => by omega)
      have hD : hdS (k + 1 + (k + 1)) 3 (B * A' - A * B') := hd_sub (hd_up (hd_mul E.dB dA') fun i hi => by omega) (hd_mul E.dA dB')
      rw [nm, nm'] at cn
      generalize A * A' - cuS c * (B * B') = C at *
      generalize B * A' - A * B' = Dd at *
      obtain ⟨oC, oD⟩ := both_or G (o1.up (by omega)) o2
      have dz : Dd = 0 := Ser.ext' fun i => by
        rw [co_0]
        by_cases hi : i < k
        · exact oD i hi
        · exact hD i (by omega)
      subst dz
      have oC1 : orS C (k + 1) := fun i hi => by
        have := o1 i hi
        rw [show (C - 0 * rtS c : Ser) = C by grind] at this
        exact this
      have t0 : P.1 = 0 := by
        have z := congrArg (fun s => s.co (k + 1 + k)) cn
        try simp only at z
        have l1 : (C * C - cuS c * (0 * 0)).co (k + 1 + k) = 0 := by
          rw [show (C * C - cuS c * (0 * 0) : Ser) = C * C by grind]
          exact (oC1.mul oC1) _ (by omega)
        rw [l1, show (serC e * mono (k + 1) * (serC e' * (mono k * (Xs - serC P.1))) : Ser) = serC e * (serC e' * (mono (k + 1) * mono k * (Xs - serC P.1))) by grind, co_C, co_C, mono_mul, co_mono, if_pos (by omega), Nat.sub_self, co_sub] at z
        have m0 : (Xs).co 0 = 0 := rfl
        have m1 : (serC P.1).co 0 = P.1 := rfl
        rw [m0, m1] at z
        have h2 : e * e' * P.1 = 0 := by grind
        exact (Rat.mul_eq_zero.mp h2).resolve_left (rmul_ne e0 e0')
      have oP : OnC c P := by have := tmP_on G (show OnO c (some F1) from F_on c) k; rw [eP] at this; exact this
      rcases on_t oP (F_on c) t0 with h | h
      · exfalso
        subst h
        obtain ⟨i, rfl⟩ : ∃ i, k = i + 1 := ⟨k - 1, by omega⟩
        have := tm_back G (n := i)
        rw [eP, smP_ng G] at this
        exact ha i (by omega) (by omega) this.symm
      · subst h
        show smP c (tmP c (some F1) k) (some F1) = none
        rw [eP]; exact ngF_sum
/-- the table of so many sides is singular just where the first spot is back -/
theorem cayley {n : Nat} (n3 : 3 ≤ n) : sing ((n - 1) / 2) (fun i j => (rtS c).co (2 + (n + 1) % 2 + i + j)) ↔ tmP c (some F1) n = none := by
  constructor
  · rintro ⟨β, ⟨j0, hj0, bj⟩, hs⟩
    refine cay2 G n ⟨⟨fun l => if 2 * l ≤ n then ((⟨fun l => if l < (n - 1) / 2 then β ((n - 1) / 2 - 1 - l) else 0⟩ : Ser) * rtS c).co l else 0⟩, ⟨fun l => if l < (n - 1) / 2 then β ((n - 1) / 2 - 1 - l) else 0⟩, ⟨?_, ?_, ?_⟩, ?_⟩
    · intro i hi
      show (if 2 * i ≤ n then _ else _) = _
      rw [if_neg (by omega)]
    · intro i hi
      show (if i < (n - 1) / 2 then _ else _) = _
      rw [if_neg (by omega)]
    · intro l hl
      rw [co_sub]
      show (if 2 * l ≤ n then _ else (0 : Rat)) - _ = 0
      by_cases h : 2 * l ≤ n
      · rw [if_pos h]; grind
      · rw [if_neg h]
        have hl0 : l - (2 + (n + 1) % 2 + (n - 1) / 2 - 1) < (n - 1) / 2 := by omega
        have := hs _ hl0
        have e : ((⟨fun l => if l < (n - 1) / 2 then β ((n - 1) / 2 - 1 - l) else 0⟩ : Ser) * rtS c).co l = smQ (fun j => (rtS c).co (2 + (n + 1) % 2 + (l - (2 + (n + 1) % 2 + (n - 1) / 2 - 1)) + j) * β j) ((n - 1) / 2) := by
          rw [co_mul]
          have cut : ∀ (f : Nat → Rat) (m M : Nat), m ≤ M → (∀ i, m ≤ i → i < M → f i = 0) → smQ f M = smQ f m := by
            intro f m M hm hf
            induction M with
            | zero => have : m = 0 := by omega
                      subst this; rfl
            | succ M ihM =>
              by_cases e : m = M + 1
              · subst e; rfl
              · rw [smQ, ihM (by omega) fun i a b => hf i a (by omega), hf M (by omega) (by omega)]; grind
          rw [cut _ ((n - 1) / 2) (l + 1) (by omega) fun i h1 h2 => by
            show (if i < (n - 1) / 2 then _ else (0 : Rat)) * _ = 0
            rw [if_neg (by omega)]; grind]
          obtain ⟨m, hm⟩ : ∃ m, (n - 1) / 2 = m + 1 := ⟨(n - 1) / 2 - 1, by omega⟩
          rw [hm, smQ_rev]
          refine smQ_congr _ fun j hj => ?_
          show (if m - j < m + 1 then β (m + 1 - 1 - (m - j)) else 0) * _ = _
          rw [if_pos (by omega), show m + 1 - 1 - (m - j) = j by omega, show l - (m - j) = 2 + (n + 1) % 2 + (l - (2 + (n + 1) % 2 + (m + 1) - 1)) + j by omega]
          grind
        rw [e, this]; grind
    · refine ⟨(n - 1) / 2 - 1 - j0, ?_⟩
      show (if (n - 1) / 2 - 1 - j0 < (n - 1) / 2 then β ((n - 1) / 2 - 1 - ((n - 1) / 2 - 1 - j0)) else 0) ≠ 0
      rw [if_pos (by omega), show (n - 1) / 2 - 1 - ((n - 1) / 2 - 1 - j0) = j0 by omega]
      exact bj
  · intro h
    obtain ⟨A, B, e, E, e0, nm⟩ := cay1 G n (by omega) h
    obtain ⟨i0, hi0⟩ := el_b0 G (by omega) E e0 nm
    have i0m : i0 < (n - 1) / 2 := by
      apply Classical.byContradiction
      intro z
      exact hi0 (E.dB i0 (by omega))
    refine ⟨fun j => B.co ((n - 1) / 2 - 1 - j), ⟨(n - 1) / 2 - 1 - i0, by omega, ?_⟩, fun i hi => ?_⟩
    · show B.co _ ≠ 0
      rw [show (n - 1) / 2 - 1 - ((n - 1) / 2 - 1 - i0) = i0 by omega]; exact hi0
    · have z := E.oo (2 + (n + 1) % 2 + (n - 1) / 2 - 1 + i) (by omega)
      rw [co_sub, E.dA (2 + (n + 1) % 2 + (n - 1) / 2 - 1 + i) (by
        rcases (show n = 2 * ((n - 1) / 2) + 1 ∨ n = 2 * ((n - 1) / 2) + 2 by omega) with h | h <;> omega)] at z
      have e : (B * rtS c).co (2 + (n + 1) % 2 + (n - 1) / 2 - 1 + i) = smQ (fun j => (rtS c).co (2 + (n + 1) % 2 + i + j) * B.co ((n - 1) / 2 - 1 - j)) ((n - 1) / 2) := by
        rw [co_mul]
        have cut : ∀ (f : Nat → Rat) (m M : Nat), m ≤ M → (∀ i, m ≤ i → i < M → f i = 0) → smQ f M = smQ f m := by
          intro f m M hm hf
          induction M with
          | zero => have : m = 0 := by omega
                    subst this; rfl
          | succ M ihM =>
            by_cases e : m = M + 1
            · subst e; rfl
            · rw [smQ, ihM (by omega) fun i a b => hf i a (by omega), hf M (by omega) (by omega)]; grind
        rw [cut _ ((n - 1) / 2) _ (by omega) fun i h1 h2 => by rw [E.dB i (by omega)]; grind]
        obtain ⟨m, hm⟩ : ∃ m, (n - 1) / 2 = m + 1 := ⟨(n - 1) / 2 - 1, by omega⟩
        rw [hm, smQ_rev]
        refine smQ_congr _ fun j hj => ?_
        rw [show m + 1 - 1 - j = m - j by omega, show 2 + (n + 1) % 2 + (m + 1) - 1 + i - (m - j) = 2 + (n + 1) % 2 + i + j by omega]
        grind
      rw [← e]
      grind
end
end Dl

/-! The data layer, part Pv: determinants of tables of fractions (along the last column), by turns, by steps. -/
namespace Dl
open PySem L2 PyProof.Rows
def sgQ (k : Nat) : Rat := if k % 2 = 0 then 1 else -1
theorem sgQ_succ (k : Nat) : sgQ (k + 1) = - sgQ k := by
  unfold sgQ
  by_cases h : k % 2 = 0
  · rw [if_pos h, if_neg (by omega)]
  · rw [if_neg h, if_pos (by omega)]; grind
theorem sgQ_mod {a b : Nat} (h : a % 2 = b % 2) : sgQ a = sgQ b := by unfold sgQ; rw [h]
theorem sgQ_add (a : Nat) : ∀ b, sgQ (a + b) = sgQ a * sgQ b
  | 0 => by rw [Nat.add_zero, show sgQ 0 = 1 from rfl]; grind
  | b + 1 => by rw [← Nat.add_assoc, sgQ_succ, sgQ_succ, sgQ_add a b]; grind
theorem sgQ_sq (a : Nat) : sgQ a * sgQ a = 1 := by rw [← sgQ_add, sgQ_mod (b := 0) (by omega)]; rfl
def sk (i a : Nat) : Nat := if a < i then a else a + 1
theorem sk_lt {i a : Nat} (h : a < i) : sk i a = a := if_pos h
theorem sk_ge {i a : Nat} (h : i ≤ a) : sk i a = a + 1 := if_neg (by omega)
def mnr (i : Nat) (M : Mx) : Mx := fun a b => M (sk i a) b
def dtM : Nat → Mx → Rat
  | 0, _ => 1
  | n + 1, M => smQ (fun i => sgQ (n + i) * M i n * dtM n (mnr i M)) (n + 1)
theorem dt_congr : ∀ (n : Nat) {M N : Mx}, (∀ i < n, ∀ j < n, M i j = N i j) → dtM n M = dtM n N
  | 0, _, _, _ => rfl
  | n + 1, M, N, h => by
    unfold dtM
    refine smQ_congr _ fun i hi => ?_
    rw [h i hi n (by omega), dt_congr n (M := mnr i M) (N := mnr i N) fun a ha b hb => h _ (by unfold sk; split <;> omega) b (by omega)]
theorem mn_same (M : Mx) (k : Nat) (f : Nat → Rat) : mnr k (upd M k f) = mnr k M := by
  funext a b
  unfold mnr upd sk
  rw [if_neg (by split <;> omega)]
theorem mn_upd (M : Mx) {i k : Nat} (h : i ≠ k) (f : Nat → Rat) : mnr i (upd M k f) = upd (mnr i M) (if k < i then k else k - 1) f := by
  funext a b
  unfold mnr upd sk
  have e : ((if a < i then a else a + 1) = k) ↔ (a = if k < i then k else k - 1) := by split <;> split <;> omega
  by_cases c : (if a < i then a else a + 1) = k
  · rw [if_pos c, if_pos (e.mp c)]
  · rw [if_neg c, if_neg fun x => c (e.mpr x)]
theorem dt_lin (f g : Nat → Rat) (c : Rat) : ∀ (n : Nat) (M : Mx) (k : Nat), k < n → dtM n (upd M k fun j => f j - c * g j) = dtM n (upd M k f) - c * dtM n (upd M k g)
  | 0, _, _, h => absurd h (by omega)
  | n + 1, M, k, hk => by
    unfold dtM
    rw [← smQ_lin]
    refine smQ_congr _ fun i hi => ?_
    by_cases e : i = k
    · subst e
      rw [mn_same, mn_same, mn_same, upd_same, upd_same, upd_same]; grind
    · rw [mn_upd M e, mn_upd M e, mn_upd M e, upd_ne _ _ e, upd_ne _ _ e, upd_ne _ _ e, dt_lin f g c n (mnr i M) _ (by split <;> omega)]
      grind
theorem smQ_pair {f : Nat → Rat} {k : Nat} : ∀ n, k + 1 < n → (∀ j < n, j ≠ k → j ≠ k + 1 → f j = 0) → smQ f n = f k + f (k + 1)
  | 0, h, _ => absurd h (by omega)
  | n + 1, h, q => by
    by_cases e : n = k + 1
    · subst e
      rw [smQ, smQ, smQ_zero k fun j hj => q j (by omega) (by omega) (by omega)]; grind
    · rw [smQ, smQ_pair n (by omega) fun j hj => q j (by omega), q n (by omega) (by omega) (by omega)]; grind
theorem dt_adj : ∀ (n : Nat) (M : Mx) (k : Nat), k + 1 < n → (∀ j, M k j = M (k + 1) j) → dtM n M = 0
  | 0, _, _, h, _ => absurd h (by omega)
  | n + 1, M, k, hk, h => by
    unfold dtM
    have e1 : mnr k M = mnr (k + 1) M := by
      funext a b
      unfold mnr sk
      by_cases c : a < k
      · rw [if_pos c, if_pos (by omega)]
      · by_cases c2 : a = k
        · subst c2
          rw [if_neg (by omega), if_pos (by omega)]; exact (h b).symm
        · rw [if_neg c, if_neg (by omega)]
    rw [smQ_pair (k := k) (n + 1) hk fun i hi h1 h2 => ?_]
    · rw [e1, h n, ← Nat.add_assoc, sgQ_succ]; grind
    · rw [dt_adj n (mnr i M) (if k < i then k else k - 1) (by split <;> omega) fun j => ?_]
      · grind
      · unfold mnr
        by_cases c : k < i
        · rw [if_pos c, sk_lt c, sk_lt (by omega)]; exact h j
        · rw [if_neg c, sk_ge (by omega), sk_ge (by omega), show k - 1 + 1 = k by omega]; exact h j
theorem upd_upd (M : Mx) {a p : Nat} (h : a ≠ p) (f g : Nat → Rat) : upd (upd M a f) p g = upd (upd M p g) a f := by
  funext i j
  unfold upd
  by_cases e : i = p
  · subst e; rw [if_pos rfl, if_neg (Ne.symm h), if_pos rfl]
  · rw [if_neg e, if_neg e]
theorem upd_self (M : Mx) (k : Nat) : upd M k (M k) = M := by
  funext i j
  unfold upd
  by_cases e : i = k
  · subst e; rw [if_pos rfl]
  · rw [if_neg e]
theorem dt_of_alt {n a p : Nat} (M : Mx) (ha : a < n) (hp : p < n) (h : a ≠ p) (alt : ∀ N : Mx, (∀ j, N a j = N p j) → dtM n N = 0) : dtM n (swpM M a p) = - dtM n M := by
  have key : ∀ x : Nat → Rat, dtM n (upd (upd M a x) p x) = 0 := fun x => alt _ fun j => by
    rw [upd_ne _ _ h, upd_same, upd_same]
  have l1 : ∀ (x y z : Nat → Rat), dtM n (upd (upd M a fun j => x j - (-1) * y j) p z) = dtM n (upd (upd M a x) p z) + dtM n (upd (upd M a y) p z) := fun x y z => by
    rw [upd_upd M h, dt_lin x y (-1) n _ a ha, ← upd_upd M h, ← upd_upd M h]; grind
  have l2 : ∀ (x y z : Nat → Rat), dtM n (upd (upd M a z) p fun j => x j - (-1) * y j) = dtM n (upd (upd M a z) p x) + dtM n (upd (upd M a z) p y) := fun x y z => by
    rw [dt_lin x y (-1) n _ p hp]; grind
  have k0 := key fun j => M a j - (-1) * M p j
  rw [l1, l2, l2, key, key] at k0
  have e : upd (upd M a (M a)) p (M p) = M := by rw [upd_self, upd_self]
  have e1 : dtM n (upd (upd M a fun j => M a j) p fun j => M p j) = dtM n M := congrArg (dtM n) e
  have e2 : dtM n (upd (upd M a fun j => M p j) p fun j => M a j) = dtM n (swpM M a p) := rfl
  rw [e1, e2] at k0
  grind
theorem dt_alt : ∀ (t n : Nat) (M : Mx) (a b : Nat), b = a + 1 + t → b < n → (∀ j, M a j = M b j) → dtM n M = 0
  | 0, n, M, a, b, e, hb, h => by subst e; exact dt_adj n M a hb h
  | t + 1, n, M, a, b, e, hb, h => by
    subst e
    have sw := dt_of_alt (a := a + 1 + t) (p := a + 1 + t + 1) M (by omega) (by omega) (by omega) fun N hN => dt_adj n N (a + 1 + t) (by omega) hN
    have ih := dt_alt t n (swpM M (a + 1 + t) (a + 1 + t + 1)) a (a + 1 + t) rfl (by omega) fun j => by
      unfold swpM
      rw [upd_ne _ _ (by omega), upd_ne _ _ (by omega), upd_ne _ _ (by omega), upd_same]
      exact h j
    rw [ih] at sw
    grind
theorem dt_two {n a b : Nat} {M : Mx} (ha : a < n) (hb : b < n) (h : a ≠ b) (e : ∀ j, M a j = M b j) : dtM n M = 0 := by
  rcases Nat.lt_or_gt_of_ne h with c | c
  · exact dt_alt (b - a - 1) n M a b (by omega) hb e
  · exact dt_alt (a - b - 1) n M b a (by omega) ha fun j => (e j).symm
theorem dt_sw {n a p : Nat} (M : Mx) (ha : a < n) (hp : p < n) (h : a ≠ p) : dtM n (swpM M a p) = - dtM n M :=
  dt_of_alt M ha hp h fun N e => dt_two ha hp h e
theorem dt_less {n p k : Nat} (M : Mx) (hp : p < n) (hk : k < n) (h : p ≠ k) (c : Rat) : dtM n (upd M k fun j => M k j - c * M p j) = dtM n M := by
  rw [dt_lin (M k) (M p) c n M k hk, upd_self, dt_two (M := upd M k (M p)) (a := p) (b := k) hp hk h fun j => by rw [upd_ne _ _ h, upd_same]]
  grind
theorem dt_elA {n p : Nat} (M : Mx) (hp : p < n) : ∀ k, p < k → k ≤ n → dtM n (elA M p k) = dtM n M
  | 0, h, _ => absurd h (by omega)
  | k + 1, h, hk => by
    by_cases e : p = k
    · subst e; rw [elA_zero]
    · rw [← dt_elA M hp k (by omega) (by omega), ← dt_less (elA M p k) hp (show k < n by omega) e (M k p / M p p), elA_succ M (by omega)]
      congr 2
      funext j
      rw [elA_ge M (Nat.le_refl k), elA_self]
theorem dt_row0 {n k : Nat} {M : Mx} (hk : k < n) (h : ∀ j < n, M k j = 0) : dtM n M = 0 := by
  have e := dt_lin (M k) (M k) 1 n M k hk
  rw [upd_self] at e
  have e2 : dtM n (upd M k fun j => M k j - 1 * M k j) = dtM n M := dt_congr n fun i hi j hj => by
    unfold upd
    by_cases c : i = k
    · subst c; rw [if_pos rfl, h j hj]; grind
    · rw [if_neg c]
  rw [e2] at e
  grind
theorem dt_blk : ∀ (n t : Nat) (M : Mx), t < n → (∀ i, t ≤ i → i < n → ∀ j, j ≤ t → M i j = 0) → dtM n M = 0
  | 0, _, _, h, _ => absurd h (by omega)
  | n + 1, t, M, ht, h => by
    by_cases e : t = n
    · subst e
      exact dt_row0 (k := t) (by omega) fun j hj => h t (Nat.le_refl _) (by omega) j (by omega)
    unfold dtM
    refine smQ_zero _ fun i hi => ?_
    rw [dt_blk n (if i < t then t - 1 else t) (mnr i M) (by split <;> omega) fun a ha han j hj => ?_]
    · grind
    · unfold mnr
      by_cases c : i < t
      · rw [if_pos c] at ha hj
        rw [sk_ge (by omega)]
        exact h _ (by omega) (by omega) j (by omega)
      · rw [if_neg c] at ha hj
        exact h _ (by unfold sk; split <;> omega) (by unfold sk; split <;> omega) j hj
def dgP : Nat → Mx → Rat
  | 0, _ => 1
  | n + 1, M => dgP n M * M n n
theorem dg_congr : ∀ (n : Nat) {M N : Mx}, (∀ i < n, M i i = N i i) → dgP n M = dgP n N
  | 0, _, _, _ => rfl
  | n + 1, M, N, h => by rw [dgP, dgP, dg_congr n fun i hi => h i (by omega), h n (by omega)]
theorem dt_tri : ∀ (n : Nat) (M : Mx), (∀ i < n, ∀ j < i, M i j = 0) → dtM n M = dgP n M
  | 0, _, _ => rfl
  | n + 1, M, h => by
    unfold dtM
    rw [smQ_one (i := n) (n + 1) (by omega) fun i hi e => ?_]
    · rw [sgQ_mod (b := 0) (by omega), dt_congr n (M := mnr n M) (N := M) fun a ha b hb => by unfold mnr; rw [sk_lt ha], dt_tri n M fun i hi => h i (by omega)]
      show 1 * _ * _ = dgP n M * M n n
      grind
    · rw [dt_row0 (k := n - 1) (by omega) fun j hj => ?_]
      · grind
      · unfold mnr
        rw [sk_ge (by omega)]
        exact h _ (by omega) j (by omega)
/-- the first m + 1 rows turned by one -/
def cyc (m : Nat) (M : Mx) : Mx := fun i j => if i < m then M (i + 1) j else if i = m then M 0 j else M i j
theorem dt_cyc (n : Nat) (M : Mx) : ∀ m, m < n → dtM n (cyc m M) = sgQ m * dtM n M
  | 0, _ => by
    have : cyc 0 M = M := by
      funext i j
      unfold cyc
      rw [if_neg (by omega)]
      by_cases c : i = 0
      · rw [if_pos c, c]
      · rw [if_neg c]
    rw [this, show sgQ 0 = 1 from rfl]; grind
  | m + 1, h => by
    have : cyc (m + 1) M = swpM (cyc m M) m (m + 1) := by
      funext i j
      unfold swpM upd cyc
      rcases Nat.lt_trichotomy i m with e | e | e
      · simp only [show i < m + 1 by omega, show i ≠ m + 1 by omega, show i ≠ m by omega, e, if_true, if_false]
      · subst e
        simp
        omega
      · by_cases c : i = m + 1
        · subst c; simp
        · simp only [show ¬ i < m + 1 by omega, show ¬ i < m by omega, show i ≠ m by omega, c, if_false]
    rw [this, dt_sw _ (by omega) h (by omega), dt_cyc n M m (by omega), sgQ_succ]; grind
/-- rows turned about by s places -/
def rotM (n s : Nat) (M : Mx) : Mx := fun i j => M ((i + s) % n) j
theorem dt_rot (n : Nat) (M : Mx) (hn : 0 < n) : ∀ s, dtM n (rotM n s M) = sgQ (s * (n - 1)) * dtM n M
  | 0 => by
    rw [dt_congr n (M := rotM n 0 M) (N := M) fun i hi j _ => by unfold rotM; rw [Nat.add_zero, Nat.mod_eq_of_lt hi], Nat.zero_mul, show sgQ 0 = 1 from rfl]; grind
  | s + 1 => by
    have : dtM n (rotM n (s + 1) M) = dtM n (cyc (n - 1) (rotM n s M)) := dt_congr n fun i hi j _ => by
      unfold cyc rotM
      by_cases c : i < n - 1
      · rw [if_pos c]; congr 2; omega
      · rw [if_neg c, if_pos (by omega)]
        congr 1
        have e : i + (s + 1) = 0 + s + n := by omega
        rw [e, Nat.add_mod_right]
    rw [this, dt_cyc n _ _ (by omega), dt_rot n M hn s, Nat.succ_mul, sgQ_add]; grind
theorem rot_sgQ {n s : Nat} (hs : s < n) : sgQ (s * (n - 1)) = sgQ (s * (n - s)) := by
  refine sgQ_mod ?_
  have h1 : s * (n - 1) % 2 = (s % 2) * ((n - 1) % 2) % 2 := Nat.mul_mod ..
  have h2 : s * (n - s) % 2 = (s % 2) * ((n - s) % 2) % 2 := Nat.mul_mod ..
  rcases Nat.mod_two_eq_zero_or_one s with h | h
  · rw [h1, h2, h, Nat.zero_mul, Nat.zero_mul]
  · rw [h1, h2, h, show (n - 1) % 2 = (n - s) % 2 by omega]
/-! steps -/
theorem dt_stp {n : Nat} {M : Mx} (h : Stp n n M) : dtM n M = dgP n M := dt_tri n M fun i hi j hj => h.lo i hi j (by omega) hj
theorem dt_none {n p : Nat} {M : Mx} (hp : p < n) (h : Stp n p M) (hz : ∀ i, p ≤ i → i < n → M i p = 0) : dtM n M = 0 :=
  dt_blk n p M hp fun i h1 h2 j hj => by
    by_cases e : j = p
    · subst e; exact hz i h1 h2
    · exact h.lo i h2 j (by omega) (by omega)
/-! by turns -/
def prF (f : Nat → Rat) : Nat → Rat
  | 0 => 1
  | n + 1 => prF f n * f n
theorem prF_congr {f g : Nat → Rat} : ∀ n, (∀ j < n, f j = g j) → prF f n = prF g n
  | 0, _ => rfl
  | n + 1, h => by rw [prF, prF, prF_congr n fun j hj => h j (by omega), h n (by omega)]
theorem prF_out (f : Nat → Rat) {p : Nat} : ∀ n, p ≤ n → prF f (n + 1) = f p * prF (fun a => f (sk p a)) n
  | 0, h => by
    have : p = 0 := by omega
    subst this
    simp only [prF]; grind
  | n + 1, h => by
    by_cases e : p = n + 1
    · subst e
      rw [prF, prF_congr (f := fun a => f (sk (n + 1) a)) (g := f) (n + 1) fun j hj => by rw [sk_lt hj]]
      grind
    · rw [prF, prF_out f (p := p) n (by omega)]
      show _ = f p * (prF (fun a => f (sk p a)) n * f (sk p n))
      rw [sk_ge (show p ≤ n by omega)]
      grind
def smR : List Rat → Rat
  | [] => 0
  | x :: xs => x + smR xs
theorem smR_app : ∀ xs ys : List Rat, smR (xs ++ ys) = smR xs + smR ys
  | [], ys => by simp only [smR, List.nil_append]; grind
  | x :: xs, ys => by simp only [smR, List.cons_append]; rw [smR_app xs ys]; grind
theorem smR_rng (f : Nat → Rat) : ∀ n, smR ((List.range n).map f) = smQ f n
  | 0 => rfl
  | n + 1 => by
    rw [List.range_succ, List.map_append, smR_app, smR_rng f n, smQ]
    show smQ f n + (f n + 0) = _
    grind
def insA (p k : Nat) (t : List Nat) : List Nat := t.take p ++ [k] ++ t.drop p
theorem ins_len {p k : Nat} {t : List Nat} (h : p ≤ t.length) : (insA p k t).length = t.length + 1 := by
  unfold insA
  rw [List.length_append, List.length_append, List.length_take, List.length_drop, List.length_singleton]; omega
theorem ins_at {p k : Nat} {t : List Nat} (h : p ≤ t.length) : (insA p k t).getD p 0 = k := by
  unfold insA
  rw [List.getD_eq_getElem?_getD, List.append_assoc, List.getElem?_append_right (by rw [List.length_take]; omega), List.length_take, show p - min p t.length = 0 by omega]; rfl
theorem ins_sk {p k a : Nat} {t : List Nat} (h : p ≤ t.length) : (insA p k t).getD (sk p a) 0 = t.getD a 0 := by
  unfold insA
  rw [List.getD_eq_getElem?_getD, List.getD_eq_getElem?_getD, List.append_assoc]
  by_cases c : a < p
  · rw [sk_lt c, List.getElem?_append_left (by rw [List.length_take]; omega), List.getElem?_take, if_pos c]
  · rw [sk_ge (by omega), List.getElem?_append_right (by rw [List.length_take]; omega), List.length_take, show a + 1 - min p t.length = (a - p) + 1 by omega]
    show ((List.drop p t)[a - p]?).getD 0 = _
    rw [List.getElem?_drop, show p + (a - p) = a by omega]
def sgI (n p : Nat) : Int := 1 - ((n : Int) - (p : Int)) % 2 * 2
theorem sgI_is {n p : Nat} (h : p ≤ n) : ((sgI n p : Int) : Rat) = sgQ (n + p) := by
  unfold sgI sgQ
  by_cases c : (n + p) % 2 = 0
  · rw [if_pos c, show (1 - ((n : Int) - (p : Int)) % 2 * 2) = 1 by omega]; rfl
  · rw [if_neg c, show (1 - ((n : Int) - (p : Int)) % 2 * 2) = -1 by omega]; rfl
def trnS (n : Nat) (ts : List Nat × Int) : List (List Nat × Int) := (List.range (n + 1)).map fun p => (insA p n ts.1, ts.2 * sgI n p)
def trn : Nat → List (List Nat × Int)
  | 0 => [([], 1)]
  | n + 1 => (trn n).flatMap (trnS n)
theorem trn_len : ∀ (n : Nat) (ts), ts ∈ trn n → ts.1.length = n
  | 0, ts, h => by rw [trn, List.mem_singleton] at h; subst h; rfl
  | n + 1, ts, h => by
    rw [trn, List.mem_flatMap] at h
    obtain ⟨a, ha, h⟩ := h
    obtain ⟨p, hp, rfl⟩ := List.mem_map.mp h
    have := trn_len n a ha
    rw [ins_len (by have := List.mem_range.mp hp; omega), this]
def trW (M : Mx) (n : Nat) (ts : List Nat × Int) : Rat := (ts.2 : Rat) * prF (fun a => M a (ts.1.getD a 0)) n
theorem smR_ex (M : Mx) (n : Nat) : ∀ L : List (List Nat × Int), (∀ ts ∈ L, ts.1.length = n) → smR ((L.flatMap (trnS n)).map (trW M (n + 1))) = smQ (fun p => sgQ (n + p) * M p n * smR (L.map (trW (mnr p M) n))) (n + 1)
  | [], _ => by
    rw [smQ_zero (n + 1) fun j _ => by show _ * 0 = (0 : Rat); grind]; rfl
  | ts :: L, h => by
    rw [List.flatMap_cons, List.map_append, smR_app, smR_ex M n L fun t ht => h t (by simp [ht])]
    have e1 : (trnS n ts).map (trW M (n + 1)) = (List.range (n + 1)).map fun p => trW M (n + 1) (insA p n ts.1, ts.2 * sgI n p) := by unfold trnS; rw [List.map_map]; rfl
    rw [e1, smR_rng]
    have hl := h ts (by simp)
    have e2 : smQ (fun p => trW M (n + 1) (insA p n ts.1, ts.2 * sgI n p)) (n + 1) = smQ (fun p => sgQ (n + p) * M p n * trW (mnr p M) n ts) (n + 1) := smQ_congr _ fun p hp => by
      unfold trW
      rw [prF_out _ (p := p) n (by omega), ins_at (by omega), Rat.intCast_mul, sgI_is (by omega)]
      rw [prF_congr (f := fun a => M (sk p a) ((insA p n ts.1).getD (sk p a) 0)) (g := fun a => mnr p M a (ts.1.getD a 0)) n fun a _ => by rw [ins_sk (by omega)]; rfl]
      grind
    rw [e2]
    have e3 := smQ_lin (fun p => sgQ (n + p) * M p n * trW (mnr p M) n ts) (fun p => sgQ (n + p) * M p n * smR (L.map (trW (mnr p M) n))) (-1) (n + 1)
    have e4 : smQ (fun p => sgQ (n + p) * M p n * smR ((ts :: L).map (trW (mnr p M) n))) (n + 1) = smQ (fun p => sgQ (n + p) * M p n * trW (mnr p M) n ts - (-1) * (sgQ (n + p) * M p n * smR (L.map (trW (mnr p M) n)))) (n + 1) := smQ_congr _ fun p hp => by
      rw [List.map_cons, smR]; grind
    rw [e4, e3]; grind
/-- the sum over all turns is the determinant -/
theorem leib : ∀ (n : Nat) (M : Mx), smR ((trn n).map (trW M n)) = dtM n M
  | 0, M => by
    show (((1 : Int) : Rat) * 1) + 0 = (1 : Rat)
    decide +kernel
  | n + 1, M => by
    rw [trn, smR_ex M n _ (trn_len n)]
    exact smQ_congr _ fun p _ => by rw [leib n]
end Dl

namespace Dl
open PySem L2 PyProof.Rows
local macro_rules | `(tactic| walk_at "dlu") => `(tactic| try simp -implicitDefEqProofs only [wpB, wpS, wpE, wpI, wpA, wpO, wpC, wpL, q_AL, startD, enD, List.map_cons, List.map_nil, List.length_cons, List.length_nil, List.replicate, List.cons_append, List.nil_append, Nat.reduceAdd, Nat.reduceSub, MT.slots, wipeD, isiD, Option.toList_some, Option.toList_none, List.append_nil, List.getElem?_cons_zero, List.getElem?_cons_succ, Option.bind_some, mset_same, mset_mset, if_true, if_false, Bool.false_eq_true, reduceIte, Bool.not_true, Bool.not_false, Bool.true_eq_false, true_and, decide_eq_true_eq, fit_int, fit_bl, fit_non, deq_int, deq_bl])
local macro_rules | `(tactic| walk_at "dlv") => `(tactic| simp -implicitDefEqProofs only [wpB, wpS, wpE, wpI, wpA, wpO, wpC, wpL, q_AL, startD, enD, List.map_cons, List.map_nil, List.length_cons, List.length_nil, List.replicate, List.cons_append, List.nil_append, Nat.reduceAdd, Nat.reduceSub, MT.slots, wipeD, isiD, Option.toList_some, Option.toList_none, List.append_nil, List.getElem?_cons_zero, List.getElem?_cons_succ, Option.bind_some, mset_same, mset_mset, if_true, if_false, Bool.false_eq_true, reduceIte, Bool.not_true, Bool.not_false, Bool.true_eq_false, true_and, decide_eq_true_eq, fit_int, fit_bl, fit_non, deq_int, deq_bl])
local macro_rules | `(tactic| walk_at "szb") => `(tactic| first | assumption | exact szm (by walk_at "szb") (by walk_at "szb") | exact sza (by walk_at "szb") (by walk_at "szb") | exact szs (by walk_at "szb") (by walk_at "szb") | exact szn (by walk_at "szb") | exact Nat.lt_two_pow_self)
local macro_rules | `(tactic| walk_at "shw") => `(tactic| first | assumption | exact shw_int (abs_up (by walk_at "szb") (by decide)) (by decide) | exact shw_non (by decide) | exact shw_bl (by decide) | exact shw_lit (k := 6) (by decide) (by decide) | ((first | refine shT1 ?_ (by simp) | refine shT2 ?_ (by simp) | refine shT3 ?_ (by simp) | refine shL1 ?_ (by simp) | refine shL2 ?_ (by simp) | refine shL3 ?_ (by simp)); (simp only [shA, and_true]); (try with_reducible refine And.intro ?_ ?_); (all_goals (try with_reducible refine And.intro ?_ ?_)); (all_goals (try with_reducible refine And.intro ?_ ?_)); (all_goals (try with_reducible refine And.intro ?_ ?_)); (all_goals (try with_reducible refine And.intro ?_ ?_)); (all_goals walk_at "shw")))
instance instNC : NC := ⟨3⟩
abbrev c_RoundError : Nat := 0
abbrev c_NoBottom : Nat := 1
abbrev c_NoTable : Nat := 2
def CN : Nat → Str := fun c => (["RoundError", "NoBottom", "NoTable"] : List Str).getD c ""
def topS (i : Nat) : Stmt := PySem.Challenge.pw_roundsides_k27_worths_of_tables.main.body.getD i (.Pass ⟨0, 0, 0, 0⟩)
def S_is_number : DSp := sp1 fun a μ Q _ => fit 60 a = true ∧ Q (.bl (isNum a)) μ
def N_is_number : List Str := ["thing"]
def m_is_number : MB := (.cons (.ret (.bop true (.cons (.isi (.var 0) .int) (.cons (.nt (.isi (.var 0) .bool)) .nil)))) .nil)
theorem w_is_number : ∀ ds μ Q X, S_is_number ds μ Q X → ds.length = 1 ∧ wpB m_is_number (startD 1 ds) μ (enD Q X) := sp1_of (by
  rintro a μ Q X ⟨f, q⟩
  cases a <;> first | (simp [fit] at f; done) | skip
  all_goals simp only [m_is_number, wpB, wpS, wpE, wpI, wpA, wpO, wpC, wpL]
  all_goals try simp -implicitDefEqProofs only [m_is_number, wpB, wpS, wpE, wpI, wpA, wpO, wpC, wpL, q_AL, startD, enD, List.map_cons, List.map_nil, List.length_cons, List.length_nil, List.replicate, List.cons_append, List.nil_append, Nat.reduceAdd, Nat.reduceSub, MT.slots, wipeD, isiD, forW, lcW, Option.toList_some, Option.toList_none, List.append_nil, List.getElem?_cons_zero, List.getElem?_cons_succ, Option.bind_some, mset_same, mset_mset, if_true, if_false, Bool.false_eq_true, reduceIte, Bool.not_true, Bool.not_false, Bool.true_eq_false, true_and, decide_eq_true_eq, fit_int, fit_bl, fit_non, deq_int, deq_bl]
  all_goals exact q)

def S_common_of : DSp := sp1 fun a μ Q _ => ∃ ns : List Int, a = .tup (ns.map .int) ∧ Q (.int (gcdL ns)) μ
def N_common_of : List Str := ["numbers", "found", "number", "rest"]
def m_common_of : MB := (.cons (.asg (.name 1) (.int 0)) (.cons (.loop (.name 2) (.seq (.var 0)) (.cons (.asg (.name 3) (.bl1 .abs (.var 2))) (.cons (.whl (.cmp .ne (.var 3) (.int 0)) (.cons (.par 1 3 (.var 3) (.bin .mod (.var 1) (.var 3))) .nil)) .nil))) (.cons (.ret (.var 1)) .nil)))
theorem w_common_of : ∀ ds μ Q X, S_common_of ds μ Q X → ds.length = 1 ∧ wpB m_common_of (startD 4 ds) μ (enD Q X) := sp1_of (by
  rintro a μ Q X ⟨ns, rfl, q⟩
  simp only [m_common_of, wpB, wpS, wpE, wpI, wpA, wpO, wpC, wpL]
  try simp -implicitDefEqProofs only [m_common_of, wpB, wpS, wpE, wpI, wpA, wpO, wpC, wpL, q_AL, startD, enD, List.map_cons, List.map_nil, List.length_cons, List.length_nil, List.replicate, List.cons_append, List.nil_append, Nat.reduceAdd, Nat.reduceSub, MT.slots, wipeD, isiD, forW, lcW, Option.toList_some, Option.toList_none, List.append_nil, List.getElem?_cons_zero, List.getElem?_cons_succ, Option.bind_some, mset_same, mset_mset, if_true, if_false, Bool.false_eq_true, reduceIte, Bool.not_true, Bool.not_false, Bool.true_eq_false, true_and, decide_eq_true_eq, fit_int, fit_bl, fit_non, deq_int, deq_bl]
  refine forW_by (fun ds ρ μ' => ∃ (rest : List Int) (g : Nat) (x y : Option D), ds = rest.map .int ∧ ρ = [some (D.tup (ns.map .int)), some (.int g), x, y] ∧ μ' = μ ∧ rest.foldl (fun g n => ((Int.gcd g n : Nat) : Int)) ((g : Nat) : Int) = gcdL ns) ?_ ?_ _ _ _ ⟨ns, 0, none, none, rfl, rfl, rfl, rfl⟩
  · rintro d ds ρ μ' k ⟨rest, g, x, y, e, rfl, rfl, h⟩ hk
    cases rest with
    | nil => simp at e
    | cons n rest =>
      simp only [List.map_cons, List.cons.injEq] at e
      obtain ⟨rfl, rfl⟩ := e
      simp -implicitDefEqProofs only [wpB, wpS, wpE, wpI, wpA, wpO, wpC, wpL, q_AL, startD, enD, List.map_cons, List.map_nil, List.length_cons, List.length_nil, List.replicate, List.cons_append, List.nil_append, Nat.reduceAdd, Nat.reduceSub, MT.slots, wipeD, isiD, forW, lcW, Option.toList_some, Option.toList_none, List.append_nil, List.getElem?_cons_zero, List.getElem?_cons_succ, Option.bind_some, mset_same, mset_mset, if_true, if_false, Bool.false_eq_true, reduceIte, Bool.not_true, Bool.not_false, Bool.true_eq_false, true_and, decide_eq_true_eq, fit_int, fit_bl, fit_non, deq_int, deq_bl]
      refine whW_by (fun m ρ μ'' => ∃ f r : Nat, m = r ∧ ρ = [some (D.tup (ns.map .int)), some (.int f), some (.int n), some (.int r)] ∧ μ'' = μ' ∧ Int.gcd ((f : Nat) : Int) ((r : Nat) : Int) = Int.gcd g n) ?_ (m := n.natAbs) ⟨g, n.natAbs, rfl, rfl, rfl, by simp [Int.gcd]⟩
      rintro m ρ μ'' k' ⟨f, r, er, rfl, rfl, hg⟩ hk'
      subst er
      simp -implicitDefEqProofs only [wpB, wpS, wpE, wpI, wpA, wpO, wpC, wpL, q_AL, startD, enD, List.map_cons, List.map_nil, List.length_cons, List.length_nil, List.replicate, List.cons_append, List.nil_append, Nat.reduceAdd, Nat.reduceSub, MT.slots, wipeD, isiD, forW, lcW, Option.toList_some, Option.toList_none, List.append_nil, List.getElem?_cons_zero, List.getElem?_cons_succ, Option.bind_some, mset_same, mset_mset, if_true, if_false, Bool.false_eq_true, reduceIte, Bool.not_true, Bool.not_false, Bool.true_eq_false, true_and, decide_eq_true_eq, fit_int, fit_bl, fit_non, deq_int, deq_bl]
      by_cases hr : m = 0
      · subst hr
        simp
        refine hk _ _ ⟨rest, f, _, _, rfl, rfl, rfl, ?_⟩
        simp only [List.foldl_cons] at h
        rw [← h, ← hg]
        simp
      · have h1 : ((m : Nat) : Int) ≠ 0 := by omega
        simp [h1, hr]
        rw [fmod_nat]
        exact hk' (f % m) _ _ (Nat.mod_lt _ (by omega)) ⟨m, f % m, rfl, rfl, rfl, by rw [← gcd_step f m hr]; exact hg⟩
  · rintro ρ μ' ⟨rest, g, x, y, e, rfl, rfl, h⟩
    cases rest with
    | nil =>
      simp -implicitDefEqProofs only [wpB, wpS, wpE, wpI, wpA, wpO, wpC, wpL, q_AL, startD, enD, List.map_cons, List.map_nil, List.length_cons, List.length_nil, List.replicate, List.cons_append, List.nil_append, Nat.reduceAdd, Nat.reduceSub, MT.slots, wipeD, isiD, forW, lcW, Option.toList_some, Option.toList_none, List.append_nil, List.getElem?_cons_zero, List.getElem?_cons_succ, Option.bind_some, mset_same, mset_mset, if_true, if_false, Bool.false_eq_true, reduceIte, Bool.not_true, Bool.not_false, Bool.true_eq_false, true_and, decide_eq_true_eq, fit_int, fit_bl, fit_non, deq_int, deq_bl]
      simp only [List.foldl_nil] at h
      rw [h]; exact q
    | cons n rest => simp at e)

/-! fractions of any size, over the rational numbers -/
def S_fraction_of : DSp := sp2 fun a d μ Q X => ∃ t b : Int, a = .int t ∧ d = .int b ∧ (b = 0 → X c_NoBottom μ) ∧ (b ≠ 0 → Q (frD t b) μ)
def N_fraction_of : List Str := ["top", "bottom", "by"]
def m_fraction_of : MB := (.cons (.ite (.cmp .eq (.var 1) (.int 0)) (.cons (.rais 1) .nil) .nil) (.cons (.asg (.name 2) (.call "common_of" S_common_of (.cons (.tup (.cons (.var 0) (.cons (.var 1) .nil))) .nil))) (.cons (.ite (.cmp .lt (.var 1) (.int 0)) (.cons (.asg (.name 2) (.bin .sub (.int 0) (.var 2))) .nil) .nil) (.cons (.ret (.tup (.cons (.bin .fdiv (.var 0) (.var 2)) (.cons (.bin .fdiv (.var 1) (.var 2)) .nil)))) .nil))))
theorem w_fraction_of : ∀ ds μ Q X, S_fraction_of ds μ Q X → ds.length = 2 ∧ wpB m_fraction_of (startD 3 ds) μ (enD Q X) := sp2_of (by
  rintro a d μ Q X ⟨t, b, rfl, rfl, h0, h1⟩
  simp only [m_fraction_of, wpB, wpS, wpE, wpI, wpA, wpO, wpC, wpL]
  try simp -implicitDefEqProofs only [m_fraction_of, wpB, wpS, wpE, wpI, wpA, wpO, wpC, wpL, q_AL, startD, enD, List.map_cons, List.map_nil, List.length_cons, List.length_nil, List.replicate, List.cons_append, List.nil_append, Nat.reduceAdd, Nat.reduceSub, MT.slots, wipeD, isiD, forW, lcW, Option.toList_some, Option.toList_none, List.append_nil, List.getElem?_cons_zero, List.getElem?_cons_succ, Option.bind_some, mset_same, mset_mset, if_true, if_false, Bool.false_eq_true, reduceIte, Bool.not_true, Bool.not_false, Bool.true_eq_false, true_and, decide_eq_true_eq, fit_int, fit_bl, fit_non, deq_int, deq_bl]
  by_cases hb : b = 0
  · subst hb
    simp
    exact h0 rfl
  · have q := h1 hb
    simp only [beq_iff_eq, hb, if_false]
    refine ⟨[t, b], rfl, ?_⟩
    rw [gcdL_two]
    have hd : divOk (byI t b) := byI_ne hb
    by_cases hn : b < 0
    · have e : (0 : Int) - ((Int.gcd t b : Nat) : Int) = byI t b := by unfold byI; rw [if_pos hn]
      simp -implicitDefEqProofs only [hn, decide_true, wpB, wpS, wpE, wpI, wpA, wpO, wpC, wpL, q_AL, startD, enD, List.map_cons, List.map_nil, List.length_cons, List.length_nil, List.replicate, List.cons_append, List.nil_append, Nat.reduceAdd, Nat.reduceSub, MT.slots, wipeD, isiD, forW, lcW, Option.toList_some, Option.toList_none, List.append_nil, List.getElem?_cons_zero, List.getElem?_cons_succ, Option.bind_some, mset_same, mset_mset, if_true, if_false, Bool.false_eq_true, reduceIte, Bool.not_true, Bool.not_false, Bool.true_eq_false, true_and, decide_eq_true_eq, fit_int, fit_bl, fit_non, deq_int, deq_bl, e]
      exact ⟨hd, hd, q⟩
    · have e : ((Int.gcd t b : Nat) : Int) = byI t b := by unfold byI; rw [if_neg hn]
      simp only [hn, if_false, decide_false, e, Bool.false_eq_true]
      exact ⟨hd, hd, q⟩)
theorem frac_q {t d : Int} {μ : Mu} {Q : Pst} {X : Xst} (hd : d ≠ 0) (k : Q (qD (Rat.divInt t d)) μ) : S_fraction_of [.int t, .int d] μ Q X :=
  ⟨t, d, rfl, rfl, fun e => absurd e hd, fun _ => by rw [frD_eq, frP_q hd]; exact k⟩
theorem mulq {a b : Rat} {m n : Nat} (h1 : szQ m a) (h2 : szQ n b) (h : m + n ≤ 120000000) : mulOk a.num b.num ∧ mulOk a.num (b.den : Int) ∧ mulOk b.num (a.den : Int) ∧ mulOk (a.den : Int) (b.den : Int) ∧ mulOk (a.den : Int) b.num := ⟨mul_ok m n h1.1 h2.1 h, mul_ok m n h1.1 h2.2 h, mul_ok n m h2.1 h1.2 (by omega), mul_ok m n h1.2 h2.2 h, mul_ok m n h1.2 h2.1 h⟩
def S_frac_less : DSp := sp2 fun x y μ Q _ => ∃ (a b : Rat) (m n : Nat), x = qD a ∧ y = qD b ∧ szQ m a ∧ szQ n b ∧ m + n ≤ 100000000 ∧ Q (qD (a - b)) μ
def N_frac_less : List Str := ["one", "other"]
def m_frac_less : MB := (.cons (.ret (.call "fraction_of" S_fraction_of (.cons (.bin .sub (.bin .mul (.ixc (.var 0) 0) (.ixc (.var 1) 1)) (.bin .mul (.ixc (.var 1) 0) (.ixc (.var 0) 1))) (.cons (.bin .mul (.ixc (.var 0) 1) (.ixc (.var 1) 1)) .nil)))) .nil)
theorem w_frac_less : ∀ ds μ Q X, S_frac_less ds μ Q X → ds.length = 2 ∧ wpB m_frac_less (startD 2 ds) μ (enD Q X) := sp2_of (by
  rintro x y μ Q X ⟨a, b, m, n, rfl, rfl, h1, h2, hb, q⟩
  obtain ⟨k1, k2, k3, k4, k5⟩ := mulq h1 h2 (by omega)
  simp only [m_frac_less, wpB, wpS, wpE, wpI, wpA, wpO, wpC, wpL]
  try simp -implicitDefEqProofs only [m_frac_less, fD, wpB, wpS, wpE, wpI, wpA, wpO, wpC, wpL, q_AL, startD, enD, List.map_cons, List.map_nil, List.length_cons, List.length_nil, List.replicate, List.cons_append, List.nil_append, Nat.reduceAdd, Nat.reduceSub, MT.slots, wipeD, isiD, forW, lcW, Option.toList_some, Option.toList_none, List.append_nil, List.getElem?_cons_zero, List.getElem?_cons_succ, Option.bind_some, mset_same, mset_mset, if_true, if_false, Bool.false_eq_true, reduceIte, Bool.not_true, Bool.not_false, Bool.true_eq_false, true_and, decide_eq_true_eq, fit_int, fit_bl, fit_non, deq_int, deq_bl]
  refine ⟨k2, k3, k4, _, _, rfl, rfl, fun e => absurd e (mul_ne0 (den_ne a) (den_ne b)), fun _ => ?_⟩
  have e := lessF_q a b
  unfold lessF at e
  rw [frD_eq, e]
  exact q)
theorem less_q {a b : Rat} {m n : Nat} {μ : Mu} {Q : Pst} {X : Xst} (h1 : szQ m a) (h2 : szQ n b) (hm : m ≤ 50000000) (hn : n ≤ 50000000) (k : szQ (m + n + 1) (a - b) → Q (qD (a - b)) μ) : S_frac_less [qD a, qD b] μ Q X :=
  ⟨a, b, m, n, rfl, rfl, h1, h2, by omega, k (szQ_sub h1 h2)⟩
def S_frac_times : DSp := sp2 fun x y μ Q _ => ∃ (a b : Rat) (m n : Nat), x = qD a ∧ y = qD b ∧ szQ m a ∧ szQ n b ∧ m + n ≤ 100000000 ∧ Q (qD (a * b)) μ
def N_frac_times : List Str := ["one", "other"]
def m_frac_times : MB := (.cons (.ret (.call "fraction_of" S_fraction_of (.cons (.bin .mul (.ixc (.var 0) 0) (.ixc (.var 1) 0)) (.cons (.bin .mul (.ixc (.var 0) 1) (.ixc (.var 1) 1)) .nil)))) .nil)
theorem w_frac_times : ∀ ds μ Q X, S_frac_times ds μ Q X → ds.length = 2 ∧ wpB m_frac_times (startD 2 ds) μ (enD Q X) := sp2_of (by
  rintro x y μ Q X ⟨a, b, m, n, rfl, rfl, h1, h2, hb, q⟩
  obtain ⟨k1, k2, k3, k4, k5⟩ := mulq h1 h2 (by omega)
  simp only [m_frac_times, wpB, wpS, wpE, wpI, wpA, wpO, wpC, wpL]
  try simp -implicitDefEqProofs only [m_frac_times, fD, wpB, wpS, wpE, wpI, wpA, wpO, wpC, wpL, q_AL, startD, enD, List.map_cons, List.map_nil, List.length_cons, List.length_nil, List.replicate, List.cons_append, List.nil_append, Nat.reduceAdd, Nat.reduceSub, MT.slots, wipeD, isiD, forW, lcW, Option.toList_some, Option.toList_none, List.append_nil, List.getElem?_cons_zero, List.getElem?_cons_succ, Option.bind_some, mset_same, mset_mset, if_true, if_false, Bool.false_eq_true, reduceIte, Bool.not_true, Bool.not_false, Bool.true_eq_false, true_and, decide_eq_true_eq, fit_int, fit_bl, fit_non, deq_int, deq_bl]
  refine ⟨k1, k4, _, _, rfl, rfl, fun e => absurd e (mul_ne0 (den_ne a) (den_ne b)), fun _ => ?_⟩
  have e := timesF_q a b
  unfold timesF at e
  rw [frD_eq, e]
  exact q)
theorem times_q {a b : Rat} {m n : Nat} {μ : Mu} {Q : Pst} {X : Xst} (h1 : szQ m a) (h2 : szQ n b) (hm : m ≤ 50000000) (hn : n ≤ 50000000) (k : szQ (m + n) (a * b) → Q (qD (a * b)) μ) : S_frac_times [qD a, qD b] μ Q X :=
  ⟨a, b, m, n, rfl, rfl, h1, h2, by omega, k (szQ_mul h1 h2)⟩
def S_frac_by : DSp := sp2 fun x y μ Q X => ∃ (a b : Rat) (m n : Nat), x = qD a ∧ y = qD b ∧ szQ m a ∧ szQ n b ∧ m + n ≤ 100000000 ∧ (b = 0 → X c_NoBottom μ) ∧ (b ≠ 0 → Q (qD (a / b)) μ)
def N_frac_by : List Str := ["one", "other"]
def m_frac_by : MB := (.cons (.ite (.cmp .eq (.ixc (.var 1) 0) (.int 0)) (.cons (.rais 1) .nil) .nil) (.cons (.ret (.call "fraction_of" S_fraction_of (.cons (.bin .mul (.ixc (.var 0) 0) (.ixc (.var 1) 1)) (.cons (.bin .mul (.ixc (.var 0) 1) (.ixc (.var 1) 0)) .nil)))) .nil))
theorem w_frac_by : ∀ ds μ Q X, S_frac_by ds μ Q X → ds.length = 2 ∧ wpB m_frac_by (startD 2 ds) μ (enD Q X) := sp2_of (by
  rintro x y μ Q X ⟨a, b, m, n, rfl, rfl, h1, h2, hb, q0, q⟩
  obtain ⟨k1, k2, k3, k4, k5⟩ := mulq h1 h2 (by omega)
  simp only [m_frac_by, wpB, wpS, wpE, wpI, wpA, wpO, wpC, wpL]
  try simp -implicitDefEqProofs only [m_frac_by, fD, wpB, wpS, wpE, wpI, wpA, wpO, wpC, wpL, q_AL, startD, enD, List.map_cons, List.map_nil, List.length_cons, List.length_nil, List.replicate, List.cons_append, List.nil_append, Nat.reduceAdd, Nat.reduceSub, MT.slots, wipeD, isiD, forW, lcW, Option.toList_some, Option.toList_none, List.append_nil, List.getElem?_cons_zero, List.getElem?_cons_succ, Option.bind_some, mset_same, mset_mset, if_true, if_false, Bool.false_eq_true, reduceIte, Bool.not_true, Bool.not_false, Bool.true_eq_false, true_and, decide_eq_true_eq, fit_int, fit_bl, fit_non, deq_int, deq_bl]
  by_cases h : b = 0
  · exact ite_t (by simp [h]) (q0 h)
  · have hn : b.num ≠ 0 := fun e => h (num0.mp e)
    refine ite_f (by simp [hn]) ⟨k2, k5, _, _, rfl, rfl, fun e => absurd e (mul_ne0 (den_ne a) hn), fun _ => ?_⟩
    have e := byF_q a b h
    unfold byF at e
    rw [frD_eq, e]
    exact q h)
theorem by_q {a b : Rat} {m n : Nat} {μ : Mu} {Q : Pst} {X : Xst} (h1 : szQ m a) (h2 : szQ n b) (hm : m ≤ 50000000) (hn : n ≤ 50000000) (hb : b ≠ 0) (k : szQ (m + n) (a / b) → Q (qD (a / b)) μ) : S_frac_by [qD a, qD b] μ Q X :=
  ⟨a, b, m, n, rfl, rfl, h1, h2, by omega, fun e => absurd e hb, fun _ => k (szQ_div h1 h2 hb)⟩

def S_is_fraction : DSp := sp1 fun x μ Q _ => fit 59 x = true ∧ Q (.bl (isFr x)) μ
def N_is_fraction : List Str := ["thing"]
def m_is_fraction : MB := (.cons (.ite (.bop false (.cons (.nt (.isi (.var 0) .tuple)) (.cons (.cmp .ne (.bl1 .len (.var 0)) (.int 2)) (.cons (.nt (.call "is_number" S_is_number (.cons (.ixc (.var 0) 0) .nil))) (.cons (.nt (.call "is_number" S_is_number (.cons (.ixc (.var 0) 1) .nil))) .nil))))) (.cons (.ret (.bl false)) .nil) .nil) (.cons (.ret (.bop true (.cons (.cmp .ge (.ixc (.var 0) 1) (.int 1)) (.cons (.cmp .eq (.call "common_of" S_common_of (.cons (.var 0) .nil)) (.int 1)) .nil)))) .nil))
theorem w_is_fraction : ∀ ds μ Q X, S_is_fraction ds μ Q X → ds.length = 1 ∧ wpB m_is_fraction (startD 1 ds) μ (enD Q X) := sp1_of (by
  rintro x μ Q X ⟨f, q⟩
  cases x with
  | exc c => simp [fit] at f
  | ref c => simp [fit] at f
  | tup ds =>
    simp only [m_is_fraction, wpB, wpS, wpE, wpI, wpA, wpO, wpC, wpL]
    try simp -implicitDefEqProofs only [m_is_fraction, wpB, wpS, wpE, wpI, wpA, wpO, wpC, wpL, q_AL, startD, enD, List.map_cons, List.map_nil, List.length_cons, List.length_nil, List.replicate, List.cons_append, List.nil_append, Nat.reduceAdd, Nat.reduceSub, MT.slots, wipeD, isiD, forW, lcW, Option.toList_some, Option.toList_none, List.append_nil, List.getElem?_cons_zero, List.getElem?_cons_succ, Option.bind_some, mset_same, mset_mset, if_true, if_false, Bool.false_eq_true, reduceIte, Bool.not_true, Bool.not_false, Bool.true_eq_false, true_and, decide_eq_true_eq, fit_int, fit_bl, fit_non, deq_int, deq_bl]
    by_cases hl : ds.length = 2
    · obtain ⟨x, y, rfl⟩ : ∃ x y, ds = [x, y] := by
        match ds, hl with
        | [x, y], _ => exact ⟨x, y, rfl⟩
      have f1 : fit 60 x = true := fit_up 58 60 x (by decide) (List.all_eq_true.mp f x (by simp))
      have f2 : fit 60 y = true := fit_up 58 60 y (by decide) (List.all_eq_true.mp f y (by simp))
      refine ite_t (by simp) ⟨f1, ?_⟩
      cases h1 : isNum x with
      | false =>
        rw [isFr_num (.inl h1)] at q
        try simp -implicitDefEqProofs only [wpB, wpS, wpE, wpI, wpA, wpO, wpC, wpL, q_AL, startD, enD, List.map_cons, List.map_nil, List.length_cons, List.length_nil, List.replicate, List.cons_append, List.nil_append, Nat.reduceAdd, Nat.reduceSub, MT.slots, wipeD, isiD, forW, lcW, Option.toList_some, Option.toList_none, List.append_nil, List.getElem?_cons_zero, List.getElem?_cons_succ, Option.bind_some, mset_same, mset_mset, if_true, if_false, Bool.false_eq_true, reduceIte, Bool.not_true, Bool.not_false, Bool.true_eq_false, true_and, decide_eq_true_eq, fit_int, fit_bl, fit_non, deq_int, deq_bl]
        exact q
      | true =>
        try simp -implicitDefEqProofs only [wpB, wpS, wpE, wpI, wpA, wpO, wpC, wpL, q_AL, startD, enD, List.map_cons, List.map_nil, List.length_cons, List.length_nil, List.replicate, List.cons_append, List.nil_append, Nat.reduceAdd, Nat.reduceSub, MT.slots, wipeD, isiD, forW, lcW, Option.toList_some, Option.toList_none, List.append_nil, List.getElem?_cons_zero, List.getElem?_cons_succ, Option.bind_some, mset_same, mset_mset, if_true, if_false, Bool.false_eq_true, reduceIte, Bool.not_true, Bool.not_false, Bool.true_eq_false, true_and, decide_eq_true_eq, fit_int, fit_bl, fit_non, deq_int, deq_bl]
        refine ⟨f2, ?_⟩
        cases h2 : isNum y with
        | false =>
          rw [isFr_num (.inr h2)] at q
          try simp -implicitDefEqProofs only [wpB, wpS, wpE, wpI, wpA, wpO, wpC, wpL, q_AL, startD, enD, List.map_cons, List.map_nil, List.length_cons, List.length_nil, List.replicate, List.cons_append, List.nil_append, Nat.reduceAdd, Nat.reduceSub, MT.slots, wipeD, isiD, forW, lcW, Option.toList_some, Option.toList_none, List.append_nil, List.getElem?_cons_zero, List.getElem?_cons_succ, Option.bind_some, mset_same, mset_mset, if_true, if_false, Bool.false_eq_true, reduceIte, Bool.not_true, Bool.not_false, Bool.true_eq_false, true_and, decide_eq_true_eq, fit_int, fit_bl, fit_non, deq_int, deq_bl]
          exact q
        | true =>
          obtain ⟨a, rfl⟩ := isNum_is h1
          obtain ⟨b, rfl⟩ := isNum_is h2
          try simp -implicitDefEqProofs only [wpB, wpS, wpE, wpI, wpA, wpO, wpC, wpL, q_AL, startD, enD, List.map_cons, List.map_nil, List.length_cons, List.length_nil, List.replicate, List.cons_append, List.nil_append, Nat.reduceAdd, Nat.reduceSub, MT.slots, wipeD, isiD, forW, lcW, Option.toList_some, Option.toList_none, List.append_nil, List.getElem?_cons_zero, List.getElem?_cons_succ, Option.bind_some, mset_same, mset_mset, if_true, if_false, Bool.false_eq_true, reduceIte, Bool.not_true, Bool.not_false, Bool.true_eq_false, true_and, decide_eq_true_eq, fit_int, fit_bl, fit_non, deq_int, deq_bl]
          have e : isFr (.tup [.int a, .int b]) = (decide (1 ≤ b) && (Int.gcd a b == 1)) := rfl
          rw [e] at q
          by_cases hb : 1 ≤ b
          · refine ite_t (by simp [hb]) ⟨[a, b], rfl, ?_⟩
            rw [gcdL_two]
            try simp -implicitDefEqProofs only [wpB, wpS, wpE, wpI, wpA, wpO, wpC, wpL, q_AL, startD, enD, List.map_cons, List.map_nil, List.length_cons, List.length_nil, List.replicate, List.cons_append, List.nil_append, Nat.reduceAdd, Nat.reduceSub, MT.slots, wipeD, isiD, forW, lcW, Option.toList_some, Option.toList_none, List.append_nil, List.getElem?_cons_zero, List.getElem?_cons_succ, Option.bind_some, mset_same, mset_mset, if_true, if_false, Bool.false_eq_true, reduceIte, Bool.not_true, Bool.not_false, Bool.true_eq_false, true_and, decide_eq_true_eq, fit_int, fit_bl, fit_non, deq_int, deq_bl]
            rw [show ((((Int.gcd a b : Nat) : Int)) == 1) = (Int.gcd a b == 1) by rw [Bool.eq_iff_iff]; simp only [beq_iff_eq]; omega]
            simpa [hb] using q
          · refine ite_f (by simp [hb]) ?_
            simpa [hb] using q
    · rw [isFr_len hl] at q
      refine ite_f (by simp; omega) (ite_t (by simp; omega) q)
  | _ =>
    simp only [m_is_fraction, wpB, wpS, wpE, wpI, wpA, wpO, wpC, wpL]
    try simp -implicitDefEqProofs only [m_is_fraction, wpB, wpS, wpE, wpI, wpA, wpO, wpC, wpL, q_AL, startD, enD, List.map_cons, List.map_nil, List.length_cons, List.length_nil, List.replicate, List.cons_append, List.nil_append, Nat.reduceAdd, Nat.reduceSub, MT.slots, wipeD, isiD, forW, lcW, Option.toList_some, Option.toList_none, List.append_nil, List.getElem?_cons_zero, List.getElem?_cons_succ, Option.bind_some, mset_same, mset_mset, if_true, if_false, Bool.false_eq_true, reduceIte, Bool.not_true, Bool.not_false, Bool.true_eq_false, true_and, decide_eq_true_eq, fit_int, fit_bl, fit_non, deq_int, deq_bl]
    exact q)

/-! the law's own fractions and cubics (dialect C) -/
def sm8 (t : Rat) : Bool := decide (t.num.natAbs < 2 ^ 8) && decide (t.den < 2 ^ 8)
theorem sm8_sz {t : Rat} (h : sm8 t = true) : szQ 8 t := by
  simp only [sm8, Bool.and_eq_true, decide_eq_true_eq] at h
  exact ⟨h.1, by show ((t.den : Nat) : Int).natAbs < 2 ^ 8; omega⟩
theorem s1q : szQ 1 (1 : Rat) := ⟨by decide +kernel, by decide +kernel⟩
theorem s3q : szQ 2 (3 : Rat) := ⟨by decide +kernel, by decide +kernel⟩
theorem s4q : szQ 3 (4 : Rat) := ⟨by decide +kernel, by decide +kernel⟩
theorem s2q : szQ 2 (-2 : Rat) := ⟨by decide +kernel, by decide +kernel⟩
theorem q_three : D.tup [.int 3, .int 1] = qD 3 := rfl
theorem q_four : D.tup [.int 4, .int 1] = qD 4 := rfl
theorem q_mtwo : D.tup [.int (-2), .int 1] = qD (-2) := rfl
abbrev cuD (c : Rat × Rat × Rat) : D := .tup [qD c.1, qD c.2.1, qD c.2.2]
def szC (n : Nat) (c : Rat × Rat × Rat) : Prop := szQ n c.1 ∧ szQ n c.2.1 ∧ szQ n c.2.2
def dsL (g h k : Rat) : Rat := g * h * g * h - 4 * h * h * h - 4 * k * g * g * g - 27 * k * k + 18 * g * h * k
def goodC (c : Rat × Rat × Rat) : Prop := c.2.2 ≠ 0 ∧ dsL c.1 c.2.1 c.2.2 ≠ 0
instance (c : Rat × Rat × Rat) : Decidable (goodC c) := by unfold goodC; exact inferInstance
theorem neg_qs (b : Rat) : D.tup [.int (0 - b.num), .int (b.den : Int)] = qD (0 - b) := by
  have e : 0 - b = -b := by grind
  have h1 : (-b).num = 0 - b.num := by rw [Rat.neg_num]; omega
  have h2 : (-b).den = b.den := Rat.neg_den b
  rw [e]
  simp only [qD, fD, h1, h2]
theorem goodC.gd {c : Cub} (g : goodC c) : GdC c := ⟨g.1, g.2⟩
def S_law_cell : DSp := sp2 fun a b μ Q _ => ∃ (ns : List Int) (k : Int), a = .lst (ns.map .int) ∧ b = .int k ∧ 0 ≤ k ∧ k ≤ 100 ∧ ∀ n : Int, 0 ≤ n → n.natAbs < 2 ^ 200 → Q (.int n) μ
def N_law_cell : List Str := ["_law_script", "_law_k", "_law_cell_here", "_law_number"]
def m_law_cell_5 : MB := (.cons (.ret (.bin .add (.bin .mul (.var 3) (.int 2147483563)) (.bin .mod (.bin .mul (.var 3) (.var 3)) (.int 2147483563)))) .nil)
def m_law_cell_4 : MB := (.cons (.asg (.name 3) (.bin .mod (.bin .mul (.var 3) (.var 3)) (.int 2147483587))) m_law_cell_5)
def m_law_cell_3 : MB := (.cons (.asg (.name 3) (.bin .mod (.bin .add (.bin .add (.bin .mul (.bin .mod (.var 2) (.int 2147483629)) (.int 48271)) (.bin .mul (.var 1) (.int 69621))) (.int 11)) (.int 2147483629))) m_law_cell_4)
def m_law_cell_2a : MB := (.cons (.ret (.bin .mod (.bin .sub (.var 2) (.bin .pow (.int 10) (.int 18))) (.bin .pow (.int 10) (.int 60)))) .nil)
def m_law_cell_2 : MB := (.cons (.ite (.cmp .ge (.var 2) (.bin .pow (.int 10) (.int 18))) m_law_cell_2a .nil) m_law_cell_3)
def m_law_cell_1a : MB := (.cons (.asg (.name 2) (.ix (.var 0) (.var 1))) .nil)
def m_law_cell_1 : MB := (.cons (.ite (.cmp .lt (.var 1) (.bl1 .len (.var 0))) m_law_cell_1a .nil) m_law_cell_2)
def m_law_cell : MB := (.cons (.asg (.name 2) (.int 0)) m_law_cell_1)
-- slots: 0=_law_script 1=_law_k 2=_law_cell_here 3=_law_number
theorem w_law_cell : ∀ ds μ Q X, S_law_cell ds μ Q X → ds.length = 2 ∧ wpB m_law_cell (startD 4 ds) μ (enD Q X) := sp2_of (by
  rintro a b μ Q X ⟨ns, k, rfl, rfl, h0, h1, q⟩
  have rest : ∀ z : Int, wpB m_law_cell_2 [some (.lst (ns.map .int)), some (.int k), some (.int z), none] μ (enD Q X) := by
    intro z
    simp only [m_law_cell_2, wpB, wpS, wpE, wpI, wpA, wpO, wpC, wpL]
    walk_at "dlu"
    refine ⟨pow10_18, ?_⟩
    by_cases hz : (10 : Int) ^ Int.toNat 18 ≤ z
    · refine ite_t (by simpa using hz) ?_
      simp only [m_law_cell_2a, wpB, wpS, wpE, wpI, wpA, wpO, wpC, wpL]
      walk_at "dlu"
      have p60 : powOk 10 60 := ⟨by decide, by decide, by decide⟩
      refine ⟨pow10_18, p60, by decide +kernel, ?_⟩
      obtain ⟨a0, a1⟩ := fmod_pos (x := z - 10 ^ Int.toNat 18) (m := 10 ^ Int.toNat 60) (by decide +kernel)
      refine q _ a0 (Nat.lt_trans (nab a0 (n := 10 ^ 60) (by simpa using a1)) (by decide +kernel))
    · refine ite_f (by simpa using hz) ?_
      simp only [m_law_cell_3, wpB, wpS, wpE, wpI, wpA, wpO, wpC, wpL]
      walk_at "dlu"
      obtain ⟨a0, a1⟩ := fmod_pos (x := z) (m := 2147483629) (by decide)
      generalize z.fmod 2147483629 = y at *
      refine ⟨by decide, mul_ok 31 16 (by omega) (by decide) (by decide), mul_ok 7 17 (by omega) (by decide) (by decide), by decide, ?_⟩
      obtain ⟨b0, b1⟩ := fmod_pos (x := y * 48271 + k * 69621 + 11) (m := 2147483629) (by decide)
      generalize (y * 48271 + k * 69621 + 11).fmod 2147483629 = u at *
      simp only [m_law_cell_4, wpB, wpS, wpE, wpI, wpA, wpO, wpC, wpL]
      walk_at "dlu"
      refine ⟨mul_ok 31 31 (by omega) (by omega) (by decide), by decide, ?_⟩
      obtain ⟨c0, c1⟩ := fmod_pos (x := u * u) (m := 2147483587) (by decide)
      generalize (u * u).fmod 2147483587 = v at *
      simp only [m_law_cell_5, wpB, wpS, wpE, wpI, wpA, wpO, wpC, wpL]
      walk_at "dlu"
      obtain ⟨d0, d1⟩ := fmod_pos (x := v * v) (m := 2147483563) (by decide)
      refine ⟨mul_ok 31 31 (by omega) (by decide) (by decide), mul_ok 31 31 (by omega) (by omega) (by decide), by decide, ?_⟩
      generalize (v * v).fmod 2147483563 = t at *
      refine q _ (by omega) (Nat.lt_of_lt_of_le (show _ < 2 ^ 64 by omega) (Nat.pow_le_pow_right (by decide) (by decide)))
  simp -implicitDefEqProofs only [wpB, wpS, wpE, wpI, wpA, wpO, wpC, wpL, q_AL, startD, enD, List.map_cons, List.map_nil, List.length_cons, List.length_nil, List.replicate, List.cons_append, List.nil_append, Nat.reduceAdd, Nat.reduceSub, MT.slots, wipeD, isiD, Option.toList_some, Option.toList_none, List.append_nil, List.getElem?_cons_zero, List.getElem?_cons_succ, Option.bind_some, mset_same, mset_mset, if_true, if_false, Bool.false_eq_true, reduceIte, Bool.not_true, Bool.not_false, Bool.true_eq_false, true_and, decide_eq_true_eq, fit_int, fit_bl, fit_non, deq_int, deq_bl] at rest
  simp only [m_law_cell, wpB, wpS, wpE, wpI, wpA, wpO, wpC, wpL]
  walk_at "dlu"
  simp only [m_law_cell_1, wpB, wpS, wpE, wpI, wpA, wpO, wpC, wpL]
  walk_at "dlu"
  by_cases hk : k < ((ns.map D.int).length : Int)
  · refine ite_t (by simpa using hk) ?_
    obtain ⟨z, hz⟩ := at_ints ns k h0 (by simpa using hk)
    simp only [m_law_cell_1a, wpB, wpS, wpE, wpI, wpA, wpO, wpC, wpL]
    walk_at "dlu"
    rw [hz]
    walk_at "dlu"
    exact rest z
  · exact ite_f (by simpa using hk) (rest 0))
theorem cell_of {ns : List Int} {k : Int} {μ : Mu} {Q : Pst} {X : Xst} (h0 : 0 ≤ k) (h1 : k ≤ 100) (q : ∀ n : Int, 0 ≤ n → n.natAbs < 2 ^ 200 → Q (.int n) μ) : S_law_cell [.lst (ns.map .int), .int k] μ Q X := ⟨ns, k, rfl, rfl, h0, h1, q⟩
def S_law_frac : DSp := sp2 fun x y μ Q _ => ∃ t b : Int, x = .int t ∧ y = .int b ∧ b ≠ 0 ∧ Q (frD t b) μ
def N_law_frac : List Str := ["_law_top", "_law_bottom", "_law_one", "_law_other"]
def m_law_frac_4 : MB := (.cons (.ret (.tup (.cons (.bin .fdiv (.var 0) (.var 2)) (.cons (.bin .fdiv (.var 1) (.var 2)) .nil)))) .nil)
def m_law_frac_3a : MB := (.cons (.asg (.name 2) (.bin .sub (.int 0) (.var 2))) .nil)
def m_law_frac_3 : MB := (.cons (.ite (.cmp .lt (.var 1) (.int 0)) m_law_frac_3a .nil) m_law_frac_4)
def m_law_frac_2a : MB := (.cons (.par 2 3 (.var 3) (.bin .mod (.var 2) (.var 3))) .nil)
def m_law_frac_2 : MB := (.cons (.whl (.cmp .gt (.var 3) (.int 0)) m_law_frac_2a) m_law_frac_3)
def m_law_frac_1 : MB := (.cons (.asg (.name 3) (.bl1 .abs (.var 1))) m_law_frac_2)
def m_law_frac : MB := (.cons (.asg (.name 2) (.bl1 .abs (.var 0))) m_law_frac_1)
-- slots: 0=_law_top 1=_law_bottom 2=_law_one 3=_law_other
theorem w_law_frac : ∀ ds μ Q X, S_law_frac ds μ Q X → ds.length = 2 ∧ wpB m_law_frac (startD 4 ds) μ (enD Q X) := sp2_of (by
  rintro x y μ Q X ⟨t, b, rfl, rfl, hb, q⟩
  simp only [m_law_frac, wpB, wpS, wpE, wpI, wpA, wpO, wpC, wpL]
  walk_at "dlu"
  simp only [m_law_frac_1, wpB, wpS, wpE, wpI, wpA, wpO, wpC, wpL]
  walk_at "dlu"
  simp only [m_law_frac_2, wpB, wpS, wpE, wpI, wpA, wpO, wpC, wpL]
  walk_at "dlu"
  have fin : ∀ s : Int, s = byI t b → wpB m_law_frac_4 [some (.int t), some (.int b), some (.int s), some (.int 0)] μ (enD Q X) := by
    intro s hs
    have s0 : s ≠ 0 := by rw [hs]; exact byI_ne hb
    simp only [m_law_frac_4, wpB, wpS, wpE, wpI, wpA, wpO, wpC, wpL]
    walk_at "dlu"
    refine ⟨s0, s0, ?_⟩
    rw [hs]
    exact q
  refine whW_by (fun m ρ μ' => ∃ u v : Nat, v = m ∧ ρ = [some (.int t), some (.int b), some (.int u), some (.int v)] ∧ μ = μ' ∧ Nat.gcd u v = Int.gcd t b) ?_ (m := b.natAbs) ⟨t.natAbs, b.natAbs, rfl, rfl, rfl, rfl⟩
  rintro m ρ μ' k ⟨u, v, hm, rfl, rfl, hg⟩ hk
  subst hm
  walk_at "dlu"
  by_cases hv : v = 0
  · subst hv
    refine ite_f (by simp) ?_
    rw [Nat.gcd_zero_right] at hg
    subst hg
    simp only [m_law_frac_3, m_law_frac_3a, wpB, wpS, wpE, wpI, wpA, wpO, wpC, wpL]
    walk_at "dlu"
    by_cases h0 : b < 0
    · refine ite_t (by simpa using h0) (fin _ ?_)
      unfold byI; rw [if_pos h0]
    · refine ite_f (by simpa using h0) (fin _ ?_)
      unfold byI; rw [if_neg h0]
  · refine ite_t (by simp; omega) ?_
    simp only [m_law_frac_2a, wpB, wpS, wpE, wpI, wpA, wpO, wpC, wpL]
    walk_at "dlu"
    refine ⟨by omega, ?_⟩
    rw [fmod_nat]
    exact hk _ _ _ (Nat.mod_lt _ (Nat.pos_of_ne_zero hv)) ⟨v, u % v, rfl, rfl, rfl, by rw [← hg, Nat.gcd_comm u v, Nat.gcd_rec v u, Nat.gcd_comm]⟩)
def S_law_add : DSp := sp2 fun x y μ Q _ => ∃ (a b : Rat) (m n : Nat), x = qD a ∧ y = qD b ∧ szQ m a ∧ szQ n b ∧ m + n ≤ 100000000 ∧ Q (qD (a + b)) μ
def N_law_add : List Str := ["_law_one", "_law_other"]
def m_law_add : MB := (.cons (.ret (.call "_law_frac" S_law_frac (.cons (.bin .add (.bin .mul (.ixc (.var 0) 0) (.ixc (.var 1) 1)) (.bin .mul (.ixc (.var 1) 0) (.ixc (.var 0) 1))) (.cons (.bin .mul (.ixc (.var 0) 1) (.ixc (.var 1) 1)) .nil)))) .nil)
theorem w_law_add : ∀ ds μ Q X, S_law_add ds μ Q X → ds.length = 2 ∧ wpB m_law_add (startD 2 ds) μ (enD Q X) := sp2_of (by
  rintro x y μ Q X ⟨a, b, m, n, rfl, rfl, h1, h2, hb, q⟩
  obtain ⟨k1, k2, k3, k4, k5⟩ := mulq h1 h2 (by omega)
  simp only [m_law_add, wpB, wpS, wpE, wpI, wpA, wpO, wpC, wpL]
  try simp -implicitDefEqProofs only [m_law_add, fD, wpB, wpS, wpE, wpI, wpA, wpO, wpC, wpL, q_AL, startD, enD, List.map_cons, List.map_nil, List.length_cons, List.length_nil, List.replicate, List.cons_append, List.nil_append, Nat.reduceAdd, Nat.reduceSub, MT.slots, wipeD, isiD, forW, lcW, Option.toList_some, Option.toList_none, List.append_nil, List.getElem?_cons_zero, List.getElem?_cons_succ, Option.bind_some, mset_same, mset_mset, if_true, if_false, Bool.false_eq_true, reduceIte, Bool.not_true, Bool.not_false, Bool.true_eq_false, true_and, decide_eq_true_eq, fit_int, fit_bl, fit_non, deq_int, deq_bl]
  refine ⟨k2, k3, k4, _, _, rfl, rfl, mul_ne0 (den_ne a) (den_ne b), ?_⟩
  have e := sumF_q a b
  unfold sumF at e
  rw [frD_eq, e]
  exact q)
theorem ladd_q {a b : Rat} {m n : Nat} {μ : Mu} {Q : Pst} {X : Xst} (h1 : szQ m a) (h2 : szQ n b) (hb : m + n ≤ 100000000) (q : szQ (m + n + 1) (a + b) → Q (qD (a + b)) μ) : S_law_add [qD a, qD b] μ Q X := ⟨a, b, m, n, rfl, rfl, h1, h2, hb, q (szQ_add h1 h2)⟩
def S_law_mul : DSp := sp2 fun x y μ Q _ => ∃ (a b : Rat) (m n : Nat), x = qD a ∧ y = qD b ∧ szQ m a ∧ szQ n b ∧ m + n ≤ 100000000 ∧ Q (qD (a * b)) μ
def N_law_mul : List Str := ["_law_one", "_law_other"]
def m_law_mul : MB := (.cons (.ret (.call "_law_frac" S_law_frac (.cons (.bin .mul (.ixc (.var 0) 0) (.ixc (.var 1) 0)) (.cons (.bin .mul (.ixc (.var 0) 1) (.ixc (.var 1) 1)) .nil)))) .nil)
theorem w_law_mul : ∀ ds μ Q X, S_law_mul ds μ Q X → ds.length = 2 ∧ wpB m_law_mul (startD 2 ds) μ (enD Q X) := sp2_of (by
  rintro x y μ Q X ⟨a, b, m, n, rfl, rfl, h1, h2, hb, q⟩
  obtain ⟨k1, k2, k3, k4, k5⟩ := mulq h1 h2 (by omega)
  simp only [m_law_mul, wpB, wpS, wpE, wpI, wpA, wpO, wpC, wpL]
  try simp -implicitDefEqProofs only [m_law_mul, fD, wpB, wpS, wpE, wpI, wpA, wpO, wpC, wpL, q_AL, startD, enD, List.map_cons, List.map_nil, List.length_cons, List.length_nil, List.replicate, List.cons_append, List.nil_append, Nat.reduceAdd, Nat.reduceSub, MT.slots, wipeD, isiD, forW, lcW, Option.toList_some, Option.toList_none, List.append_nil, List.getElem?_cons_zero, List.getElem?_cons_succ, Option.bind_some, mset_same, mset_mset, if_true, if_false, Bool.false_eq_true, reduceIte, Bool.not_true, Bool.not_false, Bool.true_eq_false, true_and, decide_eq_true_eq, fit_int, fit_bl, fit_non, deq_int, deq_bl]
  refine ⟨k1, k4, _, _, rfl, rfl, mul_ne0 (den_ne a) (den_ne b), ?_⟩
  have e := timesF_q a b
  unfold timesF at e
  rw [frD_eq, e]
  exact q)
theorem lmul_q {a b : Rat} {m n : Nat} {μ : Mu} {Q : Pst} {X : Xst} (h1 : szQ m a) (h2 : szQ n b) (hb : m + n ≤ 100000000) (q : szQ (m + n) (a * b) → Q (qD (a * b)) μ) : S_law_mul [qD a, qD b] μ Q X := ⟨a, b, m, n, rfl, rfl, h1, h2, hb, q (szQ_mul h1 h2)⟩
def S_law_sub : DSp := sp2 fun x y μ Q _ => ∃ (a b : Rat) (m n : Nat), x = qD a ∧ y = qD b ∧ szQ m a ∧ szQ n b ∧ m + n ≤ 100000000 ∧ Q (qD (a - b)) μ
def N_law_sub : List Str := ["_law_one", "_law_other"]
def m_law_sub : MB := (.cons (.ret (.call "_law_frac" S_law_frac (.cons (.bin .sub (.bin .mul (.ixc (.var 0) 0) (.ixc (.var 1) 1)) (.bin .mul (.ixc (.var 1) 0) (.ixc (.var 0) 1))) (.cons (.bin .mul (.ixc (.var 0) 1) (.ixc (.var 1) 1)) .nil)))) .nil)
theorem w_law_sub : ∀ ds μ Q X, S_law_sub ds μ Q X → ds.length = 2 ∧ wpB m_law_sub (startD 2 ds) μ (enD Q X) := sp2_of (by
  rintro x y μ Q X ⟨a, b, m, n, rfl, rfl, h1, h2, hb, q⟩
  obtain ⟨k1, k2, k3, k4, k5⟩ := mulq h1 h2 (by omega)
  simp only [m_law_sub, wpB, wpS, wpE, wpI, wpA, wpO, wpC, wpL]
  try simp -implicitDefEqProofs only [m_law_sub, fD, wpB, wpS, wpE, wpI, wpA, wpO, wpC, wpL, q_AL, startD, enD, List.map_cons, List.map_nil, List.length_cons, List.length_nil, List.replicate, List.cons_append, List.nil_append, Nat.reduceAdd, Nat.reduceSub, MT.slots, wipeD, isiD, forW, lcW, Option.toList_some, Option.toList_none, List.append_nil, List.getElem?_cons_zero, List.getElem?_cons_succ, Option.bind_some, mset_same, mset_mset, if_true, if_false, Bool.false_eq_true, reduceIte, Bool.not_true, Bool.not_false, Bool.true_eq_false, true_and, decide_eq_true_eq, fit_int, fit_bl, fit_non, deq_int, deq_bl]
  refine ⟨k2, k3, k4, _, _, rfl, rfl, mul_ne0 (den_ne a) (den_ne b), ?_⟩
  have e := lessF_q a b
  unfold lessF at e
  rw [frD_eq, e]
  exact q)
theorem lsub_q {a b : Rat} {m n : Nat} {μ : Mu} {Q : Pst} {X : Xst} (h1 : szQ m a) (h2 : szQ n b) (hb : m + n ≤ 100000000) (q : szQ (m + n + 1) (a - b) → Q (qD (a - b)) μ) : S_law_sub [qD a, qD b] μ Q X := ⟨a, b, m, n, rfl, rfl, h1, h2, hb, q (szQ_sub h1 h2)⟩

theorem sq0 : szQ 1 (0 : Rat) := ⟨by decide +kernel, by decide +kernel⟩
theorem sq1 : szQ 1 (1 : Rat) := ⟨by decide +kernel, by decide +kernel⟩
end Dl

namespace Dl
open PySem L2 PyProof.Rows
local macro_rules | `(tactic| walk_at "dlu") => `(tactic| try simp -implicitDefEqProofs only [wpB, wpS, wpE, wpI, wpA, wpO, wpC, wpL, q_AL, startD, enD, List.map_cons, List.map_nil, List.length_cons, List.length_nil, List.replicate, List.cons_append, List.nil_append, Nat.reduceAdd, Nat.reduceSub, MT.slots, wipeD, isiD, Option.toList_some, Option.toList_none, List.append_nil, List.getElem?_cons_zero, List.getElem?_cons_succ, Option.bind_some, mset_same, mset_mset, if_true, if_false, Bool.false_eq_true, reduceIte, Bool.not_true, Bool.not_false, Bool.true_eq_false, true_and, decide_eq_true_eq, fit_int, fit_bl, fit_non, deq_int, deq_bl])
local macro_rules | `(tactic| walk_at "dlv") => `(tactic| simp -implicitDefEqProofs only [wpB, wpS, wpE, wpI, wpA, wpO, wpC, wpL, q_AL, startD, enD, List.map_cons, List.map_nil, List.length_cons, List.length_nil, List.replicate, List.cons_append, List.nil_append, Nat.reduceAdd, Nat.reduceSub, MT.slots, wipeD, isiD, Option.toList_some, Option.toList_none, List.append_nil, List.getElem?_cons_zero, List.getElem?_cons_succ, Option.bind_some, mset_same, mset_mset, if_true, if_false, Bool.false_eq_true, reduceIte, Bool.not_true, Bool.not_false, Bool.true_eq_false, true_and, decide_eq_true_eq, fit_int, fit_bl, fit_non, deq_int, deq_bl])
local macro_rules | `(tactic| walk_at "szb") => `(tactic| first | assumption | exact szm (by walk_at "szb") (by walk_at "szb") | exact sza (by walk_at "szb") (by walk_at "szb") | exact szs (by walk_at "szb") (by walk_at "szb") | exact szn (by walk_at "szb") | exact Nat.lt_two_pow_self)
local macro_rules | `(tactic| walk_at "shw") => `(tactic| first | assumption | exact shw_int (abs_up (by walk_at "szb") (by decide)) (by decide) | exact shw_non (by decide) | exact shw_bl (by decide) | exact shw_lit (k := 6) (by decide) (by decide) | ((first | refine shT1 ?_ (by simp) | refine shT2 ?_ (by simp) | refine shT3 ?_ (by simp) | refine shL1 ?_ (by simp) | refine shL2 ?_ (by simp) | refine shL3 ?_ (by simp)); (simp only [shA, and_true]); (try with_reducible refine And.intro ?_ ?_); (all_goals (try with_reducible refine And.intro ?_ ?_)); (all_goals (try with_reducible refine And.intro ?_ ?_)); (all_goals (try with_reducible refine And.intro ?_ ?_)); (all_goals (try with_reducible refine And.intro ?_ ?_)); (all_goals walk_at "shw")))
/-! tables, their determinants -/
def rowsQ (M : Mx) (n : Nat) : List D := (List.range n).map fun i => .lst ((List.range n).map fun j => qD (M i j))
theorem rowsQ_len (M : Mx) (n : Nat) : (rowsQ M n).length = n := by unfold rowsQ; rw [List.length_map, List.length_range]
theorem rowsQ_at (M : Mx) {n k : Nat} (h : k < n) : L2.atI (rowsQ M n) (k : Int) = some (.lst ((List.range n).map fun j => qD (M k j))) := at_natD (by
  unfold rowsQ
  rw [List.getElem?_map, List.getElem?_range h]; rfl)
theorem rowQ_at (f : Nat → Rat) {n k : Nat} (h : k < n) : L2.atI ((List.range n).map fun j => qD (f j)) (k : Int) = some (qD (f k)) := at_natD (by
  rw [List.getElem?_map, List.getElem?_range h]; rfl)
theorem rowsQ_set (M : Mx) (n k : Nat) (f : Nat → Rat) : (rowsQ M n).set k (.lst ((List.range n).map fun j => qD (f j))) = rowsQ (upd M k f) n := by
  apply List.ext_getElem?
  intro m
  rw [List.getElem?_set]
  unfold rowsQ
  rw [List.length_map, List.length_range, List.getElem?_map, List.getElem?_map]
  by_cases e : k = m
  · subst e
    rw [if_pos rfl]
    by_cases h : k < n
    · rw [if_pos h, List.getElem?_range h]
      show _ = some (D.lst _)
      congr 3
      funext j
      rw [upd_same]
    · rw [if_neg h, List.getElem?_eq_none (by rw [List.length_range]; omega)]; rfl
  · rw [if_neg e]
    by_cases h : m < n
    · rw [List.getElem?_range h]
      show some (D.lst _) = some (D.lst _)
      congr 3
      funext j
      rw [upd_ne _ _ (Ne.symm e)]
    · rw [List.getElem?_eq_none (by rw [List.length_range]; omega)]; rfl
theorem ixN_natT {n k : Nat} (h : k < n) : L2.ixN n (k : Int) = some k := by
  unfold L2.ixN
  rw [if_pos (by omega), if_pos (by omega)]
  simp
theorem zipD_map (f g : Nat → D) (n : Nat) : zipD ((List.range n).map f) ((List.range n).map g) = (List.range n).map fun j => D.tup [f j, g j] := by
  unfold zipD
  rw [List.zipWith_map, List.zipWith_self]
theorem dg_ne {M : Mx} : ∀ t, (∀ i < t, M i i ≠ 0) → dgP t M ≠ 0
  | 0, _ => by show (1 : Rat) ≠ 0; decide +kernel
  | t + 1, h => rmul_ne (dg_ne t fun i hi => h i (by omega)) (h t (by omega))
theorem wv_el {n t : Nat} {T M : Mx} {v : Rat} (tn : t < n) (h : v * dtM n T = dgP t T * dtM n M) : v * T t t * dtM n (elA T t n) = dgP (t + 1) (elA T t n) * dtM n M := by
  rw [dt_elA T tn n tn (Nat.le_refl n), dgP, elA_self, dg_congr t (M := elA T t n) (N := T) fun i hi => by unfold elA; rw [if_neg (by omega)]]
  grind
theorem wv_sw {n t a : Nat} {T M : Mx} {v : Rat} (ta : t ≤ a) (an : a < n) (ne : a ≠ t) (h : v * dtM n T = dgP t T * dtM n M) : (0 - v) * dtM n (swpM T a t) = dgP t (swpM T a t) * dtM n M := by
  rw [dt_sw T an (by omega) ne, dg_congr t (M := swpM T a t) (N := T) fun i hi => by unfold swpM; rw [upd_ne _ _ (by omega), upd_ne _ _ (by omega)]]
  grind
theorem wv_no {n t : Nat} {T M : Mx} {v : Rat} (h : v * dtM n T = dgP t T * dtM n M) (st : Stp n t T) (z : dtM n T = 0) : dtM n M = 0 := by
  rw [z] at h
  exact (Rat.mul_eq_zero.mp (show dgP t T * dtM n M = 0 by rw [← h]; grind)).resolve_left (dg_ne t st.dg)
theorem wv_end {n : Nat} {T M : Mx} {v : Rat} (h : v * dtM n T = dgP n T * dtM n M) (st : Stp n n T) : v = dtM n M := by
  rw [dt_stp st] at h
  have := dg_ne n st.dg
  grind
/-- a list of such items, that may change or not -/
def isTb (x : D) (L : List D) (μ : Mu) : Prop := x = .lst L ∨ ∃ p, x = .ref p ∧ μ p = some L
def S_worth_of : DSp := sp1 fun x μ Q _ => ∃ (n b : Nat) (M : Mx), isTb x (rowsQ M n) μ ∧ n ≤ 12 ∧ bdM n b M ∧ 2 ^ n * (b + 1) ≤ 10500000 ∧ ∀ μ', exM μ μ' → Q (qD (dtM n M)) μ'
def N_worth_of : List Str := ["rows", "found", "place", "heads", "head", "k", "row", "share", "one", "other"]
def m_worth_of_3 : MB := (.cons (.ret (.var 1)) .nil)
def m_worth_of_2a_5a_1 : MB := (.cons (.setix (.var 0) (.var 5) (.lc false (.tup [8, 9]) (.zip (.ix (.var 0) (.var 5)) (.var 4)) .no (.call "frac_less" S_frac_less (.cons (.var 8) (.cons (.call "frac_times" S_frac_times (.cons (.var 7) (.cons (.var 9) .nil))) .nil))))) .nil)
def m_worth_of_2a_5a : MB := (.cons (.asg (.name 7) (.call "frac_by" S_frac_by (.cons (.ix (.ix (.var 0) (.var 5)) (.var 2)) (.cons (.ix (.var 4) (.var 2)) .nil)))) m_worth_of_2a_5a_1)
def m_worth_of_2a_5 : MB := (.cons (.loop (.name 5) (.rng2 (.bin .add (.var 2) (.int 1)) (.bl1 .len (.var 0))) m_worth_of_2a_5a) .nil)
def m_worth_of_2a_4 : MB := (.cons (.asg (.name 1) (.call "frac_times" S_frac_times (.cons (.var 1) (.cons (.ix (.var 4) (.var 2)) .nil)))) m_worth_of_2a_5)
def m_worth_of_2a_3a_2 : MB := (.cons (.asg (.name 1) (.call "frac_less" S_frac_less (.cons (.glob "NOTHING" (.tup [(.int 0), (.int 1)])) (.cons (.var 1) .nil)))) .nil)
def m_worth_of_2a_3a_1 : MB := (.cons (.setix (.var 0) (.var 2) (.var 4)) m_worth_of_2a_3a_2)
def m_worth_of_2a_3a : MB := (.cons (.setix (.var 0) (.ixc (.var 3) 0) (.ix (.var 0) (.var 2))) m_worth_of_2a_3a_1)
def m_worth_of_2a_3 : MB := (.cons (.ite (.cmp .ne (.ixc (.var 3) 0) (.var 2)) m_worth_of_2a_3a .nil) m_worth_of_2a_4)
def m_worth_of_2a_2 : MB := (.cons (.asg (.name 4) (.ix (.var 0) (.ixc (.var 3) 0))) m_worth_of_2a_3)
def m_worth_of_2a_1a : MB := (.cons (.ret (.glob "NOTHING" (.tup [(.int 0), (.int 1)]))) .nil)
def m_worth_of_2a_1 : MB := (.cons (.ite (.cmp .eq (.bl1 .len (.var 3)) (.int 0)) m_worth_of_2a_1a .nil) m_worth_of_2a_2)
def m_worth_of_2a : MB := (.cons (.asg (.name 3) (.lc false (.name 5) (.rng2 (.var 2) (.bl1 .len (.var 0))) (.so (.cmp .ne (.ix (.ix (.var 0) (.var 5)) (.var 2)) (.glob "NOTHING" (.tup [(.int 0), (.int 1)])))) (.var 5))) m_worth_of_2a_1)
def m_worth_of_2 : MB := (.cons (.loop (.name 2) (.rng1 (.bl1 .len (.var 0))) m_worth_of_2a) m_worth_of_3)
def m_worth_of_1 : MB := (.cons (.asg (.name 1) (.glob "ONE" (.tup [(.int 1), (.int 1)]))) m_worth_of_2)
def m_worth_of : MB := (.cons (.asg (.name 0) (.lcr true (.name 6) (.var 0) .no (.bl1 .list (.var 6)))) m_worth_of_1)
-- slots: 0=rows 1=found 2=place 3=heads 4=head 5=k 6=row 7=share 8=one 9=other
theorem w_worth_of : ∀ ds μ Q X, S_worth_of ds μ Q X → ds.length = 1 ∧ wpB m_worth_of (startD 10 ds) μ (enD Q X) := sp1_of (by
  rintro x μ Q X ⟨n, b, M, hx, hn, bd, hb, q⟩
  have fst : ∀ p, μ p = none → wpB m_worth_of_1 [some (.ref p), none, none, none, none, none, none, none, none, none] (mset μ p (rowsQ M n)) (enD Q X) := by
    intro p hp
    simp only [m_worth_of_1, wpB, wpS, wpE, wpI, wpA, wpO, wpC, wpL]
    walk_at "dlu"
    rw [q_one]
    simp only [m_worth_of_2, wpB, wpS, wpE, wpI, wpA, wpO, wpC, wpL]
    try simp -implicitDefEqProofs only [m_worth_of_2, mset_same, wpB, wpS, wpE, wpI, wpA, wpO, wpC, wpL, q_AL, startD, enD, List.map_cons, List.map_nil, List.length_cons, List.length_nil, List.replicate, List.cons_append, List.nil_append, Nat.reduceAdd, Nat.reduceSub, MT.slots, wipeD, isiD, Option.toList_some, Option.toList_none, List.append_nil, List.getElem?_cons_zero, List.getElem?_cons_succ, Option.bind_some, mset_same, mset_mset, if_true, if_false, Bool.false_eq_true, reduceIte, Bool.not_true, Bool.not_false, Bool.true_eq_false, true_and, decide_eq_true_eq, fit_int, fit_bl, fit_non, deq_int, deq_bl]
    rw [rowsQ_len]
    refine ⟨by omega, ?_⟩
    rw [Int.toNat_natCast]
    refine forW_by (fun ds ρ μ' => ∃ (t r : Nat) (T : Mx) (v : Rat) (y2 y3 y4 y5 y6 y7 y8 y9 : Option D), t + r = n ∧ ds = rngD (t : Int) r ∧ μ' = mset μ p (rowsQ T n) ∧ v * dtM n T = dgP t T * dtM n M ∧ Stp n t T ∧ bdM n (2 ^ t * (b + 1) - 1) T ∧ v ≠ 0 ∧ szQ (2 ^ t * (b + 1) + 3 * t) v ∧ ρ = [some (.ref p), some (qD v), y2, y3, y4, y5, y6, y7, y8, y9]) ?_ ?_ _ _ _ ⟨0, n, M, 1, _, _, _, _, _, _, _, _, by omega, rfl, rfl, by rw [show dgP 0 M = 1 from rfl], ⟨fun _ h => absurd h (by omega), fun _ _ _ h => absurd h (by omega)⟩, bd.up (by omega), by decide +kernel, (sq1.up (by omega)), rfl⟩
    · rintro d ds ρ μ1 kk ⟨t, r, T, v, y2, y3, y4, y5, y6, y7, y8, y9, ht, hd, rfl, hS, hT, bT, v0, sv, rfl⟩ hk
      cases r with
      | zero => cases hd
      | succ r =>
      rw [rngD_cons] at hd
      obtain ⟨rfl, rfl⟩ := List.cons.inj hd
      have tn : t < n := by omega
      have pw : 2 ^ (t + 1) * (b + 1) ≤ 2 ^ n * (b + 1) := Nat.mul_le_mul_right _ (Nat.pow_le_pow_right (by decide) (by omega))
      have pw2 : 2 ^ (t + 1) * (b + 1) = 2 * (2 ^ t * (b + 1)) := by rw [Nat.pow_succ]; grind
      have pw1 : 1 ≤ 2 ^ t * (b + 1) := Nat.mul_pos (Nat.two_pow_pos t) (by omega)
      simp only [m_worth_of_2a, wpB, wpS, wpE, wpI, wpA, wpO, wpC, wpL]
      try simp -implicitDefEqProofs only [m_worth_of_2a, mset_same, wpB, wpS, wpE, wpI, wpA, wpO, wpC, wpL, q_AL, startD, enD, List.map_cons, List.map_nil, List.length_cons, List.length_nil, List.replicate, List.cons_append, List.nil_append, Nat.reduceAdd, Nat.reduceSub, MT.slots, wipeD, isiD, Option.toList_some, Option.toList_none, List.append_nil, List.getElem?_cons_zero, List.getElem?_cons_succ, Option.bind_some, mset_same, mset_mset, if_true, if_false, Bool.false_eq_true, reduceIte, Bool.not_true, Bool.not_false, Bool.true_eq_false, true_and, decide_eq_true_eq, fit_int, fit_bl, fit_non, deq_int, deq_bl]
      rw [rowsQ_len]
      refine ⟨by omega, ?_⟩
      rw [show ((n : Int) - (t : Int)).toNat = n - t by omega]
      refine ⟨by simp [rngD]; omega, ?_⟩
      have sel : ∀ {k : Nat}, k < n → L2.atI (rowsQ T n) (k : Int) = some (.lst ((List.range n).map fun j => qD (T k j))) := fun h => rowsQ_at T h
      refine lcW_filter (fun d => match d with | .int k => decide (T k.toNat t ≠ 0) | _ => false) _ _ (fun d hd' k hk' => ?_) [] ?_
      · obtain ⟨j, rfl, j0, j1⟩ := rngD_mem hd'
        obtain ⟨j, rfl⟩ := Int.eq_ofNat_of_zero_le (show 0 ≤ j by omega)
        have jn : j < n := by omega
        simp -implicitDefEqProofs only [mset_same, Option.bind_some, sel jn, wpB, wpS, wpE, wpI, wpA, wpO, wpC, wpL, q_AL, startD, enD, List.map_cons, List.map_nil, List.length_cons, List.length_nil, List.replicate, List.cons_append, List.nil_append, Nat.reduceAdd, Nat.reduceSub, MT.slots, wipeD, isiD, Option.toList_some, Option.toList_none, List.append_nil, List.getElem?_cons_zero, List.getElem?_cons_succ, Option.bind_some, mset_same, mset_mset, if_true, if_false, Bool.false_eq_true, reduceIte, Bool.not_true, Bool.not_false, Bool.true_eq_false, true_and, decide_eq_true_eq, fit_int, fit_bl, fit_non, deq_int, deq_bl]
        rw [rowQ_at (T j) tn]
        walk_at "dlv"
        rw [q_zero]
        refine ⟨fit_q _ _, fit_q _ _, ?_⟩
        rw [deq_q]
        simp only [Int.toNat_natCast] at hk'
        by_cases h : T j t = 0
        · refine ite_f (by simp [h]) ?_
          simpa [h] using hk'
        · refine ite_t (by simp [h]) ?_
          simpa [h] using hk'
      -- the heads
      rw [List.nil_append]
      walk_at "dlu"
      have hf : ∀ (L : List D), L = (rngD (t : Int) (n - t)).filter (fun d => match d with | .int k => decide (T k.toNat t ≠ 0) | _ => false) → (L = [] ∧ ∀ i, t ≤ i → i < n → T i t = 0) ∨ (∃ (a : Nat) (L' : List D), L = .int a :: L' ∧ t ≤ a ∧ a < n ∧ T a t ≠ 0) := by
        rintro L rfl
        cases e : (rngD (t : Int) (n - t)).filter (fun d => match d with | .int k => decide (T k.toNat t ≠ 0) | _ => false) with
        | nil =>
          refine .inl ⟨rfl, fun i h1 h2 => ?_⟩
          apply Classical.byContradiction
          intro h
          have : D.int (i : Int) ∈ (rngD (t : Int) (n - t)).filter (fun d => match d with | .int k => decide (T k.toNat t ≠ 0) | _ => false) := by
            refine List.mem_filter.mpr ⟨?_, by simpa using h⟩
            unfold rngD
            exact List.mem_map.mpr ⟨i - t, List.mem_range.mpr (by omega), by congr 1; omega⟩
          rw [e] at this
          cases this
        | cons x L' =>
          have hx : x ∈ (rngD (t : Int) (n - t)).filter (fun d => match d with | .int k => decide (T k.toNat t ≠ 0) | _ => false) := by rw [e]; exact List.mem_cons_self
          obtain ⟨h1, h2⟩ := List.mem_filter.mp hx
          obtain ⟨j, rfl, j0, j1⟩ := rngD_mem h1
          obtain ⟨j, rfl⟩ := Int.eq_ofNat_of_zero_le (show 0 ≤ j by omega)
          exact .inr ⟨j, L', rfl, by omega, by omega, by simpa using h2⟩
      generalize (rngD (t : Int) (n - t)).filter _ = L at *
      simp only [m_worth_of_2a_1, m_worth_of_2a_1a, wpB, wpS, wpE, wpI, wpA, wpO, wpC, wpL]
      walk_at "dlu"
      rcases hf L rfl with ⟨rfl, hz⟩ | ⟨a, L', rfl, ta, an, a0⟩
      · refine ite_t (by simp) ?_
        rw [q_zero]
        rw [wv_no hS hT (dt_none tn hT hz)] at q
        exact q _ ((exM.refl μ).new hp)
      refine ite_f (by simp; omega) ?_
      simp only [m_worth_of_2a_2, wpB, wpS, wpE, wpI, wpA, wpO, wpC, wpL]
      try simp -implicitDefEqProofs only [m_worth_of_2a_2, mset_same, Option.bind_some, List.getElem?_cons_zero, sel an, wpB, wpS, wpE, wpI, wpA, wpO, wpC, wpL, q_AL, startD, enD, List.map_cons, List.map_nil, List.length_cons, List.length_nil, List.replicate, List.cons_append, List.nil_append, Nat.reduceAdd, Nat.reduceSub, MT.slots, wipeD, isiD, Option.toList_some, Option.toList_none, List.append_nil, List.getElem?_cons_zero, List.getElem?_cons_succ, Option.bind_some, mset_same, mset_mset, if_true, if_false, Bool.false_eq_true, reduceIte, Bool.not_true, Bool.not_false, Bool.true_eq_false, true_and, decide_eq_true_eq, fit_int, fit_bl, fit_non, deq_int, deq_bl]
      -- from the product on
      have rest : ∀ (T' : Mx) (v' : Rat), v' * dtM n T' = dgP t T' * dtM n M → Stp n t T' → bdM n (2 ^ t * (b + 1) - 1) T' → T' t t ≠ 0 → v' ≠ 0 → szQ (2 ^ t * (b + 1) + 3 * t + 2) v' → (∀ j, T' t j = T a j) →
          wpB m_worth_of_2a_4 [some (.ref p), some (qD v'), some (.int t), some (.lst (.int a :: L')), some (.lst ((List.range n).map fun j => qD (T a j))), y5, y6, y7, y8, y9] (mset μ p (rowsQ T' n)) { enD Q X with nx := kk, bk := fun ρ1 μ1 => wpB m_worth_of_3 ρ1 μ1 (enD Q X), ct := kk } := by
        intro T' v' hS' hT' bT' d0 v0' sv' hrow
        rw [show (List.range n).map (fun j => qD (T a j)) = (List.range n).map (fun j => qD (T' t j)) by
          refine List.map_congr_left fun j _ => ?_
          rw [hrow j]]
        have sE : ∀ {i j : Nat}, i < n → j < n → szQ (2 ^ t * (b + 1)) (T' i j) := fun h1 h2 => (bT'.sz h1 h2).up (by omega)
        simp only [m_worth_of_2a_4, wpB, wpS, wpE, wpI, wpA, wpO, wpC, wpL]
        walk_at "dlu"
        rw [rowQ_at (T' t) tn]
        walk_at "dlu"
        refine times_q sv' (sE tn tn) (by omega) (by omega) fun sv2 => ?_
        have v2n : v' * T' t t ≠ 0 := rmul_ne v0' d0
        generalize ev : v' * T' t t = v2 at *
        simp only [m_worth_of_2a_5, wpB, wpS, wpE, wpI, wpA, wpO, wpC, wpL]
        try simp -implicitDefEqProofs only [m_worth_of_2a_5, mset_same, wpB, wpS, wpE, wpI, wpA, wpO, wpC, wpL, q_AL, startD, enD, List.map_cons, List.map_nil, List.length_cons, List.length_nil, List.replicate, List.cons_append, List.nil_append, Nat.reduceAdd, Nat.reduceSub, MT.slots, wipeD, isiD, Option.toList_some, Option.toList_none, List.append_nil, List.getElem?_cons_zero, List.getElem?_cons_succ, Option.bind_some, mset_same, mset_mset, if_true, if_false, Bool.false_eq_true, reduceIte, Bool.not_true, Bool.not_false, Bool.true_eq_false, true_and, decide_eq_true_eq, fit_int, fit_bl, fit_non, deq_int, deq_bl]
        rw [rowsQ_len]
        refine ⟨by omega, ?_⟩
        rw [show ((n : Int) - ((t : Int) + 1)).toNat = n - (t + 1) by omega]
        refine forW_by (fun ds ρ μ' => ∃ (k r : Nat) (y5 y7 y8 y9 : Option D), k + r = n ∧ t < k ∧ ds = rngD (k : Int) r ∧ μ' = mset μ p (rowsQ (elA T' t k) n) ∧ ρ = [some (.ref p), some (qD v2), some (.int t), some (.lst (.int a :: L')), some (.lst ((List.range n).map fun j => qD (T' t j))), y5, y6, y7, y8, y9]) ?_ ?_ _ _ _ ⟨t + 1, n - (t + 1), _, _, _, _, by omega, by omega, by rw [Int.natCast_succ], by rw [elA_zero], rfl⟩
        · rintro d ds2 ρ μ2 k2 ⟨k, r2, y5, y7, y8, y9, hk2, tk, hd2, rfl, rfl⟩ hk3
          cases r2 with
          | zero => cases hd2
          | succ r2 =>
          rw [rngD_cons] at hd2
          obtain ⟨rfl, rfl⟩ := List.cons.inj hd2
          have kn : k < n := by omega
          have ek : ∀ j, elA T' t k k j = T' k j := fun j => elA_ge T' (Nat.le_refl k) j
          simp only [m_worth_of_2a_5a, wpB, wpS, wpE, wpI, wpA, wpO, wpC, wpL]
          try simp -implicitDefEqProofs only [m_worth_of_2a_5a, mset_same, Option.bind_some, rowsQ_at (elA T' t k) kn, wpB, wpS, wpE, wpI, wpA, wpO, wpC, wpL, q_AL, startD, enD, List.map_cons, List.map_nil, List.length_cons, List.length_nil, List.replicate, List.cons_append, List.nil_append, Nat.reduceAdd, Nat.reduceSub, MT.slots, wipeD, isiD, Option.toList_some, Option.toList_none, List.append_nil, List.getElem?_cons_zero, List.getElem?_cons_succ, Option.bind_some, mset_same, mset_mset, if_true, if_false, Bool.false_eq_true, reduceIte, Bool.not_true, Bool.not_false, Bool.true_eq_false, true_and, decide_eq_true_eq, fit_int, fit_bl, fit_non, deq_int, deq_bl]
          rw [rowQ_at (elA T' t k k) tn, rowQ_at (T' t) tn, ek]
          walk_at "dlu"
          refine by_q (sE kn tn) (sE tn tn) (by omega) (by omega) d0 fun s1 => ?_
          simp only [m_worth_of_2a_5a_1, wpB, wpS, wpE, wpI, wpA, wpO, wpC, wpL]
          try simp -implicitDefEqProofs only [m_worth_of_2a_5a_1, mset_same, Option.bind_some, rowsQ_at (elA T' t k) kn, wpB, wpS, wpE, wpI, wpA, wpO, wpC, wpL, q_AL, startD, enD, List.map_cons, List.map_nil, List.length_cons, List.length_nil, List.replicate, List.cons_append, List.nil_append, Nat.reduceAdd, Nat.reduceSub, MT.slots, wipeD, isiD, Option.toList_some, Option.toList_none, List.append_nil, List.getElem?_cons_zero, List.getElem?_cons_succ, Option.bind_some, mset_same, mset_mset, if_true, if_false, Bool.false_eq_true, reduceIte, Bool.not_true, Bool.not_false, Bool.true_eq_false, true_and, decide_eq_true_eq, fit_int, fit_bl, fit_non, deq_int, deq_bl]
          rw [zipD_map]
          refine ⟨by rw [List.length_map, List.length_range]; omega, ?_⟩
          have e1 : ((List.range n).map fun j => D.tup [qD (elA T' t k k j), qD (T' t j)]) = (List.range n).map fun j => D.tup [qD (T' k j), qD (T' t j)] := List.map_congr_left fun j _ => by rw [ek]
          rw [e1]
          refine lcW_by (fun ds acc μ' => ∃ (j r : Nat), j + r = n ∧ ds = ((List.range n).drop j).map (fun j => D.tup [qD (T' k j), qD (T' t j)]) ∧ acc = (List.range j).map (fun j => qD (T' k j - T' k t / T' t t * T' t j)) ∧ μ' = mset μ p (rowsQ (elA T' t k) n)) ?_ ?_ _ _ _ ⟨0, n, by omega, by simp, rfl, rfl⟩
          · rintro d ds3 acc μ3 k3 ⟨j, r3, hj, hd3, rfl, rfl⟩ hk4
            cases r3 with
            | zero =>
              have : j = n := by omega
              subst this
              rw [List.drop_of_length_le (by rw [List.length_range]; exact Nat.le_refl _)] at hd3
              cases hd3
            | succ r3 =>
            have jn : j < n := by omega
            rw [List.drop_eq_getElem_cons (by rw [List.length_range]; exact jn), List.map_cons] at hd3
            obtain ⟨e, e'⟩ := List.cons.inj hd3
            rw [List.getElem_range] at e
            subst e
            walk_at "dlu"
            refine times_q s1 (sE tn jn) (by omega) (by omega) fun s2 => ?_
            refine less_q (sE kn jn) s2 (by omega) (by omega) fun _ => ?_
            refine hk4 _ _ ⟨j + 1, r3, by omega, e', ?_, rfl⟩
            rw [List.range_succ, List.map_append]; rfl
          · rintro acc μ3 ⟨j, r3, hj, hd3, rfl, rfl⟩
            have : j = n := by
              apply Classical.byContradiction
              intro h
              have jn : j < n := by omega
              rw [List.drop_eq_getElem_cons (by rw [List.length_range]; exact jn)] at hd3
              cases hd3
            subst this
            simp -implicitDefEqProofs only [mset_same, wpB, wpS, wpE, wpI, wpA, wpO, wpC, wpL, q_AL, startD, enD, List.map_cons, List.map_nil, List.length_cons, List.length_nil, List.replicate, List.cons_append, List.nil_append, Nat.reduceAdd, Nat.reduceSub, MT.slots, wipeD, isiD, Option.toList_some, Option.toList_none, List.append_nil, List.getElem?_cons_zero, List.getElem?_cons_succ, Option.bind_some, mset_same, mset_mset, if_true, if_false, Bool.false_eq_true, reduceIte, Bool.not_true, Bool.not_false, Bool.true_eq_false, true_and, decide_eq_true_eq, fit_int, fit_bl, fit_non, deq_int, deq_bl]
            refine ⟨k, by rw [rowsQ_len]; exact ixN_natT kn, ?_⟩
            rw [rowsQ_set]
            try rw [mset_mset]
            rw [← elA_succ T' tk]
            exact hk3 _ _ ⟨k + 1, r2, _, _, _, _, by omega, by omega, by rw [Int.natCast_succ], rfl, rfl⟩
        · rintro ρ μ2 ⟨k, r2, y5, y7, y8, y9, hk2, tk, hd2, rfl, rfl⟩
          cases r2 with
          | succ r2 => rw [rngD_cons] at hd2; cases hd2
          | zero =>
          have : k = n := by omega
          subst this
          refine hk _ _ ⟨t + 1, r, elA T' t k, v2, _, _, _, _, _, _, _, _, by omega, by rw [Int.natCast_succ], rfl, by rw [← ev]; exact wv_el tn hS', stp_el tn hT' d0, (elA_bd bT' tn k d0).up (by omega), v2n, sv2.up (by omega), rfl⟩
      simp only [m_worth_of_2a_3, wpB, wpS, wpE, wpI, wpA, wpO, wpC, wpL]
      try simp -implicitDefEqProofs only [m_worth_of_2a_3, List.getElem?_cons_zero, wpB, wpS, wpE, wpI, wpA, wpO, wpC, wpL, q_AL, startD, enD, List.map_cons, List.map_nil, List.length_cons, List.length_nil, List.replicate, List.cons_append, List.nil_append, Nat.reduceAdd, Nat.reduceSub, MT.slots, wipeD, isiD, Option.toList_some, Option.toList_none, List.append_nil, List.getElem?_cons_zero, List.getElem?_cons_succ, Option.bind_some, mset_same, mset_mset, if_true, if_false, Bool.false_eq_true, reduceIte, Bool.not_true, Bool.not_false, Bool.true_eq_false, true_and, decide_eq_true_eq, fit_int, fit_bl, fit_non, deq_int, deq_bl]
      by_cases e : a = t
      · subst e
        refine ite_f (by simp) ?_
        exact rest T v hS hT bT a0 v0 (sv.up (by omega)) fun _ => rfl
      · refine ite_t (by simp; omega) ?_
        simp only [m_worth_of_2a_3a, wpB, wpS, wpE, wpI, wpA, wpO, wpC, wpL]
        try simp -implicitDefEqProofs only [m_worth_of_2a_3a, mset_same, Option.bind_some, List.getElem?_cons_zero, sel tn, wpB, wpS, wpE, wpI, wpA, wpO, wpC, wpL, q_AL, startD, enD, List.map_cons, List.map_nil, List.length_cons, List.length_nil, List.replicate, List.cons_append, List.nil_append, Nat.reduceAdd, Nat.reduceSub, MT.slots, wipeD, isiD, Option.toList_some, Option.toList_none, List.append_nil, List.getElem?_cons_zero, List.getElem?_cons_succ, Option.bind_some, mset_same, mset_mset, if_true, if_false, Bool.false_eq_true, reduceIte, Bool.not_true, Bool.not_false, Bool.true_eq_false, true_and, decide_eq_true_eq, fit_int, fit_bl, fit_non, deq_int, deq_bl]
        refine ⟨a, by rw [rowsQ_len]; exact ixN_natT an, ?_⟩
        rw [rowsQ_set]
        try rw [mset_mset]
        simp only [m_worth_of_2a_3a_1, wpB, wpS, wpE, wpI, wpA, wpO, wpC, wpL]
        try simp -implicitDefEqProofs only [m_worth_of_2a_3a_1, mset_same, wpB, wpS, wpE, wpI, wpA, wpO, wpC, wpL, q_AL, startD, enD, List.map_cons, List.map_nil, List.length_cons, List.length_nil, List.replicate, List.cons_append, List.nil_append, Nat.reduceAdd, Nat.reduceSub, MT.slots, wipeD, isiD, Option.toList_some, Option.toList_none, List.append_nil, List.getElem?_cons_zero, List.getElem?_cons_succ, Option.bind_some, mset_same, mset_mset, if_true, if_false, Bool.false_eq_true, reduceIte, Bool.not_true, Bool.not_false, Bool.true_eq_false, true_and, decide_eq_true_eq, fit_int, fit_bl, fit_non, deq_int, deq_bl]
        refine ⟨t, by rw [rowsQ_len]; exact ixN_natT tn, ?_⟩
        rw [rowsQ_set]
        try rw [mset_mset]
        simp only [m_worth_of_2a_3a_2, wpB, wpS, wpE, wpI, wpA, wpO, wpC, wpL]
        walk_at "dlu"
        rw [q_zero]
        refine less_q sq0 sv (by omega) (by omega) fun sv2 => ?_
        have e1 : ∀ j, swpM T a t t j = T a j := fun j => upd_same ..
        refine rest (swpM T a t) (0 - v) (wv_sw ta an e hS) (stp_sw hT ta an tn) (bT.sw an tn) (by rw [e1]; exact a0) (by grind) (sv2.up (by omega)) e1
    · rintro ρ μ1 ⟨t, r, T, v, y2, y3, y4, y5, y6, y7, y8, y9, ht, hd, rfl, hS, hT, bT, v0, sv, rfl⟩
      cases r with
      | succ r => rw [rngD_cons] at hd; cases hd
      | zero =>
      have : t = n := by omega
      subst this
      simp only [m_worth_of_3, wpB, wpS, wpE, wpI, wpA, wpO, wpC, wpL]
      walk_at "dlu"
      rw [wv_end hS hT]
      exact q _ ((exM.refl μ).new hp)
  rcases hx with rfl | ⟨p0, rfl, hp0⟩
  · simp -implicitDefEqProofs only [m_worth_of, wpB, wpS, wpE, wpI, wpA, wpO, wpC, wpL, q_AL, startD, enD, List.map_cons, List.map_nil, List.length_cons, List.length_nil, List.replicate, List.cons_append, List.nil_append, Nat.reduceAdd, Nat.reduceSub, MT.slots, wipeD, isiD, Option.toList_some, Option.toList_none, List.append_nil, List.getElem?_cons_zero, List.getElem?_cons_succ, Option.bind_some, mset_same, mset_mset, if_true, if_false, Bool.false_eq_true, reduceIte, Bool.not_true, Bool.not_false, Bool.true_eq_false, true_and, decide_eq_true_eq, fit_int, fit_bl, fit_non, deq_int, deq_bl]
    refine ⟨by rw [rowsQ_len]; omega, ?_⟩
    refine lcW_map id _ _ (fun d hd k hk => ?_) [] ?_
    · unfold rowsQ at hd
      obtain ⟨i, _, rfl⟩ := List.mem_map.mp hd
      walk_at "dlu"
      exact hk
    rw [List.map_id, List.nil_append]
    walk_at "dlu"
    exact fst
  · simp -implicitDefEqProofs only [m_worth_of, hp0, wpB, wpS, wpE, wpI, wpA, wpO, wpC, wpL, q_AL, startD, enD, List.map_cons, List.map_nil, List.length_cons, List.length_nil, List.replicate, List.cons_append, List.nil_append, Nat.reduceAdd, Nat.reduceSub, MT.slots, wipeD, isiD, Option.toList_some, Option.toList_none, List.append_nil, List.getElem?_cons_zero, List.getElem?_cons_succ, Option.bind_some, mset_same, mset_mset, if_true, if_false, Bool.false_eq_true, reduceIte, Bool.not_true, Bool.not_false, Bool.true_eq_false, true_and, decide_eq_true_eq, fit_int, fit_bl, fit_non, deq_int, deq_bl]
    refine ⟨by rw [rowsQ_len]; omega, ?_⟩
    refine lcW_map id _ _ (fun d hd k hk => ?_) [] ?_
    · unfold rowsQ at hd
      obtain ⟨i, _, rfl⟩ := List.mem_map.mp hd
      walk_at "dlu"
      exact ⟨hp0, hk⟩
    rw [List.map_id, List.nil_append]
    walk_at "dlu"
    exact ⟨hp0, fst⟩)
theorem wrt_by {n b : Nat} {M : Mx} {x : D} {μ : Mu} {Q : Pst} {X : Xst} (hx : isTb x (rowsQ M n) μ) (hn : n ≤ 12) (bd : bdM n b M) (hb : 2 ^ n * (b + 1) ≤ 10500000) (q : ∀ μ', exM μ μ' → Q (qD (dtM n M)) μ') : S_worth_of [x] μ Q X := ⟨n, b, M, hx, hn, bd, hb, q⟩
def S_look_at_table : DSp := sp1 fun x μ Q _ => ∃ (n : Nat) (M : Mx), isTb x (rowsQ M n) μ ∧ n ≤ 12 ∧ Q .non μ
def N_look_at_table : List Str := ["rows", "row", "part"]
def m_look_at_table_1a_1a_0a : MB := (.cons (.rais 2) .nil)
def m_look_at_table_1a_1a : MB := (.cons (.ite (.nt (.call "is_fraction" S_is_fraction (.cons (.var 2) .nil))) m_look_at_table_1a_1a_0a .nil) .nil)
def m_look_at_table_1a_1 : MB := (.cons (.loop (.name 2) (.seq (.var 1)) m_look_at_table_1a_1a) .nil)
def m_look_at_table_1a_0a : MB := (.cons (.rais 2) .nil)
def m_look_at_table_1a : MB := (.cons (.ite (.bop false (.cons (.nt (.isi (.var 1) .list)) (.cons (.cmp .ne (.bl1 .len (.var 1)) (.bl1 .len (.var 0))) .nil))) m_look_at_table_1a_0a .nil) m_look_at_table_1a_1)
def m_look_at_table_1 : MB := (.cons (.loopr (.name 1) (.var 0) m_look_at_table_1a) .nil)
def m_look_at_table_0a : MB := (.cons (.rais 2) .nil)
def m_look_at_table : MB := (.cons (.ite (.bop false (.cons (.nt (.isl (.var 0))) (.cons (.cmp .gt (.bl1 .len (.var 0)) (.glob "MOST_TABLE" (.int 12))) .nil))) m_look_at_table_0a .nil) m_look_at_table_1)
-- slots: 0=rows 1=row 2=part
theorem w_look_at_table : ∀ ds μ Q X, S_look_at_table ds μ Q X → ds.length = 1 ∧ wpB m_look_at_table (startD 3 ds) μ (enD Q X) := sp1_of (by
  rintro x μ Q X ⟨n, M, hx, hn, q⟩
  rcases hx with rfl | ⟨p0, rfl, hp0⟩
  · simp -implicitDefEqProofs only [m_look_at_table, m_look_at_table_0a, wpB, wpS, wpE, wpI, wpA, wpO, wpC, wpL, q_AL, startD, enD, List.map_cons, List.map_nil, List.length_cons, List.length_nil, List.replicate, List.cons_append, List.nil_append, Nat.reduceAdd, Nat.reduceSub, MT.slots, wipeD, isiD, Option.toList_some, Option.toList_none, List.append_nil, List.getElem?_cons_zero, List.getElem?_cons_succ, Option.bind_some, mset_same, mset_mset, if_true, if_false, Bool.false_eq_true, reduceIte, Bool.not_true, Bool.not_false, Bool.true_eq_false, true_and, decide_eq_true_eq, fit_int, fit_bl, fit_non, deq_int, deq_bl]
    rw [rowsQ_len]
    refine ite_f (by first | omega | (simp; omega)) ?_
    simp only [m_look_at_table_1, wpB, wpS, wpE, wpI, wpA, wpO, wpC, wpL]
    walk_at "dlu"
    refine forW_by (fun ds ρ μ' => μ = μ' ∧ (∀ d ∈ ds, ∃ f : Nat → Rat, d = .lst ((List.range n).map fun j => qD (f j))) ∧ ∃ y1 y2, ρ = [some (.lst (rowsQ M n)), y1, y2]) ?_ ?_ _ _ _ ⟨rfl, fun d hd => by obtain ⟨i, _, rfl⟩ := List.mem_map.mp hd; exact ⟨M i, rfl⟩, _, _, rfl⟩
    · rintro d ds ρ μ' k ⟨rfl, hd, y1, y2, rfl⟩ hk
      obtain ⟨f, rfl⟩ := hd d (by simp)
      simp only [m_look_at_table_1a, m_look_at_table_1a_0a, wpB, wpS, wpE, wpI, wpA, wpO, wpC, wpL]
      walk_at "dlu"
      refine ⟨rfl, ?_⟩
      rw [rowsQ_len]
      refine ite_f (by first | simp | exact Bool.false_ne_true) ?_
      simp only [m_look_at_table_1a_1, wpB, wpS, wpE, wpI, wpA, wpO, wpC, wpL]
      walk_at "dlu"
      refine forW_by (fun ds ρ μ' => μ = μ' ∧ (∀ d ∈ ds, ∃ x : Rat, d = qD x) ∧ ∃ y2, ρ = [some (.lst (rowsQ M n)), some (.lst ((List.range n).map fun j => qD (f j))), y2]) ?_ ?_ _ _ _ ⟨rfl, fun d hd => by obtain ⟨i, _, rfl⟩ := List.mem_map.mp hd; exact ⟨f i, rfl⟩, _, rfl⟩
      · rintro d ds2 ρ μ' k2 ⟨rfl, hd2, y2, rfl⟩ hk2
        obtain ⟨x, rfl⟩ := hd2 d (by simp)
        simp only [m_look_at_table_1a_1a, m_look_at_table_1a_1a_0a, wpB, wpS, wpE, wpI, wpA, wpO, wpC, wpL]
        walk_at "dlu"
        refine ⟨fit_q _ _, ?_⟩
        rw [isFr_q]
        walk_at "dlu"
        try refine ite_f (a := False) (by simp) ?_
        exact hk2 _ _ ⟨rfl, fun d h => hd2 d (by simp [h]), _, rfl⟩
      · rintro ρ μ' ⟨rfl, _, y2, rfl⟩
        exact hk _ _ ⟨rfl, fun d h => hd d (by simp [h]), _, _, rfl⟩
    · rintro ρ μ' ⟨rfl, _, y1, y2, rfl⟩
      exact ⟨rfl, q⟩
  · simp -implicitDefEqProofs only [m_look_at_table, m_look_at_table_0a, wpB, wpS, wpE, wpI, wpA, wpO, wpC, wpL, q_AL, startD, enD, List.map_cons, List.map_nil, List.length_cons, List.length_nil, List.replicate, List.cons_append, List.nil_append, Nat.reduceAdd, Nat.reduceSub, MT.slots, wipeD, isiD, Option.toList_some, Option.toList_none, List.append_nil, List.getElem?_cons_zero, List.getElem?_cons_succ, Option.bind_some, mset_same, mset_mset, if_true, if_false, Bool.false_eq_true, reduceIte, Bool.not_true, Bool.not_false, Bool.true_eq_false, true_and, decide_eq_true_eq, fit_int, fit_bl, fit_non, deq_int, deq_bl, hp0]
    refine ⟨rfl, ?_⟩
    try rw [hp0]
    walk_at "dlu"
    rw [rowsQ_len]
    refine ite_f (by first | omega | (simp; omega)) ?_
    simp -implicitDefEqProofs only [m_look_at_table_1, wpB, wpS, wpE, wpI, wpA, wpO, wpC, wpL, q_AL, startD, enD, List.map_cons, List.map_nil, List.length_cons, List.length_nil, List.replicate, List.cons_append, List.nil_append, Nat.reduceAdd, Nat.reduceSub, MT.slots, wipeD, isiD, Option.toList_some, Option.toList_none, List.append_nil, List.getElem?_cons_zero, List.getElem?_cons_succ, Option.bind_some, mset_same, mset_mset, if_true, if_false, Bool.false_eq_true, reduceIte, Bool.not_true, Bool.not_false, Bool.true_eq_false, true_and, decide_eq_true_eq, fit_int, fit_bl, fit_non, deq_int, deq_bl, hp0]
    rw [show itemsOf (.ref p0) μ = some (rowsQ M n) from hp0]
    show forW _ _ _ _ _
    refine forW_by (fun ds ρ μ' => μ = μ' ∧ (∀ d ∈ ds, ∃ f : Nat → Rat, d = .lst ((List.range n).map fun j => qD (f j))) ∧ ∃ y1 y2, ρ = [some (.ref p0), y1, y2]) ?_ ?_ _ _ _ ⟨rfl, fun d hd => by obtain ⟨i, _, rfl⟩ := List.mem_map.mp hd; exact ⟨M i, rfl⟩, _, _, rfl⟩
    · rintro d ds ρ μ' k ⟨rfl, hd, y1, y2, rfl⟩ hk
      obtain ⟨f, rfl⟩ := hd d (by simp)
      simp -implicitDefEqProofs only [m_look_at_table_1a, m_look_at_table_1a_0a, wpB, wpS, wpE, wpI, wpA, wpO, wpC, wpL, q_AL, startD, enD, List.map_cons, List.map_nil, List.length_cons, List.length_nil, List.replicate, List.cons_append, List.nil_append, Nat.reduceAdd, Nat.reduceSub, MT.slots, wipeD, isiD, Option.toList_some, Option.toList_none, List.append_nil, List.getElem?_cons_zero, List.getElem?_cons_succ, Option.bind_some, mset_same, mset_mset, if_true, if_false, Bool.false_eq_true, reduceIte, Bool.not_true, Bool.not_false, Bool.true_eq_false, true_and, decide_eq_true_eq, fit_int, fit_bl, fit_non, deq_int, deq_bl, hp0]
      refine ⟨hp0, ?_⟩
      rw [rowsQ_len]
      refine ite_f (by first | simp | exact Bool.false_ne_true) ?_
      simp -implicitDefEqProofs only [m_look_at_table_1a_1, wpB, wpS, wpE, wpI, wpA, wpO, wpC, wpL, q_AL, startD, enD, List.map_cons, List.map_nil, List.length_cons, List.length_nil, List.replicate, List.cons_append, List.nil_append, Nat.reduceAdd, Nat.reduceSub, MT.slots, wipeD, isiD, Option.toList_some, Option.toList_none, List.append_nil, List.getElem?_cons_zero, List.getElem?_cons_succ, Option.bind_some, mset_same, mset_mset, if_true, if_false, Bool.false_eq_true, reduceIte, Bool.not_true, Bool.not_false, Bool.true_eq_false, true_and, decide_eq_true_eq, fit_int, fit_bl, fit_non, deq_int, deq_bl, hp0]
      refine forW_by (fun ds ρ μ' => μ = μ' ∧ (∀ d ∈ ds, ∃ x : Rat, d = qD x) ∧ ∃ y2, ρ = [some (.ref p0), some (.lst ((List.range n).map fun j => qD (f j))), y2]) ?_ ?_ _ _ _ ⟨rfl, fun d hd => by obtain ⟨i, _, rfl⟩ := List.mem_map.mp hd; exact ⟨f i, rfl⟩, _, rfl⟩
      · rintro d ds2 ρ μ' k2 ⟨rfl, hd2, y2, rfl⟩ hk2
        obtain ⟨x, rfl⟩ := hd2 d (by simp)
        simp -implicitDefEqProofs only [m_look_at_table_1a_1a, m_look_at_table_1a_1a_0a, wpB, wpS, wpE, wpI, wpA, wpO, wpC, wpL, q_AL, startD, enD, List.map_cons, List.map_nil, List.length_cons, List.length_nil, List.replicate, List.cons_append, List.nil_append, Nat.reduceAdd, Nat.reduceSub, MT.slots, wipeD, isiD, Option.toList_some, Option.toList_none, List.append_nil, List.getElem?_cons_zero, List.getElem?_cons_succ, Option.bind_some, mset_same, mset_mset, if_true, if_false, Bool.false_eq_true, reduceIte, Bool.not_true, Bool.not_false, Bool.true_eq_false, true_and, decide_eq_true_eq, fit_int, fit_bl, fit_non, deq_int, deq_bl, hp0]
        refine ⟨fit_q _ _, ?_⟩
        rw [isFr_q]
        walk_at "dlu"
        try refine ite_f (a := False) (by simp) ?_
        exact hk2 _ _ ⟨rfl, fun d h => hd2 d (by simp [h]), _, rfl⟩
      · rintro ρ μ' ⟨rfl, _, y2, rfl⟩
        exact hk _ _ ⟨rfl, fun d h => hd d (by simp [h]), _, _, rfl⟩
    · rintro ρ μ' ⟨rfl, _, y1, y2, rfl⟩
      exact ⟨hp0, q⟩)
def S_table_worth : DSp := sp1 fun x μ Q _ => ∃ (n b : Nat) (M : Mx), isTb x (rowsQ M n) μ ∧ n ≤ 12 ∧ bdM n b M ∧ 2 ^ n * (b + 1) ≤ 10500000 ∧ ∀ μ', exM μ μ' → Q (qD (dtM n M)) μ'
def N_table_worth : List Str := ["rows"]
def m_table_worth_1 : MB := (.cons (.ret (.call "worth_of" S_worth_of (.cons (.var 0) .nil))) .nil)
def m_table_worth : MB := (.cons (.expr (.call "look_at_table" S_look_at_table (.cons (.var 0) .nil))) m_table_worth_1)
-- slots: 0=rows
theorem w_table_worth : ∀ ds μ Q X, S_table_worth ds μ Q X → ds.length = 1 ∧ wpB m_table_worth (startD 1 ds) μ (enD Q X) := sp1_of (by
  rintro x μ Q X ⟨n, b, M, hx, hn, bd, hb, q⟩
  simp only [m_table_worth, wpB, wpS, wpE, wpI, wpA, wpO, wpC, wpL]
  walk_at "dlu"
  refine ⟨n, M, hx, hn, ?_⟩
  walk_at "dlu"
  simp only [m_table_worth_1, wpB, wpS, wpE, wpI, wpA, wpO, wpC, wpL]
  walk_at "dlu"
  exact wrt_by hx hn bd hb q)
theorem tw_by {n b : Nat} {M : Mx} {x : D} {μ : Mu} {Q : Pst} {X : Xst} (hx : isTb x (rowsQ M n) μ) (hn : n ≤ 12) (bd : bdM n b M) (hb : 2 ^ n * (b + 1) ≤ 10500000) (q : ∀ μ', exM μ μ' → Q (qD (dtM n M)) μ') : S_table_worth [x] μ Q X := ⟨n, b, M, hx, hn, bd, hb, q⟩

end Dl

namespace Dl
open PySem L2 PyProof.Rows
local macro_rules | `(tactic| walk_at "dlu") => `(tactic| try simp -implicitDefEqProofs only [wpB, wpS, wpE, wpI, wpA, wpO, wpC, wpL, q_AL, startD, enD, List.map_cons, List.map_nil, List.length_cons, List.length_nil, List.replicate, List.cons_append, List.nil_append, Nat.reduceAdd, Nat.reduceSub, MT.slots, wipeD, isiD, Option.toList_some, Option.toList_none, List.append_nil, List.getElem?_cons_zero, List.getElem?_cons_succ, Option.bind_some, mset_same, mset_mset, if_true, if_false, Bool.false_eq_true, reduceIte, Bool.not_true, Bool.not_false, Bool.true_eq_false, true_and, decide_eq_true_eq, fit_int, fit_bl, fit_non, deq_int, deq_bl])
local macro_rules | `(tactic| walk_at "dlv") => `(tactic| simp -implicitDefEqProofs only [wpB, wpS, wpE, wpI, wpA, wpO, wpC, wpL, q_AL, startD, enD, List.map_cons, List.map_nil, List.length_cons, List.length_nil, List.replicate, List.cons_append, List.nil_append, Nat.reduceAdd, Nat.reduceSub, MT.slots, wipeD, isiD, Option.toList_some, Option.toList_none, List.append_nil, List.getElem?_cons_zero, List.getElem?_cons_succ, Option.bind_some, mset_same, mset_mset, if_true, if_false, Bool.false_eq_true, reduceIte, Bool.not_true, Bool.not_false, Bool.true_eq_false, true_and, decide_eq_true_eq, fit_int, fit_bl, fit_non, deq_int, deq_bl])
local macro_rules | `(tactic| walk_at "szb") => `(tactic| first | assumption | exact szm (by walk_at "szb") (by walk_at "szb") | exact sza (by walk_at "szb") (by walk_at "szb") | exact szs (by walk_at "szb") (by walk_at "szb") | exact szn (by walk_at "szb") | exact Nat.lt_two_pow_self)
local macro_rules | `(tactic| walk_at "shw") => `(tactic| first | assumption | exact shw_int (abs_up (by walk_at "szb") (by decide)) (by decide) | exact shw_non (by decide) | exact shw_bl (by decide) | exact shw_lit (k := 6) (by decide) (by decide) | ((first | refine shT1 ?_ (by simp) | refine shT2 ?_ (by simp) | refine shT3 ?_ (by simp) | refine shL1 ?_ (by simp) | refine shL2 ?_ (by simp) | refine shL3 ?_ (by simp)); (simp only [shA, and_true]); (try with_reducible refine And.intro ?_ ?_); (all_goals (try with_reducible refine And.intro ?_ ?_)); (all_goals (try with_reducible refine And.intro ?_ ?_)); (all_goals (try with_reducible refine And.intro ?_ ?_)); (all_goals (try with_reducible refine And.intro ?_ ?_)); (all_goals walk_at "shw")))
/-! the law's own tables -/
theorem cut_to (xs : List D) (k : Nat) : cutD xs none (some (k : Int)) = xs.take k := by
  show (xs.drop 0).take (HT.sIx xs.length xs.length (some (k : Int)) - 0) = _
  rw [HT.sIx_nat, Nat.sub_zero, List.drop_zero, List.take_eq_take_iff]
  omega
theorem cut_from (xs : List D) (k : Nat) : cutD xs (some (k : Int)) none = xs.drop k := by
  show (xs.drop (HT.sIx xs.length 0 (some (k : Int)))).take (xs.length - HT.sIx xs.length 0 (some (k : Int))) = _
  rw [HT.sIx_nat]
  by_cases h : k ≤ xs.length
  · rw [Nat.min_eq_left h, List.take_of_length_le (by simp)]
  · rw [Nat.min_eq_right (by omega), List.drop_eq_nil_of_le (Nat.le_refl _), List.drop_eq_nil_of_le (by omega), List.take_nil]
def smE (x : Rat) : Prop := ∃ t b : Int, x = Rat.divInt t b ∧ t.natAbs ≤ 9 ∧ 1 ≤ b ∧ b ≤ 4
def rowsP (M : Mx) (n k : Nat) : List D := (List.range k).map fun i => .lst ((List.range n).map fun j => qD (M i j))
theorem rowsP_up (M : Mx) (n k : Nat) (f : Nat → Rat) : rowsP M n k ++ [.lst ((List.range n).map fun j => qD (f j))] = rowsP (upd M k f) n (k + 1) := by
  unfold rowsP
  rw [List.range_succ, List.map_append, List.map_cons, List.map_nil]
  congr 1
  · refine List.map_congr_left fun i hi => ?_
    have := List.mem_range.mp hi
    congr 1
    refine List.map_congr_left fun j _ => ?_
    rw [upd_ne _ _ (by omega)]
  · congr 2
    refine List.map_congr_left fun j _ => ?_
    rw [upd_same]
theorem rowP_up (f : Nat → Rat) (j : Nat) (x : Rat) : ((List.range j).map fun i => qD (f i)) ++ [qD x] = (List.range (j + 1)).map fun i => qD (if i = j then x else f i) := by
  rw [List.range_succ, List.map_append, List.map_cons, List.map_nil, if_pos rfl]
  congr 1
  refine List.map_congr_left fun i hi => ?_
  have := List.mem_range.mp hi
  rw [if_neg (by omega)]
def S_law_table : DSp := sp3 fun a b c μ Q _ => ∃ (ns : List Int) (s n : Nat), a = .lst (ns.map .int) ∧ b = .int s ∧ c = .int n ∧ s ≤ 10 ∧ n ≤ 12 ∧ ∀ p M, μ p = none → (∀ i < n, ∀ j < n, smE (M i j)) → Q (.ref p) (mset μ p (rowsQ M n))
def N_law_table : List Str := ["_law_script", "_law_at", "_law_size", "_law_rows", "_law_k", "_law_number", "_law_row", "_law_j"]
def m_law_table_2 : MB := (.cons (.ret (.var 3)) .nil)
def m_law_table_1a_3 : MB := (.cons (.app (.var 3) (.frz (.var 6))) .nil)
def m_law_table_1a_2a_1 : MB := (.cons (.asg (.name 5) (.bin .fdiv (.var 5) (.int 76))) .nil)
def m_law_table_1a_2a : MB := (.cons (.app (.var 6) (.call "_law_frac" S_law_frac (.cons (.bin .sub (.bin .mod (.var 5) (.int 19)) (.int 9)) (.cons (.bin .add (.int 1) (.bin .mod (.bin .fdiv (.var 5) (.int 19)) (.int 4))) .nil)))) m_law_table_1a_2a_1)
def m_law_table_1a_2 : MB := (.cons (.loop (.name 7) (.rng1 (.var 2)) m_law_table_1a_2a) m_law_table_1a_3)
def m_law_table_1a_1 : MB := (.cons (.asg (.name 6) (.newl .nil)) m_law_table_1a_2)
def m_law_table_1a : MB := (.cons (.asg (.name 5) (.call "_law_cell" S_law_cell (.cons (.var 0) (.cons (.bin .add (.var 1) (.var 4)) .nil)))) m_law_table_1a_1)
def m_law_table_1 : MB := (.cons (.loop (.name 4) (.rng1 (.var 2)) m_law_table_1a) m_law_table_2)
def m_law_table : MB := (.cons (.asg (.name 3) (.newl .nil)) m_law_table_1)
-- slots: 0=_law_script 1=_law_at 2=_law_size 3=_law_rows 4=_law_k 5=_law_number 6=_law_row 7=_law_j
theorem w_law_table : ∀ ds μ Q X, S_law_table ds μ Q X → ds.length = 3 ∧ wpB m_law_table (startD 8 ds) μ (enD Q X) := sp3_of (by
  rintro a b c μ Q X ⟨ns, s, n, rfl, rfl, rfl, hs, hn, q⟩
  simp only [m_law_table, wpB, wpS, wpE, wpI, wpA, wpO, wpC, wpL]
  walk_at "dlu"
  intro p hp
  simp only [m_law_table_1, wpB, wpS, wpE, wpI, wpA, wpO, wpC, wpL]
  walk_at "dlu"
  refine ⟨by omega, ?_⟩
  rw [Int.toNat_natCast]
  refine forW_by (fun ds ρ μ' => ∃ (k r : Nat) (M : Mx) (y4 y5 y6 y7 : Option D), k + r = n ∧ ds = rngD (k : Int) r ∧ μ' = mset μ p (rowsP M n k) ∧ (∀ i < k, ∀ j < n, smE (M i j)) ∧ ρ = [some (.lst (ns.map .int)), some (.int s), some (.int n), some (.ref p), y4, y5, y6, y7]) ?_ ?_ _ _ _ ⟨0, n, fun _ _ => 0, _, _, _, _, by omega, rfl, rfl, fun _ h => absurd h (by omega), rfl⟩
  · rintro d ds ρ μ1 kk ⟨k, r, M, y4, y5, y6, y7, hk, hd, rfl, hM, rfl⟩ hk2
    cases r with
    | zero => cases hd
    | succ r =>
    rw [rngD_cons] at hd
    obtain ⟨rfl, rfl⟩ := List.cons.inj hd
    simp only [m_law_table_1a, wpB, wpS, wpE, wpI, wpA, wpO, wpC, wpL]
    walk_at "dlu"
    refine cell_of (by omega) (by omega) fun N hN _ => ?_
    walk_at "dlu"
    simp only [m_law_table_1a_1, wpB, wpS, wpE, wpI, wpA, wpO, wpC, wpL]
    walk_at "dlu"
    intro p2 hp2
    have np : p2 ≠ p := fun e => by rw [e, mset_same] at hp2; cases hp2
    simp only [m_law_table_1a_2, wpB, wpS, wpE, wpI, wpA, wpO, wpC, wpL]
    walk_at "dlu"
    refine ⟨by omega, ?_⟩
    rw [Int.toNat_natCast]
    refine forW_by (fun ds ρ μ' => ∃ (j r2 : Nat) (f : Nat → Rat) (N : Int) (y7 : Option D), j + r2 = n ∧ ds = rngD (j : Int) r2 ∧ μ' = mset (mset μ p (rowsP M n k)) p2 ((List.range j).map fun j => qD (f j)) ∧ (∀ i < j, smE (f i)) ∧ ρ = [some (.lst (ns.map .int)), some (.int s), some (.int n), some (.ref p), some (.int k), some (.int N), some (.ref p2), y7]) ?_ ?_ _ _ _ ⟨0, n, fun _ => 0, N, _, by omega, rfl, rfl, fun _ h => absurd h (by omega), rfl⟩
    · rintro d ds2 ρ μ2 k3 ⟨j, r2, f, N, y7, hj, hd2, rfl, hf, rfl⟩ hk4
      cases r2 with
      | zero => cases hd2
      | succ r2 =>
      rw [rngD_cons] at hd2
      obtain ⟨rfl, rfl⟩ := List.cons.inj hd2
      simp only [m_law_table_1a_2a, wpB, wpS, wpE, wpI, wpA, wpO, wpC, wpL]
      try simp -implicitDefEqProofs only [m_law_table_1a_2a, mset_same, Option.isSome_some, wpB, wpS, wpE, wpI, wpA, wpO, wpC, wpL, q_AL, startD, enD, List.map_cons, List.map_nil, List.length_cons, List.length_nil, List.replicate, List.cons_append, List.nil_append, Nat.reduceAdd, Nat.reduceSub, MT.slots, wipeD, isiD, Option.toList_some, Option.toList_none, List.append_nil, List.getElem?_cons_zero, List.getElem?_cons_succ, Option.bind_some, mset_same, mset_mset, if_true, if_false, Bool.false_eq_true, reduceIte, Bool.not_true, Bool.not_false, Bool.true_eq_false, true_and, decide_eq_true_eq, fit_int, fit_bl, fit_non, deq_int, deq_bl]
      refine ⟨by decide, by decide, by decide, ?_⟩
      obtain ⟨a0, a1⟩ := fmod_pos (x := N) (m := 19) (by decide)
      obtain ⟨b0, b1⟩ := fmod_pos (x := N.fdiv 19) (m := 4) (by decide)
      generalize N.fmod 19 = t at *
      generalize (N.fdiv 19).fmod 4 = u at *
      refine ⟨_, _, rfl, rfl, by omega, ?_⟩
      rw [show frD (t - 9) (1 + u) = qD (Rat.divInt (t - 9) (1 + u)) from congrArg fD (frP_q (by omega))]
      simp -implicitDefEqProofs only [mset_same, mset_mset, wpB, wpS, wpE, wpI, wpA, wpO, wpC, wpL, q_AL, startD, enD, List.map_cons, List.map_nil, List.length_cons, List.length_nil, List.replicate, List.cons_append, List.nil_append, Nat.reduceAdd, Nat.reduceSub, MT.slots, wipeD, isiD, Option.toList_some, Option.toList_none, List.append_nil, List.getElem?_cons_zero, List.getElem?_cons_succ, Option.bind_some, mset_same, mset_mset, if_true, if_false, Bool.false_eq_true, reduceIte, Bool.not_true, Bool.not_false, Bool.true_eq_false, true_and, decide_eq_true_eq, fit_int, fit_bl, fit_non, deq_int, deq_bl]
      refine ⟨by rw [List.length_map, List.length_range]; omega, ?_⟩
      simp only [m_law_table_1a_2a_1, wpB, wpS, wpE, wpI, wpA, wpO, wpC, wpL]
      walk_at "dlu"
      refine ⟨by decide, ?_⟩
      rw [rowP_up]
      exact hk4 _ _ ⟨j + 1, r2, _, _, _, by omega, by rw [Int.natCast_succ], rfl, fun i hi => by
        by_cases e : i = j
        · rw [if_pos e]; exact ⟨_, _, rfl, by omega, by omega, by omega⟩
        · rw [if_neg e]; exact hf i (by omega), rfl⟩
    · rintro ρ μ2 ⟨j, r2, f, N, y7, hj, hd2, rfl, hf, rfl⟩
      cases r2 with
      | succ r2 => rw [rngD_cons] at hd2; cases hd2
      | zero =>
      have : j = n := by omega
      subst this
      simp only [m_law_table_1a_3, wpB, wpS, wpE, wpI, wpA, wpO, wpC, wpL]
      try simp -implicitDefEqProofs only [m_law_table_1a_3, mset_same, wpB, wpS, wpE, wpI, wpA, wpO, wpC, wpL, q_AL, startD, enD, List.map_cons, List.map_nil, List.length_cons, List.length_nil, List.replicate, List.cons_append, List.nil_append, Nat.reduceAdd, Nat.reduceSub, MT.slots, wipeD, isiD, Option.toList_some, Option.toList_none, List.append_nil, List.getElem?_cons_zero, List.getElem?_cons_succ, Option.bind_some, mset_same, mset_mset, if_true, if_false, Bool.false_eq_true, reduceIte, Bool.not_true, Bool.not_false, Bool.true_eq_false, true_and, decide_eq_true_eq, fit_int, fit_bl, fit_non, deq_int, deq_bl]
      rw [mset_ne _ _ (Ne.symm np), mset_same, mdel_mset _ _ _ hp2, mset_same]
      refine ⟨rfl, ?_⟩
      walk_at "dlu"
      refine ⟨by unfold rowsP; rw [List.length_map, List.length_range]; omega, ?_⟩
      rw [rowsP_up]
      exact hk2 _ _ ⟨k + 1, r, _, _, _, _, _, by omega, by rw [Int.natCast_succ], rfl, fun i hi j' hj' => by
        by_cases e : i = k
        · subst e; rw [upd_same]; exact hf j' hj'
        · rw [upd_ne _ _ e]; exact hM i (by omega) j' hj', rfl⟩
  · rintro ρ μ1 ⟨k, r, M, y4, y5, y6, y7, hk, hd, rfl, hM, rfl⟩
    cases r with
    | succ r => rw [rngD_cons] at hd; cases hd
    | zero =>
    have : k = n := by omega
    subst this
    simp only [m_law_table_2, wpB, wpS, wpE, wpI, wpA, wpO, wpC, wpL]
    walk_at "dlu"
    exact q p M hp hM)
def tD (ts : List Nat × Int) : D := .tup [.lst (ts.1.map fun (i : Nat) => D.int (i : Int)), .int ts.2]
theorem trn_sz {k : Nat} (h : k ≤ 5) : (trn k).length ≤ 120 := by
  have : k = 0 ∨ k = 1 ∨ k = 2 ∨ k = 3 ∨ k = 4 ∨ k = 5 := by omega
  rcases this with rfl | rfl | rfl | rfl | rfl | rfl <;> decide +kernel
theorem trn_sg : ∀ (n : Nat) (ts), ts ∈ trn n → ts.2 = 1 ∨ ts.2 = -1
  | 0, ts, h => by rw [trn, List.mem_singleton] at h; subst h; exact .inl rfl
  | n + 1, ts, h => by
    rw [trn, List.mem_flatMap] at h
    obtain ⟨a, ha, h⟩ := h
    obtain ⟨p, hp, rfl⟩ := List.mem_map.mp h
    have := trn_sg n a ha
    have e : sgI n p = 1 ∨ sgI n p = -1 := by unfold sgI; omega
    show a.2 * sgI n p = 1 ∨ a.2 * sgI n p = -1
    rcases this with h1 | h1 <;> rcases e with h2 | h2 <;> rw [h1, h2] <;> decide
theorem fm_len (k : Nat) : ∀ L : List (List Nat × Int), (L.flatMap (trnS k)).length = L.length * (k + 1)
  | [] => by simp
  | ts :: L => by
    rw [List.flatMap_cons, List.length_append, fm_len k L, List.length_cons, trnS, List.length_map, List.length_range, Nat.succ_mul]; omega
def S_law_turns : DSp := sp1 fun x μ Q _ => ∃ n : Nat, x = .int n ∧ n ≤ 5 ∧ Q (.lst ((trn n).map tD)) μ
def N_law_turns : List Str := ["_law_size", "_law_found", "_law_k", "_law_wider", "_law_turn", "_law_sign", "_law_place"]
def m_law_turns_2 : MB := (.cons (.ret (.var 1)) .nil)
def m_law_turns_1a_2 : MB := (.cons (.asg (.name 1) (.frz (.var 3))) .nil)
def m_law_turns_1a_1a_0a : MB := (.cons (.app (.var 3) (.tup (.cons (.bin .add (.bin .add (.slc (.var 4) .no (.so (.var 6))) (.lst (.cons (.var 2) .nil))) (.slc (.var 4) (.so (.var 6)) .no)) (.cons (.bin .mul (.var 5) (.bin .sub (.int 1) (.bin .mul (.bin .mod (.bin .sub (.var 2) (.var 6)) (.int 2)) (.int 2)))) .nil)))) .nil)
def m_law_turns_1a_1a : MB := (.cons (.loop (.name 6) (.rng1 (.bin .add (.var 2) (.int 1))) m_law_turns_1a_1a_0a) .nil)
def m_law_turns_1a_1 : MB := (.cons (.loop (.tup [4, 5]) (.seq (.var 1)) m_law_turns_1a_1a) m_law_turns_1a_2)
def m_law_turns_1a : MB := (.cons (.asg (.name 3) (.newl .nil)) m_law_turns_1a_1)
def m_law_turns_1 : MB := (.cons (.loop (.name 2) (.rng1 (.var 0)) m_law_turns_1a) m_law_turns_2)
def m_law_turns : MB := (.cons (.asg (.name 1) (.lst (.cons (.tup (.cons (.lst .nil) (.cons (.int 1) .nil))) .nil))) m_law_turns_1)
-- slots: 0=_law_size 1=_law_found 2=_law_k 3=_law_wider 4=_law_turn 5=_law_sign 6=_law_place
theorem w_law_turns : ∀ ds μ Q X, S_law_turns ds μ Q X → ds.length = 1 ∧ wpB m_law_turns (startD 7 ds) μ (enD Q X) := sp1_of (by
  rintro x μ Q X ⟨n, rfl, hn, q⟩
  simp only [m_law_turns, wpB, wpS, wpE, wpI, wpA, wpO, wpC, wpL]
  walk_at "dlu"
  simp only [m_law_turns_1, wpB, wpS, wpE, wpI, wpA, wpO, wpC, wpL]
  walk_at "dlu"
  refine ⟨by omega, ?_⟩
  rw [Int.toNat_natCast]
  refine forW_by (fun ds ρ μ' => ∃ (k r : Nat) (y2 y3 y4 y5 y6 : Option D), k + r = n ∧ ds = rngD (k : Int) r ∧ μ = μ' ∧ ρ = [some (.int n), some (.lst ((trn k).map tD)), y2, y3, y4, y5, y6]) ?_ ?_ _ _ _ ⟨0, n, _, _, _, _, _, by omega, rfl, rfl, rfl⟩
  · rintro d ds ρ μ1 kk ⟨k, r, y2, y3, y4, y5, y6, hk, hd, rfl, rfl⟩ hk2
    cases r with
    | zero => cases hd
    | succ r =>
    rw [rngD_cons] at hd
    obtain ⟨rfl, rfl⟩ := List.cons.inj hd
    have tl : (trn k).length ≤ 120 := trn_sz (by omega)
    simp only [m_law_turns_1a, wpB, wpS, wpE, wpI, wpA, wpO, wpC, wpL]
    walk_at "dlu"
    intro p hp
    simp only [m_law_turns_1a_1, wpB, wpS, wpE, wpI, wpA, wpO, wpC, wpL]
    walk_at "dlu"
    refine forW_by (fun ds ρ μ' => ∃ (L1 L2 : List (List Nat × Int)) (y4 y5 y6 : Option D), L1 ++ L2 = trn k ∧ ds = L2.map tD ∧ μ' = mset μ p ((L1.flatMap (trnS k)).map tD) ∧ ρ = [some (.int n), some (.lst ((trn k).map tD)), some (.int k), some (.ref p), y4, y5, y6]) ?_ ?_ _ _ _ ⟨[], trn k, _, _, _, rfl, rfl, rfl, rfl⟩
    · rintro d ds2 ρ μ2 k3 ⟨L1, L2, y4, y5, y6, hL, hd2, rfl, rfl⟩ hk4
      cases L2 with
      | nil => cases hd2
      | cons ts L2 =>
      obtain ⟨rfl, rfl⟩ := List.cons.inj hd2
      have hm : ts ∈ trn k := by rw [← hL]; simp
      have l1 := trn_len k ts hm
      have sg := trn_sg k ts hm
      have ll : L1.length ≤ 120 := by have := congrArg List.length hL; rw [List.length_append] at this; omega
      simp only [m_law_turns_1a_1a, wpB, wpS, wpE, wpI, wpA, wpO, wpC, wpL]
      walk_at "dlu"
      refine ⟨by omega, ?_⟩
      rw [show ((k : Int) + 1).toNat = k + 1 by omega]
      refine forW_by (fun ds ρ μ' => ∃ (a r2 : Nat) (y6 : Option D), a + r2 = k + 1 ∧ ds = rngD (a : Int) r2 ∧ μ' = mset μ p ((L1.flatMap (trnS k)).map tD ++ ((List.range a).map fun q => (insA q k ts.1, ts.2 * sgI k q)).map tD) ∧ ρ = [some (.int n), some (.lst ((trn k).map tD)), some (.int k), some (.ref p), some (.lst (ts.1.map fun (i : Nat) => D.int (i : Int))), some (.int ts.2), y6]) ?_ ?_ _ _ _ ⟨0, k + 1, _, by omega, rfl, by simp, rfl⟩
      · rintro d ds3 ρ μ3 k5 ⟨a, r2, y6, ha, hd3, rfl, rfl⟩ hk6
        cases r2 with
        | zero => cases hd3
        | succ r2 =>
        rw [rngD_cons] at hd3
        obtain ⟨rfl, rfl⟩ := List.cons.inj hd3
        simp only [m_law_turns_1a_1a_0a, wpB, wpS, wpE, wpI, wpA, wpO, wpC, wpL]
        try simp -implicitDefEqProofs only [m_law_turns_1a_1a_0a, mset_same, Option.isSome_some, wpB, wpS, wpE, wpI, wpA, wpO, wpC, wpL, q_AL, startD, enD, List.map_cons, List.map_nil, List.length_cons, List.length_nil, List.replicate, List.cons_append, List.nil_append, Nat.reduceAdd, Nat.reduceSub, MT.slots, wipeD, isiD, Option.toList_some, Option.toList_none, List.append_nil, List.getElem?_cons_zero, List.getElem?_cons_succ, Option.bind_some, mset_same, mset_mset, if_true, if_false, Bool.false_eq_true, reduceIte, Bool.not_true, Bool.not_false, Bool.true_eq_false, true_and, decide_eq_true_eq, fit_int, fit_bl, fit_non, deq_int, deq_bl]
        have ak : a ≤ k := by omega
        have em : ((k : Int) - (a : Int)).fmod 2 = ((k : Int) - (a : Int)) % 2 := Int.fmod_eq_emod_of_nonneg _ (by decide)
        have sI : 1 - ((k : Int) - (a : Int)) % 2 * 2 = sgI k a := rfl
        have s1 : sgI k a = 1 ∨ sgI k a = -1 := by unfold sgI; omega
        have lt1 : (ts.1.map fun (i : Nat) => D.int (i : Int)).length = k := by rw [List.length_map, l1]
        have lm : L1.length * (k + 1) ≤ 120 * 6 := Nat.mul_le_mul ll (by omega)
        refine ⟨?_, ?_, by decide, mul_ok 2 2 (by omega) (by decide) (by decide), mul_ok 1 1 (by rcases sg with e | e <;> rw [e] <;> decide) (by rw [em, sI]; rcases s1 with e | e <;> rw [e] <;> decide) (by decide), ?_, ?_⟩
        · rw [cut_to, List.length_take]; omega
        · rw [cut_to, cut_from, List.length_append, List.length_take, List.length_drop, List.length_singleton]; omega
        · rw [List.length_append, List.length_map, List.length_map, List.length_map, fm_len, List.length_range]; omega
        refine hk6 _ _ ⟨a + 1, r2, _, by omega, by rw [Int.natCast_succ], ?_, rfl⟩
        rw [em, sI, cut_to, cut_from, List.range_succ, List.map_append, List.map_append, List.append_assoc]
        refine congrArg (fun z => mset μ p (_ ++ (_ ++ [z]))) ?_
        show D.tup [_, _] = D.tup [D.lst ((insA a k ts.1).map _), _]
        unfold insA
        rw [List.map_append, List.map_append, List.map_take, List.map_drop]
        rfl
      · rintro ρ μ3 ⟨a, r2, y6, ha, hd3, rfl, rfl⟩
        cases r2 with
        | succ r2 => rw [rngD_cons] at hd3; cases hd3
        | zero =>
        have : a = k + 1 := by omega
        subst this
        exact hk4 _ _ ⟨L1 ++ [ts], L2, _, _, _, by rw [List.append_assoc]; exact hL, rfl, by rw [List.flatMap_append, List.map_append]; simp [trnS], rfl⟩
    · rintro ρ μ2 ⟨L1, L2, y4, y5, y6, hL, hd2, rfl, rfl⟩
      cases L2 with
      | cons ts L2 => cases hd2
      | nil =>
      rw [List.append_nil] at hL
      subst hL
      simp only [m_law_turns_1a_2, wpB, wpS, wpE, wpI, wpA, wpO, wpC, wpL]
      try simp -implicitDefEqProofs only [m_law_turns_1a_2, mset_same, wpB, wpS, wpE, wpI, wpA, wpO, wpC, wpL, q_AL, startD, enD, List.map_cons, List.map_nil, List.length_cons, List.length_nil, List.replicate, List.cons_append, List.nil_append, Nat.reduceAdd, Nat.reduceSub, MT.slots, wipeD, isiD, Option.toList_some, Option.toList_none, List.append_nil, List.getElem?_cons_zero, List.getElem?_cons_succ, Option.bind_some, mset_same, mset_mset, if_true, if_false, Bool.false_eq_true, reduceIte, Bool.not_true, Bool.not_false, Bool.true_eq_false, true_and, decide_eq_true_eq, fit_int, fit_bl, fit_non, deq_int, deq_bl]
      rw [mdel_mset _ _ _ hp]
      exact hk2 _ _ ⟨k + 1, r, _, _, _, _, _, by omega, by rw [Int.natCast_succ], rfl, rfl⟩
  · rintro ρ μ1 ⟨k, r, y2, y3, y4, y5, y6, hk, hd, rfl, rfl⟩
    cases r with
    | succ r => rw [rngD_cons] at hd; cases hd
    | zero =>
    have : k = n := by omega
    subst this
    simp only [m_law_turns_2, wpB, wpS, wpE, wpI, wpA, wpO, wpC, wpL]
    walk_at "dlu"
    exact q)
end Dl

namespace Dl
open PySem L2 PyProof.Rows
local macro_rules | `(tactic| walk_at "dlu") => `(tactic| try simp -implicitDefEqProofs only [wpB, wpS, wpE, wpI, wpA, wpO, wpC, wpL, q_AL, startD, enD, List.map_cons, List.map_nil, List.length_cons, List.length_nil, List.replicate, List.cons_append, List.nil_append, Nat.reduceAdd, Nat.reduceSub, MT.slots, wipeD, isiD, Option.toList_some, Option.toList_none, List.append_nil, List.getElem?_cons_zero, List.getElem?_cons_succ, Option.bind_some, mset_same, mset_mset, if_true, if_false, Bool.false_eq_true, reduceIte, Bool.not_true, Bool.not_false, Bool.true_eq_false, true_and, decide_eq_true_eq, fit_int, fit_bl, fit_non, deq_int, deq_bl])
local macro_rules | `(tactic| walk_at "dlv") => `(tactic| simp -implicitDefEqProofs only [wpB, wpS, wpE, wpI, wpA, wpO, wpC, wpL, q_AL, startD, enD, List.map_cons, List.map_nil, List.length_cons, List.length_nil, List.replicate, List.cons_append, List.nil_append, Nat.reduceAdd, Nat.reduceSub, MT.slots, wipeD, isiD, Option.toList_some, Option.toList_none, List.append_nil, List.getElem?_cons_zero, List.getElem?_cons_succ, Option.bind_some, mset_same, mset_mset, if_true, if_false, Bool.false_eq_true, reduceIte, Bool.not_true, Bool.not_false, Bool.true_eq_false, true_and, decide_eq_true_eq, fit_int, fit_bl, fit_non, deq_int, deq_bl])
local macro_rules | `(tactic| walk_at "szb") => `(tactic| first | assumption | exact szm (by walk_at "szb") (by walk_at "szb") | exact sza (by walk_at "szb") (by walk_at "szb") | exact szs (by walk_at "szb") (by walk_at "szb") | exact szn (by walk_at "szb") | exact Nat.lt_two_pow_self)
local macro_rules | `(tactic| walk_at "shw") => `(tactic| first | assumption | exact shw_int (abs_up (by walk_at "szb") (by decide)) (by decide) | exact shw_non (by decide) | exact shw_bl (by decide) | exact shw_lit (k := 6) (by decide) (by decide) | ((first | refine shT1 ?_ (by simp) | refine shT2 ?_ (by simp) | refine shT3 ?_ (by simp) | refine shL1 ?_ (by simp) | refine shL2 ?_ (by simp) | refine shL3 ?_ (by simp)); (simp only [shA, and_true]); (try with_reducible refine And.intro ?_ ?_); (all_goals (try with_reducible refine And.intro ?_ ?_)); (all_goals (try with_reducible refine And.intro ?_ ?_)); (all_goals (try with_reducible refine And.intro ?_ ?_)); (all_goals (try with_reducible refine And.intro ?_ ?_)); (all_goals walk_at "shw")))
theorem trn_mem : ∀ (n : Nat) (ts), ts ∈ trn n → ∀ c ∈ ts.1, c < n
  | 0, ts, h => by rw [trn, List.mem_singleton] at h; subst h; intro c hc; cases hc
  | n + 1, ts, h => by
    rw [trn, List.mem_flatMap] at h
    obtain ⟨a, ha, h⟩ := h
    obtain ⟨p, hp, rfl⟩ := List.mem_map.mp h
    have ih := trn_mem n a ha
    intro c hc
    simp only [insA, List.mem_append, List.mem_singleton] at hc
    rcases hc with (h1 | h1) | h1
    · exact Nat.lt_succ_of_lt (ih c (List.mem_of_mem_take h1))
    · omega
    · exact Nat.lt_succ_of_lt (ih c (List.mem_of_mem_drop h1))
theorem turn_at {t : List Nat} {j : Nat} (h : j < t.length) : L2.atI (t.map fun (i : Nat) => D.int (i : Int)) (j : Int) = some (D.int ((t.getD j 0 : Nat) : Int)) := at_natD (by
  rw [List.getElem?_map, List.getElem?_eq_getElem h, List.getD_eq_getElem?_getD, List.getElem?_eq_getElem h]; rfl)
def S_law_due : DSp := sp1 fun x μ Q _ => ∃ (p : Addr) (n : Nat) (M : Mx), x = .ref p ∧ μ p = some (rowsQ M n) ∧ n ≤ 5 ∧ (∀ i < n, ∀ j < n, szQ 10 (M i j)) ∧ Q (qD (dtM n M)) μ
def N_law_due : List Str := ["_law_rows", "_law_total", "_law_turn", "_law_sign", "_law_part", "_law_k"]
def m_law_due_2 : MB := (.cons (.ret (.var 1)) .nil)
def m_law_due_1a_2 : MB := (.cons (.asg (.name 1) (.call "_law_add" S_law_add (.cons (.var 1) (.cons (.var 4) .nil)))) .nil)
def m_law_due_1a_1a : MB := (.cons (.asg (.name 4) (.call "_law_mul" S_law_mul (.cons (.var 4) (.cons (.ix (.ix (.var 0) (.var 5)) (.ix (.var 2) (.var 5))) .nil)))) .nil)
def m_law_due_1a_1 : MB := (.cons (.loop (.name 5) (.rng1 (.bl1 .len (.var 0))) m_law_due_1a_1a) m_law_due_1a_2)
def m_law_due_1a : MB := (.cons (.asg (.name 4) (.tup (.cons (.var 3) (.cons (.int 1) .nil)))) m_law_due_1a_1)
def m_law_due_1 : MB := (.cons (.loop (.tup [2, 3]) (.seq (.call "_law_turns" S_law_turns (.cons (.bl1 .len (.var 0)) .nil))) m_law_due_1a) m_law_due_2)
def m_law_due : MB := (.cons (.asg (.name 1) (.tup (.cons (.int 0) (.cons (.int 1) .nil)))) m_law_due_1)
-- slots: 0=_law_rows 1=_law_total 2=_law_turn 3=_law_sign 4=_law_part 5=_law_k
theorem w_law_due : ∀ ds μ Q X, S_law_due ds μ Q X → ds.length = 1 ∧ wpB m_law_due (startD 6 ds) μ (enD Q X) := sp1_of (by
  rintro x μ Q X ⟨p, n, M, rfl, hp, hn, hM, q⟩
  simp only [m_law_due, wpB, wpS, wpE, wpI, wpA, wpO, wpC, wpL]
  walk_at "dlu"
  rw [q_zero]
  simp only [m_law_due_1, wpB, wpS, wpE, wpI, wpA, wpO, wpC, wpL]
  try simp -implicitDefEqProofs only [m_law_due_1, hp, wpB, wpS, wpE, wpI, wpA, wpO, wpC, wpL, q_AL, startD, enD, List.map_cons, List.map_nil, List.length_cons, List.length_nil, List.replicate, List.cons_append, List.nil_append, Nat.reduceAdd, Nat.reduceSub, MT.slots, wipeD, isiD, Option.toList_some, Option.toList_none, List.append_nil, List.getElem?_cons_zero, List.getElem?_cons_succ, Option.bind_some, mset_same, mset_mset, if_true, if_false, Bool.false_eq_true, reduceIte, Bool.not_true, Bool.not_false, Bool.true_eq_false, true_and, decide_eq_true_eq, fit_int, fit_bl, fit_non, deq_int, deq_bl]
  rw [rowsQ_len]
  refine ⟨n, rfl, hn, ?_⟩
  walk_at "dlu"
  have tl : (trn n).length ≤ 120 := trn_sz hn
  refine forW_by (fun ds ρ μ' => ∃ (L1 L2 : List (List Nat × Int)) (y2 y3 y4 y5 : Option D), L1 ++ L2 = trn n ∧ ds = L2.map tD ∧ μ = μ' ∧ szQ (1 + 60 * L1.length) (smR (L1.map (trW M n))) ∧ ρ = [some (.ref p), some (qD (smR (L1.map (trW M n)))), y2, y3, y4, y5]) ?_ ?_ _ _ _ ⟨[], trn n, _, _, _, _, rfl, rfl, rfl, sq0, rfl⟩
  · rintro d ds2 ρ μ2 k3 ⟨L1, L2, y2, y3, y4, y5, hL, hd2, rfl, st, rfl⟩ hk4
    cases L2 with
    | nil => cases hd2
    | cons ts L2 =>
    obtain ⟨rfl, rfl⟩ := List.cons.inj hd2
    have hm : ts ∈ trn n := by rw [← hL]; simp
    have l1 := trn_len n ts hm
    have sg := trn_sg n ts hm
    have tm := trn_mem n ts hm
    have ll : L1.length ≤ 120 := by have := congrArg List.length hL; rw [List.length_append] at this; omega
    show wpB _ _ _ _
    simp only [m_law_due_1a, wpB, wpS, wpE, wpI, wpA, wpO, wpC, wpL]
    walk_at "dlu"
    rw [q_int]
    simp only [m_law_due_1a_1, wpB, wpS, wpE, wpI, wpA, wpO, wpC, wpL]
    try simp -implicitDefEqProofs only [m_law_due_1a_1, hp, wpB, wpS, wpE, wpI, wpA, wpO, wpC, wpL, q_AL, startD, enD, List.map_cons, List.map_nil, List.length_cons, List.length_nil, List.replicate, List.cons_append, List.nil_append, Nat.reduceAdd, Nat.reduceSub, MT.slots, wipeD, isiD, Option.toList_some, Option.toList_none, List.append_nil, List.getElem?_cons_zero, List.getElem?_cons_succ, Option.bind_some, mset_same, mset_mset, if_true, if_false, Bool.false_eq_true, reduceIte, Bool.not_true, Bool.not_false, Bool.true_eq_false, true_and, decide_eq_true_eq, fit_int, fit_bl, fit_non, deq_int, deq_bl]
    rw [rowsQ_len]
    refine ⟨by omega, ?_⟩
    rw [Int.toNat_natCast]
    refine forW_by (fun ds ρ μ' => ∃ (j r2 : Nat) (y5 : Option D), j + r2 = n ∧ ds = rngD (j : Int) r2 ∧ μ = μ' ∧ szQ (1 + 10 * j) ((ts.2 : Rat) * prF (fun a => M a (ts.1.getD a 0)) j) ∧ ρ = [some (.ref p), some (qD (smR (L1.map (trW M n)))), some (.lst (ts.1.map fun (i : Nat) => D.int (i : Int))), some (.int ts.2), some (qD ((ts.2 : Rat) * prF (fun a => M a (ts.1.getD a 0)) j)), y5]) ?_ ?_ _ _ _ ⟨0, n, _, by omega, rfl, rfl, ?_, by rw [show prF (fun a => M a (ts.1.getD a 0)) 0 = 1 from rfl, Rat.mul_one]⟩
    rotate_left 2
    · rw [show prF (fun a => M a (ts.1.getD a 0)) 0 = 1 from rfl, Rat.mul_one]
      rcases sg with e | e <;> rw [e] <;> exact ⟨by decide +kernel, by decide +kernel⟩
    · rintro d ds3 ρ μ3 k5 ⟨j, r2, y5, hj, hd3, rfl, sz, rfl⟩ hk6
      cases r2 with
      | zero => cases hd3
      | succ r2 =>
      rw [rngD_cons] at hd3
      obtain ⟨rfl, rfl⟩ := List.cons.inj hd3
      have jn : j < n := by omega
      have cn : ts.1.getD j 0 < n := by
        rw [List.getD_eq_getElem?_getD, List.getElem?_eq_getElem (by omega)]
        exact tm _ (List.getElem_mem _)
      simp only [m_law_due_1a_1a, wpB, wpS, wpE, wpI, wpA, wpO, wpC, wpL]
      try simp -implicitDefEqProofs only [m_law_due_1a_1a, hp, rowsQ_at M jn, wpB, wpS, wpE, wpI, wpA, wpO, wpC, wpL, q_AL, startD, enD, List.map_cons, List.map_nil, List.length_cons, List.length_nil, List.replicate, List.cons_append, List.nil_append, Nat.reduceAdd, Nat.reduceSub, MT.slots, wipeD, isiD, Option.toList_some, Option.toList_none, List.append_nil, List.getElem?_cons_zero, List.getElem?_cons_succ, Option.bind_some, mset_same, mset_mset, if_true, if_false, Bool.false_eq_true, reduceIte, Bool.not_true, Bool.not_false, Bool.true_eq_false, true_and, decide_eq_true_eq, fit_int, fit_bl, fit_non, deq_int, deq_bl]
      rw [turn_at (by omega)]
      walk_at "dlu"
      rw [rowQ_at (M j) cn]
      walk_at "dlu"
      refine lmul_q sz (hM j jn _ cn) (by omega) fun s2 => ?_
      rw [show (ts.2 : Rat) * prF (fun a => M a (ts.1.getD a 0)) j * M j (ts.1.getD j 0) = (ts.2 : Rat) * prF (fun a => M a (ts.1.getD a 0)) (j + 1) by rw [prF, Rat.mul_assoc]] at s2 ⊢
      walk_at "dlu"
      exact hk6 _ _ ⟨j + 1, r2, _, by omega, by rw [Int.natCast_succ], rfl, s2.up (by omega), rfl⟩
    · rintro ρ μ3 ⟨j, r2, y5, hj, hd3, rfl, sz, rfl⟩
      cases r2 with
      | succ r2 => rw [rngD_cons] at hd3; cases hd3
      | zero =>
      have : j = n := by omega
      subst this
      simp only [m_law_due_1a_2, wpB, wpS, wpE, wpI, wpA, wpO, wpC, wpL]
      walk_at "dlu"
      refine ladd_q st sz (by omega) fun s2 => ?_
      have e : smR (L1.map (trW M j)) + (ts.2 : Rat) * prF (fun a => M a (ts.1.getD a 0)) j = smR ((L1 ++ [ts]).map (trW M j)) := by
        rw [List.map_append, smR_app]
        show _ = _ + ((ts.2 : Rat) * prF (fun a => M a (ts.1.getD a 0)) j + 0)
        grind
      rw [e] at s2 ⊢
      walk_at "dlu"
      exact hk4 _ _ ⟨L1 ++ [ts], L2, _, _, _, _, by rw [List.append_assoc]; exact hL, rfl, rfl, s2.up (by rw [List.length_append, List.length_singleton]; omega), rfl⟩
  · rintro ρ μ2 ⟨L1, L2, y2, y3, y4, y5, hL, hd2, rfl, st, rfl⟩
    cases L2 with
    | cons ts L2 => cases hd2
    | nil =>
    rw [List.append_nil] at hL
    subst hL
    rw [leib]
    simp only [m_law_due_2, wpB, wpS, wpE, wpI, wpA, wpO, wpC, wpL]
    walk_at "dlu"
    exact q)
end Dl

namespace Dl
open PySem L2 PyProof.Rows
local macro_rules | `(tactic| walk_at "dlu") => `(tactic| try simp -implicitDefEqProofs only [wpB, wpS, wpE, wpI, wpA, wpO, wpC, wpL, q_AL, startD, enD, List.map_cons, List.map_nil, List.length_cons, List.length_nil, List.replicate, List.cons_append, List.nil_append, Nat.reduceAdd, Nat.reduceSub, MT.slots, wipeD, isiD, Option.toList_some, Option.toList_none, List.append_nil, List.getElem?_cons_zero, List.getElem?_cons_succ, Option.bind_some, mset_same, mset_mset, if_true, if_false, Bool.false_eq_true, reduceIte, Bool.not_true, Bool.not_false, Bool.true_eq_false, true_and, decide_eq_true_eq, fit_int, fit_bl, fit_non, deq_int, deq_bl])
local macro_rules | `(tactic| walk_at "dlv") => `(tactic| simp -implicitDefEqProofs only [wpB, wpS, wpE, wpI, wpA, wpO, wpC, wpL, q_AL, startD, enD, List.map_cons, List.map_nil, List.length_cons, List.length_nil, List.replicate, List.cons_append, List.nil_append, Nat.reduceAdd, Nat.reduceSub, MT.slots, wipeD, isiD, Option.toList_some, Option.toList_none, List.append_nil, List.getElem?_cons_zero, List.getElem?_cons_succ, Option.bind_some, mset_same, mset_mset, if_true, if_false, Bool.false_eq_true, reduceIte, Bool.not_true, Bool.not_false, Bool.true_eq_false, true_and, decide_eq_true_eq, fit_int, fit_bl, fit_non, deq_int, deq_bl])
local macro_rules | `(tactic| walk_at "szb") => `(tactic| first | assumption | exact szm (by walk_at "szb") (by walk_at "szb") | exact sza (by walk_at "szb") (by walk_at "szb") | exact szs (by walk_at "szb") (by walk_at "szb") | exact szn (by walk_at "szb") | exact Nat.lt_two_pow_self)
local macro_rules | `(tactic| walk_at "shw") => `(tactic| first | assumption | exact shw_int (abs_up (by walk_at "szb") (by decide)) (by decide) | exact shw_non (by decide) | exact shw_bl (by decide) | exact shw_lit (k := 6) (by decide) (by decide) | ((first | refine shT1 ?_ (by simp) | refine shT2 ?_ (by simp) | refine shT3 ?_ (by simp) | refine shL1 ?_ (by simp) | refine shL2 ?_ (by simp) | refine shL3 ?_ (by simp)); (simp only [shA, and_true]); (try with_reducible refine And.intro ?_ ?_); (all_goals (try with_reducible refine And.intro ?_ ?_)); (all_goals (try with_reducible refine And.intro ?_ ?_)); (all_goals (try with_reducible refine And.intro ?_ ?_)); (all_goals (try with_reducible refine And.intro ?_ ?_)); (all_goals walk_at "shw")))
/-! the great table -/
/-- rows of one side of the middle -/
def gE (n : Nat) (U : Mx) (k : Nat) : Prop := ∀ i < k, (∃ t b : Int, U i i = Rat.divInt t b ∧ t.natAbs ≤ 9 ∧ 1 ≤ b ∧ b ≤ 3) ∧ (∀ j < i, U i j = 0) ∧ ∀ j, i < j → j < n → ∃ y : Int, U i j = (y : Rat) ∧ y.natAbs ≤ 4
def gRow (k : Nat) (m : Rat) (f : Nat → Int) : Nat → Rat := fun j => if j < k then 0 else if j = k then m else ((f (j - k - 1) : Int) : Rat)
theorem gRow_is (n k : Nat) (hk : k < n) (m : Rat) (f : Nat → Int) : (List.replicate k [qD 0]).flatten ++ [qD m] ++ ((List.range (n - k - 1)).map fun j => qD ((f j : Int) : Rat)) = (List.range n).map fun j => qD (gRow k m f j) := by
  apply List.ext_getElem?
  intro i
  have e0 : (List.replicate k [qD 0]).flatten = List.replicate k (qD 0) := by
    induction k with
    | zero => rfl
    | succ k ih => rw [List.replicate_succ, List.flatten_cons, ih (by omega), List.replicate_succ]; rfl
  rw [e0]
  by_cases h : i < n
  · rw [List.getElem?_map, List.getElem?_range h]
    show _ = some (qD (gRow k m f i))
    unfold gRow
    by_cases c : i < k
    · rw [if_pos c, List.append_assoc, List.getElem?_append_left (by rw [List.length_replicate]; exact c), List.getElem?_replicate, if_pos c]
    · rw [if_neg c, List.append_assoc, List.getElem?_append_right (by rw [List.length_replicate]; omega), List.length_replicate]
      by_cases c2 : i = k
      · subst c2
        rw [if_pos rfl, Nat.sub_self]; rfl
      · rw [if_neg c2, show i - k = (i - k - 1) + 1 by omega]
        show ((List.range (n - k - 1)).map fun j => qD ((f j : Int) : Rat))[i - k - 1]? = _
        rw [List.getElem?_map, List.getElem?_range (by omega)]; rfl
  · rw [List.getElem?_eq_none (by simp; omega), List.getElem?_eq_none (by simp; omega)]
theorem rot_rows (U : Mx) {n t : Nat} (h : t < n) : (rowsQ U n).drop t ++ (rowsQ U n).take t = rowsQ (rotM n t U) n := by
  apply List.ext_getElem?
  intro i
  have ln : (rowsQ U n).length = n := rowsQ_len U n
  by_cases c : i < n - t
  · rw [List.getElem?_append_left (by rw [List.length_drop, ln]; exact c), List.getElem?_drop]
    unfold rowsQ rotM
    rw [List.getElem?_map, List.getElem?_map, List.getElem?_range (by omega), List.getElem?_range (by omega)]
    show some (D.lst _) = some (D.lst _)
    rw [Nat.mod_eq_of_lt (show i + t < n by omega), Nat.add_comm i t]
  · rw [List.getElem?_append_right (by rw [List.length_drop, ln]; omega), List.length_drop, ln]
    by_cases d : i < n
    · rw [List.getElem?_take, if_pos (by omega)]
      unfold rowsQ rotM
      rw [List.getElem?_map, List.getElem?_map, List.getElem?_range (by omega), List.getElem?_range (by omega)]
      show some (D.lst _) = some (D.lst _)
      rw [show i + t = (i - (n - t)) + n by omega, Nat.add_mod_right, Nat.mod_eq_of_lt (show i - (n - t) < n by omega)]
    · rw [List.getElem?_eq_none (by rw [List.length_take, ln]; omega), List.getElem?_eq_none (by rw [rowsQ_len]; omega)]
def S_law_great : DSp := sp2 fun a b μ Q _ => ∃ (ns : List Int) (s : Nat), a = .lst (ns.map .int) ∧ b = .int s ∧ s ≤ 50 ∧ ∀ (n t : Nat) (U : Mx), 6 ≤ n → n ≤ 12 → t < n → gE n U n → ∀ μ', exM μ μ' → Q (.tup [.lst (rowsQ (rotM n t U) n), qD (dtM n (rotM n t U))]) μ'
def N_law_great : List Str := ["_law_script", "_law_at", "_law_number", "_law_size", "_law_rows", "_law_due_here", "_law_k", "_law_shift", "_law_other", "_law_middle", "_law_j"]
def m_law_great_7 : MB := (.cons (.ret (.tup (.cons (.bin .add (.slc (.var 4) (.so (.var 7)) .no) (.slc (.var 4) .no (.so (.var 7)))) (.cons (.var 5) .nil)))) .nil)
def m_law_great_6a : MB := (.cons (.asg (.name 5) (.tup (.cons (.bin .sub (.int 0) (.ixc (.var 5) 0)) (.cons (.ixc (.var 5) 1) .nil)))) .nil)
def m_law_great_6 : MB := (.cons (.ite (.cmp .eq (.bin .mod (.bin .mul (.var 7) (.bin .sub (.var 3) (.var 7))) (.int 2)) (.int 1)) m_law_great_6a .nil) m_law_great_7)
def m_law_great_5 : MB := (.cons (.asg (.name 7) (.bin .mod (.bin .fdiv (.var 2) (.int 7)) (.var 3))) m_law_great_6)
def m_law_great_4a_3 : MB := (.cons (.app (.var 4) (.bin .add (.bin .add (.bin .mul (.lst (.cons (.tup (.cons (.int 0) (.cons (.int 1) .nil))) .nil)) (.var 6)) (.lst (.cons (.var 9) .nil))) (.lc false (.name 10) (.rng1 (.bin .sub (.bin .sub (.var 3) (.var 6)) (.int 1))) .no (.tup (.cons (.bin .sub (.bin .mod (.bin .fdiv (.var 8) (.bin .add (.int 54) (.var 10))) (.int 9)) (.int 4)) (.cons (.int 1) .nil)))))) .nil)
def m_law_great_4a_2 : MB := (.cons (.asg (.name 5) (.call "_law_mul" S_law_mul (.cons (.var 5) (.cons (.var 9) .nil)))) m_law_great_4a_3)
def m_law_great_4a_1 : MB := (.cons (.asg (.name 9) (.call "_law_frac" S_law_frac (.cons (.bin .mul (.ix (.lst (.cons (.int 1) (.cons (.neg (.int 1)) .nil))) (.bin .mod (.var 8) (.int 2))) (.bin .add (.int 1) (.bin .mod (.bin .fdiv (.var 8) (.int 2)) (.int 9)))) (.cons (.bin .add (.int 1) (.bin .mod (.bin .fdiv (.var 8) (.int 18)) (.int 3))) .nil)))) m_law_great_4a_2)
def m_law_great_4a : MB := (.cons (.asg (.name 8) (.call "_law_cell" S_law_cell (.cons (.var 0) (.cons (.bin .add (.bin .add (.var 1) (.int 1)) (.var 6)) .nil)))) m_law_great_4a_1)
def m_law_great_4 : MB := (.cons (.loop (.name 6) (.rng1 (.var 3)) m_law_great_4a) m_law_great_5)
def m_law_great_3 : MB := (.cons (.asg (.name 5) (.tup (.cons (.int 1) (.cons (.int 1) .nil)))) m_law_great_4)
def m_law_great_2 : MB := (.cons (.asg (.name 4) (.newl .nil)) m_law_great_3)
def m_law_great_1 : MB := (.cons (.asg (.name 3) (.bin .add (.int 6) (.bin .mod (.var 2) (.int 7)))) m_law_great_2)
def m_law_great : MB := (.cons (.asg (.name 2) (.call "_law_cell" S_law_cell (.cons (.var 0) (.cons (.var 1) .nil)))) m_law_great_1)
-- slots: 0=_law_script 1=_law_at 2=_law_number 3=_law_size 4=_law_rows 5=_law_due_here 6=_law_k 7=_law_shift 8=_law_other 9=_law_middle 10=_law_j
theorem w_law_great : ∀ ds μ Q X, S_law_great ds μ Q X → ds.length = 2 ∧ wpB m_law_great (startD 11 ds) μ (enD Q X) := sp2_of (by
  rintro a b μ Q X ⟨ns, s, rfl, rfl, hs, q⟩
  simp only [m_law_great, wpB, wpS, wpE, wpI, wpA, wpO, wpC, wpL]
  walk_at "dlu"
  refine cell_of (by omega) (by omega) fun N hN _ => ?_
  walk_at "dlu"
  simp only [m_law_great_1, wpB, wpS, wpE, wpI, wpA, wpO, wpC, wpL]
  walk_at "dlu"
  obtain ⟨a0, a1⟩ := fmod_pos (x := N) (m := 7) (by decide)
  refine ⟨by decide, ?_⟩
  obtain ⟨r, hr⟩ := Int.eq_ofNat_of_zero_le a0
  rw [hr]
  rw [show (6 : Int) + (r : Int) = ((6 + r : Nat) : Int) by omega]
  have n6 : 6 ≤ 6 + r := by omega
  have n12 : 6 + r ≤ 12 := by omega
  generalize 6 + r = n at *
  simp only [m_law_great_2, wpB, wpS, wpE, wpI, wpA, wpO, wpC, wpL]
  walk_at "dlu"
  intro p hp
  simp only [m_law_great_3, wpB, wpS, wpE, wpI, wpA, wpO, wpC, wpL]
  walk_at "dlu"
  rw [q_one]
  simp only [m_law_great_4, wpB, wpS, wpE, wpI, wpA, wpO, wpC, wpL]
  walk_at "dlu"
  refine ⟨by omega, ?_⟩
  rw [Int.toNat_natCast]
  refine forW_by (fun ds ρ μ' => ∃ (k r : Nat) (U : Mx) (y6 y8 y9 y10 : Option D), k + r = n ∧ ds = rngD (k : Int) r ∧ μ' = mset μ p (rowsP U n k) ∧ gE n U k ∧ szQ (1 + 10 * k) (dgP k U) ∧ ρ = [some (.lst (ns.map .int)), some (.int s), some (.int N), some (.int n), some (.ref p), some (qD (dgP k U)), y6, none, y8, y9, y10]) ?_ ?_ _ _ _ ⟨0, n, fun _ _ => 0, _, _, _, _, by omega, rfl, rfl, fun _ h => absurd h (by omega), sq1, rfl⟩
  · rintro d ds ρ μ1 kk ⟨k, r, U, y6, y8, y9, y10, hk, hd, rfl, hU, sz, rfl⟩ hk2
    cases r with
    | zero => cases hd
    | succ r =>
    rw [rngD_cons] at hd
    obtain ⟨rfl, rfl⟩ := List.cons.inj hd
    simp only [m_law_great_4a, wpB, wpS, wpE, wpI, wpA, wpO, wpC, wpL]
    walk_at "dlu"
    refine cell_of (by omega) (by omega) fun O hO _ => ?_
    walk_at "dlu"
    simp only [m_law_great_4a_1, wpB, wpS, wpE, wpI, wpA, wpO, wpC, wpL]
    walk_at "dlu"
    obtain ⟨c0, c1⟩ := fmod_pos (x := O) (m := 2) (by decide)
    have hv : ∃ v : Int, L2.atI [D.int 1, D.int (-1)] (O.fmod 2) = some (.int v) ∧ (v = 1 ∨ v = -1) := by
      have : O.fmod 2 = 0 ∨ O.fmod 2 = 1 := by omega
      rcases this with e | e <;> rw [e]
      · exact ⟨1, rfl, .inl rfl⟩
      · exact ⟨-1, rfl, .inr rfl⟩
    obtain ⟨v, hv, v1⟩ := hv
    rw [hv]
    walk_at "dlu"
    obtain ⟨d0, d1⟩ := fmod_pos (x := O.fdiv 2) (m := 9) (by decide)
    obtain ⟨e0, e1⟩ := fmod_pos (x := O.fdiv 18) (m := 3) (by decide)
    generalize (O.fdiv 2).fmod 9 = u at *
    generalize (O.fdiv 18).fmod 3 = w at *
    refine ⟨by decide, by decide, by decide, mul_ok 1 4 (by rcases v1 with e | e <;> rw [e] <;> decide) (by omega) (by decide), by decide, by decide, ?_⟩
    refine ⟨_, _, rfl, rfl, by omega, ?_⟩
    rw [show frD (v * (1 + u)) (1 + w) = qD (Rat.divInt (v * (1 + u)) (1 + w)) from congrArg fD (frP_q (by omega))]
    have hm : ∃ t b : Int, Rat.divInt (v * (1 + u)) (1 + w) = Rat.divInt t b ∧ t.natAbs ≤ 9 ∧ 1 ≤ b ∧ b ≤ 3 := ⟨_, _, rfl, by rcases v1 with e | e <;> rw [e] <;> omega, by omega, by omega⟩
    have ms : szQ 5 (Rat.divInt (v * (1 + u)) (1 + w)) := szQ_mk (by omega) (by rcases v1 with e | e <;> rw [e] <;> omega) (by omega)
    generalize Rat.divInt (v * (1 + u)) (1 + w) = m at *
    walk_at "dlu"
    simp only [m_law_great_4a_2, wpB, wpS, wpE, wpI, wpA, wpO, wpC, wpL]
    walk_at "dlu"
    refine lmul_q sz ms (by omega) fun s2 => ?_
    walk_at "dlu"
    simp only [m_law_great_4a_3, wpB, wpS, wpE, wpI, wpA, wpO, wpC, wpL]
    try simp -implicitDefEqProofs only [m_law_great_4a_3, mset_same, Option.isSome_some, wpB, wpS, wpE, wpI, wpA, wpO, wpC, wpL, q_AL, startD, enD, List.map_cons, List.map_nil, List.length_cons, List.length_nil, List.replicate, List.cons_append, List.nil_append, Nat.reduceAdd, Nat.reduceSub, MT.slots, wipeD, isiD, Option.toList_some, Option.toList_none, List.append_nil, List.getElem?_cons_zero, List.getElem?_cons_succ, Option.bind_some, mset_same, mset_mset, if_true, if_false, Bool.false_eq_true, reduceIte, Bool.not_true, Bool.not_false, Bool.true_eq_false, true_and, decide_eq_true_eq, fit_int, fit_bl, fit_non, deq_int, deq_bl]
    rw [show D.tup [D.int 0, D.int 1] = qD 0 from q_zero, Int.toNat_natCast]
    have kn : k < n := by omega
    have fl : (List.replicate k [qD 0]).flatten.length = k := by simp
    have rl : (rngD 0 ((n : Int) - (k : Int) - 1).toNat).length = n - k - 1 := by unfold rngD; rw [List.length_map, List.length_range]; omega
    refine ⟨by omega, by omega, by omega, by rw [fl]; omega, ⟨by omega, by omega⟩, by rw [rl]; omega, ?_⟩
    refine lcW_map (fun d => match d with | .int j => qD ((((O.fdiv (54 + j)).fmod 9 - 4 : Int)) : Rat) | d => d) _ _ (fun d hd k hk => ?_) [] ?_
    · obtain ⟨j, rfl, j0, j1⟩ := rngD_mem hd
      walk_at "dlu"
      refine ⟨by unfold divOk; omega, by decide, ?_⟩
      rw [q_int]
      exact hk
    rw [List.nil_append]
    have er : (rngD 0 ((n : Int) - (k : Int) - 1).toNat).map (fun d => match d with | .int j => qD ((((O.fdiv (54 + j)).fmod 9 - 4 : Int)) : Rat) | d => d) = (List.range (n - k - 1)).map fun j => qD (((fun j : Nat => (O.fdiv (54 + (j : Int))).fmod 9 - 4) j : Int) : Rat) := by
      unfold rngD
      rw [List.map_map, show ((n : Int) - (k : Int) - 1).toNat = n - k - 1 by omega]
      refine List.map_congr_left fun j _ => ?_
      simp
    rw [er]
    have hf : ∀ j : Nat, ((fun j : Nat => (O.fdiv (54 + (j : Int))).fmod 9 - 4) j).natAbs ≤ 4 := fun j => by
      obtain ⟨z0, z1⟩ := fmod_pos (x := O.fdiv (54 + (j : Int))) (m := 9) (by decide)
      show ((O.fdiv (54 + (j : Int))).fmod 9 - 4).natAbs ≤ 4
      omega
    generalize (fun j : Nat => (O.fdiv (54 + (j : Int))).fmod 9 - 4) = f at *
    walk_at "dlu"
    refine ⟨by rw [List.length_append, fl, List.length_singleton, List.length_map, List.length_range]; omega, by unfold rowsP; rw [List.length_map, List.length_range]; omega, ?_⟩
    rw [gRow_is n k kn m f, rowsP_up]
    have ed : dgP k U * m = dgP (k + 1) (upd U k (gRow k m f)) := by
      rw [dgP, upd_same, dg_congr k (M := upd U k (gRow k m f)) (N := U) fun i hi => by rw [upd_ne _ _ (by omega)]]
      unfold gRow
      rw [if_neg (by omega), if_pos rfl]
    rw [ed] at s2 ⊢
    refine hk2 _ _ ⟨k + 1, r, _, _, _, _, _, by omega, by rw [Int.natCast_succ], rfl, fun i hi => ?_, s2.up (by omega), rfl⟩
    by_cases e : i = k
    · subst e
      refine ⟨by rw [upd_same]; unfold gRow; rw [if_neg (by omega), if_pos rfl]; exact hm, fun j hj => by rw [upd_same]; unfold gRow; rw [if_pos hj], fun j h1 h2 => ?_⟩
      rw [upd_same]
      unfold gRow
      rw [if_neg (by omega), if_neg (by omega)]
      exact ⟨_, rfl, hf _⟩
    · obtain ⟨g1, g2, g3⟩ := hU i (by omega)
      refine ⟨by rw [upd_ne _ _ e]; exact g1, fun j hj => by rw [upd_ne _ _ e]; exact g2 j hj, fun j h1 h2 => ?_⟩
      rw [upd_ne _ _ e]
      exact g3 j h1 h2
  · rintro ρ μ1 ⟨k, r, U, y6, y8, y9, y10, hk, hd, rfl, hU, sz, rfl⟩
    cases r with
    | succ r => rw [rngD_cons] at hd; cases hd
    | zero =>
    have : k = n := by omega
    subst this
    simp only [m_law_great_5, wpB, wpS, wpE, wpI, wpA, wpO, wpC, wpL]
    walk_at "dlu"
    obtain ⟨t0, t1⟩ := fmod_pos (x := N.fdiv 7) (m := (k : Int)) (by omega)
    refine ⟨by decide, by omega, ?_⟩
    generalize (N.fdiv 7).fmod (k : Int) = t at *
    obtain ⟨t, rfl⟩ := Int.eq_ofNat_of_zero_le t0
    have tk : t < k := by omega
    have hd := dt_rot k U (by omega) t
    rw [rot_sgQ tk, dt_tri k U fun i hi j hj => (hU i hi).2.1 j hj] at hd
    have fin : ∀ (x : Rat), x = dtM k (rotM k t U) → wpB m_law_great_7 [some (.lst (ns.map .int)), some (.int s), some (.int N), some (.int k), some (.ref p), some (qD x), y6, some (.int t), y8, y9, y10] (mset μ p (rowsP U k k)) (enD Q X) := by
      rintro x rfl
      simp only [m_law_great_7, wpB, wpS, wpE, wpI, wpA, wpO, wpC, wpL]
      try simp -implicitDefEqProofs only [m_law_great_7, mset_same, wpB, wpS, wpE, wpI, wpA, wpO, wpC, wpL, q_AL, startD, enD, List.map_cons, List.map_nil, List.length_cons, List.length_nil, List.replicate, List.cons_append, List.nil_append, Nat.reduceAdd, Nat.reduceSub, MT.slots, wipeD, isiD, Option.toList_some, Option.toList_none, List.append_nil, List.getElem?_cons_zero, List.getElem?_cons_succ, Option.bind_some, mset_same, mset_mset, if_true, if_false, Bool.false_eq_true, reduceIte, Bool.not_true, Bool.not_false, Bool.true_eq_false, true_and, decide_eq_true_eq, fit_int, fit_bl, fit_non, deq_int, deq_bl]
      rw [cut_from, cut_to]
      refine ⟨by rw [List.length_drop, List.length_take]; unfold rowsP; rw [List.length_map, List.length_range]; omega, ?_⟩
      rw [show rowsP U k k = rowsQ U k from rfl, rot_rows U tk]
      exact q k t U n6 n12 tk hU _ ((exM.refl μ).new hp)
    simp only [m_law_great_6, m_law_great_6a, wpB, wpS, wpE, wpI, wpA, wpO, wpC, wpL]
    walk_at "dlu"
    have ep : (t : Int) * ((k : Int) - (t : Int)) = ((t * (k - t) : Nat) : Int) := by rw [Int.natCast_mul, Int.natCast_sub (by omega)]
    have tb : t * (k - t) ≤ 12 * 12 := Nat.mul_le_mul (by omega) (by omega)
    refine ⟨mul_ok 4 4 (by omega) (by omega) (by decide), by decide, ?_⟩
    rw [ep, show (((t * (k - t) : Nat) : Int).fmod 2) = ((t * (k - t) % 2 : Nat) : Int) from fmod_nat _ 2]
    generalize t * (k - t) = z at *
    by_cases e : z % 2 = 0
    · refine ite_f (by rw [e]; decide) (fin _ ?_)
      rw [hd]
      unfold sgQ
      rw [if_pos e]; grind
    · refine ite_t (by rw [show z % 2 = 1 by omega]; decide) ?_
      rw [neg_qs]
      refine fin _ ?_
      rw [hd]
      unfold sgQ
      rw [if_neg e]; grind)
end Dl

namespace Dl
open PySem L2 PyProof.Rows
local macro_rules | `(tactic| walk_at "dlu") => `(tactic| try simp -implicitDefEqProofs only [wpB, wpS, wpE, wpI, wpA, wpO, wpC, wpL, q_AL, startD, enD, List.map_cons, List.map_nil, List.length_cons, List.length_nil, List.replicate, List.cons_append, List.nil_append, Nat.reduceAdd, Nat.reduceSub, MT.slots, wipeD, isiD, Option.toList_some, Option.toList_none, List.append_nil, List.getElem?_cons_zero, List.getElem?_cons_succ, Option.bind_some, mset_same, mset_mset, if_true, if_false, Bool.false_eq_true, reduceIte, Bool.not_true, Bool.not_false, Bool.true_eq_false, true_and, decide_eq_true_eq, fit_int, fit_bl, fit_non, deq_int, deq_bl])
local macro_rules | `(tactic| walk_at "dlv") => `(tactic| simp -implicitDefEqProofs only [wpB, wpS, wpE, wpI, wpA, wpO, wpC, wpL, q_AL, startD, enD, List.map_cons, List.map_nil, List.length_cons, List.length_nil, List.replicate, List.cons_append, List.nil_append, Nat.reduceAdd, Nat.reduceSub, MT.slots, wipeD, isiD, Option.toList_some, Option.toList_none, List.append_nil, List.getElem?_cons_zero, List.getElem?_cons_succ, Option.bind_some, mset_same, mset_mset, if_true, if_false, Bool.false_eq_true, reduceIte, Bool.not_true, Bool.not_false, Bool.true_eq_false, true_and, decide_eq_true_eq, fit_int, fit_bl, fit_non, deq_int, deq_bl])
local macro_rules | `(tactic| walk_at "szb") => `(tactic| first | assumption | exact szm (by walk_at "szb") (by walk_at "szb") | exact sza (by walk_at "szb") (by walk_at "szb") | exact szs (by walk_at "szb") (by walk_at "szb") | exact szn (by walk_at "szb") | exact Nat.lt_two_pow_self)
local macro_rules | `(tactic| walk_at "shw") => `(tactic| first | assumption | exact shw_int (abs_up (by walk_at "szb") (by decide)) (by decide) | exact shw_non (by decide) | exact shw_bl (by decide) | exact shw_lit (k := 6) (by decide) (by decide) | ((first | refine shT1 ?_ (by simp) | refine shT2 ?_ (by simp) | refine shT3 ?_ (by simp) | refine shL1 ?_ (by simp) | refine shL2 ?_ (by simp) | refine shL3 ?_ (by simp)); (simp only [shA, and_true]); (try with_reducible refine And.intro ?_ ?_); (all_goals (try with_reducible refine And.intro ?_ ?_)); (all_goals (try with_reducible refine And.intro ?_ ?_)); (all_goals (try with_reducible refine And.intro ?_ ?_)); (all_goals (try with_reducible refine And.intro ?_ ?_)); (all_goals walk_at "shw")))
def tEn (x : Rat) : Prop := ∃ y : Int, x * 12 = (y : Rat) ∧ y.natAbs < 2 ^ 8
theorem smE.t {x : Rat} (h : smE x) : ∃ y : Int, x * 12 = (y : Rat) ∧ y.natAbs ≤ 108 := by
  obtain ⟨t, b, rfl, h1, h2, h3⟩ := h
  have : b = 1 ∨ b = 2 ∨ b = 3 ∨ b = 4 := by omega
  rw [Rat.divInt_eq_div]
  rcases this with rfl | rfl | rfl | rfl
  · exact ⟨t * 12, by rw [Rat.intCast_mul, show ((1 : Int) : Rat) = 1 from rfl, show ((12 : Int) : Rat) = 12 from rfl]; grind, by omega⟩
  · exact ⟨t * 6, by rw [Rat.intCast_mul, show ((2 : Int) : Rat) = 2 from rfl, show ((6 : Int) : Rat) = 6 from rfl]; grind, by omega⟩
  · exact ⟨t * 4, by rw [Rat.intCast_mul, show ((3 : Int) : Rat) = 3 from rfl, show ((4 : Int) : Rat) = 4 from rfl]; grind, by omega⟩
  · exact ⟨t * 3, by rw [Rat.intCast_mul, show ((4 : Int) : Rat) = 4 from rfl, show ((3 : Int) : Rat) = 3 from rfl]; grind, by omega⟩
theorem gE_bd {n t : Nat} {U : Mx} (tn : t < n) (h : gE n U n) : bdM n 8 (rotM n t U) := ⟨6, by decide, by decide, fun i hi j hj => by
  have im : (i + t) % n < n := Nat.mod_lt _ (by omega)
  show ∃ y : Int, U ((i + t) % n) j * ((6 : Int) : Rat) = (y : Rat) ∧ y.natAbs < 2 ^ 8
  generalize (i + t) % n = a at *
  obtain ⟨⟨t, b, e, h1, h2, h3⟩, g2, g3⟩ := h a im
  rcases Nat.lt_trichotomy j a with c | c | c
  · rw [g2 j c]
    exact ⟨0, by decide +kernel, by decide⟩
  · subst c
    rw [e, Rat.divInt_eq_div]
    have : b = 1 ∨ b = 2 ∨ b = 3 := by omega
    rcases this with rfl | rfl | rfl
    · exact ⟨t * 6, by rw [Rat.intCast_mul, show ((1 : Int) : Rat) = 1 from rfl, show ((6 : Int) : Rat) = 6 from rfl]; grind, by omega⟩
    · exact ⟨t * 3, by rw [Rat.intCast_mul, show ((2 : Int) : Rat) = 2 from rfl, show ((6 : Int) : Rat) = 6 from rfl, show ((3 : Int) : Rat) = 3 from rfl]; grind, by omega⟩
    · exact ⟨t * 2, by rw [Rat.intCast_mul, show ((3 : Int) : Rat) = 3 from rfl, show ((6 : Int) : Rat) = 6 from rfl, show ((2 : Int) : Rat) = 2 from rfl]; grind, by omega⟩
  · obtain ⟨y, e, b⟩ := g3 j c hj
    rw [e]
    exact ⟨y * 6, by rw [Rat.intCast_mul], by omega⟩⟩
theorem p2b {n : Nat} (h : n ≤ 12) : 2 ^ n * (8 + 1) ≤ 10500000 := by
  have := Nat.mul_le_mul_right (8 + 1) (Nat.pow_le_pow_right (show 0 < 2 by decide) h)
  have e : 2 ^ 12 * (8 + 1) ≤ 10500000 := by decide
  omega
def tEs (n : Nat) (M : Mx) : Prop := ∀ i < n, ∀ j < n, tEn (M i j)
theorem tEs.bd {n : Nat} {M : Mx} (h : tEs n M) : bdM n 8 M := ⟨12, by decide, by decide, fun i hi j hj => by
  obtain ⟨y, e, b⟩ := h i hi j hj
  exact ⟨y, e, b⟩⟩
theorem rows_fit (M : Mx) (n k : Nat) : fit (k + 3) (.lst (rowsQ M n)) = true := by
  rw [fit_lst, List.all_eq_true]
  intro d hd
  unfold rowsQ at hd
  obtain ⟨i, _, rfl⟩ := List.mem_map.mp hd
  rw [fit_lst, List.all_eq_true]
  intro d hd
  obtain ⟨j, _, rfl⟩ := List.mem_map.mp hd
  exact fit_q _ _
theorem two_L {L : List D} {a b : D} (h0 : L[0]? = some a) (h1 : L[1]? = some b) : L = a :: b :: L.drop 2 := by
  cases L with
  | nil => cases h0
  | cons x L =>
  cases L with
  | nil => cases h1
  | cons y L =>
  cases h0
  cases h1
  rfl
def S_law : DSp := spLaw small
def N_law : List Str := ["_law_script", "_law_number", "_law_size", "_law_rows", "_law_handed", "_law_due_here", "_law_twin", "_law_great_here", "_law_worth", "_law_row", "_law_one", "_law_other"]
def m_law_10 : MB := (.cons (.ret (.cmp .eq (.call "table_worth" S_table_worth (.cons (.var 7) .nil)) (.var 8))) .nil)
def m_law_9 : MB := (.cons (.asg (.tup [7, 8]) (.call "_law_great" S_law_great (.cons (.var 0) (.cons (.int 20) .nil)))) m_law_10)
def m_law_8a_3a : MB := (.cons (.ret (.bl false)) .nil)
def m_law_8a_3 : MB := (.cons (.ite (.cmp .ne (.call "table_worth" S_table_worth (.cons (.var 4) .nil)) (.tup (.cons (.bin .sub (.int 0) (.ixc (.var 5) 0)) (.cons (.ixc (.var 5) 1) .nil)))) m_law_8a_3a .nil) .nil)
def m_law_8a_2 : MB := (.cons (.set2 (.var 4) (.int 0) (.var 4) (.int 1) (.tup (.cons (.ixc (.var 4) 1) (.cons (.ixc (.var 4) 0) .nil)))) m_law_8a_3)
def m_law_8a_1a : MB := (.cons (.ret (.bl false)) .nil)
def m_law_8a_1 : MB := (.cons (.ite (.bop false (.cons (.cmp .ne (.call "table_worth" S_table_worth (.cons (.var 6) .nil)) (.tup (.cons (.int 0) (.cons (.int 1) .nil)))) (.cons (.cmp .ner (.var 4) (.var 3)) (.cons (.cmp .ne (.slc (.var 6) (.so (.int 2)) .no) (.slc (.var 3) (.so (.int 2)) .no)) .nil)))) m_law_8a_1a .nil) m_law_8a_2)
def m_law_8a : MB := (.cons (.asg (.name 6) (.bin .add (.lst (.cons (.ixc (.var 4) 0) (.cons (.ixc (.var 4) 0) .nil))) (.slc (.var 4) (.so (.int 2)) .no))) m_law_8a_1)
def m_law_8 : MB := (.cons (.ite (.cmp .gt (.var 2) (.int 1)) m_law_8a .nil) m_law_9)
def m_law_7a : MB := (.cons (.ret (.bl false)) .nil)
def m_law_7 : MB := (.cons (.ite (.cmp .ne (.call "table_worth" S_table_worth (.cons (.var 4) .nil)) (.var 5)) m_law_7a .nil) m_law_8)
def m_law_6a : MB := (.cons (.ret (.bl false)) .nil)
def m_law_6 : MB := (.cons (.ite (.bop false (.cons (.cmp .ne (.call "table_worth" S_table_worth (.cons (.var 4) .nil)) (.var 5)) (.cons (.cmp .ner (.var 4) (.var 3)) (.cons (.cmp .ne (.call "table_worth" S_table_worth (.cons (.lst .nil) .nil)) (.tup (.cons (.int 1) (.cons (.int 1) .nil)))) .nil)))) m_law_6a .nil) m_law_7)
def m_law_5 : MB := (.cons (.asg (.name 5) (.call "_law_due" S_law_due (.cons (.var 3) .nil))) m_law_6)
def m_law_4 : MB := (.cons (.asg (.name 4) (.lcr true (.name 9) (.var 3) .no (.bl1 .list (.var 9)))) m_law_5)
def m_law_3a : MB := (.cons (.setix (.var 3) (.neg (.int 1)) (.lc false (.tup [10, 11]) (.zip (.ixc (.var 3) 0) (.ixc (.var 3) 1)) .no (.call "_law_add" S_law_add (.cons (.var 10) (.cons (.var 11) .nil))))) .nil)
def m_law_3 : MB := (.cons (.ite (.bop true (.cons (.cmp .gt (.var 2) (.int 2)) (.cons (.cmp .eq (.bin .mod (.bin .fdiv (.var 1) (.int 6)) (.int 3)) (.int 1)) .nil))) m_law_3a .nil) m_law_4)
def m_law_2 : MB := (.cons (.asg (.name 3) (.call "_law_table" S_law_table (.cons (.var 0) (.cons (.int 1) (.cons (.var 2) .nil))))) m_law_3)
def m_law_1 : MB := (.cons (.asg (.name 2) (.bin .mod (.var 1) (.int 6))) m_law_2)
def m_law : MB := (.cons (.asg (.name 1) (.call "_law_cell" S_law_cell (.cons (.var 0) (.cons (.int 0) .nil)))) m_law_1)
-- slots: 0=_law_script 1=_law_number 2=_law_size 3=_law_rows 4=_law_handed 5=_law_due_here 6=_law_twin 7=_law_great_here 8=_law_worth 9=_law_row 10=_law_one 11=_law_other
theorem w_law : ∀ ds μ Q X, S_law ds μ Q X → ds.length = 1 ∧ wpB m_law (startD 12 ds) μ (enD Q X) := spLaw_of (by
  rintro ns μ Q X ⟨hl, hz⟩ q
  have last : ∀ (ρ : Rho) μ1, (∃ y1 y2 y3 y4 y5 y6 y7 y8 y9 y10 y11 : Option D, ρ = [some (.lst (ns.map .int)), y1, y2, y3, y4, y5, y6, y7, y8, y9, y10, y11]) → wpB m_law_9 ρ μ1 (enD Q X) := by
    rintro ρ μ1 ⟨y1, y2, y3, y4, y5, y6, y7, y8, y9, y10, y11, rfl⟩
    simp only [m_law_9, wpB, wpS, wpE, wpI, wpA, wpO, wpC, wpL]
    walk_at "dlu"
    refine ⟨ns, 20, rfl, rfl, by decide, fun n t U n6 n12 tn hU μ2 x2 => ?_⟩
    walk_at "dlu"
    simp only [m_law_10, wpB, wpS, wpE, wpI, wpA, wpO, wpC, wpL]
    walk_at "dlu"
    refine tw_by (.inl rfl) n12 (gE_bd tn hU) (p2b n12) fun μ3 x3 => ?_
    walk_at "dlu"
    refine ⟨fit_q _ _, fit_q _ _, ?_⟩
    rw [deq_q, decide_eq_true rfl]
    exact q _
  have tr8 : ∀ μ1 p p2 n (M : Mx) (y1 y6 y7 y8 y9 y10 y11 : Option D), n ≤ 5 → tEs n M → μ1 p = some (rowsQ M n) → μ1 p2 = some (rowsQ M n) → p2 ≠ p → wpB m_law_8 [some (.lst (ns.map .int)), y1, some (.int (n : Int)), some (.ref p), some (.ref p2), some (qD (dtM n M)), y6, y7, y8, y9, y10, y11] μ1 (enD Q X) := by
    intro μ1 p p2 n M y1 y6 y7 y8 y9 y10 y11 hn hM hp hp2 np
    simp only [m_law_8, wpB, wpS, wpE, wpI, wpA, wpO, wpC, wpL]
    walk_at "dlu"
    by_cases h1 : 1 < n
    · refine ite_t (show (1 : Int) < (n : Int) by omega) ?_
      simp only [m_law_8a, wpB, wpS, wpE, wpI, wpA, wpO, wpC, wpL]
      try simp -implicitDefEqProofs only [m_law_8a, hp2, wpB, wpS, wpE, wpI, wpA, wpO, wpC, wpL, q_AL, startD, enD, List.map_cons, List.map_nil, List.length_cons, List.length_nil, List.replicate, List.cons_append, List.nil_append, Nat.reduceAdd, Nat.reduceSub, MT.slots, wipeD, isiD, Option.toList_some, Option.toList_none, List.append_nil, List.getElem?_cons_zero, List.getElem?_cons_succ, Option.bind_some, mset_same, mset_mset, if_true, if_false, Bool.false_eq_true, reduceIte, Bool.not_true, Bool.not_false, Bool.true_eq_false, true_and, decide_eq_true_eq, fit_int, fit_bl, fit_non, deq_int, deq_bl]
      obtain ⟨m, rfl⟩ : ∃ m, n = m + 2 := ⟨n - 2, by omega⟩
      have r0 : (rowsQ M (m + 2))[0]? = some (.lst ((List.range (m + 2)).map fun j => qD (M 0 j))) := by unfold rowsQ; rw [List.getElem?_map, List.getElem?_range (by omega)]; rfl
      have r1 : (rowsQ M (m + 2))[1]? = some (.lst ((List.range (m + 2)).map fun j => qD (M 1 j))) := by unfold rowsQ; rw [List.getElem?_map, List.getElem?_range (by omega)]; rfl
      rw [r0]
      walk_at "dlu"
      have c2 : cutD (rowsQ M (m + 2)) (some 2) none = (rowsQ M (m + 2)).drop 2 := cut_from _ 2
      have eL := two_L r0 r1
      have tw := rowsQ_set M (m + 2) 1 (M 0)
      rw [eL] at tw
      have tw : _ :: _ :: _ = _ := tw
      have c3 : cutD (rowsQ (upd M 1 (M 0)) (m + 2)) (some 2) none = (rowsQ M (m + 2)).drop 2 := by
        rw [← tw]
        exact cut_from _ 2
      refine ⟨by rw [c2, List.length_drop, rowsQ_len]; omega, ?_⟩
      rw [c2, tw]
      have hM1 : tEs (m + 2) (upd M 1 (M 0)) := fun i hi j hj => by
        by_cases e : i = 1
        · subst e; rw [upd_same]; exact hM 0 (by omega) j hj
        · rw [upd_ne _ _ e]; exact hM i hi j hj
      have hM2 : tEs (m + 2) (swpM M 0 1) := fun i hi j hj => by
        unfold swpM
        by_cases e : i = 1
        · subst e; rw [upd_same]; exact hM 0 (by omega) j hj
        · rw [upd_ne _ _ e]
          by_cases e2 : i = 0
          · subst e2; rw [upd_same]; exact hM 1 (by omega) j hj
          · rw [upd_ne _ _ e2]; exact hM i hi j hj
      have fd : fit 60 (.lst ((rowsQ M (m + 2)).drop 2)) = true := by
        have := rows_fit M (m + 2) 57
        rw [fit_lst, List.all_eq_true] at this ⊢
        exact fun d hd => this d (List.mem_of_mem_drop hd)
      simp only [m_law_8a_1, m_law_8a_1a, wpB, wpS, wpE, wpI, wpA, wpO, wpC, wpL]
      walk_at "dlu"
      refine tw_by (.inl rfl) (by omega) hM1.bd (p2b (by omega)) fun μ3 x3 => ?_
      rw [q_zero, dt_two (M := upd M 1 (M 0)) (a := 0) (b := 1) (by omega) (by omega) (by decide) fun j => by rw [upd_same, upd_ne _ _ (by decide)]]
      refine ⟨fit_q _ _, fit_q _ _, ?_⟩
      rw [deq_q, decide_eq_true rfl]
      refine ite_t rfl ?_
      have kp3 := x3.own hp
      have kp23 := x3.own hp2
      rw [kp23, kp3]
      walk_at "dlu"
      refine ⟨rows_fit _ _ _, rows_fit _ _ _, ?_⟩
      rw [deq_refl (rows_fit _ _ _)]
      refine ite_t rfl ?_
      try rw [kp3]
      walk_at "dlu"
      rw [c2, c3]
      refine ⟨fd, fd, ?_⟩
      rw [deq_refl fd]
      refine ite_f (by decide) ?_
      simp only [m_law_8a_2, wpB, wpS, wpE, wpI, wpA, wpO, wpC, wpL]
      try simp -implicitDefEqProofs only [m_law_8a_2, kp23, wpB, wpS, wpE, wpI, wpA, wpO, wpC, wpL, q_AL, startD, enD, List.map_cons, List.map_nil, List.length_cons, List.length_nil, List.replicate, List.cons_append, List.nil_append, Nat.reduceAdd, Nat.reduceSub, MT.slots, wipeD, isiD, Option.toList_some, Option.toList_none, List.append_nil, List.getElem?_cons_zero, List.getElem?_cons_succ, Option.bind_some, mset_same, mset_mset, if_true, if_false, Bool.false_eq_true, reduceIte, Bool.not_true, Bool.not_false, Bool.true_eq_false, true_and, decide_eq_true_eq, fit_int, fit_bl, fit_non, deq_int, deq_bl]
      rw [r0, r1]
      walk_at "dlu"
      refine ⟨0, by rw [rowsQ_len]; exact ixN_natT (k := 0) (by omega), ?_⟩
      rw [rowsQ_set]
      refine ⟨1, by rw [rowsQ_len]; exact ixN_natT (k := 1) (by omega), ?_⟩
      rw [rowsQ_set, show upd (upd M 0 fun j => M 1 j) 1 (fun j => M 0 j) = swpM M 0 1 from rfl]
      simp only [m_law_8a_3, m_law_8a_3a, wpB, wpS, wpE, wpI, wpA, wpO, wpC, wpL]
      walk_at "dlu"
      refine tw_by (.inr ⟨p2, rfl, mset_same ..⟩) (by omega) hM2.bd (p2b (by omega)) fun μ4 x4 => ?_
      rw [neg_qs, dt_sw M (by omega) (by omega) (by decide), show 0 - dtM (m + 2) M = - dtM (m + 2) M by grind]
      refine ⟨fit_q _ _, fit_q _ _, ?_⟩
      rw [deq_q, decide_eq_true rfl]
      refine ite_f (by decide) ?_
      exact last _ _ ⟨_, _, _, _, _, _, _, _, _, _, _, rfl⟩
    · refine ite_f (show ¬ (1 : Int) < (n : Int) by omega) ?_
      exact last _ _ ⟨_, _, _, _, _, _, _, _, _, _, _, rfl⟩
  have main : ∀ μ1 p n (M : Mx) (y1 y4 y5 y6 y7 y8 y9 y10 y11 : Option D), n ≤ 5 → tEs n M → μ1 p = some (rowsQ M n) → wpB m_law_4 [some (.lst (ns.map .int)), y1, some (.int (n : Int)), some (.ref p), y4, y5, y6, y7, y8, y9, y10, y11] μ1 (enD Q X) := by
    intro μ1 p n M y1 y4 y5 y6 y7 y8 y9 y10 y11 hn hM hp
    simp only [m_law_4, wpB, wpS, wpE, wpI, wpA, wpO, wpC, wpL]
    try simp -implicitDefEqProofs only [m_law_4, hp, wpB, wpS, wpE, wpI, wpA, wpO, wpC, wpL, q_AL, startD, enD, List.map_cons, List.map_nil, List.length_cons, List.length_nil, List.replicate, List.cons_append, List.nil_append, Nat.reduceAdd, Nat.reduceSub, MT.slots, wipeD, isiD, Option.toList_some, Option.toList_none, List.append_nil, List.getElem?_cons_zero, List.getElem?_cons_succ, Option.bind_some, mset_same, mset_mset, if_true, if_false, Bool.false_eq_true, reduceIte, Bool.not_true, Bool.not_false, Bool.true_eq_false, true_and, decide_eq_true_eq, fit_int, fit_bl, fit_non, deq_int, deq_bl]
    refine ⟨by rw [rowsQ_len]; omega, ?_⟩
    refine lcW_map id _ _ (fun d hd k hk => ?_) [] ?_
    · unfold rowsQ at hd
      obtain ⟨i, _, rfl⟩ := List.mem_map.mp hd
      walk_at "dlu"
      exact ⟨hp, hk⟩
    rw [List.map_id, List.nil_append]
    walk_at "dlu"
    refine ⟨hp, fun p2 hp2 => ?_⟩
    have np : p2 ≠ p := fun e => by rw [e, hp] at hp2; cases hp2
    have kp : (mset μ1 p2 (rowsQ M n)) p = some (rowsQ M n) := by rw [mset_ne _ _ (Ne.symm np)]; exact hp
    have kp2 : (mset μ1 p2 (rowsQ M n)) p2 = some (rowsQ M n) := mset_same ..
    generalize mset μ1 p2 (rowsQ M n) = μ2 at *
    simp only [m_law_5, wpB, wpS, wpE, wpI, wpA, wpO, wpC, wpL]
    walk_at "dlu"
    refine ⟨p, n, M, rfl, kp, hn, fun i hi j hj => (hM.bd.sz hi hj).up (by decide), ?_⟩
    walk_at "dlu"
    simp only [m_law_6, m_law_6a, wpB, wpS, wpE, wpI, wpA, wpO, wpC, wpL]
    walk_at "dlu"
    refine tw_by (.inr ⟨p2, rfl, kp2⟩) (by omega) hM.bd (p2b (by omega)) fun μ3 x3 => ?_
    have kp3 := x3.own kp
    have kp23 := x3.own kp2
    refine ⟨fit_q _ _, fit_q _ _, ?_⟩
    rw [deq_q, decide_eq_true rfl]
    refine ite_t rfl ?_
    rw [kp23, kp3]
    walk_at "dlu"
    refine ⟨rows_fit _ _ _, rows_fit _ _ _, ?_⟩
    rw [deq_refl (rows_fit _ _ _)]
    refine ite_t rfl ?_
    refine tw_by (n := 0) (M := fun _ _ => 0) (b := 1) (.inl rfl) (by omega) ⟨1, by decide, by decide, fun i hi => absurd hi (by omega)⟩ (by decide) fun μ4 x4 => ?_
    rw [q_one, show dtM 0 (fun _ _ => 0) = 1 from rfl]
    refine ⟨fit_q _ _, fit_q _ _, ?_⟩
    rw [deq_q, decide_eq_true rfl]
    refine ite_f (by decide) ?_
    have kp4 := x4.own kp3
    have kp24 := x4.own kp23
    simp only [m_law_7, m_law_7a, wpB, wpS, wpE, wpI, wpA, wpO, wpC, wpL]
    walk_at "dlu"
    refine tw_by (.inr ⟨p2, rfl, kp24⟩) (by omega) hM.bd (p2b (by omega)) fun μ5 x5 => ?_
    refine ⟨fit_q _ _, fit_q _ _, ?_⟩
    rw [deq_q, decide_eq_true rfl]
    refine ite_f (by decide) ?_
    exact tr8 _ _ _ _ _ _ _ _ _ _ _ _ hn hM (x5.own kp4) (x5.own kp24) np
  simp only [m_law, wpB, wpS, wpE, wpI, wpA, wpO, wpC, wpL]
  walk_at "dlu"
  refine cell_of (by omega) (by omega) fun N hN _ => ?_
  walk_at "dlu"
  simp only [m_law_1, wpB, wpS, wpE, wpI, wpA, wpO, wpC, wpL]
  walk_at "dlu"
  obtain ⟨a0, a1⟩ := fmod_pos (x := N) (m := 6) (by decide)
  refine ⟨by decide, ?_⟩
  obtain ⟨n, hn⟩ := Int.eq_ofNat_of_zero_le a0
  rw [hn]
  have n5 : n ≤ 5 := by omega
  simp only [m_law_2, wpB, wpS, wpE, wpI, wpA, wpO, wpC, wpL]
  walk_at "dlu"
  refine ⟨ns, 1, n, rfl, rfl, rfl, by decide, by omega, fun p M hp hM => ?_⟩
  walk_at "dlu"
  simp only [m_law_3, m_law_3a, wpB, wpS, wpE, wpI, wpA, wpO, wpC, wpL]
  walk_at "dlu"
  have hT : tEs n M := fun i hi j hj => by
    obtain ⟨y, e, b⟩ := (hM i hi j hj).t
    exact ⟨y, e, by omega⟩
  have plain := main (mset μ p (rowsQ M n)) p n M (some (.int N)) none none none none none none none none n5 hT (mset_same ..)
  by_cases h2 : (2 : Int) < (n : Int)
  · refine ite_t h2 ?_
    refine ⟨by decide, by decide, ?_⟩
    by_cases h3 : (N.fdiv 6).fmod 3 = 1
    · refine ite_t (by rw [h3]; decide) ?_
      have r0 : (rowsQ M n)[0]? = some (.lst ((List.range n).map fun j => qD (M 0 j))) := by unfold rowsQ; rw [List.getElem?_map, List.getElem?_range (by omega)]; rfl
      have r1 : (rowsQ M n)[1]? = some (.lst ((List.range n).map fun j => qD (M 1 j))) := by unfold rowsQ; rw [List.getElem?_map, List.getElem?_range (by omega)]; rfl
      rw [r0, r1]
      walk_at "dlu"
      rw [zipD_map]
      refine ⟨by rw [List.length_map, List.length_range]; omega, ?_⟩
      refine lcW_by (fun ds acc μ' => ∃ (j r : Nat), j + r = n ∧ ds = ((List.range n).drop j).map (fun j => D.tup [qD (M 0 j), qD (M 1 j)]) ∧ acc = (List.range j).map (fun j => qD (M 0 j + M 1 j)) ∧ μ' = mset μ p (rowsQ M n)) ?_ ?_ _ _ _ ⟨0, n, by omega, by simp, rfl, rfl⟩
      · rintro d ds3 acc μ3 k3 ⟨j, r3, hj, hd3, rfl, rfl⟩ hk4
        cases r3 with
        | zero =>
          have : j = n := by omega
          subst this
          rw [List.drop_of_length_le (by rw [List.length_range]; exact Nat.le_refl _)] at hd3
          cases hd3
        | succ r3 =>
        have jn : j < n := by omega
        rw [List.drop_eq_getElem_cons (by rw [List.length_range]; exact jn), List.map_cons] at hd3
        obtain ⟨e, e'⟩ := List.cons.inj hd3
        rw [List.getElem_range] at e
        subst e
        walk_at "dlu"
        refine ladd_q (hT.bd.sz (by omega) jn) (hT.bd.sz (by omega) jn) (by decide) fun _ => ?_
        refine hk4 _ _ ⟨j + 1, r3, by omega, e', ?_, rfl⟩
        rw [List.range_succ, List.map_append]; rfl
      · rintro acc μ3 ⟨j, r3, hj, hd3, rfl, rfl⟩
        have : j = n := by
          apply Classical.byContradiction
          intro h
          have jn : j < n := by omega
          rw [List.drop_eq_getElem_cons (by rw [List.length_range]; exact jn)] at hd3
          cases hd3
        subst this
        simp -implicitDefEqProofs only [mset_same, wpB, wpS, wpE, wpI, wpA, wpO, wpC, wpL, q_AL, startD, enD, List.map_cons, List.map_nil, List.length_cons, List.length_nil, List.replicate, List.cons_append, List.nil_append, Nat.reduceAdd, Nat.reduceSub, MT.slots, wipeD, isiD, Option.toList_some, Option.toList_none, List.append_nil, List.getElem?_cons_zero, List.getElem?_cons_succ, Option.bind_some, mset_same, mset_mset, if_true, if_false, Bool.false_eq_true, reduceIte, Bool.not_true, Bool.not_false, Bool.true_eq_false, true_and, decide_eq_true_eq, fit_int, fit_bl, fit_non, deq_int, deq_bl]
        refine ⟨j - 1, by rw [rowsQ_len]; unfold L2.ixN; (first | (rw [if_neg (by omega), if_pos (by omega)]; congr 1; omega) | (split <;> (try split) <;> first | omega | (congr 1; omega))), ?_⟩
        rw [rowsQ_set]
        try rw [mset_mset]
        refine main _ p j _ _ _ _ _ _ _ _ _ _ n5 (fun i hi j' hj' => ?_) (mset_same ..)
        by_cases e : i = j - 1
        · subst e
          rw [upd_same]
          obtain ⟨y, e1, b1⟩ := (hM 0 (by omega) j' hj').t
          obtain ⟨z, e2, b2⟩ := (hM 1 (by omega) j' hj').t
          exact ⟨y + z, by rw [Rat.intCast_add, ← e1, ← e2]; grind, by omega⟩
        · rw [upd_ne _ _ e]; exact hT i hi j' hj'
    · exact ite_f (by simpa using h3) plain
  · exact ite_f h2 (ite_f h2 plain))

theorem sc_is_number : FnScope N_is_number ["thing"] (defScope (topS 5)) := ⟨rfl, rfl, rfl, by decide +kernel, rfl, by decide +kernel, by decide +kernel⟩
theorem mt_is_number : matB CN N_is_number (defScope (topS 5)) m_is_number (defBody (topS 5)) = true := by decide +kernel
theorem db_is_number : dbgs N_is_number = true := by decide +kernel
theorem sc_common_of : FnScope N_common_of ["numbers"] (defScope (topS 6)) := ⟨rfl, rfl, rfl, by decide +kernel, rfl, by decide +kernel, by decide +kernel⟩
theorem mt_common_of : matB CN N_common_of (defScope (topS 6)) m_common_of (defBody (topS 6)) = true := by decide +kernel
theorem db_common_of : dbgs N_common_of = true := by decide +kernel
theorem sc_is_fraction : FnScope N_is_fraction ["thing"] (defScope (topS 8)) := ⟨rfl, rfl, rfl, by decide +kernel, rfl, by decide +kernel, by decide +kernel⟩
theorem mt_is_fraction : matB CN N_is_fraction (defScope (topS 8)) m_is_fraction (defBody (topS 8)) = true := by decide +kernel
theorem db_is_fraction : dbgs N_is_fraction = true := by decide +kernel
theorem sc_fraction_of : FnScope N_fraction_of ["top", "bottom"] (defScope (topS 9)) := ⟨rfl, rfl, rfl, by decide +kernel, rfl, by decide +kernel, by decide +kernel⟩
theorem mt_fraction_of : matB CN N_fraction_of (defScope (topS 9)) m_fraction_of (defBody (topS 9)) = true := by decide +kernel
theorem db_fraction_of : dbgs N_fraction_of = true := by decide +kernel
theorem sc_frac_less : FnScope N_frac_less ["one", "other"] (defScope (topS 10)) := ⟨rfl, rfl, rfl, by decide +kernel, rfl, by decide +kernel, by decide +kernel⟩
theorem mt_frac_less : matB CN N_frac_less (defScope (topS 10)) m_frac_less (defBody (topS 10)) = true := by decide +kernel
theorem db_frac_less : dbgs N_frac_less = true := by decide +kernel
theorem sc_frac_times : FnScope N_frac_times ["one", "other"] (defScope (topS 11)) := ⟨rfl, rfl, rfl, by decide +kernel, rfl, by decide +kernel, by decide +kernel⟩
theorem mt_frac_times : matB CN N_frac_times (defScope (topS 11)) m_frac_times (defBody (topS 11)) = true := by decide +kernel
theorem db_frac_times : dbgs N_frac_times = true := by decide +kernel
theorem sc_frac_by : FnScope N_frac_by ["one", "other"] (defScope (topS 12)) := ⟨rfl, rfl, rfl, by decide +kernel, rfl, by decide +kernel, by decide +kernel⟩
theorem mt_frac_by : matB CN N_frac_by (defScope (topS 12)) m_frac_by (defBody (topS 12)) = true := by decide +kernel
theorem db_frac_by : dbgs N_frac_by = true := by decide +kernel
theorem sc_look_at_table : FnScope N_look_at_table ["rows"] (defScope (topS 17)) := ⟨rfl, rfl, rfl, by decide +kernel, rfl, by decide +kernel, by decide +kernel⟩
theorem mt_look_at_table : matB CN N_look_at_table (defScope (topS 17)) m_look_at_table (defBody (topS 17)) = true := by decide +kernel
theorem db_look_at_table : dbgs N_look_at_table = true := by decide +kernel
theorem sc_worth_of : FnScope N_worth_of ["rows"] (defScope (topS 18)) := ⟨rfl, rfl, rfl, by decide +kernel, rfl, by decide +kernel, by decide +kernel⟩
theorem mt_worth_of : matB CN N_worth_of (defScope (topS 18)) m_worth_of (defBody (topS 18)) = true := by decide +kernel
theorem db_worth_of : dbgs N_worth_of = true := by decide +kernel
theorem sc_table_worth : FnScope N_table_worth ["rows"] (defScope (topS 19)) := ⟨rfl, rfl, rfl, by decide +kernel, rfl, by decide +kernel, by decide +kernel⟩
theorem mt_table_worth : matB CN N_table_worth (defScope (topS 19)) m_table_worth (defBody (topS 19)) = true := by decide +kernel
theorem db_table_worth : dbgs N_table_worth = true := by decide +kernel
theorem sc_law_cell : FnScope N_law_cell ["_law_script", "_law_k"] (defScope (topS 21)) := ⟨rfl, rfl, rfl, by decide +kernel, rfl, by decide +kernel, by decide +kernel⟩
theorem mt_law_cell : matB CN N_law_cell (defScope (topS 21)) m_law_cell (defBody (topS 21)) = true := by decide +kernel
theorem db_law_cell : dbgs N_law_cell = true := by decide +kernel
theorem sc_law_frac : FnScope N_law_frac ["_law_top", "_law_bottom"] (defScope (topS 22)) := ⟨rfl, rfl, rfl, by decide +kernel, rfl, by decide +kernel, by decide +kernel⟩
theorem mt_law_frac : matB CN N_law_frac (defScope (topS 22)) m_law_frac (defBody (topS 22)) = true := by decide +kernel
theorem db_law_frac : dbgs N_law_frac = true := by decide +kernel
theorem sc_law_add : FnScope N_law_add ["_law_one", "_law_other"] (defScope (topS 23)) := ⟨rfl, rfl, rfl, by decide +kernel, rfl, by decide +kernel, by decide +kernel⟩
theorem mt_law_add : matB CN N_law_add (defScope (topS 23)) m_law_add (defBody (topS 23)) = true := by decide +kernel
theorem db_law_add : dbgs N_law_add = true := by decide +kernel
theorem sc_law_mul : FnScope N_law_mul ["_law_one", "_law_other"] (defScope (topS 24)) := ⟨rfl, rfl, rfl, by decide +kernel, rfl, by decide +kernel, by decide +kernel⟩
theorem mt_law_mul : matB CN N_law_mul (defScope (topS 24)) m_law_mul (defBody (topS 24)) = true := by decide +kernel
theorem db_law_mul : dbgs N_law_mul = true := by decide +kernel
theorem sc_law_table : FnScope N_law_table ["_law_script", "_law_at", "_law_size"] (defScope (topS 26)) := ⟨rfl, rfl, rfl, by decide +kernel, rfl, by decide +kernel, by decide +kernel⟩
theorem mt_law_table : matB CN N_law_table (defScope (topS 26)) m_law_table (defBody (topS 26)) = true := by decide +kernel
theorem db_law_table : dbgs N_law_table = true := by decide +kernel
theorem sc_law_turns : FnScope N_law_turns ["_law_size"] (defScope (topS 27)) := ⟨rfl, rfl, rfl, by decide +kernel, rfl, by decide +kernel, by decide +kernel⟩
theorem mt_law_turns : matB CN N_law_turns (defScope (topS 27)) m_law_turns (defBody (topS 27)) = true := by decide +kernel
theorem db_law_turns : dbgs N_law_turns = true := by decide +kernel
theorem sc_law_due : FnScope N_law_due ["_law_rows"] (defScope (topS 28)) := ⟨rfl, rfl, rfl, by decide +kernel, rfl, by decide +kernel, by decide +kernel⟩
theorem mt_law_due : matB CN N_law_due (defScope (topS 28)) m_law_due (defBody (topS 28)) = true := by decide +kernel
theorem db_law_due : dbgs N_law_due = true := by decide +kernel
theorem sc_law_great : FnScope N_law_great ["_law_script", "_law_at"] (defScope (topS 29)) := ⟨rfl, rfl, rfl, by decide +kernel, rfl, by decide +kernel, by decide +kernel⟩
theorem mt_law_great : matB CN N_law_great (defScope (topS 29)) m_law_great (defBody (topS 29)) = true := by decide +kernel
theorem db_law_great : dbgs N_law_great = true := by decide +kernel
theorem sc_law : FnScope N_law ["_law_script"] (defScope (topS 30)) := ⟨rfl, rfl, rfl, by decide +kernel, rfl, by decide +kernel, by decide +kernel⟩
theorem mt_law : matB CN N_law (defScope (topS 30)) m_law (defBody (topS 30)) = true := by decide +kernel
theorem db_law : dbgs N_law = true := by decide +kernel
theorem all_mk {P : Program} {w : World} {K : PySem.W.Frag} {h : Heap} {mg : Str → Option Value} {fa : Addr} (X : K.In h) (G : h.Ns mainGlobals mg) (hfa : mg "law" = some (.ref fa)) (htr : P.given.tree = none)
    {c0 c1 c2 : Addr} {e0 e1 e2 : ClassData}
    {f0 f1 f2 f3 f4 f5 f6 f7 f8 f9 f10 f11 f12 f13 f14 f15 f16 f17 f18 : Addr}
    {od0 an0 : Option Addr} {sl0 : Array (Option Value)} {oc0 kV0 dc0 pm0 cd0 ct0 : Value}
    {od1 an1 : Option Addr} {sl1 : Array (Option Value)} {oc1 kV1 dc1 pm1 cd1 ct1 : Value}
    {od2 an2 : Option Addr} {sl2 : Array (Option Value)} {oc2 kV2 dc2 pm2 cd2 ct2 : Value}
    {od3 an3 : Option Addr} {sl3 : Array (Option Value)} {oc3 kV3 dc3 pm3 cd3 ct3 : Value}
    {od4 an4 : Option Addr} {sl4 : Array (Option Value)} {oc4 kV4 dc4 pm4 cd4 ct4 : Value}
    {od5 an5 : Option Addr} {sl5 : Array (Option Value)} {oc5 kV5 dc5 pm5 cd5 ct5 : Value}
    {od6 an6 : Option Addr} {sl6 : Array (Option Value)} {oc6 kV6 dc6 pm6 cd6 ct6 : Value}
    {od7 an7 : Option Addr} {sl7 : Array (Option Value)} {oc7 kV7 dc7 pm7 cd7 ct7 : Value}
    {od8 an8 : Option Addr} {sl8 : Array (Option Value)} {oc8 kV8 dc8 pm8 cd8 ct8 : Value}
    {od9 an9 : Option Addr} {sl9 : Array (Option Value)} {oc9 kV9 dc9 pm9 cd9 ct9 : Value}
    {od10 an10 : Option Addr} {sl10 : Array (Option Value)} {oc10 kV10 dc10 pm10 cd10 ct10 : Value}
    {od11 an11 : Option Addr} {sl11 : Array (Option Value)} {oc11 kV11 dc11 pm11 cd11 ct11 : Value}
    {od12 an12 : Option Addr} {sl12 : Array (Option Value)} {oc12 kV12 dc12 pm12 cd12 ct12 : Value}
    {od13 an13 : Option Addr} {sl13 : Array (Option Value)} {oc13 kV13 dc13 pm13 cd13 ct13 : Value}
    {od14 an14 : Option Addr} {sl14 : Array (Option Value)} {oc14 kV14 dc14 pm14 cd14 ct14 : Value}
    {od15 an15 : Option Addr} {sl15 : Array (Option Value)} {oc15 kV15 dc15 pm15 cd15 ct15 : Value}
    {od16 an16 : Option Addr} {sl16 : Array (Option Value)} {oc16 kV16 dc16 pm16 cd16 ct16 : Value}
    {od17 an17 : Option Addr} {sl17 : Array (Option Value)} {oc17 kV17 dc17 pm17 cd17 ct17 : Value}
    {od18 an18 : Option Addr} {sl18 : Array (Option Value)} {oc18 kV18 dc18 pm18 cd18 ct18 : Value}
    (x0 : ClsF K "RoundError" c0 c0 true e0)
    (x1 : ClsF K "NoBottom" c0 c1 false e1)
    (x2 : ClsF K "NoTable" c0 c2 false e2)
    (hn : PySem.W.specialIn K (.builtin "object.__class__") "__get__" = some (some (.builtin "getset_descriptor.__get__"))) (ht : PySem.W.takesIn K (.builtin "object.__class__") = some true)
    (nd : ([c0, c1, c2] : List Addr).Nodup)
    (z0 : PySem.W.nsIn K mainGlobals "len" = some none)
    (z1 : PySem.W.nsIn K mainGlobals "abs" = some none)
    (z2 : PySem.W.nsIn K mainGlobals "sum" = some none)
    (z3 : PySem.W.nsIn K mainGlobals "all" = some none)
    (z4 : PySem.W.nsIn K mainGlobals "any" = some none)
    (z5 : PySem.W.nsIn K mainGlobals "tuple" = some none)
    (z6 : PySem.W.nsIn K mainGlobals "list" = some none)
    (z7 : PySem.W.nsIn K mainGlobals "int" = some none)
    (z8 : PySem.W.nsIn K mainGlobals "str" = some none)
    (z9 : PySem.W.nsIn K mainGlobals "max" = some none)
    (z10 : PySem.W.nsIn K mainGlobals "min" = some none)
    (z11 : PySem.W.nsIn K mainGlobals "isinstance" = some none)
    (z12 : PySem.W.nsIn K mainGlobals "range" = some none)
    (z13 : PySem.W.nsIn K mainGlobals "zip" = some none)
    (z14 : PySem.W.nsIn K mainGlobals "bool" = some none)
    (z15 : PySem.W.nsIn K mainGlobals "ValueError" = some none)
    (z16 : PySem.W.nsIn K mainGlobals "set" = some none)
    (z17 : PySem.W.nsIn K mainGlobals "sorted" = some none)
    (glob0 : KG K "MOST_TABLE" (D.int 12))
    (glob1 : KG K "ONE" (D.tup [(.int 1), (.int 1)]))
    (glob2 : KG K "NOTHING" (D.tup [(.int 0), (.int 1)]))
    (a0 : PySem.W.nsIn K mainGlobals "is_number" = some (some (.ref f0))) (l0 : K.lookup f0 = some ⟨oc0, od0, .func (PySem.W.fnOf "is_number" "is_number" (defArgs (topS 5)) (defBody (topS 5)) (defScope (topS 5)) .none kV0 dc0 pm0 an0 cd0 ct0), sl0⟩) (t0 : PySem.W.codeIn K cd0 "is_number" = true) (k0 : PySem.W.keepIn K (.ref f0) = true)
    (a1 : PySem.W.nsIn K mainGlobals "common_of" = some (some (.ref f1))) (l1 : K.lookup f1 = some ⟨oc1, od1, .func (PySem.W.fnOf "common_of" "common_of" (defArgs (topS 6)) (defBody (topS 6)) (defScope (topS 6)) .none kV1 dc1 pm1 an1 cd1 ct1), sl1⟩) (t1 : PySem.W.codeIn K cd1 "common_of" = true) (k1 : PySem.W.keepIn K (.ref f1) = true)
    (a2 : PySem.W.nsIn K mainGlobals "is_fraction" = some (some (.ref f2))) (l2 : K.lookup f2 = some ⟨oc2, od2, .func (PySem.W.fnOf "is_fraction" "is_fraction" (defArgs (topS 8)) (defBody (topS 8)) (defScope (topS 8)) .none kV2 dc2 pm2 an2 cd2 ct2), sl2⟩) (t2 : PySem.W.codeIn K cd2 "is_fraction" = true) (k2 : PySem.W.keepIn K (.ref f2) = true)
    (a3 : PySem.W.nsIn K mainGlobals "fraction_of" = some (some (.ref f3))) (l3 : K.lookup f3 = some ⟨oc3, od3, .func (PySem.W.fnOf "fraction_of" "fraction_of" (defArgs (topS 9)) (defBody (topS 9)) (defScope (topS 9)) .none kV3 dc3 pm3 an3 cd3 ct3), sl3⟩) (t3 : PySem.W.codeIn K cd3 "fraction_of" = true) (k3 : PySem.W.keepIn K (.ref f3) = true)
    (a4 : PySem.W.nsIn K mainGlobals "frac_less" = some (some (.ref f4))) (l4 : K.lookup f4 = some ⟨oc4, od4, .func (PySem.W.fnOf "frac_less" "frac_less" (defArgs (topS 10)) (defBody (topS 10)) (defScope (topS 10)) .none kV4 dc4 pm4 an4 cd4 ct4), sl4⟩) (t4 : PySem.W.codeIn K cd4 "frac_less" = true) (k4 : PySem.W.keepIn K (.ref f4) = true)
    (a5 : PySem.W.nsIn K mainGlobals "frac_times" = some (some (.ref f5))) (l5 : K.lookup f5 = some ⟨oc5, od5, .func (PySem.W.fnOf "frac_times" "frac_times" (defArgs (topS 11)) (defBody (topS 11)) (defScope (topS 11)) .none kV5 dc5 pm5 an5 cd5 ct5), sl5⟩) (t5 : PySem.W.codeIn K cd5 "frac_times" = true) (k5 : PySem.W.keepIn K (.ref f5) = true)
    (a6 : PySem.W.nsIn K mainGlobals "frac_by" = some (some (.ref f6))) (l6 : K.lookup f6 = some ⟨oc6, od6, .func (PySem.W.fnOf "frac_by" "frac_by" (defArgs (topS 12)) (defBody (topS 12)) (defScope (topS 12)) .none kV6 dc6 pm6 an6 cd6 ct6), sl6⟩) (t6 : PySem.W.codeIn K cd6 "frac_by" = true) (k6 : PySem.W.keepIn K (.ref f6) = true)
    (a7 : PySem.W.nsIn K mainGlobals "look_at_table" = some (some (.ref f7))) (l7 : K.lookup f7 = some ⟨oc7, od7, .func (PySem.W.fnOf "look_at_table" "look_at_table" (defArgs (topS 17)) (defBody (topS 17)) (defScope (topS 17)) .none kV7 dc7 pm7 an7 cd7 ct7), sl7⟩) (t7 : PySem.W.codeIn K cd7 "look_at_table" = true) (k7 : PySem.W.keepIn K (.ref f7) = true)
    (a8 : PySem.W.nsIn K mainGlobals "worth_of" = some (some (.ref f8))) (l8 : K.lookup f8 = some ⟨oc8, od8, .func (PySem.W.fnOf "worth_of" "worth_of" (defArgs (topS 18)) (defBody (topS 18)) (defScope (topS 18)) .none kV8 dc8 pm8 an8 cd8 ct8), sl8⟩) (t8 : PySem.W.codeIn K cd8 "worth_of" = true) (k8 : PySem.W.keepIn K (.ref f8) = true)
    (a9 : PySem.W.nsIn K mainGlobals "table_worth" = some (some (.ref f9))) (l9 : K.lookup f9 = some ⟨oc9, od9, .func (PySem.W.fnOf "table_worth" "table_worth" (defArgs (topS 19)) (defBody (topS 19)) (defScope (topS 19)) .none kV9 dc9 pm9 an9 cd9 ct9), sl9⟩) (t9 : PySem.W.codeIn K cd9 "table_worth" = true) (k9 : PySem.W.keepIn K (.ref f9) = true)
    (a10 : PySem.W.nsIn K mainGlobals "_law_cell" = some (some (.ref f10))) (l10 : K.lookup f10 = some ⟨oc10, od10, .func (PySem.W.fnOf "_law_cell" "_law_cell" (defArgs (topS 21)) (defBody (topS 21)) (defScope (topS 21)) .none kV10 dc10 pm10 an10 cd10 ct10), sl10⟩) (t10 : PySem.W.codeIn K cd10 "_law_cell" = true) (k10 : PySem.W.keepIn K (.ref f10) = true)
    (a11 : PySem.W.nsIn K mainGlobals "_law_frac" = some (some (.ref f11))) (l11 : K.lookup f11 = some ⟨oc11, od11, .func (PySem.W.fnOf "_law_frac" "_law_frac" (defArgs (topS 22)) (defBody (topS 22)) (defScope (topS 22)) .none kV11 dc11 pm11 an11 cd11 ct11), sl11⟩) (t11 : PySem.W.codeIn K cd11 "_law_frac" = true) (k11 : PySem.W.keepIn K (.ref f11) = true)
    (a12 : PySem.W.nsIn K mainGlobals "_law_add" = some (some (.ref f12))) (l12 : K.lookup f12 = some ⟨oc12, od12, .func (PySem.W.fnOf "_law_add" "_law_add" (defArgs (topS 23)) (defBody (topS 23)) (defScope (topS 23)) .none kV12 dc12 pm12 an12 cd12 ct12), sl12⟩) (t12 : PySem.W.codeIn K cd12 "_law_add" = true) (k12 : PySem.W.keepIn K (.ref f12) = true)
    (a13 : PySem.W.nsIn K mainGlobals "_law_mul" = some (some (.ref f13))) (l13 : K.lookup f13 = some ⟨oc13, od13, .func (PySem.W.fnOf "_law_mul" "_law_mul" (defArgs (topS 24)) (defBody (topS 24)) (defScope (topS 24)) .none kV13 dc13 pm13 an13 cd13 ct13), sl13⟩) (t13 : PySem.W.codeIn K cd13 "_law_mul" = true) (k13 : PySem.W.keepIn K (.ref f13) = true)
    (a14 : PySem.W.nsIn K mainGlobals "_law_table" = some (some (.ref f14))) (l14 : K.lookup f14 = some ⟨oc14, od14, .func (PySem.W.fnOf "_law_table" "_law_table" (defArgs (topS 26)) (defBody (topS 26)) (defScope (topS 26)) .none kV14 dc14 pm14 an14 cd14 ct14), sl14⟩) (t14 : PySem.W.codeIn K cd14 "_law_table" = true) (k14 : PySem.W.keepIn K (.ref f14) = true)
    (a15 : PySem.W.nsIn K mainGlobals "_law_turns" = some (some (.ref f15))) (l15 : K.lookup f15 = some ⟨oc15, od15, .func (PySem.W.fnOf "_law_turns" "_law_turns" (defArgs (topS 27)) (defBody (topS 27)) (defScope (topS 27)) .none kV15 dc15 pm15 an15 cd15 ct15), sl15⟩) (t15 : PySem.W.codeIn K cd15 "_law_turns" = true) (k15 : PySem.W.keepIn K (.ref f15) = true)
    (a16 : PySem.W.nsIn K mainGlobals "_law_due" = some (some (.ref f16))) (l16 : K.lookup f16 = some ⟨oc16, od16, .func (PySem.W.fnOf "_law_due" "_law_due" (defArgs (topS 28)) (defBody (topS 28)) (defScope (topS 28)) .none kV16 dc16 pm16 an16 cd16 ct16), sl16⟩) (t16 : PySem.W.codeIn K cd16 "_law_due" = true) (k16 : PySem.W.keepIn K (.ref f16) = true)
    (a17 : PySem.W.nsIn K mainGlobals "_law_great" = some (some (.ref f17))) (l17 : K.lookup f17 = some ⟨oc17, od17, .func (PySem.W.fnOf "_law_great" "_law_great" (defArgs (topS 29)) (defBody (topS 29)) (defScope (topS 29)) .none kV17 dc17 pm17 an17 cd17 ct17), sl17⟩) (t17 : PySem.W.codeIn K cd17 "_law_great" = true) (k17 : PySem.W.keepIn K (.ref f17) = true)
    (a18 : PySem.W.nsIn K mainGlobals "law" = some (some (.ref f18))) (l18 : K.lookup f18 = some ⟨oc18, od18, .func (PySem.W.fnOf "law" "law" (defArgs (topS 30)) (defBody (topS 30)) (defScope (topS 30)) .none kV18 dc18 pm18 an18 cd18 ct18), sl18⟩) (t18 : PySem.W.codeIn K cd18 "law" = true) (k18 : PySem.W.keepIn K (.ref f18) = true)
    : ∃ fd : FuncData, (∀ (s : Shared) (u : Value), BindsTo s fd ⟨[u], []⟩ [("_law_script", u)]) ∧ ∀ base : Heap, K.In base → base.Ns mainGlobals mg → base.NoSeer → FnG P w K mg base (L2.CX P w) 38 fa fd ["_law_script"] (spOf K (CAof [c0, c1, c2]) (spLaw small)) := by
  cases hfa.symm.trans (PySem.W.mg_of X G a18)
  have wd : WdS K mg (CAof [c0, c1, c2]) CN 3 := by
    refine ⟨?_, ?_, ?_⟩
    · intro x hx
      simp only [names, List.mem_cons, List.not_mem_nil, or_false] at hx
      rcases hx with rfl | rfl | rfl | rfl | rfl | rfl | rfl | rfl | rfl | rfl | rfl | rfl | rfl | rfl | rfl | rfl | rfl | rfl
      all_goals first | exact PySem.W.mg_none_of X G z0 | exact PySem.W.mg_none_of X G z1 | exact PySem.W.mg_none_of X G z2 | exact PySem.W.mg_none_of X G z3 | exact PySem.W.mg_none_of X G z4 | exact PySem.W.mg_none_of X G z5 | exact PySem.W.mg_none_of X G z6 | exact PySem.W.mg_none_of X G z7 | exact PySem.W.mg_none_of X G z8 | exact PySem.W.mg_none_of X G z9 | exact PySem.W.mg_none_of X G z10 | exact PySem.W.mg_none_of X G z11 | exact PySem.W.mg_none_of X G z12 | exact PySem.W.mg_none_of X G z13 | exact PySem.W.mg_none_of X G z14 | exact PySem.W.mg_none_of X G z15 | exact PySem.W.mg_none_of X G z16 | exact PySem.W.mg_none_of X G z17
    · intro c hc
      match c, hc with
      | 0, _ => exact clsF_ok X G (b := true) x0 (by decide) hn ht
      | 1, _ => exact clsF_ok X G (b := false) x1 (by decide) hn ht
      | 2, _ => exact clsF_ok X G (b := false) x2 (by decide) hn ht
      | c + 3, hc => exact absurd hc (by omega)
    · intro c c' h h' e
      exact nodup_inj nd (by simpa using h) (by simpa using h') e
  have gg0 : GlS (CAof [c0, c1, c2]) K mg "MOST_TABLE" (D.int 12) := glS_of X G glob0
  have gg1 : GlS (CAof [c0, c1, c2]) K mg "ONE" (D.tup [(.int 1), (.int 1)]) := glS_of X G glob1
  have gg2 : GlS (CAof [c0, c1, c2]) K mg "NOTHING" (D.tup [(.int 0), (.int 1)]) := glS_of X G glob2
  have F0 := fun_mk (st := topS 5) l0 t0 k0
  have b0 := F0.binds (ps := ["thing"]) fun _ _ _ _ _ _ us hl => match us, hl with | [_], _ => rfl
  have F1 := fun_mk (st := topS 6) l1 t1 k1
  have b1 := F1.binds (ps := ["numbers"]) fun _ _ _ _ _ _ us hl => match us, hl with | [_], _ => rfl
  have F2 := fun_mk (st := topS 8) l2 t2 k2
  have b2 := F2.binds (ps := ["thing"]) fun _ _ _ _ _ _ us hl => match us, hl with | [_], _ => rfl
  have F3 := fun_mk (st := topS 9) l3 t3 k3
  have b3 := F3.binds (ps := ["top", "bottom"]) fun _ _ _ _ _ _ us hl => match us, hl with | [_, _], _ => rfl
  have F4 := fun_mk (st := topS 10) l4 t4 k4
  have b4 := F4.binds (ps := ["one", "other"]) fun _ _ _ _ _ _ us hl => match us, hl with | [_, _], _ => rfl
  have F5 := fun_mk (st := topS 11) l5 t5 k5
  have b5 := F5.binds (ps := ["one", "other"]) fun _ _ _ _ _ _ us hl => match us, hl with | [_, _], _ => rfl
  have F6 := fun_mk (st := topS 12) l6 t6 k6
  have b6 := F6.binds (ps := ["one", "other"]) fun _ _ _ _ _ _ us hl => match us, hl with | [_, _], _ => rfl
  have F7 := fun_mk (st := topS 17) l7 t7 k7
  have b7 := F7.binds (ps := ["rows"]) fun _ _ _ _ _ _ us hl => match us, hl with | [_], _ => rfl
  have F8 := fun_mk (st := topS 18) l8 t8 k8
  have b8 := F8.binds (ps := ["rows"]) fun _ _ _ _ _ _ us hl => match us, hl with | [_], _ => rfl
  have F9 := fun_mk (st := topS 19) l9 t9 k9
  have b9 := F9.binds (ps := ["rows"]) fun _ _ _ _ _ _ us hl => match us, hl with | [_], _ => rfl
  have F10 := fun_mk (st := topS 21) l10 t10 k10
  have b10 := F10.binds (ps := ["_law_script", "_law_k"]) fun _ _ _ _ _ _ us hl => match us, hl with | [_, _], _ => rfl
  have F11 := fun_mk (st := topS 22) l11 t11 k11
  have b11 := F11.binds (ps := ["_law_top", "_law_bottom"]) fun _ _ _ _ _ _ us hl => match us, hl with | [_, _], _ => rfl
  have F12 := fun_mk (st := topS 23) l12 t12 k12
  have b12 := F12.binds (ps := ["_law_one", "_law_other"]) fun _ _ _ _ _ _ us hl => match us, hl with | [_, _], _ => rfl
  have F13 := fun_mk (st := topS 24) l13 t13 k13
  have b13 := F13.binds (ps := ["_law_one", "_law_other"]) fun _ _ _ _ _ _ us hl => match us, hl with | [_, _], _ => rfl
  have F14 := fun_mk (st := topS 26) l14 t14 k14
  have b14 := F14.binds (ps := ["_law_script", "_law_at", "_law_size"]) fun _ _ _ _ _ _ us hl => match us, hl with | [_, _, _], _ => rfl
  have F15 := fun_mk (st := topS 27) l15 t15 k15
  have b15 := F15.binds (ps := ["_law_size"]) fun _ _ _ _ _ _ us hl => match us, hl with | [_], _ => rfl
  have F16 := fun_mk (st := topS 28) l16 t16 k16
  have b16 := F16.binds (ps := ["_law_rows"]) fun _ _ _ _ _ _ us hl => match us, hl with | [_], _ => rfl
  have F17 := fun_mk (st := topS 29) l17 t17 k17
  have b17 := F17.binds (ps := ["_law_script", "_law_at"]) fun _ _ _ _ _ _ us hl => match us, hl with | [_, _], _ => rfl
  have F18 := fun_mk (st := topS 30) l18 t18 k18
  have b18 := F18.binds (ps := ["_law_script"]) fun _ _ _ _ _ _ us hl => match us, hl with | [_], _ => rfl
  refine ⟨PySem.W.fnOf "law" "law" (defArgs (topS 30)) (defBody (topS 30)) (defScope (topS 30)) .none kV18 dc18 pm18 an18 cd18 ct18, fun s v => .of_eq rfl, fun base _ _ hN => ?_⟩
  have o0 : FnG P w K mg base (L2.CX P w) 33 f0 _ _ (spOf K (CAof [c0, c1, c2]) S_is_number) := fn_ok F0 sc_is_number db_is_number hN htr (by decide) wd mt_is_number (by simp (config := { decide := true }) only [m_is_number, okB, okS, okE, okA, okO, okI, gg0, gg1, gg2, List.mem_cons, List.not_mem_nil, or_false, forall_eq_or_imp, forall_eq, and_true, true_and, and_self]) w_is_number
  have s0 : FnS (CAof [c0, c1, c2]) P w K mg base 33 "is_number" S_is_number := ⟨f0, _, _, o0, PySem.W.mg_of X G a0, k0, b0⟩
  have o1 : FnG P w K mg base (L2.CX P w) 33 f1 _ _ (spOf K (CAof [c0, c1, c2]) S_common_of) := fn_ok F1 sc_common_of db_common_of hN htr (by decide) wd mt_common_of (by simp (config := { decide := true }) only [m_common_of, okB, okS, okE, okA, okO, okI, gg0, gg1, gg2, List.mem_cons, List.not_mem_nil, or_false, forall_eq_or_imp, forall_eq, and_true, true_and, and_self]) w_common_of
  have s1 : FnS (CAof [c0, c1, c2]) P w K mg base 33 "common_of" S_common_of := ⟨f1, _, _, o1, PySem.W.mg_of X G a1, k1, b1⟩
  have o10 : FnG P w K mg base (L2.CX P w) 33 f10 _ _ (spOf K (CAof [c0, c1, c2]) S_law_cell) := fn_ok F10 sc_law_cell db_law_cell hN htr (by decide) wd mt_law_cell (by simp (config := { decide := true }) only [m_law_cell_5, m_law_cell_4, m_law_cell_3, m_law_cell_2a, m_law_cell_2, m_law_cell_1a, m_law_cell_1, m_law_cell, okB, okS, okE, okA, okO, okI, gg0, gg1, gg2, List.mem_cons, List.not_mem_nil, or_false, forall_eq_or_imp, forall_eq, and_true, true_and, and_self]) w_law_cell
  have s10 : FnS (CAof [c0, c1, c2]) P w K mg base 33 "_law_cell" S_law_cell := ⟨f10, _, _, o10, PySem.W.mg_of X G a10, k10, b10⟩
  have o11 : FnG P w K mg base (L2.CX P w) 33 f11 _ _ (spOf K (CAof [c0, c1, c2]) S_law_frac) := fn_ok F11 sc_law_frac db_law_frac hN htr (by decide) wd mt_law_frac (by simp (config := { decide := true }) only [m_law_frac_4, m_law_frac_3a, m_law_frac_3, m_law_frac_2a, m_law_frac_2, m_law_frac_1, m_law_frac, okB, okS, okE, okA, okO, okI, gg0, gg1, gg2, List.mem_cons, List.not_mem_nil, or_false, forall_eq_or_imp, forall_eq, and_true, true_and, and_self]) w_law_frac
  have s11 : FnS (CAof [c0, c1, c2]) P w K mg base 33 "_law_frac" S_law_frac := ⟨f11, _, _, o11, PySem.W.mg_of X G a11, k11, b11⟩
  have o15 : FnG P w K mg base (L2.CX P w) 33 f15 _ _ (spOf K (CAof [c0, c1, c2]) S_law_turns) := fn_ok F15 sc_law_turns db_law_turns hN htr (by decide) wd mt_law_turns (by simp (config := { decide := true }) only [m_law_turns_2, m_law_turns_1a_2, m_law_turns_1a_1a_0a, m_law_turns_1a_1a, m_law_turns_1a_1, m_law_turns_1a, m_law_turns_1, m_law_turns, okB, okS, okE, okA, okO, okI, gg0, gg1, gg2, List.mem_cons, List.not_mem_nil, or_false, forall_eq_or_imp, forall_eq, and_true, true_and, and_self]) w_law_turns
  have s15 : FnS (CAof [c0, c1, c2]) P w K mg base 33 "_law_turns" S_law_turns := ⟨f15, _, _, o15, PySem.W.mg_of X G a15, k15, b15⟩
  have o2 : FnG P w K mg base (L2.CX P w) 34 f2 _ _ (spOf K (CAof [c0, c1, c2]) S_is_fraction) := fn_ok F2 sc_is_fraction db_is_fraction hN htr (by decide) wd mt_is_fraction (by simp (config := { decide := true }) only [m_is_fraction, okB, okS, okE, okA, okO, okI, gg0, gg1, gg2, s0.mono (show 33 ≤ 33 by decide), s1.mono (show 33 ≤ 33 by decide), List.mem_cons, List.not_mem_nil, or_false, forall_eq_or_imp, forall_eq, and_true, true_and, and_self]) w_is_fraction
  have s2 : FnS (CAof [c0, c1, c2]) P w K mg base 34 "is_fraction" S_is_fraction := ⟨f2, _, _, o2, PySem.W.mg_of X G a2, k2, b2⟩
  have o3 : FnG P w K mg base (L2.CX P w) 34 f3 _ _ (spOf K (CAof [c0, c1, c2]) S_fraction_of) := fn_ok F3 sc_fraction_of db_fraction_of hN htr (by decide) wd mt_fraction_of (by simp (config := { decide := true }) only [m_fraction_of, okB, okS, okE, okA, okO, okI, gg0, gg1, gg2, s1.mono (show 33 ≤ 33 by decide), List.mem_cons, List.not_mem_nil, or_false, forall_eq_or_imp, forall_eq, and_true, true_and, and_self]) w_fraction_of
  have s3 : FnS (CAof [c0, c1, c2]) P w K mg base 34 "fraction_of" S_fraction_of := ⟨f3, _, _, o3, PySem.W.mg_of X G a3, k3, b3⟩
  have o12 : FnG P w K mg base (L2.CX P w) 34 f12 _ _ (spOf K (CAof [c0, c1, c2]) S_law_add) := fn_ok F12 sc_law_add db_law_add hN htr (by decide) wd mt_law_add (by simp (config := { decide := true }) only [m_law_add, okB, okS, okE, okA, okO, okI, gg0, gg1, gg2, s11.mono (show 33 ≤ 33 by decide), List.mem_cons, List.not_mem_nil, or_false, forall_eq_or_imp, forall_eq, and_true, true_and, and_self]) w_law_add
  have s12 : FnS (CAof [c0, c1, c2]) P w K mg base 34 "_law_add" S_law_add := ⟨f12, _, _, o12, PySem.W.mg_of X G a12, k12, b12⟩
  have o13 : FnG P w K mg base (L2.CX P w) 34 f13 _ _ (spOf K (CAof [c0, c1, c2]) S_law_mul) := fn_ok F13 sc_law_mul db_law_mul hN htr (by decide) wd mt_law_mul (by simp (config := { decide := true }) only [m_law_mul, okB, okS, okE, okA, okO, okI, gg0, gg1, gg2, s11.mono (show 33 ≤ 33 by decide), List.mem_cons, List.not_mem_nil, or_false, forall_eq_or_imp, forall_eq, and_true, true_and, and_self]) w_law_mul
  have s13 : FnS (CAof [c0, c1, c2]) P w K mg base 34 "_law_mul" S_law_mul := ⟨f13, _, _, o13, PySem.W.mg_of X G a13, k13, b13⟩
  have o14 : FnG P w K mg base (L2.CX P w) 34 f14 _ _ (spOf K (CAof [c0, c1, c2]) S_law_table) := fn_ok F14 sc_law_table db_law_table hN htr (by decide) wd mt_law_table (by simp (config := { decide := true }) only [m_law_table_2, m_law_table_1a_3, m_law_table_1a_2a_1, m_law_table_1a_2a, m_law_table_1a_2, m_law_table_1a_1, m_law_table_1a, m_law_table_1, m_law_table, okB, okS, okE, okA, okO, okI, gg0, gg1, gg2, s10.mono (show 33 ≤ 33 by decide), s11.mono (show 33 ≤ 33 by decide), List.mem_cons, List.not_mem_nil, or_false, forall_eq_or_imp, forall_eq, and_true, true_and, and_self]) w_law_table
  have s14 : FnS (CAof [c0, c1, c2]) P w K mg base 34 "_law_table" S_law_table := ⟨f14, _, _, o14, PySem.W.mg_of X G a14, k14, b14⟩
  have o4 : FnG P w K mg base (L2.CX P w) 35 f4 _ _ (spOf K (CAof [c0, c1, c2]) S_frac_less) := fn_ok F4 sc_frac_less db_frac_less hN htr (by decide) wd mt_frac_less (by simp (config := { decide := true }) only [m_frac_less, okB, okS, okE, okA, okO, okI, gg0, gg1, gg2, s3.mono (show 34 ≤ 34 by decide), List.mem_cons, List.not_mem_nil, or_false, forall_eq_or_imp, forall_eq, and_true, true_and, and_self]) w_frac_less
  have s4 : FnS (CAof [c0, c1, c2]) P w K mg base 35 "frac_less" S_frac_less := ⟨f4, _, _, o4, PySem.W.mg_of X G a4, k4, b4⟩
  have o5 : FnG P w K mg base (L2.CX P w) 35 f5 _ _ (spOf K (CAof [c0, c1, c2]) S_frac_times) := fn_ok F5 sc_frac_times db_frac_times hN htr (by decide) wd mt_frac_times (by simp (config := { decide := true }) only [m_frac_times, okB, okS, okE, okA, okO, okI, gg0, gg1, gg2, s3.mono (show 34 ≤ 34 by decide), List.mem_cons, List.not_mem_nil, or_false, forall_eq_or_imp, forall_eq, and_true, true_and, and_self]) w_frac_times
  have s5 : FnS (CAof [c0, c1, c2]) P w K mg base 35 "frac_times" S_frac_times := ⟨f5, _, _, o5, PySem.W.mg_of X G a5, k5, b5⟩
  have o6 : FnG P w K mg base (L2.CX P w) 35 f6 _ _ (spOf K (CAof [c0, c1, c2]) S_frac_by) := fn_ok F6 sc_frac_by db_frac_by hN htr (by decide) wd mt_frac_by (by simp (config := { decide := true }) only [m_frac_by, okB, okS, okE, okA, okO, okI, gg0, gg1, gg2, s3.mono (show 34 ≤ 34 by decide), List.mem_cons, List.not_mem_nil, or_false, forall_eq_or_imp, forall_eq, and_true, true_and, and_self]) w_frac_by
  have s6 : FnS (CAof [c0, c1, c2]) P w K mg base 35 "frac_by" S_frac_by := ⟨f6, _, _, o6, PySem.W.mg_of X G a6, k6, b6⟩
  have o7 : FnG P w K mg base (L2.CX P w) 35 f7 _ _ (spOf K (CAof [c0, c1, c2]) S_look_at_table) := fn_ok F7 sc_look_at_table db_look_at_table hN htr (by decide) wd mt_look_at_table (by simp (config := { decide := true }) only [m_look_at_table_1a_1a_0a, m_look_at_table_1a_1a, m_look_at_table_1a_1, m_look_at_table_1a_0a, m_look_at_table_1a, m_look_at_table_1, m_look_at_table_0a, m_look_at_table, okB, okS, okE, okA, okO, okI, gg0, gg1, gg2, s2.mono (show 34 ≤ 34 by decide), List.mem_cons, List.not_mem_nil, or_false, forall_eq_or_imp, forall_eq, and_true, true_and, and_self]) w_look_at_table
  have s7 : FnS (CAof [c0, c1, c2]) P w K mg base 35 "look_at_table" S_look_at_table := ⟨f7, _, _, o7, PySem.W.mg_of X G a7, k7, b7⟩
  have o16 : FnG P w K mg base (L2.CX P w) 35 f16 _ _ (spOf K (CAof [c0, c1, c2]) S_law_due) := fn_ok F16 sc_law_due db_law_due hN htr (by decide) wd mt_law_due (by simp (config := { decide := true }) only [m_law_due_2, m_law_due_1a_2, m_law_due_1a_1a, m_law_due_1a_1, m_law_due_1a, m_law_due_1, m_law_due, okB, okS, okE, okA, okO, okI, gg0, gg1, gg2, s12.mono (show 34 ≤ 34 by decide), s13.mono (show 34 ≤ 34 by decide), s15.mono (show 33 ≤ 34 by decide), List.mem_cons, List.not_mem_nil, or_false, forall_eq_or_imp, forall_eq, and_true, true_and, and_self]) w_law_due
  have s16 : FnS (CAof [c0, c1, c2]) P w K mg base 35 "_law_due" S_law_due := ⟨f16, _, _, o16, PySem.W.mg_of X G a16, k16, b16⟩
  have o17 : FnG P w K mg base (L2.CX P w) 35 f17 _ _ (spOf K (CAof [c0, c1, c2]) S_law_great) := fn_ok F17 sc_law_great db_law_great hN htr (by decide) wd mt_law_great (by simp (config := { decide := true }) only [m_law_great_7, m_law_great_6a, m_law_great_6, m_law_great_5, m_law_great_4a_3, m_law_great_4a_2, m_law_great_4a_1, m_law_great_4a, m_law_great_4, m_law_great_3, m_law_great_2, m_law_great_1, m_law_great, okB, okS, okE, okA, okO, okI, gg0, gg1, gg2, s10.mono (show 33 ≤ 34 by decide), s11.mono (show 33 ≤ 34 by decide), s13.mono (show 34 ≤ 34 by decide), List.mem_cons, List.not_mem_nil, or_false, forall_eq_or_imp, forall_eq, and_true, true_and, and_self]) w_law_great
  have s17 : FnS (CAof [c0, c1, c2]) P w K mg base 35 "_law_great" S_law_great := ⟨f17, _, _, o17, PySem.W.mg_of X G a17, k17, b17⟩
  have o8 : FnG P w K mg base (L2.CX P w) 36 f8 _ _ (spOf K (CAof [c0, c1, c2]) S_worth_of) := fn_ok F8 sc_worth_of db_worth_of hN htr (by decide) wd mt_worth_of (by simp (config := { decide := true }) only [m_worth_of_3, m_worth_of_2a_5a_1, m_worth_of_2a_5a, m_worth_of_2a_5, m_worth_of_2a_4, m_worth_of_2a_3a_2, m_worth_of_2a_3a_1, m_worth_of_2a_3a, m_worth_of_2a_3, m_worth_of_2a_2, m_worth_of_2a_1a, m_worth_of_2a_1, m_worth_of_2a, m_worth_of_2, m_worth_of_1, m_worth_of, okB, okS, okE, okA, okO, okI, gg0, gg1, gg2, s4.mono (show 35 ≤ 35 by decide), s5.mono (show 35 ≤ 35 by decide), s6.mono (show 35 ≤ 35 by decide), List.mem_cons, List.not_mem_nil, or_false, forall_eq_or_imp, forall_eq, and_true, true_and, and_self]) w_worth_of
  have s8 : FnS (CAof [c0, c1, c2]) P w K mg base 36 "worth_of" S_worth_of := ⟨f8, _, _, o8, PySem.W.mg_of X G a8, k8, b8⟩
  have o9 : FnG P w K mg base (L2.CX P w) 37 f9 _ _ (spOf K (CAof [c0, c1, c2]) S_table_worth) := fn_ok F9 sc_table_worth db_table_worth hN htr (by decide) wd mt_table_worth (by simp (config := { decide := true }) only [m_table_worth_1, m_table_worth, okB, okS, okE, okA, okO, okI, gg0, gg1, gg2, s7.mono (show 35 ≤ 36 by decide), s8.mono (show 36 ≤ 36 by decide), List.mem_cons, List.not_mem_nil, or_false, forall_eq_or_imp, forall_eq, and_true, true_and, and_self]) w_table_worth
  have s9 : FnS (CAof [c0, c1, c2]) P w K mg base 37 "table_worth" S_table_worth := ⟨f9, _, _, o9, PySem.W.mg_of X G a9, k9, b9⟩
  have o18 : FnG P w K mg base (L2.CX P w) 38 fa _ _ (spOf K (CAof [c0, c1, c2]) S_law) := fn_ok F18 sc_law db_law hN htr (by decide) wd mt_law (by simp (config := { decide := true }) only [m_law_10, m_law_9, m_law_8a_3a, m_law_8a_3, m_law_8a_2, m_law_8a_1a, m_law_8a_1, m_law_8a, m_law_8, m_law_7a, m_law_7, m_law_6a, m_law_6, m_law_5, m_law_4, m_law_3a, m_law_3, m_law_2, m_law_1, m_law, okB, okS, okE, okA, okO, okI, gg0, gg1, gg2, s9.mono (show 37 ≤ 37 by decide), s10.mono (show 33 ≤ 37 by decide), s12.mono (show 34 ≤ 37 by decide), s14.mono (show 34 ≤ 37 by decide), s16.mono (show 35 ≤ 37 by decide), s17.mono (show 35 ≤ 37 by decide), List.mem_cons, List.not_mem_nil, or_false, forall_eq_or_imp, forall_eq, and_true, true_and, and_self]) w_law
  exact o18
theorem walk_law {l : PySem.W.OpenLaw} {q : Program} {loose : List Str} {XP : (Str → Option Value) → Heap → Prop} {YP : World → Heap → Prop} {d : DefRec} {K : Params → PySem.W.Frag} {CA : Nat → Addr} (hi : importsNone q = true) (htr : l.prog.given.tree = none) (hn : l.most = some 63) (hdf : d.params.defaults = [])
    (hY : ∀ (w : World) (h : Heap), YP w h → (K w.params).In h)
    (F : ∀ (w : World) (mg : Str → Option Value) (fa : Addr) (h : Heap), (K w.params).In h → h.Ns mainGlobals mg → mg d.name = some (.ref fa) →
      ∃ fd : FuncData, (∀ (s : Shared) (u : Value), BindsTo s fd ⟨[u], []⟩ [("_law_script", u)]) ∧ ∀ base : Heap, (K w.params).In base → base.Ns mainGlobals mg → base.NoSeer → FnG l.prog w (K w.params) mg base (L2.CX l.prog w) 38 fa fd ["_law_script"] (spOf (K w.params) CA (spLaw small))) :
    PySem.W.WalkO q loose XP YP l.row.toRowW d [] (fun f vs => PySem.call f vs) :=
  walk_g hi (n := 63) (k := 38) (x := "_law_script") (CX := fun w => L2.CX l.prog w) (sp := fun w => spOf (K w.params) CA (spLaw small)) hn (by decide) hdf ⟨rfl, by decide, by decide⟩ hY F (fun _ _ _ _ hl hb _ hS => law_sp hl hb hS) fun _ H s e s' z => cx_none H s e s' z
end Dl
open PySem PySem.W PyProof.Rows in
set_option maxRecDepth 100000 in
set_option maxHeartbeats 0 in
theorem PySem.Challenge.cw_roundsides_k27_worths_of_tables_holds : PySem.Challenge.rw_roundsides_k27_worths_of_tables.Holds := by
  w_on; o_law; k_head; (case hw => w_witness2)
  k_fill
  refine' Dl.walk_law (l := PySem.Challenge.rw_roundsides_k27_worths_of_tables) (CA := Dl.CAof [_, _, _]) (by decide +kernel) rfl rfl rfl (fun w h Y => PySem.W.kIn_of Y) ?F
  case F =>
    intro w mg fa h KX G hmg
    refine' Dl.all_mk KX G hmg rfl ?x0 ?x1 ?x2 ?hn ?ht ?nd ?z0 ?z1 ?z2 ?z3 ?z4 ?z5 ?z6 ?z7 ?z8 ?z9 ?z10 ?z11 ?z12 ?z13 ?z14 ?z15 ?z16 ?z17 ?glob0 ?glob1 ?glob2 ?a0 ?l0 ?t0 ?k0 ?a1 ?l1 ?t1 ?k1 ?a2 ?l2 ?t2 ?k2 ?a3 ?l3 ?t3 ?k3 ?a4 ?l4 ?t4 ?k4 ?a5 ?l5 ?t5 ?k5 ?a6 ?l6 ?t6 ?k6 ?a7 ?l7 ?t7 ?k7 ?a8 ?l8 ?t8 ?k8 ?a9 ?l9 ?t9 ?k9 ?a10 ?l10 ?t10 ?k10 ?a11 ?l11 ?t11 ?k11 ?a12 ?l12 ?t12 ?k12 ?a13 ?l13 ?t13 ?k13 ?a14 ?l14 ?t14 ?k14 ?a15 ?l15 ?t15 ?k15 ?a16 ?l16 ?t16 ?k16 ?a17 ?l17 ?t17 ?k17 ?a18 ?l18 ?t18 ?k18
    (case x0 => (refine' ⟨?g_x0, ?q_x0, ?h_x0, ?m_x0, ?ty_x0, ?ex_x0, ?kp_x0, ?ga_x0, ?gg_x0, ?cl_x0⟩; (case g_x0 => k_is); (case q_x0 => k_is); (case h_x0 => rfl); (case m_x0 => rfl); (case ty_x0 => k_is); (case ex_x0 => (unfold Dl.veT; k_exc)); (case kp_x0 => k_is); (case ga_x0 => k_is); (case gg_x0 => k_is); (case cl_x0 => k_is)))
    (case x1 => (refine' ⟨?g_x1, ?q_x1, ?h_x1, ?m_x1, ?ty_x1, ?ex_x1, ?kp_x1, ?ga_x1, ?gg_x1, ?cl_x1⟩; (case g_x1 => k_is); (case q_x1 => k_is); (case h_x1 => rfl); (case m_x1 => rfl); (case ty_x1 => k_is); (case ex_x1 => (unfold Dl.veT; k_exc)); (case kp_x1 => k_is); (case ga_x1 => k_is); (case gg_x1 => k_is); (case cl_x1 => k_is)))
    (case x2 => (refine' ⟨?g_x2, ?q_x2, ?h_x2, ?m_x2, ?ty_x2, ?ex_x2, ?kp_x2, ?ga_x2, ?gg_x2, ?cl_x2⟩; (case g_x2 => k_is); (case q_x2 => k_is); (case h_x2 => rfl); (case m_x2 => rfl); (case ty_x2 => k_is); (case ex_x2 => (unfold Dl.veT; k_exc)); (case kp_x2 => k_is); (case ga_x2 => k_is); (case gg_x2 => k_is); (case cl_x2 => k_is)))
    (case hn => k_is)
    (case ht => k_is)
    (case nd => decide)
    (case z0 => k_is)
    (case z1 => k_is)
    (case z2 => k_is)
    (case z3 => k_is)
    (case z4 => k_is)
    (case z5 => k_is)
    (case z6 => k_is)
    (case z7 => k_is)
    (case z8 => k_is)
    (case z9 => k_is)
    (case z10 => k_is)
    (case z11 => k_is)
    (case z12 => k_is)
    (case z13 => k_is)
    (case z14 => k_is)
    (case z15 => k_is)
    (case z16 => k_is)
    (case z17 => k_is)
    (case glob0 => (refine' Dl.KG.ofInt ?n_glob0; (case n_glob0 => k_is)))
    (case glob1 => (refine' Dl.KG.ofRef ?n_glob1 ?v_glob1; (case n_glob1 => k_is); (case v_glob1 => (refine' Dl.KDx.tup ?t_glob1_l ?t_glob1_s ?t_glob1_v; (case t_glob1_l => k_is); (case t_glob1_s => decide); (case t_glob1_v => (refine' (Dl.KDxA.cons ?t_glob1_0 (Dl.KDxA.cons ?t_glob1_1 (Dl.KDxA.nil))); (case t_glob1_0 => exact Dl.KDx.int _ _); (case t_glob1_1 => exact Dl.KDx.int _ _)))))))
    (case glob2 => (refine' Dl.KG.ofRef ?n_glob2 ?v_glob2; (case n_glob2 => k_is); (case v_glob2 => (refine' Dl.KDx.tup ?t_glob2_l ?t_glob2_s ?t_glob2_v; (case t_glob2_l => k_is); (case t_glob2_s => decide); (case t_glob2_v => (refine' (Dl.KDxA.cons ?t_glob2_0 (Dl.KDxA.cons ?t_glob2_1 (Dl.KDxA.nil))); (case t_glob2_0 => exact Dl.KDx.int _ _); (case t_glob2_1 => exact Dl.KDx.int _ _)))))))
    (case a0 => k_is)
    (case l0 => k_is)
    (case t0 => k_is)
    (case k0 => k_is)
    (case a1 => k_is)
    (case l1 => k_is)
    (case t1 => k_is)
    (case k1 => k_is)
    (case a2 => k_is)
    (case l2 => k_is)
    (case t2 => k_is)
    (case k2 => k_is)
    (case a3 => k_is)
    (case l3 => k_is)
    (case t3 => k_is)
    (case k3 => k_is)
    (case a4 => k_is)
    (case l4 => k_is)
    (case t4 => k_is)
    (case k4 => k_is)
    (case a5 => k_is)
    (case l5 => k_is)
    (case t5 => k_is)
    (case k5 => k_is)
    (case a6 => k_is)
    (case l6 => k_is)
    (case t6 => k_is)
    (case k6 => k_is)
    (case a7 => k_is)
    (case l7 => k_is)
    (case t7 => k_is)
    (case k7 => k_is)
    (case a8 => k_is)
    (case l8 => k_is)
    (case t8 => k_is)
    (case k8 => k_is)
    (case a9 => k_is)
    (case l9 => k_is)
    (case t9 => k_is)
    (case k9 => k_is)
    (case a10 => k_is)
    (case l10 => k_is)
    (case t10 => k_is)
    (case k10 => k_is)
    (case a11 => k_is)
    (case l11 => k_is)
    (case t11 => k_is)
    (case k11 => k_is)
    (case a12 => k_is)
    (case l12 => k_is)
    (case t12 => k_is)
    (case k12 => k_is)
    (case a13 => k_is)
    (case l13 => k_is)
    (case t13 => k_is)
    (case k13 => k_is)
    (case a14 => k_is)
    (case l14 => k_is)
    (case t14 => k_is)
    (case k14 => k_is)
    (case a15 => k_is)
    (case l15 => k_is)
    (case t15 => k_is)
    (case k15 => k_is)
    (case a16 => k_is)
    (case l16 => k_is)
    (case t16 => k_is)
    (case k16 => k_is)
    (case a17 => k_is)
    (case l17 => k_is)
    (case t17 => k_is)
    (case k17 => k_is)
    (case a18 => k_is)
    (case l18 => k_is)
    (case t18 => k_is)
    (case k18 => k_is)

