import PyProof.Rows.All
import Wide.All
import OpenK.AllK
import Wide.FinOn
import HandS.ForMost
import HandS.Deep
import HandS.Wide
import HandS.IsInst
import HandS.SortInts
import PyProof.ReprBulk
import PySem.Challenge.RW_keystuned_k85_whole_longest_moves
set_option Elab.async false
set_option linter.all false
set_option maxRecDepth 100000
/-! DL: a language of readings over plain data: no heap, no program. -/
namespace DL
open PySem

/-- what a name of a def holds: nothing; data that stays (m: its lists were all made since the entry); a list of its own that it may change (m: so its items); data that stood at the last mark -/
inductive Sl where
  | non
  | val (m : Bool) (d : PyData)
  | own (m : Bool) (ds : List PyData)
  | old (d : PyData)
  | par (k : Nat) (ds : List PyData)
/-- a list that the name may change: its own, or the k-th that was lent to the def -/
def ownL (s : Sl) : Option (Bool × List PyData) := match s with
  | .own m ds => some (m, ds)
  | .par _ ds => some (false, ds)
  | _ => none
def reown (s : Sl) (es : List PyData) : Sl := match s with
  | .own m _ => .own m es
  | .par k _ => .par k es
  | s => s
abbrev Ds := List Sl
/-- how young the lists of a value are: any; made since the entry; made since the expression's start -/
inductive Lv where
  | any
  | mine
  | fresh
def Lv.min : Lv → Lv → Lv
  | .any, _ => .any
  | .mine, .any => .any
  | .mine, .mine => .mine
  | .mine, .fresh => .mine
  | .fresh, l => l
def mL (m : Bool) : Lv := match m with
  | true => .mine
  | false => .any
/-- where a value stands: among what stays, in a new list, in the own list of a name -/
inductive Fl where
  | av (l : Lv)
  | new (l : Lv)
  | own (i : Nat) (m : Bool)
def Fl.lv (fl : Fl) : Lv := match fl with
  | .av l => l
  | .new l => l
  | .own _ m => mL m
def look : Ds → Nat → Sl
  | [], _ => .non
  | s :: _, 0 => s
  | _ :: r, n + 1 => look r n
def put : Ds → Nat → Sl → Ds
  | [], _, _ => []
  | _ :: r, 0, s => s :: r
  | x :: r, n + 1, s => x :: put r n s
theorem put_length : ∀ (δ : Ds) (i : Nat) (s : Sl), (put δ i s).length = δ.length
  | [], _, _ => rfl
  | _ :: _, 0, _ => rfl
  | _ :: r, n + 1, s => congrArg (· + 1) (put_length r n s)
theorem look_put_ne : ∀ (δ : Ds) (i j : Nat) (s : Sl), j ≠ i → look (put δ i s) j = look δ j
  | [], _, _, _, _ => rfl
  | _ :: _, 0, 0, _, h => absurd rfl h
  | _ :: _, 0, _ + 1, _, _ => rfl
  | _ :: _, _ + 1, 0, _, _ => rfl
  | _ :: r, i + 1, j + 1, s, h => look_put_ne r i j s (fun e => h (congrArg (· + 1) e))
theorem look_put_eq : ∀ (δ : Ds) (i : Nat) (s : Sl), i < δ.length → look (put δ i s) i = s
  | [], _, _, h => absurd h (Nat.not_lt_zero _)
  | _ :: _, 0, _, _ => rfl
  | _ :: r, i + 1, s, h => look_put_eq r i s (Nat.lt_of_succ_lt_succ h)
theorem look_out : ∀ (δ : Ds) (i : Nat), δ.length ≤ i → look δ i = .non
  | [], _, _ => rfl
  | _ :: _, 0, h => absurd h (Nat.not_succ_le_zero _)
  | _ :: r, i + 1, h => look_out r i (Nat.le_of_succ_le_succ h)
def wipe : Ds → List Nat → Ds
  | δ, [] => δ
  | δ, i :: r => put (wipe δ r) i .non
theorem wipe_length (δ : Ds) : ∀ vs : List Nat, (wipe δ vs).length = δ.length
  | [] => rfl
  | i :: r => (put_length _ _ _).trans (wipe_length δ r)

/-- two ways -/
def br (b : Bool) (p q : Prop) : Prop := match b with
  | true => p
  | false => q
theorem br.mk {b : Bool} {p q : Prop} (h1 : b = true → p) (h2 : b = false → q) : br b p q := by
  cases b with
  | true => exact h1 rfl
  | false => exact h2 rfl
theorem br.dec {c : Prop} [Decidable c] {p q : Prop} (h1 : c → p) (h2 : ¬ c → q) : br (decide c) p q :=
  br.mk (fun h => h1 (of_decide_eq_true h)) (fun h => h2 (of_decide_eq_false h))
theorem br.nd {c : Prop} [Decidable c] {p q : Prop} (h1 : ¬ c → p) (h2 : c → q) : br (!decide c) p q :=
  br.mk (fun h => h1 (by simpa using h)) (fun h => h2 (by simpa using h))
theorem br.t {b : Bool} {p q : Prop} (h : b = true) (k : p) : br b p q := by subst h; exact k
theorem br.f {b : Bool} {p q : Prop} (h : b = false) (k : q) : br b p q := by subst h; exact k
theorem br.yes {c : Prop} [Decidable c] {p q : Prop} (h : c) (k : p) : br (decide c) p q := br.t (decide_eq_true h) k
theorem br.no {c : Prop} [Decidable c] {p q : Prop} (h : ¬ c) (k : q) : br (decide c) p q := br.f (decide_eq_false h) k
theorem br.imp {b : Bool} {p q p' q' : Prop} (h : br b p q) (h1 : p → p') (h2 : q → q') : br b p' q' := by
  cases b with
  | true => exact h1 h
  | false => exact h2 h

abbrev VK := Fl → PyData → Prop
abbrev DE := Ds → VK → Prop
abbrev DT := Ds → (Bool → Prop) → Prop
abbrev DA := Ds → (Lv → List PyData → Prop) → Prop
abbrev DO := Ds → (Option Int → Prop) → Prop
/-- an error: its class's name, its fields -/
structure Er where
  cls : Str
  fs : List (Str × PyData)
/-- how an answer stands: among what stays, a new list; F: all its lists are new -/
inductive Rt where
  | av
  | new
  | avF
  | newF
structure Ed where
  nx : Ds → Prop
  rt : Rt → PyData → Prop
  bk : Ds → Prop := fun _ => False
  ct : Ds → Prop := fun _ => False
  ex : Ds → Er → Prop := fun _ _ => False
  rp : Ds → PyData → Prop := fun _ _ => False
abbrev DS := Ed → Ds → Prop
abbrev DG := Lv → PyData → Ds → (Ds → Prop) → Prop
abbrev DGs := Lv → List PyData → Ds → (Ds → Prop) → Prop
/-- a def's promise: the arguments, what is wanted of its answer -/
abbrev DSp := List PyData → (Rt → PyData → Prop) → Prop

/-! ### expressions -/
def dVar (i : Nat) : DE := fun σ Q => match look σ i with
  | .val m d => Q (.av (mL m)) d
  | .own m ds => Q (.own i m) (.list ds)
  | .old d => Q (.av .any) d
  | .par _ ds => Q (.own i false) (.list ds)
  | .non => False
def dC (d : PyData) : DE := fun _ Q => Q (.av .fresh) d
abbrev R1 := Lv → PyData → VK → Prop
abbrev R2 := Lv → PyData → Lv → PyData → VK → Prop
abbrev RB := PyData → PyData → (Bool → Prop) → Prop
def dUn (r : R1) (ta : DE) : DE := fun σ Q => ta σ fun fl x => r fl.lv x Q
def dOp (r : R2) (ta tb : DE) : DE := fun σ Q => ta σ fun fx x => tb σ fun fy y => r fx.lv x fy.lv y Q
def dCmp (r : RB) (ta tb : DE) : DT := fun σ Q => ta σ fun _ x => tb σ fun _ y => r x y Q
/-- a test as a value, a value as a test -/
def dBool (t : DT) : DE := fun σ Q => t σ fun b => Q (.av .fresh) (.bool b)
def rTest (d : PyData) (Q : Bool → Prop) : Prop := match d with
  | .bool b => Q b
  | _ => False
def dTest (t : DE) : DT := fun σ Q => t σ fun _ d => rTest d Q
def dAnd (t u : DT) : DT := fun σ Q => t σ fun b => br b (u σ Q) (Q false)
def dOr (t u : DT) : DT := fun σ Q => t σ fun b => br b (Q true) (u σ Q)
def dNot (t : DT) : DT := fun σ Q => t σ fun b => Q (!b)
def dAndV (ta tb : DE) : DE := fun σ Q => ta σ fun _ d => rTest d fun b => br b (tb σ Q) (Q (.av .fresh) (.bool false))
def dOrV (ta tb : DE) : DE := fun σ Q => ta σ fun _ d => rTest d fun b => br b (Q (.av .fresh) (.bool true)) (tb σ Q)
def dNotV (ta : DE) : DE := fun σ Q => ta σ fun _ d => rTest d fun b => Q (.av .fresh) (.bool (!b))
def dIfE (c : DT) (ta tb : DE) : DE := fun σ Q => c σ fun b => br b (ta σ Q) (tb σ Q)
/-- what is no own list of a name -/
def fz (fl : Fl) (p : Lv → Prop) : Prop := match fl with
  | .own _ _ => False
  | .av l => p l
  | .new l => p l
def dNil : DA := fun _ Q => Q .fresh []
def dCons (ta : DE) (tr : DA) : DA := fun σ Q => ta σ fun fl x => fz fl fun l => tr σ fun k xs => Q (l.min k) (x :: xs)
def dTup (ta : DA) : DE := fun σ Q => ta σ fun l ds => ds.length ≤ 1000 ∧ Q (.av l) (.tuple ds)
def dLst (ta : DA) : DE := fun σ Q => ta σ fun l ds => ds.length ≤ 1000 ∧ Q (.new l) (.list ds)
def Rt.fl (r : Rt) : Fl := match r with
  | .av => .av .any
  | .new => .new .any
  | .avF => .av .fresh
  | .newF => .new .fresh
def dCall (S : DSp) (ta : DA) : DE := fun σ Q => ta σ fun _ ds => S ds fun r d => Q r.fl d
/-- no list within -/
inductive NL : PyData → Prop
  | non : NL .none
  | bool (b : Bool) : NL (.bool b)
  | int (i : Int) : NL (.int i)
  | str (s : Str) : NL (.str s)
  | tup {ds : List PyData} : (∀ d ∈ ds, NL d) → NL (.tuple ds)
/-- e with the own list of slot i lent: what it gives holds no list -/
def dLend (i : Nat) (t : DE) : DE := fun σ Q => match look σ i with
  | .own _ ds => t (put σ i (.val false (.list ds))) fun fl d => fz fl fun _ => NL d ∧ Q (.av .fresh) d
  | _ => False
def dLendT (i : Nat) (t : DT) : DT := fun σ Q => match look σ i with
  | .own _ ds => t (put σ i (.val false (.list ds))) Q
  | _ => False
/-- what holds no list -/
def dNL (t : DE) : DE := fun σ Q => t σ fun fl d => fz fl fun _ => NL d ∧ Q (.av .fresh) d

/-! ### operations -/
def rAdd : R2 := fun l x k y Q => match x with
  | .int a => (match y with
    | .int b => Q (.av .fresh) (.int (a + b))
    | _ => False)
  | .list a => (match y with
    | .list b => a.length + b.length ≤ sizeLine ∧ Q (.new (l.min k)) (.list (a ++ b))
    | _ => False)
  | .tuple a => (match y with
    | .tuple b => a ≠ [] ∧ a.length + b.length ≤ sizeLine ∧ Q (.av (l.min k)) (.tuple (a ++ b))
    | _ => False)
  | .str a => (match y with
    | .str b => a.length + b.length ≤ sizeLine ∧ Q (.av .fresh) (.str (a ++ b))
    | _ => False)
  | _ => False
def rInt (C : Int → Int → Prop) (f : Int → Int → Int) : R2 := fun _ x _ y Q => match x with
  | .int a => (match y with
    | .int b => C a b ∧ Q (.av .fresh) (.int (f a b))
    | _ => False)
  | _ => False
def rSub : R2 := fun _ x _ y Q => match x with
  | .int a => (match y with
    | .int b => Q (.av .fresh) (.int (a - b))
    | _ => False)
  | _ => False
/-- one factor is small, or together they are not too large -/
def MulC (a b : Int) : Prop := L2.CMul a b ∨ L2.CMulW a b
def rMul : R2 := fun l x _ y Q => match x with
  | .int a => (match y with
    | .int b => MulC a b ∧ Q (.av .fresh) (.int (a * b))
    | _ => False)
  | .list a => (match y with
    | .int b => b < 2 ^ 62 ∧ -(2 ^ 62) < b ∧ a.length * b.toNat ≤ sizeLine ∧ Q (.new l) (.list (List.replicate b.toNat a).flatten)
    | _ => False)
  | _ => False
def DivC (a b : Int) : Prop := L2.CDiv a b ∨ L2.CDivW a b
def rDiv : R2 := fun _ x _ y Q => match x with
  | .int a => (match y with
    | .int b => DivC a b ∧ Q (.av .fresh) (.int (a / b))
    | _ => False)
  | _ => False
def ModC (_ b : Int) : Prop := 0 < b
def rMod : R2 := fun _ x _ y Q => match x with
  | .int a => (match y with
    | .int b => ModC a b ∧ Q (.av .fresh) (.int (a % b))
    | _ => False)
  | _ => False
def rPow : R2 := fun _ x _ y Q => match x with
  | .int a => (match y with
    | .int b => L2.CPow a b ∧ Q (.av .fresh) (.int (a ^ b.toNat))
    | _ => False)
  | _ => False
def rNeg : R1 := fun _ x Q => match x with
  | .int a => Q (.av .fresh) (.int (-a))
  | _ => False
def rLt : RB := fun x y Q => match x with
  | .int a => (match y with
    | .int b => Q (decide (a < b))
    | _ => False)
  | _ => False
def rLe : RB := fun x y Q => match x with
  | .int a => (match y with
    | .int b => Q (decide (a ≤ b))
    | _ => False)
  | _ => False
def rGt : RB := fun x y Q => match x with
  | .int a => (match y with
    | .int b => Q (decide (b < a))
    | _ => False)
  | _ => False
def rGe : RB := fun x y Q => match x with
  | .int a => (match y with
    | .int b => Q (decide (b ≤ a))
    | _ => False)
  | _ => False
def eqG (x y : PyData) (Q : Bool → Prop) : Prop := SeqAt.shaped x = true ∧ SeqAt.shaped y = true ∧ Q (PyData.eqv x y)
def rEq : RB := fun x y Q => match x with
  | .int a => (match y with
    | .int b => Q (decide (a = b))
    | _ => eqG x y Q)
  | .str a => (match y with
    | .str b => Q (decide (a = b))
    | _ => eqG x y Q)
  | .bool a => (match y with
    | .bool b => Q (decide (a = b))
    | _ => eqG x y Q)
  | _ => eqG x y Q
def rNe : RB := fun x y Q => rEq x y fun b => Q (!b)
def rIn : RB := fun x y Q => match y with
  | .list ys => SeqAt.shaped x = true ∧ SeqAt.shaped (.list ys) = true ∧ Q (ys.any fun z => PyData.eqv z x)
  | _ => False
def rNotIn : RB := fun x y Q => rIn x y fun b => Q (!b)
def isN (d : PyData) : Bool := match d with
  | .none => true
  | _ => false
def rIs : RB := fun x y Q => match y with
  | .none => Q (isN x)
  | _ => False
def rIsNot : RB := fun x y Q => match y with
  | .none => Q (!isN x)
  | _ => False
/-- a < b < c and its like -/
def dChain (r r' : RB) (ta tb tc : DE) : DT := fun σ Q => ta σ fun _ x => tb σ fun _ y => r x y fun k => br k (tc σ fun _ z => r' y z Q) (Q false)
def rIx : R2 := fun l x _ y Q => match y with
  | .int i => (match x with
    | .list ds => ∃ d, L2.atI ds i = some d ∧ Q (.av l) d
    | .tuple ds => ∃ d, L2.atI ds i = some d ∧ Q (.av l) d
    | _ => False)
  | _ => False
def cut {α : Type} (xs : List α) (lo hi : Option Int) : List α := (xs.drop (HT.sIx xs.length 0 lo)).take (HT.sIx xs.length xs.length hi - HT.sIx xs.length 0 lo)
def rSl (l : Lv) (x : PyData) (lo hi : Option Int) (Q : VK) : Prop := match x with
  | .list ds => Q (.new l) (.list (cut ds lo hi))
  | .tuple ds => ¬ (HT.sIx ds.length 0 lo = 0 ∧ HT.sIx ds.length ds.length hi = ds.length) ∧ Q (.av l) (.tuple (cut ds lo hi))
  | .dict kvs => Q (.new .fresh) (.list (cut (kvs.map (·.1)) lo hi))
  | _ => False
def dNo : DO := fun _ Q => Q none
def rPart (x : PyData) (Q : Option Int → Prop) : Prop := match x with
  | .int i => Q (some i)
  | _ => False
def dPart (t : DE) : DO := fun σ Q => t σ fun _ x => rPart x Q
def dSl (t : DE) (lo hi : DO) : DE := fun σ Q => t σ fun fl x => lo σ fun l => hi σ fun h => rSl fl.lv x l h Q
def rLen : R1 := fun _ x Q => match x with
  | .list ds => Q (.av .fresh) (.int ds.length)
  | .tuple ds => Q (.av .fresh) (.int ds.length)
  | .str s => s.length ≤ sizeLine ∧ Q (.av .fresh) (.int s.length)
  | .dict kvs => Q (.av .fresh) (.int kvs.length)
  | _ => False
def rAbs : R1 := fun _ x Q => match x with
  | .int a => Q (.av .fresh) (.int (if a < 0 then -a else a))
  | _ => False
def rToInt : R1 := fun _ x Q => match x with
  | .int a => Q (.av .fresh) (.int a)
  | .bool b => Q (.av .fresh) (.int (if b then 1 else 0))
  | _ => False
def rMax2 : R2 := fun _ x _ y Q => match x with
  | .int a => (match y with
    | .int b => Q (.av .fresh) (.int (if b > a then b else a))
    | _ => False)
  | _ => False
def rMin2 : R2 := fun _ x _ y Q => match x with
  | .int a => (match y with
    | .int b => Q (.av .fresh) (.int (if b < a then b else a))
    | _ => False)
  | _ => False
def rSum : R1 := fun _ x Q => match x with
  | .list ds => ∃ ns : List Int, ds = ns.map PyData.int ∧ Q (.av .fresh) (.int ns.sum)
  | _ => False
def rSorted : R1 := fun _ x Q => match x with
  | .list ds => ∃ ns : List Int, ds = ns.map PyData.int ∧ ∀ ns' : List Int, ns'.Perm ns → ns'.Pairwise (· ≤ ·) → Q (.new .fresh) (.list (ns'.map PyData.int))
  | _ => False
def rToList : R1 := fun l x Q => match x with
  | .list ds => Q (.new l) (.list ds)
  | .tuple ds => Q (.new l) (.list ds)
  | _ => False
def rToTup : R1 := fun l x Q => match x with
  | .list ds => Q (.av l) (.tuple ds)
  | .tuple ds => Q (.av l) (.tuple ds)
  | _ => False

/-! ### statements -/
def dNext : DS := fun D σ => D.nx σ
def dSeq (t u : DS) : DS := fun D σ => t { D with nx := u D } σ
def dPass : DS := fun D σ => D.nx σ
def dBreak : DS := fun D σ => D.bk σ
def dCont : DS := fun D σ => D.ct σ
def dDrop (t : DE) : DS := fun D σ => t σ fun _ _ => D.nx σ
/-- an answer: its age is not told; F: told -/
def rRet (D : Ed) (fl : Fl) (d : PyData) : Prop := match fl with
  | .av _ => D.rt .av d
  | .new _ => D.rt .new d
  | .own _ _ => D.rt .new d
def rRetF (D : Ed) (fl : Fl) (d : PyData) : Prop := match fl with
  | .av l => (match l with
    | .any => False
    | .mine => D.rt .avF d
    | .fresh => D.rt .avF d)
  | .new l => (match l with
    | .any => False
    | .mine => D.rt .newF d
    | .fresh => D.rt .newF d)
  | .own _ m => (match m with
    | true => D.rt .newF d
    | false => False)
def dRet (t : DE) : DS := fun D σ => t σ fun fl d => rRet D fl d
def dRetF (t : DE) : DS := fun D σ => t σ fun fl d => rRetF D fl d
def dRetN : DS := fun D _ => D.rt .av .none
def dIf (c : DT) (t u : DS) : DS := fun D σ => c σ fun b => br b (t D σ) (u D σ)
/-- x = e: the value stays -/
def dSet (i : Nat) (t : DE) : DS := fun D σ => t σ fun fl d => fz fl fun _ => D.nx (put σ i (.val false d))
/-- .. and its lists were made since the entry -/
def young (l : Lv) (p : Prop) : Prop := match l with
  | .any => False
  | .mine => p
  | .fresh => p
def dSetM (i : Nat) (t : DE) : DS := fun D σ => t σ fun fl d => fz fl fun l => young l (D.nx (put σ i (.val true d)))
/-- x = e: a new list, which x may change -/
def rOwn (fl : Fl) (d : PyData) (k : Lv → List PyData → Prop) : Prop := match fl with
  | .new l => (match d with
    | .list ds => k l ds
    | _ => False)
  | _ => False
def dOwn (i : Nat) (t : DE) : DS := fun D σ => t σ fun fl d => rOwn fl d fun _ ds => D.nx (put σ i (.own false ds))
def dOwnM (i : Nat) (t : DE) : DS := fun D σ => t σ fun fl d => rOwn fl d fun l ds => young l (D.nx (put σ i (.own true ds)))
/-- .. also one that a def made: its items hold no list -/
def rOwnA (fl : Fl) (d : PyData) (k : List PyData → Prop) : Prop := match fl with
  | .new _ => (match d with
    | .list ds => k ds
    | _ => False)
  | .av l => (match l with
    | .fresh => (match d with
      | .list ds => (∀ x ∈ ds, NL x) ∧ k ds
      | _ => False)
    | _ => False)
  | _ => False
def dOwnA (i : Nat) (t : DE) : DS := fun D σ => t σ fun fl d => rOwnA fl d fun ds => D.nx (put σ i (.own false ds))
/-- the list of x stays from here on -/
def dFrz (i : Nat) (t : DS) : DS := fun D σ => match look σ i with
  | .own m ds => t D (put σ i (.val m (.list ds)))
  | _ => t D σ
/-- targets -/
def gName (i : Nat) : DG := fun _ d σ Q => Q (put σ i (.val false d))
def gNameM (i : Nat) : DG := fun l d σ Q => young l (Q (put σ i (.val true d)))
def gNil : DGs := fun _ ds σ Q => match ds with
  | [] => Q σ
  | _ => False
def gCons (g : DG) (r : DGs) : DGs := fun l ds σ Q => match ds with
  | d :: ds' => g l d σ fun σ' => r l ds' σ' Q
  | [] => False
def gTup (n : Nat) (g : DGs) : DG := fun l d σ Q => match d with
  | .tuple ds => ds.length = n ∧ g l ds σ Q
  | _ => False
def dAsg (t : DE) (g : DG) : DS := fun D σ => t σ fun fl d => fz fl fun l => g l d σ D.nx
/-- x[i] = e, x.append(e), .. of an own list -/
def ownAt (σ : Ds) (i : Nat) (k : Bool → List PyData → Prop) : Prop := match look σ i with
  | .own m ds => k m ds
  | .par _ ds => k false ds
  | _ => False
/-- an item for an own list: of the items' age -/
def fit (m : Bool) (l : Lv) (p : Prop) : Prop := match m with
  | false => p
  | true => young l p
def rSetIx (y : PyData) (ds : List PyData) (d : PyData) (k : List PyData → Prop) : Prop := match y with
  | .int i => ∃ j, L2.ixN ds.length i = some j ∧ k (ds.set j d)
  | _ => False
def dSetIx (i : Nat) (te ti : DE) : DS := fun D σ => te σ fun fl d => fz fl fun l => ownAt σ i fun m ds => fit m l (ti σ fun _ y => rSetIx y ds d fun es => D.nx (put σ i (reown (look σ i) es)))
def dApp (i : Nat) (t : DE) : DS := fun D σ => ownAt σ i fun m ds => t σ fun fl d => fz fl fun l => fit m l (ds.length < sizeLine ∧ D.nx (put σ i (reown (look σ i) (ds ++ [d]))))
def rExt (d : PyData) (k : List PyData → Prop) : Prop := match d with
  | .list es => k es
  | _ => False
def dExt (i : Nat) (t : DE) : DS := fun D σ => ownAt σ i fun m ds => t σ fun fl d => fz fl fun l => fit m l (rExt d fun es => ds.length + es.length ≤ sizeLine ∧ D.nx (put σ i (reown (look σ i) (ds ++ es))))
def dRev (i : Nat) : DS := fun D σ => ownAt σ i fun m ds => D.nx (put σ i (reown (look σ i) ds.reverse))
/-! a mark: what stands now is old; a list made since may be spoilt, then only what is old, or no list, is known -/
def reold (δ : Ds) : Ds := δ.map fun s => match s with
  | .val _ d => .old d
  | .own _ ds => .own false ds
  | s => s
def unold (δ : Ds) : Ds := δ.map fun s => match s with
  | .old d => .val false d
  | s => s
def dMark (t : DS) : DS := fun D σ => t { D with nx := fun σ' => D.nx (unold σ'), bk := fun σ' => D.bk (unold σ'), ct := fun σ' => D.ct (unold σ') } (reold σ)
def scalar (d : PyData) : Bool := match d with
  | .none => true
  | .bool _ => true
  | .int _ => true
  | .str _ => true
  | _ => false
def spoil (δ : Ds) : Ds := δ.map fun s => match s with
  | .old d => .old d
  | .val m d => (match scalar d with
    | true => .val m d
    | false => .non)
  | _ => .non
/-! loops -/
def forGo (l : Lv) (g : DG) (tb : DS) : List PyData → DS
  | [], D, σ => D.nx σ
  | x :: xs, D, σ => g l x σ fun σ' => tb { D with nx := forGo l g tb xs D, ct := forGo l g tb xs D, bk := D.nx } σ'
def itL (d : PyData) (k : List PyData → Prop) : Prop := match d with
  | .list ds => k ds
  | .dict kvs => k (kvs.map (·.1))
  | _ => False
def itT (d : PyData) (k : List PyData → Prop) : Prop := match d with
  | .tuple ds => k ds
  | _ => False
def dForL (t : DE) (g : DG) (tb : DS) : DS := fun D σ => t σ fun fl d => fz fl fun l => itL d fun ds => forGo l g tb ds D σ
def dForT (t : DE) (g : DG) (tb : DS) : DS := fun D σ => t σ fun fl d => fz fl fun l => itT d fun ds => forGo l g tb ds D σ
def upTo (lo : Int) (n : Nat) : List PyData := (List.range n).map fun (k : Nat) => PyData.int (lo + (k : Int))
def Sm (i : Int) : Prop := -(2 ^ 62) ≤ i ∧ i < 2 ^ 62
def rRng1 (d : PyData) (k : List PyData → Prop) : Prop := match d with
  | .int n => Sm n ∧ k (upTo 0 n.toNat)
  | _ => False
def rRng2 (d e : PyData) (k : List PyData → Prop) : Prop := match d with
  | .int a => (match e with
    | .int b => Sm a ∧ Sm b ∧ k (upTo a (b - a).toNat)
    | _ => False)
  | _ => False
def dForR1 (t : DE) (g : DG) (tb : DS) : DS := fun D σ => t σ fun _ d => rRng1 d fun ds => forGo .fresh g tb ds D σ
def dForR2 (t u : DE) (g : DG) (tb : DS) : DS := fun D σ => t σ fun _ d => u σ fun _ e => rRng2 d e fun ds => forGo .fresh g tb ds D σ
def dWhile (c : DT) (tb : DS) : DS := fun D σ => ∃ W : Nat → Ds → Prop, (∃ m, W m σ) ∧ ∀ m σ, W m σ →
  c σ fun b => br b (∃ N : Ds → Prop, (∀ σ', N σ' → ∃ m', m' < m ∧ W m' σ') ∧ tb { D with nx := N, ct := N, bk := D.nx } σ) (D.nx σ)
/-! comprehensions -/
/-- an item of a comprehension; f: all must be young -/
def okF (f : Bool) (k : Lv) (p : Prop) : Prop := match f with
  | false => p
  | true => (match k with
    | .fresh => p
    | _ => False)
def cL (f : Bool) : Lv := match f with
  | false => .any
  | true => .fresh
def lcGo (f : Bool) (l : Lv) (g : DG) (tt : DT) (te : DE) (σ : Ds) : List PyData → List PyData → (List PyData → Prop) → Prop
  | [], acc, Q => Q acc
  | x :: xs, acc, Q => g l x σ fun σ' => tt σ' fun b => br b (te σ' fun fl d => fz fl fun k => okF f k (acc.length < sizeLine ∧ lcGo f l g tt te σ xs (acc ++ [d]) Q)) (lcGo f l g tt te σ xs acc Q)
def dYes : DT := fun _ Q => Q true
def dLcL (f : Bool) (t : DE) (g : DG) (tt : DT) (te : DE) (vs : List Nat) : DE := fun σ Q => t σ fun fl d => itL d fun ds => lcGo f fl.lv g tt te (wipe σ vs) ds [] fun r => Q (.new (cL f)) (.list r)
def dLcT (f : Bool) (t : DE) (g : DG) (tt : DT) (te : DE) (vs : List Nat) : DE := fun σ Q => t σ fun fl d => itT d fun ds => lcGo f fl.lv g tt te (wipe σ vs) ds [] fun r => Q (.new (cL f)) (.list r)
def dLcR1 (f : Bool) (t : DE) (g : DG) (tt : DT) (te : DE) (vs : List Nat) : DE := fun σ Q => t σ fun _ d => rRng1 d fun ds => lcGo f .fresh g tt te (wipe σ vs) ds [] fun r => Q (.new (cL f)) (.list r)
def dLcR2 (f : Bool) (t u : DE) (g : DG) (tt : DT) (te : DE) (vs : List Nat) : DE := fun σ Q => t σ fun _ d => u σ fun _ e => rRng2 d e fun ds => lcGo f .fresh g tt te (wipe σ vs) ds [] fun r => Q (.new (cL f)) (.list r)
/-- a def's state at its entry -/
def start (n : Nat) (ds : List PyData) : Ds := ds.map (Sl.val false) ++ List.replicate (n - ds.length) .non
/-- a def's body keeps its promise -/
def Keeps (n : Nat) (body : DS) (S : DSp) : Prop := ∀ ds Q, S ds Q → body { nx := fun _ => Q .av .none, rt := Q } (start n ds)
def MonoS (S : DSp) : Prop := ∀ ds Q Q', (∀ b d, Q b d → Q' b d) → S ds Q → S ds Q'
end DL
namespace DL
open PySem
/-! ### kinds of values -/
def tyN (d : PyData) : String := match d with
  | .none => "NoneType"
  | .bool _ => "bool"
  | .int _ => "int"
  | .str _ => "str"
  | .list _ => "list"
  | .tuple _ => "tuple"
  | .dict _ => "list"
def isInt (d : PyData) : Bool := match d with
  | .int _ => true
  | .bool _ => true
  | _ => false
def isBool (d : PyData) : Bool := match d with
  | .bool _ => true
  | _ => false
def isStr (d : PyData) : Bool := match d with
  | .str _ => true
  | _ => false
def isList (d : PyData) : Bool := match d with
  | .list _ => true
  | .dict _ => true
  | _ => false
def isTup (d : PyData) : Bool := match d with
  | .tuple _ => true
  | _ => false
def rKind (f : PyData → Bool) : R1 := fun _ x Q => Q (.av .fresh) (.bool (f x))
end DL

set_option Elab.async false
set_option linter.all false
set_option maxRecDepth 100000
set_option maxHeartbeats 2000000
/-! DW: the readings over plain data hold of the program: the relation between data and the abstract heap. -/
namespace DL
open PySem PySem.Spec L2

mutual
inductive Rp (K : PySem.W.Frag) (F : Addr → Prop) (H : Hp) : V → PyData → Prop
  | non : Rp K F H .non .none
  | bl (b : Bool) : Rp K F H (.bl b) (.bool b)
  | int (i : Int) : Rp K F H (.int i) (.int i)
  | str (x : Str) : Rp K F H (.str x) (.str x)
  | lst {a : Addr} {xs : List V} {ds : List PyData} : F a → H a = some (.lst xs) → RpAll K F H xs ds → Rp K F H (.ref a) (.list ds)
  | tup {a : Addr} {xs : List V} {ds : List PyData} : SqT K H a xs → RpAll K F H xs ds → Rp K F H (.ref a) (.tuple ds)
  | scr {a : Addr} {ns : List Int} : SqL K H a (ns.map V.int) → Rp K F H (.ref a) (.dict (ns.map fun n => (PyData.int n, PyData.none)))
inductive RpAll (K : PySem.W.Frag) (F : Addr → Prop) (H : Hp) : List V → List PyData → Prop
  | nil : RpAll K F H [] []
  | cons {v : V} {vs : List V} {d : PyData} {ds : List PyData} : Rp K F H v d → RpAll K F H vs ds → RpAll K F H (v :: vs) (d :: ds)
end

/-- all that is known stays known -/
def Ext (H H' : Hp) : Prop := ∀ a o, H a = some o → H' a = some o
theorem Ext.refl (H : Hp) : Ext H H := fun _ _ h => h
theorem Ext.trans {H H1 H2 : Hp} (a : Ext H H1) (b : Ext H1 H2) : Ext H H2 := fun x o h => b x o (a x o h)
theorem Ext.new {H : Hp} {p : Addr} {o : HO} (h : H p = none) : Ext H (upd H p o) := fun a u e => by
  rw [upd_ne (ne_of_none e h)]; exact e
theorem Ext.under {G H : Hp} {p : Addr} {o : HO} (e : Ext G H) (h : G p = none) : Ext G (upd H p o) := fun a u ha => by
  rw [upd_ne (ne_of_none ha h)]; exact e a u ha
theorem Ext.both {G H : Hp} {p : Addr} {o : HO} (e : Ext G H) : Ext (upd G p o) (upd H p o) := fun a u ha => by
  by_cases hp : a = p
  · subst hp; rw [upd_same] at ha ⊢; exact ha
  · rw [upd_ne hp] at ha ⊢; exact e a u ha
theorem Ext.free {H H' : Hp} {p : Addr} (e : Ext H H') (h : H' p = none) : H p = none := by
  cases q : H p with
  | none => rfl
  | some o => rw [e p o q] at h; cases h
theorem Ext.rd {H H' : Hp} {a : Addr} {u : HO} (e : Ext H H') (h : Rd H a u) : Rd H' a u := by
  rcases h with h | ⟨o, h⟩
  · exact .inl (e a _ h)
  · exact .inr ⟨o, e a _ h⟩
theorem Ext.sl {K : PySem.W.Frag} {H H' : Hp} {a : Addr} {xs : List V} (e : Ext H H') (h : SqL K H a xs) : SqL K H' a xs := by
  rcases h with h | h
  · exact .inl (e.rd h)
  · exact .inr h
theorem Ext.st {K : PySem.W.Frag} {H H' : Hp} {a : Addr} {xs : List V} (e : Ext H H') (h : SqT K H a xs) : SqT K H' a xs := by
  rcases h with h | h
  · exact .inl (e.rd h)
  · exact .inr h
mutual
theorem Rp.mono {K : PySem.W.Frag} {F : Addr → Prop} {H H' : Hp} (e : Ext H H') : ∀ {v : V} {d : PyData}, Rp K F H v d → Rp K F H' v d
  | _, _, .non => .non
  | _, _, .bl b => .bl b
  | _, _, .int i => .int i
  | _, _, .str x => .str x
  | _, _, .lst f h r => .lst f (e _ _ h) (RpAll.mono e r)
  | _, _, .tup h r => .tup (e.st h) (RpAll.mono e r)
  | _, _, .scr h => .scr (e.sl h)
theorem RpAll.mono {K : PySem.W.Frag} {F : Addr → Prop} {H H' : Hp} (e : Ext H H') : ∀ {v : List V} {d : List PyData}, RpAll K F H v d → RpAll K F H' v d
  | _, _, .nil => .nil
  | _, _, .cons h r => .cons (Rp.mono e h) (RpAll.mono e r)
end
section
variable {K : PySem.W.Frag} {F : Addr → Prop} {H H' : Hp}
theorem RpAll.length : ∀ {xs : List V} {ds : List PyData}, RpAll K F H xs ds → xs.length = ds.length
  | _, _, .nil => rfl
  | _, _, .cons _ r => congrArg (· + 1) (RpAll.length r)
theorem RpAll.get : ∀ {xs : List V} {ds : List PyData} {i : Nat} {d : PyData}, RpAll K F H xs ds → ds[i]? = some d → ∃ v, xs[i]? = some v ∧ Rp K F H v d
  | _, _, _, _, .nil, e => by simp at e
  | _, _, 0, _, .cons r _, e => by simp at e; subst e; exact ⟨_, rfl, r⟩
  | _, _, i + 1, d, .cons _ t, e => by
    obtain ⟨v, h1, h2⟩ := RpAll.get (i := i) (d := d) t (by simpa using e)
    exact ⟨v, by simpa using h1, h2⟩
theorem RpAll.append : ∀ {xs ys : List V} {ds es : List PyData}, RpAll K F H xs ds → RpAll K F H ys es → RpAll K F H (xs ++ ys) (ds ++ es)
  | _, _, _, _, .nil, s => s
  | _, _, _, _, .cons r t, s => .cons r (RpAll.append t s)
theorem RpAll.take : ∀ {xs : List V} {ds : List PyData} (n : Nat), RpAll K F H xs ds → RpAll K F H (xs.take n) (ds.take n)
  | _, _, 0, _ => .nil
  | _, _, _ + 1, .nil => .nil
  | _, _, n + 1, .cons r t => .cons r (RpAll.take n t)
theorem RpAll.drop : ∀ {xs : List V} {ds : List PyData} (n : Nat), RpAll K F H xs ds → RpAll K F H (xs.drop n) (ds.drop n)
  | _, _, 0, r => r
  | _, _, _ + 1, .nil => .nil
  | _, _, n + 1, .cons _ t => RpAll.drop n t
theorem RpAll.set {v : V} {d : PyData} (r : Rp K F H v d) : ∀ {xs : List V} {ds : List PyData} (i : Nat), RpAll K F H xs ds → RpAll K F H (xs.set i v) (ds.set i d)
  | _, _, _, .nil => .nil
  | _, _, 0, .cons _ t => .cons r t
  | _, _, i + 1, .cons q t => .cons q (RpAll.set r i t)
theorem RpAll.reverse : ∀ {xs : List V} {ds : List PyData}, RpAll K F H xs ds → RpAll K F H xs.reverse ds.reverse
  | _, _, .nil => .nil
  | _, _, .cons r t => by
    rw [List.reverse_cons, List.reverse_cons]
    exact (RpAll.reverse t).append (.cons r .nil)
theorem RpAll.dropLast : ∀ {xs : List V} {ds : List PyData}, RpAll K F H xs ds → RpAll K F H xs.dropLast ds.dropLast := fun {xs ds} r => by
  rw [List.dropLast_eq_take, List.dropLast_eq_take, r.length]
  exact r.take _
theorem RpAll.rep {xs : List V} {ds : List PyData} (r : RpAll K F H xs ds) : ∀ n : Nat, RpAll K F H (List.replicate n xs).flatten (List.replicate n ds).flatten
  | 0 => .nil
  | n + 1 => by
    rw [List.replicate_succ, List.replicate_succ, List.flatten_cons, List.flatten_cons]
    exact r.append (RpAll.rep r n)
theorem RpAll.ints : ∀ {xs : List V} {ns : List Int}, RpAll K F H xs (ns.map PyData.int) → xs = ns.map V.int
  | _, [], .nil => rfl
  | _, _ :: _, .cons (.int _) t => by rw [RpAll.ints t]; rfl
theorem RpAll.of_ints : ∀ ns : List Int, RpAll K F H (ns.map V.int) (ns.map PyData.int)
  | [] => .nil
  | n :: r => .cons (.int n) (RpAll.of_ints r)
mutual
theorem Rp.dp : ∀ {v : V} {d : PyData}, d.canLay0 = true → Rp K F H v d → Dp K H v d
  | _, _, _, .non => .non
  | _, _, _, .bl b => .bl b
  | _, _, _, .int i => .int i
  | _, _, _, .str x => .str x
  | _, _, c, .lst _ h r => .lst (.of h) (RpAll.dp (by simpa [PyData.canLay0] using c) r)
  | _, _, c, .tup h r => .tup h (RpAll.dp (by simpa [PyData.canLay0] using c) r)
  | _, _, c, .scr h => by simp [PyData.canLay0] at c
theorem RpAll.dp : ∀ {v : List V} {d : List PyData}, PyData.canLayAll0 d = true → RpAll K F H v d → DpAll K H v d
  | _, _, _, .nil => .nil
  | _, _, c, .cons h r => by
    have c' := (Bool.and_eq_true_iff.mp (by simpa [PyData.canLayAll0] using c))
    exact .cons (Rp.dp c'.1 h) (RpAll.dp c'.2 r)
end
/-- a cell left out -/
def out (G : Hp) (p : Addr) : Hp := fun q => if q = p then none else G q
theorem out_ne {G : Hp} {p q : Addr} (h : q ≠ p) : out G p q = G q := by unfold out; rw [if_neg h]
theorem out_same {G : Hp} {p : Addr} : out G p p = none := by unfold out; rw [if_pos rfl]
theorem out_ext {G : Hp} {p : Addr} : Ext (out G p) G := fun a o h => by
  by_cases e : a = p
  · subst e; rw [out_same] at h; cases h
  · rw [out_ne e] at h; exact h
theorem RpAll.via {F' : Addr → Prop} : ∀ {ds : List PyData} {vs : List V}, (∀ d ∈ ds, ∀ {v : V}, Rp K F H v d → Rp K F' H' v d) → RpAll K F H vs ds → RpAll K F' H' vs ds
  | _, _, _, .nil => .nil
  | _, _, f, .cons q t => .cons (f _ List.mem_cons_self q) (RpAll.via (fun d hd => f d (List.mem_cons_of_mem _ hd)) t)
/-- data without a list does not lean on lists: F, and the cells of lists, are free -/
theorem Rp.noList {F' : Addr → Prop} (hh : ∀ a o, H a = some o → (∀ xs, o ≠ .lst xs) → H' a = some o) : ∀ {d : PyData}, NL d → ∀ {v : V}, Rp K F H v d → Rp K F' H' v d := by
  intro d hd
  induction hd with
  | non => intro v r; cases r; exact .non
  | bool b => intro v r; cases r; exact .bl b
  | int i => intro v r; cases r; exact .int i
  | str s => intro v r; cases r; exact .str s
  | tup h ih =>
    intro v r
    cases r with
    | tup hs ra =>
      rename_i ds a xs
      have hs' : SqT K H' a xs := by
        rcases hs with (q | ⟨o, q⟩) | q
        · exact .inl (.inl (hh _ _ q fun _ e => nomatch e))
        · exact .inl (.inr ⟨o, hh _ _ q fun _ e => nomatch e⟩)
        · exact .inr q
      exact .tup hs' (RpAll.via ih ra)
mutual
theorem Rp.weak {F' : Addr → Prop} (f : ∀ a, F a → F' a) : ∀ {v : V} {d : PyData}, Rp K F H v d → Rp K F' H v d
  | _, _, .non => .non
  | _, _, .bl b => .bl b
  | _, _, .int i => .int i
  | _, _, .str x => .str x
  | _, _, .lst q h r => .lst (f _ q) h (RpAll.weak f r)
  | _, _, .tup h r => .tup h (RpAll.weak f r)
  | _, _, .scr h => .scr h
theorem RpAll.weak {F' : Addr → Prop} (f : ∀ a, F a → F' a) : ∀ {v : List V} {d : List PyData}, RpAll K F H v d → RpAll K F' H v d
  | _, _, .nil => .nil
  | _, _, .cons h r => .cons (Rp.weak f h) (RpAll.weak f r)
end
end

/-- from the kept part G within H to the kept part G' within H' -/
structure Step (G H G' H' : Hp) : Prop where
  g : Ext G G'
  h : Ext H H'
  i : Ext G' H'
  f : ∀ p, G p = none → H p ≠ none → G' p = none
theorem Step.refl {G H : Hp} (i : Ext G H) : Step G H G H := ⟨Ext.refl _, Ext.refl _, i, fun _ h _ => h⟩
theorem Step.trans {G H G1 H1 G2 H2 : Hp} (a : Step G H G1 H1) (b : Step G1 H1 G2 H2) : Step G H G2 H2 :=
  ⟨a.g.trans b.g, a.h.trans b.h, b.i, fun p h1 h2 => b.f p (a.f p h1 h2) fun e => by
    cases q : H p with
    | none => exact h2 q
    | some o => rw [a.h p o q] at e; cases e⟩
/-- a new cell that stays, a new cell of one's own -/
theorem Step.keep {G H : Hp} (i : Ext G H) {p : Addr} {o : HO} (h : H p = none) : Step G H (upd G p o) (upd H p o) :=
  ⟨Ext.new (i.free h), Ext.new h, i.both, fun q h1 h2 => by
    have ne : q ≠ p := fun e => by subst e; exact h2 h
    rw [upd_ne ne]; exact h1⟩
theorem Step.lay {G H : Hp} (i : Ext G H) {p : Addr} {o : HO} (h : H p = none) : Step G H G (upd H p o) :=
  ⟨Ext.refl _, Ext.new h, i.under (i.free h), fun q h1 _ => h1⟩
/-- a cell that was new for Hs is kept from here on -/
theorem Step.take {G0 Hs G H : Hp} (a : Step G0 Hs G H) {p : Addr} {o : HO} (h : Hs p = none) (hg : G p = none) (hp : H p = some o) : Step G0 Hs (upd G p o) H :=
  ⟨fun q u e => by rw [upd_ne (fun z => by subst z; rw [a.g _ _ e] at hg; cases hg)]; exact a.g q u e, a.h, fun q u e => by
    by_cases z : q = p
    · subst z; rw [upd_same] at e; cases e; exact hp
    · rw [upd_ne z] at e; exact a.i q u e, fun q h1 h2 => by
    have ne : q ≠ p := fun e => by subst e; exact h2 h
    rw [upd_ne ne]; exact a.f q h1 h2⟩

/-- which lists are made since the entry; which are of an age -/
def mP (B : Hp) (m : Bool) (a : Addr) : Prop := m = true → B a = none
def lP (B Hs : Hp) (l : Lv) (a : Addr) : Prop := match l with
  | .any => True
  | .mine => B a = none
  | .fresh => Hs a = none
theorem mP_mL {B Hs : Hp} {m : Bool} {a : Addr} (h : mP B m a) : lP B Hs (mL m) a := by
  cases m with
  | true => exact h rfl
  | false => exact trivial
theorem lP_any {B Hs : Hp} {l : Lv} {a : Addr} (_ : lP B Hs l a) : lP B Hs .any a := trivial
theorem lP_fresh {B Hs : Hp} {l : Lv} {a : Addr} (x : Ext B Hs) (h : Hs a = none) : lP B Hs l a := by
  cases l with
  | any => trivial
  | mine => exact x.free h
  | fresh => exact h
theorem lP_minL {B Hs : Hp} {l k : Lv} {a : Addr} (x : Ext B Hs) (h : lP B Hs l a) : lP B Hs (l.min k) a := by
  cases l <;> cases k <;> first | trivial | exact h | exact x.free h
theorem lP_minR {B Hs : Hp} {l k : Lv} {a : Addr} (x : Ext B Hs) (h : lP B Hs k a) : lP B Hs (l.min k) a := by
  cases l <;> cases k <;> first | trivial | exact h | exact x.free h
theorem lP_young {B Hs : Hp} {l : Lv} {a : Addr} {p : Prop} (x : Ext B Hs) (y : young l p) (h : lP B Hs l a) : B a = none ∧ p := by
  cases l with
  | any => exact y.elim
  | mine => exact ⟨h, y⟩
  | fresh => exact ⟨x.free h, y⟩
theorem young_get {l : Lv} {p : Prop} (y : young l p) : p := by
  cases l with
  | any => exact y.elim
  | mine => exact y
  | fresh => exact y
theorem lP_from {B Hr Hs : Hp} {l : Lv} {a : Addr} (x : Ext Hr Hs) (h : lP B Hs l a) : lP B Hr l a := by
  cases l with
  | any => trivial
  | mine => exact h
  | fresh => exact x.free h
/-- the ground: the heap at the def's entry (or the last mark), the lists that were lent to the def -/
structure Bg where
  h : Hp
  ps : List Addr := []
instance : Coe Bg Hp := ⟨Bg.h⟩
instance : CoeFun Bg (fun _ => Addr → Option HO) := ⟨Bg.h⟩
/-- the slots bear the data: B is the heap at the def's entry (or the last mark), G0 the part that is kept there -/
structure Rl (K : PySem.W.Frag) (B : Bg) (G0 G : Hp) (δ : Ds) (σ : L2.St) (H : Hp) : Prop where
  st : Step G0 B G H
  len : σ.length = δ.length
  val : ∀ i m d, look δ i = .val m d → ∃ v, σ[i]? = some (some v) ∧ Rp K (mP B m) G v d
  own : ∀ i m ds, ownL (look δ i) = some (m, ds) → ∃ p xs, σ[i]? = some (some (.ref p)) ∧ G p = none ∧ B p = none ∧ H p = some (.lst xs) ∧ RpAll K (mP B m) G xs ds
  old : ∀ i d, look δ i = .old d → ∃ v, σ[i]? = some (some v) ∧ Rp K (fun _ => True) G0 v d
  dis : ∀ i j p m n ds es, ownL (look δ i) = some (m, ds) → ownL (look δ j) = some (n, es) → σ[i]? = some (some (.ref p)) → σ[j]? = some (some (.ref p)) → i = j
  par : ∀ i k ds, look δ i = .par k ds → ∃ p, σ[i]? = some (some (.ref p)) ∧ B.ps[k]? = some p
/-- a value bears data; Hs is the heap at the expression's start -/
def Rep (K : PySem.W.Frag) (B Hs : Hp) (δ : Ds) (σ : L2.St) (G H : Hp) (fl : Fl) (v : V) (d : PyData) : Prop := match fl with
  | .av l => Rp K (lP B Hs l) G v d
  | .new l => ∃ p xs ds, v = .ref p ∧ d = .list ds ∧ Hs p = none ∧ G p = none ∧ H p = some (.lst xs) ∧ RpAll K (lP B Hs l) G xs ds
  | .own i m => ∃ ds p xs, v = .ref p ∧ d = .list ds ∧ ownL (look δ i) = some (m, ds) ∧ σ[i]? = some (some (.ref p)) ∧ G p = none ∧ H p = some (.lst xs) ∧ RpAll K (mP B m) G xs ds
section
variable {K : PySem.W.Frag} {B : Bg} {G0 G G' H H' Hs : Hp} {δ : Ds} {σ : L2.St} {fl : Fl} {v : V} {d : PyData}
theorem Rl.step (r : Rl K B G0 G δ σ H) (s : Step G H G' H') : Rl K B G0 G' δ σ H' :=
  ⟨r.st.trans s, r.len, fun i m d h => by
    obtain ⟨v, h1, h2⟩ := r.val i m d h
    exact ⟨v, h1, h2.mono s.g⟩, fun i m ds h => by
    obtain ⟨p, xs, h1, h2, h3, h4, h5⟩ := r.own i m ds h
    exact ⟨p, xs, h1, s.f p h2 (by rw [h4]; exact fun e => nomatch e), h3, s.h _ _ h4, h5.mono s.g⟩, r.old, r.dis, r.par⟩
theorem Rep.step (r : Rep K B Hs δ σ G H fl v d) (s : Step G H G' H') : Rep K B Hs δ σ G' H' fl v d := by
  cases fl with
  | av => exact Rp.mono s.g r
  | new =>
    obtain ⟨p, xs, ds, h1, h2, h3, h4, h5, h6⟩ := r
    exact ⟨p, xs, ds, h1, h2, h3, s.f p h4 (by rw [h5]; exact fun e => nomatch e), s.h _ _ h5, h6.mono s.g⟩
  | own i m =>
    obtain ⟨ds, p, xs, h1, h2, h3, h4, h5, h6, h7⟩ := r
    exact ⟨ds, p, xs, h1, h2, h3, h4, s.f p h5 (by rw [h6]; exact fun e => nomatch e), s.h _ _ h6, h7.mono s.g⟩
theorem Rep.from (r : Rep K B Hs δ σ G H fl v d) {Hr : Hp} (e : Ext Hr Hs) : Rep K B Hr δ σ G H fl v d := by
  cases fl with
  | av => exact Rp.weak (fun _ h => lP_from e h) r
  | new =>
    obtain ⟨p, xs, ds, h1, h2, h3, h4, h5, h6⟩ := r
    exact ⟨p, xs, ds, h1, h2, e.free h3, h4, h5, h6.weak fun _ h => lP_from e h⟩
  | own i => exact r
/-- whatever it is: it bears the data in the whole heap -/
theorem Rep.all (r : Rep K B Hs δ σ G H fl v d) (i : Ext G H) : Rp K (fun _ => True) H v d := by
  cases fl with
  | av => exact (Rp.mono i r).weak fun _ _ => trivial
  | new =>
    obtain ⟨p, xs, ds, rfl, rfl, _, _, h5, h6⟩ := r
    exact .lst trivial h5 ((h6.mono i).weak fun _ _ => trivial)
  | own _ _ =>
    obtain ⟨ds, p, xs, rfl, rfl, _, _, _, h6, h7⟩ := r
    exact .lst trivial h6 ((h7.mono i).weak fun _ _ => trivial)
/-- a list: its items stay -/
theorem Rep.list {ds : List PyData} (r : Rep K B Hs δ σ G H fl v (.list ds)) (i : Ext G H) : ∃ p xs, v = .ref p ∧ H p = some (.lst xs) ∧ RpAll K (lP B Hs fl.lv) G xs ds := by
  cases fl with
  | av =>
    cases r with
    | lst _ h q => exact ⟨_, _, rfl, i _ _ h, q⟩
  | new =>
    obtain ⟨p, xs, es, rfl, e, _, _, h5, h6⟩ := r
    cases e
    exact ⟨p, xs, rfl, h5, h6⟩
  | own _ _ =>
    obtain ⟨es, p, xs, rfl, e, _, _, _, h6, h7⟩ := r
    cases e
    exact ⟨p, xs, rfl, h6, h7.weak fun _ h => mP_mL h⟩
theorem Rep.notList (r : Rep K B Hs δ σ G H fl v d) (h : ∀ ds, d ≠ .list ds) : Rp K (lP B Hs fl.lv) G v d := by
  cases fl with
  | av => exact r
  | new =>
    obtain ⟨p, xs, ds, _, e, _⟩ := r
    exact absurd e (h ds)
  | own _ _ =>
    obtain ⟨ds, p, xs, _, e, _⟩ := r
    exact absurd e (h ds)
theorem Rep.tuple {ds : List PyData} (r : Rep K B Hs δ σ G H fl v (.tuple ds)) (_ : Ext G H) : ∃ p xs, v = .ref p ∧ SqT K G p xs ∧ RpAll K (lP B Hs fl.lv) G xs ds := by
  cases r.notList (fun _ e => nomatch e) with
  | tup h q => exact ⟨_, _, rfl, h, q⟩
/-- what is no own list of a name may be kept from here on -/
theorem Rep.fix {P : Lv → Prop} (r : Rep K B Hs δ σ G' H' fl v d) (x : Ext B Hs) (s : Step G Hs G' H') (hz : fz fl P) : ∃ G1, Step G Hs G1 H' ∧ Ext G' G1 ∧ Rp K (lP B Hs fl.lv) G1 v d ∧ P fl.lv := by
  cases fl with
  | av => exact ⟨G', s, Ext.refl _, r, hz⟩
  | new =>
    obtain ⟨p, xs, ds, rfl, rfl, h3, h4, h5, h6⟩ := r
    exact ⟨_, s.take h3 h4 h5, Ext.new h4, .lst (lP_fresh x h3) upd_same (h6.mono (Ext.new h4)), hz⟩
  | own _ => exact hz.elim
end
end DL

set_option Elab.async false
set_option linter.all false
set_option maxRecDepth 100000
set_option maxHeartbeats 2000000
/-! DW2: expressions. -/
namespace DL
open PySem PySem.Spec L2

def Sd (K : PySem.W.Frag) (te : TE) (t : DE) : Prop := ∀ (B : Bg) (G0 G : Hp) (δ : Ds) (σ : L2.St) (H : Hp) (Q : L2.VK) (QQ : VK), Rl K B G0 G δ σ H → t δ QQ →
  (∀ fl d v G' H', Step G H G' H' → Rep K B H δ σ G' H' fl v d → QQ fl d → Q v H') → te σ H Q
def SdT (K : PySem.W.Frag) (te : TT) (t : DT) : Prop := ∀ (B : Bg) (G0 G : Hp) (δ : Ds) (σ : L2.St) (H : Hp) (Q : Bool → Hp → Prop) (QQ : Bool → Prop), Rl K B G0 G δ σ H → t δ QQ →
  (∀ b G' H', Step G H G' H' → QQ b → Q b H') → te σ H Q
def SdA (K : PySem.W.Frag) (n : Nat) (te : TA) (t : DA) : Prop := ∀ (B : Bg) (G0 G : Hp) (δ : Ds) (σ : L2.St) (H : Hp) (Q : List V → Hp → Prop) (QQ : Lv → List PyData → Prop), Rl K B G0 G δ σ H → t δ QQ →
  (∀ l ds vs G' H', ds.length = n → Step G H G' H' → RpAll K (lP B H l) G' vs ds → QQ l ds → Q vs H') → te σ H Q
def SdO (K : PySem.W.Frag) (te : TO) (t : DO) : Prop := ∀ (B : Bg) (G0 G : Hp) (δ : Ds) (σ : L2.St) (H : Hp) (Q : Option Int → Hp → Prop) (QQ : Option Int → Prop), Rl K B G0 G δ σ H → t δ QQ →
  (∀ o G' H', Step G H G' H' → QQ o → Q o H') → te σ H Q
/-- an expression has the reading t -/
def ED (X : Cx) (e : Expr) (t : DE) : Prop := ∃ te, PE X e te ∧ Sd X.K te t
def TD (X : Cx) (e : Expr) (t : DT) : Prop := ∃ te, PT X e te ∧ SdT X.K te t
def WD (X : Cx) (e : Expr) (t : DT) : Prop := ∃ te, PW X e te ∧ SdT X.K te t
def AD (X : Cx) (es : List Expr) (t : DA) : Prop := ∃ te, PA X es te ∧ SdA X.K es.length te t
def OD (X : Cx) (e : Option Expr) (t : DO) : Prop := ∃ te, PO X e te ∧ SdO X.K te t

section
variable {X : Cx} {e a b c : Expr} {es : List Expr} {pos : Pos} {ta tb tc : DE} {t u : DT}

theorem ed_var (i : Nat) {x : Str} (hN : X.N[i]? = some x := by rfl) (hv : Vis X.env.scope x := by first | exact Or.inl rfl | exact Or.inr (Or.inl rfl) | exact Or.inr (Or.inr rfl)) (hd : (x == ("__debug__" : Str)) = false := by decide)
    (hcd : (x == ("__classdict__" : Str)) = false := by decide) : ED X (.Name x pos) (dVar i) := by
  refine ⟨_, pe_var hN hv hd hcd, fun B G0 G δ σ H Q QQ r h k => ?_⟩
  unfold dVar at h
  cases q : look δ i with
  | non => rw [q] at h; exact h.elim
  | val m d =>
    rw [q] at h
    obtain ⟨v, h1, h2⟩ := r.val i m d q
    exact ⟨v, h1, k (.av (mL m)) d v G H (Step.refl r.st.i) (h2.weak fun _ z => mP_mL z) h⟩
  | own m ds =>
    rw [q] at h
    obtain ⟨p, xs, h1, h2, h3, h4, h5⟩ := r.own i m ds (by rw [q]; rfl)
    exact ⟨.ref p, h1, k (.own i m) (.list ds) _ G H (Step.refl r.st.i) ⟨ds, p, xs, rfl, rfl, by rw [q]; rfl, h1, h2, h4, h5⟩ h⟩
  | par k2 ds =>
    rw [q] at h
    obtain ⟨p, xs, h1, h2, h3, h4, h5⟩ := r.own i false ds (by rw [q]; rfl)
    exact ⟨.ref p, h1, k (.own i false) (.list ds) _ G H (Step.refl r.st.i) ⟨ds, p, xs, rfl, rfl, by rw [q]; rfl, h1, h2, h4, h5⟩ h⟩
  | old d =>
    rw [q] at h
    obtain ⟨v, h1, h2⟩ := r.old i d q
    exact ⟨v, h1, k (.av .any) d v G H (Step.refl r.st.i) ((h2.mono r.st.g).weak fun _ _ => trivial) h⟩
theorem sd_c {K : PySem.W.Frag} {v : V} {d : PyData} (h : ∀ (F : Addr → Prop) (G : Hp), Rp K F G v d) : Sd K (tC v) (dC d) := fun _ _ G _ _ H _ _ r q k => k (.av .fresh) d v G H (Step.refl r.st.i) (h _ G) q
theorem ed_int {i j} : ED X (.Constant (.int i) j pos) (dC (.int i)) := ⟨_, pe_int, sd_c fun _ _ => .int i⟩
theorem ed_bl {i j} : ED X (.Constant (.bool i) j pos) (dC (.bool i)) := ⟨_, pe_bl, sd_c fun _ _ => .bl i⟩
theorem ed_non {j} : ED X (.Constant .none j pos) (dC .none) := ⟨_, pe_non, sd_c fun _ _ => .non⟩
theorem ed_str {i j} : ED X (.Constant (.str i) j pos) (dC (.str i)) := ⟨_, pe_str, sd_c fun _ _ => .str i⟩
/-- a module's constant: a number -/
theorem ed_gint {x : Str} {i : Int} {tk : Tok} (hg : Gl X x) (hm : X.mg x = some (.int i tk)) (hd : (x == ("__debug__" : Str)) = false := by decide) : ED X (.Name x pos) (dC (.int i)) :=
  ⟨_, pe_glob (v := .int i) hg hm ⟨tk, rfl⟩ hd, sd_c fun _ _ => .int i⟩

/-! ### operations -/
def SdR (K : PySem.W.Frag) (r' : L2.R2) (r : R2) : Prop := ∀ (B : Bg) (Hs : Hp) (δ : Ds) (σ : L2.St) (G H : Hp) (fx fy : Fl) (x y : PyData) (v u : V) (Q : L2.VK) (QQ : VK), Ext B Hs → Ext Hs H → Ext G H → Rep K B Hs δ σ G H fx v x → Rep K B Hs δ σ G H fy u y → r fx.lv x fy.lv y QQ →
  (∀ fl d w G' H', Step G H G' H' → Rep K B Hs δ σ G' H' fl w d → QQ fl d → Q w H') → r' v u H Q
def SdU (K : PySem.W.Frag) (r' : V → Hp → L2.VK → Prop) (r : R1) : Prop := ∀ (B : Bg) (Hs : Hp) (δ : Ds) (σ : L2.St) (G H : Hp) (fx : Fl) (x : PyData) (v : V) (Q : L2.VK) (QQ : VK), Ext B Hs → Ext Hs H → Ext G H → Rep K B Hs δ σ G H fx v x → r fx.lv x QQ →
  (∀ fl d w G' H', Step G H G' H' → Rep K B Hs δ σ G' H' fl w d → QQ fl d → Q w H') → r' v H Q
def SdB (K : PySem.W.Frag) (r' : L2.R2) (r : RB) : Prop := ∀ (B : Bg) (Hs : Hp) (δ : Ds) (σ : L2.St) (G H : Hp) (fx fy : Fl) (x y : PyData) (v u : V) (Q : L2.VK) (QQ : Bool → Prop), Ext B Hs → Ext Hs H → Ext G H → Rep K B Hs δ σ G H fx v x → Rep K B Hs δ σ G H fy u y → r x y QQ →
  (∀ b, QQ b → Q (.bl b) H) → r' v u H Q
theorem sd_op {K : PySem.W.Frag} {r' : L2.R2} {r : R2} {ta' tb' : TE} (hs : SdR K r' r) (ha : Sd K ta' ta) (hb : Sd K tb' tb) : Sd K (tOp r' ta' tb') (dOp r ta tb) := fun B G0 G δ σ H Q QQ rl h k =>
  ha B G0 G δ σ H _ _ rl h fun fx x v G1 H1 s1 p1 h1 => hb B G0 G1 δ σ H1 _ _ (rl.step s1) h1 fun fy y u G2 H2 s2 p2 h2 =>
    hs B H δ σ G2 H2 fx fy x y v u Q QQ rl.st.h (s1.h.trans s2.h) s2.i (p1.step s2) (p2.from s1.h) h2 fun fl d w G3 H3 s3 p3 h3 => k fl d w G3 H3 ((s1.trans s2).trans s3) p3 h3
theorem sd_un {K : PySem.W.Frag} {r' : V → Hp → L2.VK → Prop} {r : R1} {ta' : TE} (hs : SdU K r' r) (ha : Sd K ta' ta) : Sd K (tUn r' ta') (dUn r ta) := fun B G0 G δ σ H Q QQ rl h k =>
  ha B G0 G δ σ H _ _ rl h fun fx x v G1 H1 s1 p1 h1 =>
    hs B H δ σ G1 H1 fx x v Q QQ rl.st.h s1.h s1.i p1 h1 fun fl d w G3 H3 s3 p3 h3 => k fl d w G3 H3 (s1.trans s3) p3 h3
theorem sd_cmp {K : PySem.W.Frag} {r' : L2.R2} {r : RB} {ta' tb' : TE} (hs : SdB K r' r) (ha : Sd K ta' ta) (hb : Sd K tb' tb) : SdT K (L2.tTest (tOp r' ta' tb')) (dCmp r ta tb) := fun B G0 G δ σ H Q QQ rl h k =>
  ha B G0 G δ σ H _ _ rl h fun fx x v G1 H1 s1 p1 h1 => hb B G0 G1 δ σ H1 _ _ (rl.step s1) h1 fun fy y u G2 H2 s2 p2 h2 =>
    hs B H δ σ G2 H2 fx fy x y v u _ QQ rl.st.h (s1.h.trans s2.h) s2.i (p1.step s2) (p2.from s1.h) h2 fun b q => ⟨b, rfl, k b G2 H2 (s1.trans s2) q⟩
theorem sd_cmpV {K : PySem.W.Frag} {r' : L2.R2} {r : RB} {ta' tb' : TE} (hs : SdB K r' r) (ha : Sd K ta' ta) (hb : Sd K tb' tb) : Sd K (tOp r' ta' tb') (dBool (dCmp r ta tb)) := fun B G0 G δ σ H Q QQ rl h k =>
  ha B G0 G δ σ H _ _ rl h fun fx x v G1 H1 s1 p1 h1 => hb B G0 G1 δ σ H1 _ _ (rl.step s1) h1 fun fy y u G2 H2 s2 p2 h2 =>
    hs B H δ σ G2 H2 fx fy x y v u _ _ rl.st.h (s1.h.trans s2.h) s2.i (p1.step s2) (p2.from s1.h) h2 fun b q => k (.av .fresh) (.bool b) _ G2 H2 (s1.trans s2) (Rp.bl b) q
theorem ed_op {op : Operator} {r' : L2.R2} {r : R2} (ho : OpR X (binaryOp op) r') (hs : SdR X.K r' r) (ha : ED X a ta) (hb : ED X b tb) : ED X (.BinOp a op b pos) (dOp r ta tb) := by
  obtain ⟨ta', ha, sa⟩ := ha
  obtain ⟨tb', hb, sb⟩ := hb
  exact ⟨_, pe_op ho ha hb, sd_op hs sa sb⟩
theorem ed_cmp {op : CmpOp} {r' : L2.R2} {r : RB} (ho : OpR X (compareOp op) r') (hs : SdB X.K r' r) (ha : ED X a ta) (hb : ED X b tb) (hm : behindInMarks op b = false) : ED X (.Compare a [op] [b] pos) (dBool (dCmp r ta tb)) := by
  obtain ⟨ta', ha, sa⟩ := ha
  obtain ⟨tb', hb, sb⟩ := hb
  exact ⟨_, pe_cmpR ho ha hb hm, sd_cmpV hs sa sb⟩
theorem td_cmp {op : CmpOp} {r' : L2.R2} {r : RB} (ho : OpR X (compareOp op) r') (hs : SdB X.K r' r) (ha : ED X a ta) (hb : ED X b tb) (hm : behindInMarks op b = false) : TD X (.Compare a [op] [b] pos) (dCmp r ta tb) := by
  obtain ⟨ta', ha, sa⟩ := ha
  obtain ⟨tb', hb, sb⟩ := hb
  exact ⟨_, pt_cmpR ho ha hb hm, sd_cmp hs sa sb⟩

/-! the operators -/
theorem rep_int {K : PySem.W.Frag} {B : Bg} {Hs : Hp} {δ : Ds} {σ : L2.St} {G H : Hp} {fl : Fl} {v : V} {i : Int} (r : Rep K B Hs δ σ G H fl v (.int i)) : v = .int i := by
  cases r.notList (fun _ e => nomatch e); rfl
theorem rep_bool {K : PySem.W.Frag} {B : Bg} {Hs : Hp} {δ : Ds} {σ : L2.St} {G H : Hp} {fl : Fl} {v : V} {i : Bool} (r : Rep K B Hs δ σ G H fl v (.bool i)) : v = .bl i := by
  cases r.notList (fun _ e => nomatch e); rfl
theorem rep_str {K : PySem.W.Frag} {B : Bg} {Hs : Hp} {δ : Ds} {σ : L2.St} {G H : Hp} {fl : Fl} {v : V} {i : Str} (r : Rep K B Hs δ σ G H fl v (.str i)) : v = .str i := by
  cases r.notList (fun _ e => nomatch e); rfl
theorem rep_none {K : PySem.W.Frag} {B : Bg} {Hs : Hp} {δ : Ds} {σ : L2.St} {G H : Hp} {fl : Fl} {v : V} (r : Rep K B Hs δ σ G H fl v .none) : v = .non := by
  cases r.notList (fun _ e => nomatch e); rfl
/-- a new list as an operation's answer -/
theorem fin_new {K : PySem.W.Frag} {B : Bg} {Hs : Hp} {δ : Ds} {σ : L2.St} {G H : Hp} {Q : L2.VK} {QQ : VK} {l : Lv} {xs : List V} {ds : List PyData} (y : Ext Hs H) (i : Ext G H) (r : RpAll K (lP B Hs l) G xs ds) (h : QQ (.new l) (.list ds))
    (k : ∀ fl d w G' H', Step G H G' H' → Rep K B Hs δ σ G' H' fl w d → QQ fl d → Q w H') : ∀ p, H p = none → Q (.ref p) (upd H p (.lst xs)) := fun p hp =>
  k (.new l) (.list ds) _ G _ (Step.lay i hp) ⟨p, xs, ds, rfl, rfl, y.free hp, i.free hp, upd_same, r⟩ h
theorem fin_tup {K : PySem.W.Frag} {B : Bg} {Hs : Hp} {δ : Ds} {σ : L2.St} {G H : Hp} {Q : L2.VK} {QQ : VK} {l : Lv} {xs : List V} {ds : List PyData} (i : Ext G H) (r : RpAll K (lP B Hs l) G xs ds) (h : QQ (.av l) (.tuple ds))
    (k : ∀ fl d w G' H', Step G H G' H' → Rep K B Hs δ σ G' H' fl w d → QQ fl d → Q w H') : ∀ p, H p = none → Q (.ref p) (upd H p (.tup xs)) := fun p hp =>
  k (.av l) (.tuple ds) _ (upd G p (.tup xs)) _ (Step.keep i hp) (Rp.tup (.of upd_same) (r.mono (Ext.new (i.free hp)))) h
theorem fin_av {K : PySem.W.Frag} {B : Bg} {Hs : Hp} {δ : Ds} {σ : L2.St} {G H : Hp} {Q : L2.VK} {QQ : VK} {l : Lv} {v : V} {d : PyData} (i : Ext G H) (r : Rp K (lP B Hs l) G v d) (h : QQ (.av l) d)
    (k : ∀ fl d w G' H', Step G H G' H' → Rep K B Hs δ σ G' H' fl w d → QQ fl d → Q w H') : Q v H := k (.av l) d v G H (Step.refl i) r h

theorem OpR.or3 {f : Value → Value → Sem Value} {r1 r2 r3 : L2.R2} (h1 : OpR X f r1) (h2 : OpR X f r2) (h3 : OpR X f r3) : OpR X f (fun x y H Q => r1 x y H Q ∨ r2 x y H Q ∨ r3 x y H Q) := OpR.or h1 (OpR.or h2 h3)
theorem sd_add {K : PySem.W.Frag} : SdR K (fun x y H Q => (rI0 fun i j => .int (i + j)) x y H Q ∨ rCat x y H Q ∨ rCatT K x y H Q ∨ (fun x y H Q => ∃ i j, x = V.str i ∧ y = V.str j ∧ i.length + j.length ≤ sizeLine ∧ Q (.str (i ++ j)) H) x y H Q) rAdd := by
  intro B Hs δ σ G H fx fy x y v u Q QQ xb y0 i rx ry h k
  cases x with
  | int m =>
    cases y with
    | int n => exact .inl ⟨m, n, rep_int rx, rep_int ry, fin_av i (.int _) h k⟩
    | _ => exact h.elim
  | list as =>
    cases y with
    | list bs =>
      obtain ⟨p, xs, rfl, hp, ra⟩ := rx.list i
      obtain ⟨q, ys, rfl, hq, rb⟩ := ry.list i
      exact .inr (.inl ⟨p, q, xs, ys, rfl, rfl, hp, hq, by rw [ra.length, rb.length]; exact h.1, fin_new y0 i ((ra.weak fun _ z => lP_minL xb z).append (rb.weak fun _ z => lP_minR xb z)) h.2 k⟩)
    | _ => exact h.elim
  | tuple as =>
    cases y with
    | tuple bs =>
      obtain ⟨p, xs, rfl, hp, ra⟩ := rx.tuple i
      obtain ⟨q, ys, rfl, hq, rb⟩ := ry.tuple i
      obtain ⟨h1, h2, h3⟩ := h
      refine .inr (.inr (.inl ⟨p, q, xs, ys, rfl, rfl, i.st hp, i.st hq, fun z => ?_, by rw [ra.length, rb.length]; exact h2, fun z => ?_, fun _ => fin_tup i ((ra.weak fun _ z => lP_minL xb z).append (rb.weak fun _ z => lP_minR xb z)) h3 k⟩))
      · subst z; cases ra; exact h1 rfl
      · subst z; cases rb
        rw [List.append_nil] at h3
        exact fin_av i (.tup hp (ra.weak fun _ z => lP_minL xb z)) h3 k
    | _ => exact h.elim
  | str m =>
    cases y with
    | str n => exact .inr (.inr (.inr ⟨m, n, rep_str rx, rep_str ry, h.1, fin_av i (.str _) h.2 k⟩))
    | _ => exact h.elim
  | _ => exact h.elim
theorem ed_add (ha : ED X a ta) (hb : ED X b tb) : ED X (.BinOp a .Add b pos) (dOp rAdd ta tb) := ed_op (OpR.or op_add (OpR.or op_cat (OpR.or op_catT op_add_str))) sd_add ha hb
theorem ed_sub (ha : ED X a ta) (hb : ED X b tb) : ED X (.BinOp a .Sub b pos) (dOp rSub ta tb) := by
  refine ed_op op_sub (fun B Hs δ σ G H fx fy x y v u Q QQ xb y0 i rx ry h k => ?_) ha hb
  cases x with
  | int m =>
    cases y with
    | int n => exact ⟨m, n, rep_int rx, rep_int ry, fin_av i (.int _) h k⟩
    | _ => exact h.elim
  | _ => exact h.elim
theorem ed_mul (ha : ED X a ta) (hb : ED X b tb) : ED X (.BinOp a .Mult b pos) (dOp rMul ta tb) := by
  refine ed_op (OpR.or op_mul (OpR.or op_mulW op_rep)) (fun B Hs δ σ G H fx fy x y v u Q QQ xb y0 i rx ry h k => ?_) ha hb
  cases x with
  | int m =>
    cases y with
    | int n =>
      rcases h with ⟨h1 | h1, h⟩
      · exact .inl ⟨m, n, rep_int rx, rep_int ry, h1, fin_av i (.int _) h k⟩
      · exact .inr (.inl ⟨m, n, rep_int rx, rep_int ry, h1, fin_av i (.int _) h k⟩)
    | _ => exact h.elim
  | list as =>
    cases y with
    | int n =>
      obtain ⟨p, xs, rfl, hp, ra⟩ := rx.list i
      obtain ⟨h1, h2, h3, h4⟩ := h
      exact .inr (.inr ⟨p, n, xs, rfl, rep_int ry, hp, by omega, by omega, by rw [ra.length]; exact h3, fin_new y0 i (ra.rep _) h4 k⟩)
    | _ => exact h.elim
  | _ => exact h.elim
theorem ed_div (ha : ED X a ta) (hb : ED X b tb) : ED X (.BinOp a .FloorDiv b pos) (dOp rDiv ta tb) := by
  refine ed_op (OpR.or op_fdiv op_fdivW) (fun B Hs δ σ G H fx fy x y v u Q QQ xb y0 i rx ry h k => ?_) ha hb
  cases x with
  | int m =>
    cases y with
    | int n =>
      rcases h with ⟨h1 | h1, h⟩
      · exact .inl ⟨m, n, rep_int rx, rep_int ry, h1, fin_av i (.int _) h k⟩
      · exact .inr ⟨m, n, rep_int rx, rep_int ry, h1, fin_av i (.int _) h k⟩
    | _ => exact h.elim
  | _ => exact h.elim
theorem ed_mod (ha : ED X a ta) (hb : ED X b tb) : ED X (.BinOp a .Mod b pos) (dOp rMod ta tb) := by
  refine ed_op op_mod (fun B Hs δ σ G H fx fy x y v u Q QQ xb y0 i rx ry h k => ?_) ha hb
  cases x with
  | int m =>
    cases y with
    | int n => exact ⟨m, n, rep_int rx, rep_int ry, h.1, fin_av i (.int _) h.2 k⟩
    | _ => exact h.elim
  | _ => exact h.elim
theorem ed_pow (ha : ED X a ta) (hb : ED X b tb) : ED X (.BinOp a .Pow b pos) (dOp rPow ta tb) := by
  refine ed_op op_pow (fun B Hs δ σ G H fx fy x y v u Q QQ xb y0 i rx ry h k => ?_) ha hb
  cases x with
  | int m =>
    cases y with
    | int n => exact ⟨m, n, rep_int rx, rep_int ry, h.1, fin_av i (.int _) h.2 k⟩
    | _ => exact h.elim
  | _ => exact h.elim
theorem ed_neg (ha : ED X a ta) : ED X (.UnaryOp .USub a pos) (dUn rNeg ta) := by
  obtain ⟨ta', ha, sa⟩ := ha
  refine ⟨_, pe_un un_neg ha, sd_un (fun B Hs δ σ G H fx x v Q QQ xb y0 i rx h k => ?_) sa⟩
  cases x with
  | int m => exact ⟨m, rep_int rx, fin_av i (.int _) h k⟩
  | _ => exact h.elim

/-! comparisons -/
theorem sd_ci {K : PySem.W.Frag} {f : Int → Int → Bool} {r : RB} (hr : ∀ x y Q, r x y Q → ∃ i j, x = .int i ∧ y = .int j ∧ Q (f i j)) : SdB K (rI0 fun i j => .bl (f i j)) r := by
  intro B Hs δ σ G H fx fy x y v u Q QQ xb y0 i rx ry h k
  obtain ⟨m, n, rfl, rfl, q⟩ := hr x y QQ h
  exact ⟨m, n, rep_int rx, rep_int ry, k _ q⟩
theorem get_lt : ∀ x y Q, rLt x y Q → ∃ i j, x = .int i ∧ y = .int j ∧ Q (decide (i < j)) := by
  intro x y Q h
  cases x with
  | int m =>
    cases y with
    | int n => exact ⟨m, n, rfl, rfl, h⟩
    | _ => exact h.elim
  | _ => exact h.elim
theorem get_le : ∀ x y Q, rLe x y Q → ∃ i j, x = .int i ∧ y = .int j ∧ Q (decide (i ≤ j)) := by
  intro x y Q h
  cases x with
  | int m =>
    cases y with
    | int n => exact ⟨m, n, rfl, rfl, h⟩
    | _ => exact h.elim
  | _ => exact h.elim
theorem get_gt : ∀ x y Q, rGt x y Q → ∃ i j, x = .int i ∧ y = .int j ∧ Q (decide (j < i)) := by
  intro x y Q h
  cases x with
  | int m =>
    cases y with
    | int n => exact ⟨m, n, rfl, rfl, h⟩
    | _ => exact h.elim
  | _ => exact h.elim
theorem get_ge : ∀ x y Q, rGe x y Q → ∃ i j, x = .int i ∧ y = .int j ∧ Q (decide (j ≤ i)) := by
  intro x y Q h
  cases x with
  | int m =>
    cases y with
    | int n => exact ⟨m, n, rfl, rfl, h⟩
    | _ => exact h.elim
  | _ => exact h.elim
theorem ed_lt (ha : ED X a ta) (hb : ED X b tb) : ED X (.Compare a [.Lt] [b] pos) (dBool (dCmp rLt ta tb)) := ed_cmp op_lt (sd_ci get_lt) ha hb (nomark _)
theorem td_lt (ha : ED X a ta) (hb : ED X b tb) : TD X (.Compare a [.Lt] [b] pos) (dCmp rLt ta tb) := td_cmp op_lt (sd_ci get_lt) ha hb (nomark _)
theorem ed_le (ha : ED X a ta) (hb : ED X b tb) : ED X (.Compare a [.LtE] [b] pos) (dBool (dCmp rLe ta tb)) := ed_cmp op_le (sd_ci get_le) ha hb (nomark _)
theorem td_le (ha : ED X a ta) (hb : ED X b tb) : TD X (.Compare a [.LtE] [b] pos) (dCmp rLe ta tb) := td_cmp op_le (sd_ci get_le) ha hb (nomark _)
theorem ed_gt (ha : ED X a ta) (hb : ED X b tb) : ED X (.Compare a [.Gt] [b] pos) (dBool (dCmp rGt ta tb)) := ed_cmp op_gt (sd_ci get_gt) ha hb (nomark _)
theorem td_gt (ha : ED X a ta) (hb : ED X b tb) : TD X (.Compare a [.Gt] [b] pos) (dCmp rGt ta tb) := td_cmp op_gt (sd_ci get_gt) ha hb (nomark _)
theorem ed_ge (ha : ED X a ta) (hb : ED X b tb) : ED X (.Compare a [.GtE] [b] pos) (dBool (dCmp rGe ta tb)) := ed_cmp op_ge (sd_ci get_ge) ha hb (nomark _)
theorem td_ge (ha : ED X a ta) (hb : ED X b tb) : TD X (.Compare a [.GtE] [b] pos) (dCmp rGe ta tb) := td_cmp op_ge (sd_ci get_ge) ha hb (nomark _)
theorem sd_eqG {K : PySem.W.Frag} {B : Bg} {Hs : Hp} {δ : Ds} {σ : L2.St} {G H : Hp} {fx fy : Fl} {x y : PyData} {v u : V} {Q : L2.VK} {QQ : Bool → Prop} (i : Ext G H) (rx : Rep K B Hs δ σ G H fx v x) (ry : Rep K B Hs δ σ G H fy u y) (h : eqG x y QQ)
    (k : ∀ b, QQ b → Q (.bl b) H) : rEqD K v u H Q := by
  obtain ⟨h1, h2, h3⟩ := h
  exact ⟨x, y, (rx.all i).dp (SeqAt.canLay_of_shaped h1), (ry.all i).dp (SeqAt.canLay_of_shaped h2), h1, h2, k _ h3⟩
theorem sd_eq {K : PySem.W.Frag} : SdB K (fun x y H Q => L2.rEq x y H Q ∨ rEqD K x y H Q) rEq := by
  intro B Hs δ σ G H fx fy x y v u Q QQ xb y0 i rx ry h k
  cases x with
  | int m =>
    cases y with
    | int n =>
      have e1 := rep_int rx
      have e2 := rep_int ry
      subst e1 e2
      refine .inl ⟨rfl, ?_⟩
      have e : decide (V.int m = V.int n) = decide (m = n) := by simp
      rw [e]
      exact k _ h
    | _ => exact .inr (sd_eqG i rx ry h k)
  | str m =>
    cases y with
    | str n =>
      have e1 := rep_str rx
      have e2 := rep_str ry
      subst e1 e2
      refine .inl ⟨rfl, ?_⟩
      have e : decide (V.str m = V.str n) = decide (m = n) := by simp
      rw [e]
      exact k _ h
    | _ => exact .inr (sd_eqG i rx ry h k)
  | bool m =>
    cases y with
    | bool n =>
      have e1 := rep_bool rx
      have e2 := rep_bool ry
      subst e1 e2
      refine .inl ⟨rfl, ?_⟩
      have e : decide (V.bl m = V.bl n) = decide (m = n) := by simp
      rw [e]
      exact k _ h
    | _ => exact .inr (sd_eqG i rx ry h k)
  | _ => exact .inr (sd_eqG i rx ry h k)
theorem sd_ne {K : PySem.W.Frag} : SdB K (fun x y H Q => L2.rNe x y H Q ∨ rNeD K x y H Q) rNe := by
  intro B Hs δ σ G H fx fy x y v u Q QQ xb y0 i rx ry h k
  rcases sd_eq (K := K) B Hs δ σ G H fx fy x y v u (fun w H' => ∃ b, w = .bl b ∧ Q (.bl (!b)) H') (fun b => QQ (!b)) xb y0 i rx ry h (fun b q => ⟨b, rfl, k _ q⟩) with ⟨h1, b, e, q⟩ | ⟨d, e, h1, h2, h3, h4, b, eb, q⟩
  · cases e
    exact .inl ⟨h1, q⟩
  · cases eb
    exact .inr ⟨d, e, h1, h2, h3, h4, q⟩
theorem ed_eq (hu : X.A.units + 64 < cLine) (ha : ED X a ta) (hb : ED X b tb) : ED X (.Compare a [.Eq] [b] pos) (dBool (dCmp rEq ta tb)) := ed_cmp (OpR.or op_eq (op_eqD hu)) sd_eq ha hb (nomark _)
theorem td_eq (hu : X.A.units + 64 < cLine) (ha : ED X a ta) (hb : ED X b tb) : TD X (.Compare a [.Eq] [b] pos) (dCmp rEq ta tb) := td_cmp (OpR.or op_eq (op_eqD hu)) sd_eq ha hb (nomark _)
theorem ed_ne (hu : X.A.units + 64 < cLine) (ha : ED X a ta) (hb : ED X b tb) : ED X (.Compare a [.NotEq] [b] pos) (dBool (dCmp rNe ta tb)) := ed_cmp (OpR.or op_ne (op_neD hu)) sd_ne ha hb (nomark _)
theorem td_ne (hu : X.A.units + 64 < cLine) (ha : ED X a ta) (hb : ED X b tb) : TD X (.Compare a [.NotEq] [b] pos) (dCmp rNe ta tb) := td_cmp (OpR.or op_ne (op_neD hu)) sd_ne ha hb (nomark _)
theorem sd_in {K : PySem.W.Frag} : SdB K (rInD K) rIn := by
  intro B Hs δ σ G H fx fy x y v u Q QQ xb y0 i rx ry h k
  cases y with
  | list ys =>
    obtain ⟨h1, h2, h3⟩ := h
    exact ⟨x, ys, (rx.all i).dp (SeqAt.canLay_of_shaped h1), (ry.all i).dp (SeqAt.canLay_of_shaped h2), h1, h2, k _ h3⟩
  | _ => exact h.elim
theorem sd_notIn {K : PySem.W.Frag} : SdB K (rNotInD K) rNotIn := by
  intro B Hs δ σ G H fx fy x y v u Q QQ xb y0 i rx ry h k
  cases y with
  | list ys =>
    obtain ⟨h1, h2, h3⟩ := h
    exact ⟨x, ys, (rx.all i).dp (SeqAt.canLay_of_shaped h1), (ry.all i).dp (SeqAt.canLay_of_shaped h2), h1, h2, k _ h3⟩
  | _ => exact h.elim
theorem ed_in (hu : X.A.units + 65 < cLine) (ha : ED X a ta) (hb : ED X b tb) (hm : behindInMarks .In b = false := by rfl) : ED X (.Compare a [.In] [b] pos) (dBool (dCmp rIn ta tb)) := ed_cmp (op_inD hu) sd_in ha hb hm
theorem td_in (hu : X.A.units + 65 < cLine) (ha : ED X a ta) (hb : ED X b tb) (hm : behindInMarks .In b = false := by rfl) : TD X (.Compare a [.In] [b] pos) (dCmp rIn ta tb) := td_cmp (op_inD hu) sd_in ha hb hm
theorem ed_notIn (hu : X.A.units + 65 < cLine) (ha : ED X a ta) (hb : ED X b tb) (hm : behindInMarks .NotIn b = false := by rfl) : ED X (.Compare a [.NotIn] [b] pos) (dBool (dCmp rNotIn ta tb)) := ed_cmp (op_notInD hu) sd_notIn ha hb hm
theorem td_notIn (hu : X.A.units + 65 < cLine) (ha : ED X a ta) (hb : ED X b tb) (hm : behindInMarks .NotIn b = false := by rfl) : TD X (.Compare a [.NotIn] [b] pos) (dCmp rNotIn ta tb) := td_cmp (op_notInD hu) sd_notIn ha hb hm
theorem rp_isN {K : PySem.W.Frag} {F : Addr → Prop} {H : Hp} {v : V} {d : PyData} (r : Rp K F H v d) : decide (v = .non) = isN d := by
  cases r <;> rfl
theorem sd_is {K : PySem.W.Frag} : SdB K (fun x y H Q => y = V.non ∧ Q (.bl (decide (x = V.non))) H) rIs := by
  intro B Hs δ σ G H fx fy x y v u Q QQ xb y0 i rx ry h k
  cases y with
  | none => exact ⟨rep_none ry, by rw [rp_isN (rx.all i)]; exact k _ h⟩
  | _ => exact h.elim
theorem sd_isNot {K : PySem.W.Frag} : SdB K (fun x y H Q => y = V.non ∧ Q (.bl (!decide (x = V.non))) H) rIsNot := by
  intro B Hs δ σ G H fx fy x y v u Q QQ xb y0 i rx ry h k
  cases y with
  | none => exact ⟨rep_none ry, by rw [rp_isN (rx.all i)]; exact k _ h⟩
  | _ => exact h.elim
theorem ed_is (ha : ED X a ta) (hb : ED X b tb) : ED X (.Compare a [.Is] [b] pos) (dBool (dCmp rIs ta tb)) := ed_cmp op_isN sd_is ha hb (nomark _)
theorem td_is (ha : ED X a ta) (hb : ED X b tb) : TD X (.Compare a [.Is] [b] pos) (dCmp rIs ta tb) := td_cmp op_isN sd_is ha hb (nomark _)
theorem ed_isNot (ha : ED X a ta) (hb : ED X b tb) : ED X (.Compare a [.IsNot] [b] pos) (dBool (dCmp rIsNot ta tb)) := ed_cmp op_notN sd_isNot ha hb (nomark _)
theorem td_isNot (ha : ED X a ta) (hb : ED X b tb) : TD X (.Compare a [.IsNot] [b] pos) (dCmp rIsNot ta tb) := td_cmp op_notN sd_isNot ha hb (nomark _)
/-! tests -/
theorem td_val (ha : ED X e ta) (he : ∀ whole, isTrue e X.env whole = (do let v ← whole; standAt e.pos; holding [v] (truthy v)) := by intro _; rfl) : TD X e (dTest ta) := by
  obtain ⟨ta', ha, sa⟩ := ha
  refine ⟨_, pt_val ha he, fun B G0 G δ σ H Q QQ r h k => sa B G0 G δ σ H _ _ r h fun fl d v G1 H1 s1 p1 h1 => ?_⟩
  cases d with
  | bool b => exact ⟨b, rep_bool p1, k b G1 H1 s1 h1⟩
  | _ => exact h1.elim
theorem WD.td {e : Expr} (h : WD X e t) : TD X e t := by
  obtain ⟨t', h, s⟩ := h
  exact ⟨t', h.pt, s⟩
theorem wd_and1 (ha : TD X a t) : WD X (.BoolOp .And [a] pos) t := by
  obtain ⟨t', h, s⟩ := ha
  exact ⟨t', pw_and1 h, s⟩
theorem wd_or1 (ha : TD X a t) : WD X (.BoolOp .Or [a] pos) t := by
  obtain ⟨t', h, s⟩ := ha
  exact ⟨t', pw_or1 h, s⟩
theorem sd_and {K : PySem.W.Frag} {t' u' : TT} (h1 : SdT K t' t) (h2 : SdT K u' u) : SdT K (tAnd t' u') (dAnd t u) := fun B G0 G δ σ H Q QQ r h k => h1 B G0 G δ σ H _ _ r h fun b G1 H1 s1 q => by
  cases b with
  | true => exact h2 B G0 G1 δ σ H1 _ _ (r.step s1) q fun b G2 H2 s2 q2 => k b G2 H2 (s1.trans s2) q2
  | false => exact k false G1 H1 s1 q
theorem sd_or {K : PySem.W.Frag} {t' u' : TT} (h1 : SdT K t' t) (h2 : SdT K u' u) : SdT K (tOr t' u') (dOr t u) := fun B G0 G δ σ H Q QQ r h k => h1 B G0 G δ σ H _ _ r h fun b G1 H1 s1 q => by
  cases b with
  | false => exact h2 B G0 G1 δ σ H1 _ _ (r.step s1) q fun b G2 H2 s2 q2 => k b G2 H2 (s1.trans s2) q2
  | true => exact k true G1 H1 s1 q
theorem wd_and {rest : List Expr} (ha : TD X a t) (hb : WD X (.BoolOp .And (b :: rest) pos) u) : WD X (.BoolOp .And (a :: b :: rest) pos) (dAnd t u) := by
  obtain ⟨t', h, s⟩ := ha
  obtain ⟨u', h2, s2⟩ := hb
  exact ⟨_, pw_and h h2, sd_and s s2⟩
theorem wd_or {rest : List Expr} (ha : TD X a t) (hb : WD X (.BoolOp .Or (b :: rest) pos) u) : WD X (.BoolOp .Or (a :: b :: rest) pos) (dOr t u) := by
  obtain ⟨t', h, s⟩ := ha
  obtain ⟨u', h2, s2⟩ := hb
  exact ⟨_, pw_or h h2, sd_or s s2⟩
theorem td_not (ha : TD X a t) : TD X (.UnaryOp .Not a pos) (dNot t) := by
  obtain ⟨t', h, s⟩ := ha
  exact ⟨_, pt_not h, fun B G0 G δ σ H Q QQ r h k => s B G0 G δ σ H _ _ r h fun b G1 H1 s1 q => k (!b) G1 H1 s1 q⟩
theorem ed_one {op} (h : ED X a ta) : ED X (.BoolOp op [a] pos) ta := by
  obtain ⟨t', h, s⟩ := h
  exact ⟨_, pe_one h, s⟩
theorem ed_and {rest : List Expr} (ha : ED X a ta) (hb : ED X (.BoolOp .And (b :: rest) pos) tb) : ED X (.BoolOp .And (a :: b :: rest) pos) (dAndV ta tb) := by
  obtain ⟨ta', ha, sa⟩ := ha
  obtain ⟨tb', hb, sb⟩ := hb
  refine ⟨_, pe_and ha hb, fun B G0 G δ σ H Q QQ r h k => sa B G0 G δ σ H _ _ r h fun fl d v G1 H1 s1 p1 h1 => ?_⟩
  cases d with
  | bool b =>
    refine ⟨b, rep_bool p1, ?_⟩
    cases b with
    | true => exact sb B G0 G1 δ σ H1 _ _ (r.step s1) h1 fun fl d v G2 H2 s2 p2 q2 => k fl d v G2 H2 (s1.trans s2) (p2.from s1.h) q2
    | false => exact k (.av .fresh) (.bool false) _ G1 H1 s1 (Rp.bl false) h1
  | _ => exact h1.elim
theorem ed_or {rest : List Expr} (ha : ED X a ta) (hb : ED X (.BoolOp .Or (b :: rest) pos) tb) : ED X (.BoolOp .Or (a :: b :: rest) pos) (dOrV ta tb) := by
  obtain ⟨ta', ha, sa⟩ := ha
  obtain ⟨tb', hb, sb⟩ := hb
  refine ⟨_, pe_or ha hb, fun B G0 G δ σ H Q QQ r h k => sa B G0 G δ σ H _ _ r h fun fl d v G1 H1 s1 p1 h1 => ?_⟩
  cases d with
  | bool b =>
    refine ⟨b, rep_bool p1, ?_⟩
    cases b with
    | false => exact sb B G0 G1 δ σ H1 _ _ (r.step s1) h1 fun fl d v G2 H2 s2 p2 q2 => k fl d v G2 H2 (s1.trans s2) (p2.from s1.h) q2
    | true => exact k (.av .fresh) (.bool true) _ G1 H1 s1 (Rp.bl true) h1
  | _ => exact h1.elim
theorem ed_not (ha : ED X a ta) : ED X (.UnaryOp .Not a pos) (dNotV ta) := by
  obtain ⟨ta', ha, sa⟩ := ha
  refine ⟨_, pe_not ha, fun B G0 G δ σ H Q QQ r h k => sa B G0 G δ σ H _ _ r h fun fl d v G1 H1 s1 p1 h1 => ?_⟩
  cases d with
  | bool b => exact ⟨b, rep_bool p1, k (.av .fresh) (.bool (!b)) _ G1 H1 s1 (Rp.bl _) h1⟩
  | _ => exact h1.elim
theorem ed_ifE (hc : TD X c t) (ha : ED X a ta) (hb : ED X b tb) : ED X (.IfExp c a b pos) (dIfE t ta tb) := by
  obtain ⟨t', hc, sc⟩ := hc
  obtain ⟨ta', ha, sa⟩ := ha
  obtain ⟨tb', hb, sb⟩ := hb
  refine ⟨_, pe_ifExp hc ha hb, fun B G0 G δ σ H Q QQ r h k => sc B G0 G δ σ H _ _ r h fun b G1 H1 s1 h1 => ?_⟩
  cases b with
  | true => exact sa B G0 G1 δ σ H1 _ _ (r.step s1) h1 fun fl d v G2 H2 s2 p2 q2 => k fl d v G2 H2 (s1.trans s2) (p2.from s1.h) q2
  | false => exact sb B G0 G1 δ σ H1 _ _ (r.step s1) h1 fun fl d v G2 H2 s2 p2 q2 => k fl d v G2 H2 (s1.trans s2) (p2.from s1.h) q2
theorem sd_chain {K : PySem.W.Frag} {r r' : RB} {s s' : L2.R2} {ta' tb' tc' : TE} (h1 : SdB K s r) (h2 : SdB K s' r') (ha : Sd K ta' ta) (hb : Sd K tb' tb) (hc : Sd K tc' tc) : Sd K (tChain s s' ta' tb' tc') (dBool (dChain r r' ta tb tc)) := fun B G0 G δ σ H Q QQ rl h k =>
  ha B G0 G δ σ H _ _ rl h fun fx x v G1 H1 s1 p1 q1 => hb B G0 G1 δ σ H1 _ _ (rl.step s1) q1 fun fy y u G2 H2 s2 p2 q2 =>
    h1 B H δ σ G2 H2 fx fy x y v u _ _ rl.st.h (s1.h.trans s2.h) s2.i (p1.step s2) (p2.from s1.h) q2 fun b q => ⟨b, rfl, by
      cases b with
      | true =>
        show tc' σ H2 _
        exact hc B G0 G2 δ σ H2 _ _ ((rl.step s1).step s2) q fun fz z w G3 H3 s3 p3 q3 => h2 B H δ σ G3 H3 fy fz y z u w _ _ rl.st.h ((s1.h.trans s2.h).trans s3.h) s3.i ((p2.from s1.h).step s3) (p3.from (s1.h.trans s2.h)) q3 fun b q => k (.av .fresh) (.bool b) _ G3 H3 ((s1.trans s2).trans s3) (Rp.bl b) q
      | false =>
        show Q (.bl false) H2
        exact k (.av .fresh) (.bool false) _ G2 H2 (s1.trans s2) (Rp.bl false) q⟩
theorem sd_test {K : PySem.W.Frag} {te : TE} (h : Sd K te (dBool t)) : SdT K (L2.tTest te) t := fun B G0 G δ σ H Q QQ r hq k => h B G0 G δ σ H _ (fun _ d => rTest d QQ) r hq fun fl d v G1 H1 s1 p1 h1 => by
  cases d with
  | bool b => exact ⟨b, rep_bool p1, k b G1 H1 s1 h1⟩
  | _ => exact h1.elim
theorem td_chain {op op' : CmpOp} {s s' : L2.R2} {r r' : RB} (ho : OpR X (compareOp op) s) (ho' : OpR X (compareOp op') s') (hr : SdB X.K s r) (hr' : SdB X.K s' r') (ha : ED X a ta) (hb : ED X b tb) (hc : ED X c tc)
    (hm : lastMarks [op, op'] [b, c] = false := by with_unfolding_all rfl) : TD X (.Compare a [op, op'] [b, c] pos) (dChain r r' ta tb tc) := by
  obtain ⟨ta', ha, sa⟩ := ha
  obtain ⟨tb', hb, sb⟩ := hb
  obtain ⟨tc', hc, sc⟩ := hc
  exact ⟨_, pt_chain ho ho' ha hb hc hm, sd_test (sd_chain hr hr' sa sb sc)⟩
theorem ed_chain {op op' : CmpOp} {s s' : L2.R2} {r r' : RB} (ho : OpR X (compareOp op) s) (ho' : OpR X (compareOp op') s') (hr : SdB X.K s r) (hr' : SdB X.K s' r') (ha : ED X a ta) (hb : ED X b tb) (hc : ED X c tc)
    (hm : lastMarks [op, op'] [b, c] = false := by with_unfolding_all rfl) : ED X (.Compare a [op, op'] [b, c] pos) (dBool (dChain r r' ta tb tc)) := by
  obtain ⟨ta', ha, sa⟩ := ha
  obtain ⟨tb', hb, sb⟩ := hb
  obtain ⟨tc', hc, sc⟩ := hc
  exact ⟨_, pe_chain ho ho' ha hb hc hm, sd_chain hr hr' sa sb sc⟩
theorem td_leLt (ha : ED X a ta) (hb : ED X b tb) (hc : ED X c tc) (hm : lastMarks [.LtE, .Lt] [b, c] = false := by with_unfolding_all rfl) : TD X (.Compare a [.LtE, .Lt] [b, c] pos) (dChain rLe rLt ta tb tc) :=
  td_chain op_le op_lt (sd_ci get_le) (sd_ci get_lt) ha hb hc hm
theorem ed_leLt (ha : ED X a ta) (hb : ED X b tb) (hc : ED X c tc) (hm : lastMarks [.LtE, .Lt] [b, c] = false := by with_unfolding_all rfl) : ED X (.Compare a [.LtE, .Lt] [b, c] pos) (dBool (dChain rLe rLt ta tb tc)) :=
  ed_chain op_le op_lt (sd_ci get_le) (sd_ci get_lt) ha hb hc hm
end
end DL

set_option Elab.async false
set_option linter.all false
set_option maxRecDepth 100000
set_option maxHeartbeats 2000000
/-! DW3: arguments, calls, displays, subscripts, built-ins. -/
namespace DL
open PySem PySem.Spec L2
section
variable {X : Cx} {e a b c : Expr} {es : List Expr} {pos : Pos} {ta tb tc : DE} {tr : DA} {t u : DT}
theorem ad_nil : AD X [] dNil := ⟨_, pa_nil, fun B G0 G δ σ H Q QQ r h k => k .fresh [] [] G H rfl (Step.refl r.st.i) .nil h⟩
theorem ad_cons (ha : ED X e ta) (hr : AD X es tr) (hs : starEach (e :: es) X.env = (false, eval e X.env) :: starEach es X.env := by rfl) : AD X (e :: es) (dCons ta tr) := by
  obtain ⟨ta', ha, sa⟩ := ha
  obtain ⟨tr', hr, sr⟩ := hr
  refine ⟨_, pa_cons ha hr hs, fun B G0 G δ σ H Q QQ r h k => sa B G0 G δ σ H _ _ r h fun fl d v G1 H1 s1 p1 h1 => ?_⟩
  obtain ⟨G2, s2, x2, p2, h2⟩ := p1.fix r.st.h s1 h1
  exact sr B G0 G2 δ σ H1 _ _ (r.step s2) h2 fun l ds vs G3 H3 n3 s3 p3 h3 => k (fl.lv.min l) (d :: ds) (v :: vs) G3 H3 (congrArg (· + 1) n3) (s2.trans s3)
    (.cons ((p2.mono s3.g).weak fun _ z => lP_minL r.st.h z) (p3.weak fun _ z => lP_minR r.st.h (lP_from s2.h z))) h3
theorem ed_tup {x1} (h : AD X es tr) : ED X (.Tuple es x1 pos) (dTup tr) := by
  obtain ⟨tr', h, s⟩ := h
  refine ⟨_, pe_tup h, fun B G0 G δ σ H Q QQ r h k => s B G0 G δ σ H _ _ r h fun l ds vs G1 H1 n1 s1 p1 h1 => ?_⟩
  obtain ⟨hl, hq⟩ := h1
  exact ⟨by rw [p1.length]; exact Nat.le_of_lt (small1000 hl), fin_tup (QQ := QQ) (Q := Q) s1.i p1 hq fun fl d w G' H' s' p' q' => k fl d w G' H' (s1.trans s') p' q'⟩
theorem ed_lst (h : AD X es tr) : ED X (.List es pos) (dLst tr) := by
  obtain ⟨tr', h, s⟩ := h
  refine ⟨_, pe_lst h, fun B G0 G δ σ H Q QQ r h k => s B G0 G δ σ H _ _ r h fun l ds vs G1 H1 n1 s1 p1 h1 => ?_⟩
  obtain ⟨hl, hq⟩ := h1
  exact ⟨by rw [p1.length]; exact Nat.le_of_lt (small1000 hl), fin_new (QQ := QQ) (Q := Q) s1.h s1.i p1 hq fun fl d w G' H' s' p' q' => k fl d w G' H' (s1.trans s') p' q'⟩

/-! ### calls of defs -/
/-- how an answer stands -/
def RetRep (K : PySem.W.Frag) (Hs G H : Hp) (b : Rt) (v : V) (d : PyData) : Prop := match b with
  | .av => Rp K (fun _ => True) G v d
  | .avF => Rp K (fun a => Hs a = none) G v d
  | .new => ∃ p xs ds, v = .ref p ∧ d = .list ds ∧ Hs p = none ∧ G p = none ∧ H p = some (.lst xs) ∧ RpAll K (fun _ => True) G xs ds
  | .newF => ∃ p xs ds, v = .ref p ∧ d = .list ds ∧ Hs p = none ∧ G p = none ∧ H p = some (.lst xs) ∧ RpAll K (fun a => Hs a = none) G xs ds
def spD (K : PySem.W.Frag) (n : Nat) (S : DSp) : Sp := fun vs H Q _ => vs.length = n ∧ ∃ (G : Hp) (ds : List PyData), Ext G H ∧ RpAll K (fun _ => True) G vs ds ∧
  S ds fun b d => ∀ v G' H', Step G H G' H' → RetRep K H G' H' b v d → Q v H'
structure FnD (P : Program) (w : World) (K : PySem.W.Frag) (mg : Str → Option Value) (base : Heap) (k : Nat) (f : Addr) (fd : FuncData) (ps : List Str) (S : DSp) : Prop where
  ok : FnOk P w K mg base CX0 k f fd ps (spD K ps.length S)
  mono : MonoS S
theorem FnD.up {P : Program} {w : World} {K : PySem.W.Frag} {mg : Str → Option Value} {base : Heap} {j k : Nat} {f : Addr} {fd : FuncData} {ps : List Str} {S : DSp} (F : FnD P w K mg base j f fd ps S) (h : j ≤ k) : FnD P w K mg base k f fd ps S := ⟨F.ok.mono h, F.mono⟩
theorem ret_rep {K : PySem.W.Frag} {B : Bg} {Hs G H : Hp} {δ : Ds} {σ : L2.St} {b : Rt} {v : V} {d : PyData} (r : RetRep K Hs G H b v d) : Rep K B Hs δ σ G H b.fl v d := by
  cases b with
  | av => exact r
  | avF => exact r
  | new => exact r
  | newF => exact r
theorem sd_call {K : PySem.W.Frag} {S : DSp} {tr' : TA} {n : Nat} {E : XK} (m : MonoS S) (h : SdA K n tr' tr) : Sd K (tCall (spD K n S) [] E tr') (dCall S tr) := fun B G0 G δ σ H Q QQ r hq k =>
  h B G0 G δ σ H _ _ r hq fun l ds vs G1 H1 n1 s1 p1 h1 => ⟨by rw [List.append_nil, p1.length]; exact n1, G1, ds, s1.i, by rw [List.append_nil]; exact p1.weak fun _ _ => trivial,
    m ds _ _ (fun b d q v G' H' s' p' => k b.fl d v G' H' (s1.trans s') ((ret_rep p').from s1.h) q) h1⟩
/-- f(e, ..) -/
theorem ed_call {x : Str} {p : Pos} {f : Addr} {fd : FuncData} {ps : List Str} {k : Nat} {S : DSp} (F : FnD X.prog X.w X.K X.mg X.base k f fd ps S) (hr : Room k X.A) (hg : Gl X x) (hm : X.mg x = some (.ref f)) (hk : PySem.W.keepIn X.K (.ref f) = true) (hb : Binds X.K fd ps [])
    (ha : AD X (e :: es) tr) (hl : (e :: es).length = ps.length := by rfl) (hdb : (x == ("__debug__" : Str)) = false := by decide) (he : starEach (e :: es) X.env = (false, eval e X.env) :: starEach es X.env := by rfl) (hpl : (backTo pos (starEach es X.env)).any (·.1) = false := by rfl) :
    ED X (.Call (.Name x p) (e :: es) [] pos) (dCall S tr) := by
  obtain ⟨tr', ha, sa⟩ := ha
  rw [hl] at sa
  exact ⟨_, pe_call F.ok hr hg hm hk hb .nil pass0 ha hdb he hpl, sd_call F.mono sa⟩
/-! ### built-ins by name -/
theorem ed_bi1 {x : Str} {id : String} {p : Pos} {r' : List V → Hp → L2.VK → Prop} {r : R1} (hc : CallR X (.builtin id) r') (hs : SdU X.K (fun v H Q => r' [v] H Q) r) (hg : Gl X x) (hm : X.mg x = none) (hv : bootBuiltins x = some (.builtin id)) (ha : ED X a ta) (hn : x ≠ "__name__" := by decide) (hdb : (x == ("__debug__" : Str)) = false := by decide)
    (he : starEach [a] X.env = [(false, eval a X.env)] := by rfl) (hpl : (backTo pos (starEach [] X.env)).any (·.1) = false := by rfl) : ED X (.Call (.Name x p) [a] [] pos) (dUn r ta) := by
  obtain ⟨ta', ha, sa⟩ := ha
  exact ⟨_, pe_callB hc hg hm hv (pa_cons ha pa_nil he) hn hdb he hpl, sd_un hs sa⟩
theorem ed_bi2 {x : Str} {id : String} {p : Pos} {r' : List V → Hp → L2.VK → Prop} {r : R2} (hc : CallR X (.builtin id) r') (hs : SdR X.K (fun v u H Q => r' [v, u] H Q) r) (hg : Gl X x) (hm : X.mg x = none) (hv : bootBuiltins x = some (.builtin id)) (ha : ED X a ta) (hb : ED X b tb) (hn : x ≠ "__name__" := by decide) (hdb : (x == ("__debug__" : Str)) = false := by decide)
    (he : starEach [a, b] X.env = (false, eval a X.env) :: starEach [b] X.env := by rfl) (he2 : starEach [b] X.env = [(false, eval b X.env)] := by rfl) (hpl : (backTo pos (starEach [b] X.env)).any (·.1) = false := by rfl) : ED X (.Call (.Name x p) [a, b] [] pos) (dOp r ta tb) := by
  obtain ⟨ta', ha, sa⟩ := ha
  obtain ⟨tb', hb, sb⟩ := hb
  exact ⟨_, pe_callB hc hg hm hv (pa_cons ha (pa_cons hb pa_nil he2) he) hn hdb he hpl, sd_op hs sa sb⟩
theorem ed_ty1 {x : Str} {T : String} {p : Pos} {r' : List V → Hp → L2.VK → Prop} {r : R1} (hc : CallR X (.type T) r') (hs : SdU X.K (fun v H Q => r' [v] H Q) r) (hg : Gl X x) (hm : X.mg x = none) (hv : bootBuiltins x = some (.type T)) (ha : ED X a ta) (hn : x ≠ "__name__" := by decide) (hdb : (x == ("__debug__" : Str)) = false := by decide)
    (he : starEach [a] X.env = [(false, eval a X.env)] := by rfl) (hpl : (backTo pos (starEach [] X.env)).any (·.1) = false := by rfl) : ED X (.Call (.Name x p) [a] [] pos) (dUn r ta) := by
  obtain ⟨ta', ha, sa⟩ := ha
  exact ⟨_, pe_callTy hc hg hm hv (pa_cons ha pa_nil he) hn hdb he hpl, sd_un hs sa⟩
theorem rep_scr {K : PySem.W.Frag} {B : Bg} {Hs : Hp} {δ : Ds} {σ : L2.St} {G H : Hp} {fl : Fl} {v : V} {kvs : List (PyData × PyData)} (r : Rep K B Hs δ σ G H fl v (.dict kvs)) (i : Ext G H) : ∃ (a : Addr) (ns : List Int), v = .ref a ∧ SqL K H a (ns.map V.int) ∧ kvs = ns.map fun n => (PyData.int n, PyData.none) := by
  cases r.notList (fun _ e => nomatch e) with
  | scr h => exact ⟨_, _, rfl, i.sl h, rfl⟩
theorem sd_len {K : PySem.W.Frag} : SdU K (fun v H Q => (fun xs H Q => ∃ x n, xs = [x] ∧ LenV K x H n ∧ Q (.int (n : Nat)) H) [v] H Q) rLen := by
  intro B Hs δ σ G H fx x v Q QQ xb y0 i rx h k
  cases x with
  | list ds =>
    obtain ⟨p, xs, rfl, hp, ra⟩ := rx.list i
    refine ⟨_, ds.length, rfl, .inl ⟨xs, .of hp, ra.length.symm⟩, fin_av (QQ := QQ) (Q := Q) i (.int _) h k⟩
  | tuple ds =>
    obtain ⟨p, xs, rfl, hp, ra⟩ := rx.tuple i
    refine ⟨_, ds.length, rfl, .inr ⟨xs, i.st hp, ra.length.symm⟩, fin_av (QQ := QQ) (Q := Q) i (.int _) h k⟩
  | str s => exact ⟨_, s.length, rfl, by rw [rep_str rx]; exact ⟨h.1, rfl⟩, fin_av (QQ := QQ) (Q := Q) i (.int _) h.2 k⟩
  | dict kvs =>
    obtain ⟨p, ns, rfl, hp, rfl⟩ := rep_scr rx i
    refine ⟨_, ns.length, rfl, .inl ⟨_, hp, (List.length_map _).symm⟩, ?_⟩
    have h' : QQ (.av .fresh) (.int ((ns.map fun n => (PyData.int n, PyData.none)).length : Nat)) := h
    rw [List.length_map] at h'
    exact fin_av (QQ := QQ) (Q := Q) i (.int _) h' k
  | _ => exact h.elim
theorem ed_len {p : Pos} (hg : Gl X "len") (hm : X.mg "len" = none) (ha : ED X a ta) (he : starEach [a] X.env = [(false, eval a X.env)] := by rfl) : ED X (.Call (.Name "len" p) [a] [] pos) (dUn rLen ta) := ed_bi1 call_len sd_len hg hm PySem.boot_len ha (he := he)
theorem ed_abs {p : Pos} (hg : Gl X "abs") (hm : X.mg "abs" = none) (ha : ED X a ta) (he : starEach [a] X.env = [(false, eval a X.env)] := by rfl) : ED X (.Call (.Name "abs" p) [a] [] pos) (dUn rAbs ta) := by
  refine ed_bi1 call_abs (fun B Hs δ σ G H fx x v Q QQ xb y0 i rx h k => ?_) hg hm (by decide +kernel) ha (he := he)
  cases x with
  | int m => exact ⟨m, by rw [rep_int rx], fin_av (QQ := QQ) (Q := Q) i (.int _) h k⟩
  | _ => exact h.elim
theorem ed_toInt {p : Pos} (hg : Gl X "int") (hm : X.mg "int" = none) (ha : ED X a ta) (he : starEach [a] X.env = [(false, eval a X.env)] := by rfl) : ED X (.Call (.Name "int" p) [a] [] pos) (dUn rToInt ta) := by
  refine ed_ty1 call_int1 (fun B Hs δ σ G H fx x v Q QQ xb y0 i rx h k => ?_) hg hm (by decide +kernel) ha (he := he)
  cases x with
  | int m => exact .inl ⟨m, by rw [rep_int rx], fin_av (QQ := QQ) (Q := Q) i (.int _) h k⟩
  | bool m => exact .inr ⟨m, by rw [rep_bool rx], fin_av (QQ := QQ) (Q := Q) i (.int _) h k⟩
  | _ => exact h.elim
theorem ed_max2 {p : Pos} (hcm : X.calm = true) (hg : Gl X "max") (hm : X.mg "max" = none) (ha : ED X a ta) (hb : ED X b tb) (he : starEach [a, b] X.env = (false, eval a X.env) :: starEach [b] X.env := by rfl) (he2 : starEach [b] X.env = [(false, eval b X.env)] := by rfl) (hpl : (backTo pos (starEach [b] X.env)).any (·.1) = false := by rfl) :
    ED X (.Call (.Name "max" p) [a, b] [] pos) (dOp rMax2 ta tb) := by
  refine ed_bi2 (call_max2 hcm) (fun B Hs δ σ G H fx fy x y v u Q QQ xb y0 i rx ry h k => ?_) hg hm (by decide +kernel) ha hb (he := he) (he2 := he2) (hpl := hpl)
  cases x with
  | int m =>
    cases y with
    | int n => exact ⟨m, n, by rw [rep_int rx, rep_int ry], fin_av (QQ := QQ) (Q := Q) i (.int _) h k⟩
    | _ => exact h.elim
  | _ => exact h.elim
theorem ed_min2 {p : Pos} (hcm : X.calm = true) (hg : Gl X "min") (hm : X.mg "min" = none) (ha : ED X a ta) (hb : ED X b tb) (he : starEach [a, b] X.env = (false, eval a X.env) :: starEach [b] X.env := by rfl) (he2 : starEach [b] X.env = [(false, eval b X.env)] := by rfl) (hpl : (backTo pos (starEach [b] X.env)).any (·.1) = false := by rfl) :
    ED X (.Call (.Name "min" p) [a, b] [] pos) (dOp rMin2 ta tb) := by
  refine ed_bi2 (call_min2 hcm) (fun B Hs δ σ G H fx fy x y v u Q QQ xb y0 i rx ry h k => ?_) hg hm (by decide +kernel) ha hb (he := he) (he2 := he2) (hpl := hpl)
  cases x with
  | int m =>
    cases y with
    | int n => exact ⟨m, n, by rw [rep_int rx, rep_int ry], fin_av (QQ := QQ) (Q := Q) i (.int _) h k⟩
    | _ => exact h.elim
  | _ => exact h.elim
theorem ed_sum {p : Pos} (hcm : X.calm = true) (hg : Gl X "sum") (hm : X.mg "sum" = none) (ha : ED X a ta) (he : starEach [a] X.env = [(false, eval a X.env)] := by rfl) : ED X (.Call (.Name "sum" p) [a] [] pos) (dUn DL.rSum ta) := by
  refine ed_bi1 (cr_sum hcm) (fun B Hs δ σ G H fx x v Q QQ xb y0 i rx h k => ?_) hg hm (by decide +kernel) ha (he := he)
  cases x with
  | list ds =>
    obtain ⟨ns, rfl, h⟩ := h
    obtain ⟨p, xs, rfl, hp, ra⟩ := rx.list i
    have e := ra.ints
    subst e
    exact ⟨p, ns, rfl, .of hp, fin_av (QQ := QQ) (Q := Q) i (.int _) h k⟩
  | _ => exact h.elim
theorem ed_sorted {p : Pos} (hg : Gl X "sorted") (hm : X.mg "sorted" = none) (ha : ED X a ta) (he : starEach [a] X.env = [(false, eval a X.env)] := by rfl) : ED X (.Call (.Name "sorted" p) [a] [] pos) (dUn DL.rSorted ta) := by
  refine ed_bi1 cr_sortedI (fun B Hs δ σ G H fx x v Q QQ xb y0 i rx h k => ?_) hg hm (by decide +kernel) ha (he := he)
  cases x with
  | list ds =>
    obtain ⟨ns, rfl, h⟩ := h
    obtain ⟨p, xs, rfl, hp, ra⟩ := rx.list i
    have e := ra.ints
    subst e
    exact ⟨p, ns, rfl, .of hp, fun ns' q h1 h2 h3 => fin_new (QQ := QQ) (Q := Q) y0 i (RpAll.of_ints ns') (h ns' h1 h2) k q h3⟩
  | _ => exact h.elim
theorem ed_toList {p : Pos} (hg : Gl X "list") (hm : X.mg "list" = none) (ha : ED X a ta) (he : starEach [a] X.env = [(false, eval a X.env)] := by rfl) : ED X (.Call (.Name "list" p) [a] [] pos) (dUn rToList ta) := by
  refine ed_ty1 call_list_of (fun B Hs δ σ G H fx x v Q QQ xb y0 i rx h k => ?_) hg hm (by decide +kernel) ha (he := he)
  cases x with
  | list ds =>
    obtain ⟨p, xs, rfl, hp, ra⟩ := rx.list i
    exact ⟨p, xs, rfl, .inl (.of hp), fun q hq => fin_new (QQ := QQ) (Q := Q) y0 i ra h k q hq⟩
  | tuple ds =>
    obtain ⟨p, xs, rfl, hp, ra⟩ := rx.tuple i
    exact ⟨p, xs, rfl, .inr (i.st hp), fun q hq => fin_new (QQ := QQ) (Q := Q) y0 i ra h k q hq⟩
  | _ => exact h.elim
theorem ed_toTup {p : Pos} (hg : Gl X "tuple") (hm : X.mg "tuple" = none) (ha : ED X a ta) (he : starEach [a] X.env = [(false, eval a X.env)] := by rfl) : ED X (.Call (.Name "tuple" p) [a] [] pos) (dUn rToTup ta) := by
  refine ed_ty1 call_tuple_of (fun B Hs δ σ G H fx x v Q QQ xb y0 i rx h k => ?_) hg hm (by decide +kernel) ha (he := he)
  cases x with
  | list ds =>
    obtain ⟨p, xs, rfl, hp, ra⟩ := rx.list i
    exact ⟨p, xs, rfl, .inl ⟨.of hp, fun q hq => fin_tup (QQ := QQ) (Q := Q) i ra h k q hq⟩⟩
  | tuple ds =>
    obtain ⟨p, xs, rfl, hp, ra⟩ := rx.tuple i
    exact ⟨p, xs, rfl, .inr ⟨i.st hp, fin_av (QQ := QQ) (Q := Q) i (.tup hp ra) h k⟩⟩
  | _ => exact h.elim
/-! isinstance -/
theorem rp_ty {K : PySem.W.Frag} {F : Addr → Prop} {H : Hp} {v : V} {d : PyData} (r : Rp K F H v d) : TyX K H v (.type (tyN d)) := by
  cases r with
  | non => exact .base .non
  | bl b => exact .base (.bl b)
  | int i => exact .base (.int i)
  | str s => exact .base (.str s)
  | lst _ h _ => exact .base (.lst h)
  | tup h _ =>
    rcases h with (h | ⟨o, h⟩) | ⟨o, its, n, h1, h2, _⟩
    · exact .base (.tup h)
    · exact .fTuple h
    · exact .kTuple h1 h2
  | scr h =>
    rcases h with (h | ⟨o, h⟩) | ⟨o, its, n, h1, h2, _⟩
    · exact .base (.lst h)
    · exact .base (.frz h)
    · exact .kList h1 h2
theorem kit_int (d : PyData) : kitB (tyN d) "int" = some (isInt d) := by cases d <;> (dsimp only [tyN, isInt, isBool, isStr, isList, isTup]; decide +kernel)
theorem kit_bool (d : PyData) : kitB (tyN d) "bool" = some (isBool d) := by cases d <;> (dsimp only [tyN, isInt, isBool, isStr, isList, isTup]; decide +kernel)
theorem kit_str (d : PyData) : kitB (tyN d) "str" = some (isStr d) := by cases d <;> (dsimp only [tyN, isInt, isBool, isStr, isList, isTup]; decide +kernel)
theorem kit_list (d : PyData) : kitB (tyN d) "list" = some (isList d) := by cases d <;> (dsimp only [tyN, isInt, isBool, isStr, isList, isTup]; decide +kernel)
theorem kit_tup (d : PyData) : kitB (tyN d) "tuple" = some (isTup d) := by cases d <;> (dsimp only [tyN, isInt, isBool, isStr, isList, isTup]; decide +kernel)
theorem ed_isi {f : PyData → Bool} {T : String} {x : Str} {p p2 : Pos} (hk : ∀ d, kitB (tyN d) T = some (f d)) (hg : Gl X "isinstance") (hm : X.mg "isinstance" = none) (hg2 : Gl X x) (hm2 : X.mg x = none) (hv2 : bootBuiltins x = some (.type T)) (ha : ED X a ta)
    (hn2 : x ≠ "__name__" := by decide) (hd2 : (x == ("__debug__" : Str)) = false := by decide)
    (he : starEach [a, .Name x p2] X.env = (false, eval a X.env) :: starEach [.Name x p2] X.env := by rfl) (he2 : starEach [.Name x p2] X.env = [(false, eval (.Name x p2) X.env)] := by rfl) (hpl : (backTo pos (starEach [.Name x p2] X.env)).any (·.1) = false := by rfl) :
    ED X (.Call (.Name "isinstance" p) [a, .Name x p2] [] pos) (dUn (rKind f) ta) := by
  obtain ⟨ta', ha, sa⟩ := ha
  refine ⟨_, pe_callB call_isi hg hm (by decide +kernel) (pa_cons ha (pa_cons (pe_bltn (v := .ty T) hg2 hm2 hv2 rfl hn2 hd2) pa_nil he2) he) (he := he) (hpl := hpl), fun B G0 G δ σ H Q QQ r h k => sa B G0 G δ σ H _ _ r h fun fl d v G1 H1 s1 p1 h1 => ?_⟩
  exact ⟨v, .ty T, .type (tyN d), .type T, f d, rfl, .ty T, rp_ty (p1.all s1.i), hk d, k (.av .fresh) (.bool (f d)) _ G1 H1 s1 (Rp.bl _) h1⟩
theorem ed_isInt {p p2 : Pos} (hg : Gl X "isinstance") (hm : X.mg "isinstance" = none) (hg2 : Gl X "int") (hm2 : X.mg "int" = none) (ha : ED X a ta) (he : starEach [a, .Name "int" p2] X.env = (false, eval a X.env) :: starEach [.Name "int" p2] X.env := by rfl) :
    ED X (.Call (.Name "isinstance" p) [a, .Name "int" p2] [] pos) (dUn (rKind isInt) ta) := ed_isi kit_int hg hm hg2 hm2 (by decide +kernel) ha (he := he)
theorem ed_isBool {p p2 : Pos} (hg : Gl X "isinstance") (hm : X.mg "isinstance" = none) (hg2 : Gl X "bool") (hm2 : X.mg "bool" = none) (ha : ED X a ta) (he : starEach [a, .Name "bool" p2] X.env = (false, eval a X.env) :: starEach [.Name "bool" p2] X.env := by rfl) :
    ED X (.Call (.Name "isinstance" p) [a, .Name "bool" p2] [] pos) (dUn (rKind isBool) ta) := ed_isi kit_bool hg hm hg2 hm2 (by decide +kernel) ha (he := he)
theorem ed_isStr {p p2 : Pos} (hg : Gl X "isinstance") (hm : X.mg "isinstance" = none) (hg2 : Gl X "str") (hm2 : X.mg "str" = none) (ha : ED X a ta) (he : starEach [a, .Name "str" p2] X.env = (false, eval a X.env) :: starEach [.Name "str" p2] X.env := by rfl) :
    ED X (.Call (.Name "isinstance" p) [a, .Name "str" p2] [] pos) (dUn (rKind isStr) ta) := ed_isi kit_str hg hm hg2 hm2 (by decide +kernel) ha (he := he)
theorem ed_isList {p p2 : Pos} (hg : Gl X "isinstance") (hm : X.mg "isinstance" = none) (hg2 : Gl X "list") (hm2 : X.mg "list" = none) (ha : ED X a ta) (he : starEach [a, .Name "list" p2] X.env = (false, eval a X.env) :: starEach [.Name "list" p2] X.env := by rfl) :
    ED X (.Call (.Name "isinstance" p) [a, .Name "list" p2] [] pos) (dUn (rKind isList) ta) := ed_isi kit_list hg hm hg2 hm2 (by decide +kernel) ha (he := he)
theorem ed_isTup {p p2 : Pos} (hg : Gl X "isinstance") (hm : X.mg "isinstance" = none) (hg2 : Gl X "tuple") (hm2 : X.mg "tuple" = none) (ha : ED X a ta) (he : starEach [a, .Name "tuple" p2] X.env = (false, eval a X.env) :: starEach [.Name "tuple" p2] X.env := by rfl) :
    ED X (.Call (.Name "isinstance" p) [a, .Name "tuple" p2] [] pos) (dUn (rKind isTup) ta) := ed_isi kit_tup hg hm hg2 hm2 (by decide +kernel) ha (he := he)

/-! ### subscripts -/
theorem ix_rp {K : PySem.W.Frag} {F : Addr → Prop} {G : Hp} {xs : List V} {ds : List PyData} {i : Int} {d : PyData} (r : RpAll K F G xs ds) (h : atI ds i = some d) : ∃ v, atI xs i = some v ∧ Rp K F G v d := by
  unfold atI at h ⊢
  rw [r.length]
  cases e : ixN ds.length i with
  | none => rw [e] at h; cases h
  | some j =>
    rw [e] at h
    exact r.get (i := j) h
theorem sd_ix {K : PySem.W.Frag} : SdR K (fun x y H Q => rIxL K x y H Q ∨ rIxT K x y H Q) DL.rIx := by
  intro B Hs δ σ G H fx fy x y v u Q QQ xb y0 i rx ry h k
  cases y with
  | int n =>
    have e := rep_int ry
    subst e
    cases x with
    | list ds =>
      obtain ⟨p, xs, rfl, hp, ra⟩ := rx.list i
      obtain ⟨d, h1, h2⟩ := h
      obtain ⟨v, h3, h4⟩ := ix_rp ra h1
      exact .inl ⟨p, xs, n, v, rfl, rfl, .of hp, h3, fin_av i h4 h2 k⟩
    | tuple ds =>
      obtain ⟨p, xs, rfl, hp, ra⟩ := rx.tuple i
      obtain ⟨d, h1, h2⟩ := h
      obtain ⟨v, h3, h4⟩ := ix_rp ra h1
      exact .inr ⟨p, xs, n, v, rfl, rfl, i.st hp, h3, fin_av i h4 h2 k⟩
    | _ => exact h.elim
  | _ => exact h.elim
theorem ed_ix (ha : ED X a ta) (hb : ED X b tb) (hs : PlainIx b := by exact fun _ _ => rfl) : ED X (.Subscript a b pos) (dOp DL.rIx ta tb) := by
  obtain ⟨ta', ha, sa⟩ := ha
  obtain ⟨tb', hb, sb⟩ := hb
  exact ⟨_, pe_ix (IxR.or ix_list ix_tup) ha hb hs, sd_op sd_ix sa sb⟩
theorem od_none : OD X none dNo := ⟨_, po_none, fun B G0 G δ σ H Q QQ r h k => k none G H (Step.refl r.st.i) h⟩
theorem od_some (ha : ED X a ta) : OD X (some a) (dPart ta) := by
  obtain ⟨ta', ha, sa⟩ := ha
  refine ⟨_, po_some ha, fun B G0 G δ σ H Q QQ r h k => sa B G0 G δ σ H _ _ r h fun fl d v G1 H1 s1 p1 h1 => ?_⟩
  cases d with
  | int i => exact ⟨i, rep_int p1, k (some i) G1 H1 s1 h1⟩
  | _ => exact h1.elim
theorem cut_rp {K : PySem.W.Frag} {F : Addr → Prop} {G : Hp} {xs : List V} {ds : List PyData} (r : RpAll K F G xs ds) (lo hi : Option Int) : RpAll K F G (cutV xs lo hi) (cut ds lo hi) := by
  unfold cutV cut
  rw [r.length]
  exact (r.drop _).take _
theorem ed_sl {lo hi : Option Expr} {tl th : DO} {p2 : Pos} (ha : ED X a ta) (hl : OD X lo tl) (hh : OD X hi th) : ED X (.Subscript a (.Slice lo hi none p2) pos) (dSl ta tl th) := by
  obtain ⟨ta', ha, sa⟩ := ha
  obtain ⟨tl', hl, sl⟩ := hl
  obtain ⟨th', hh, sh⟩ := hh
  refine ⟨_, pe_slice (SlR.or sl_list sl_tup) ha hl hh, fun B G0 G δ σ H Q QQ r h k => sa B G0 G δ σ H _ _ r h fun fl d v G1 H1 s1 p1 h1 => sl B G0 G1 δ σ H1 _ _ (r.step s1) h1 fun o G2 H2 s2 h2 =>
    sh B G0 G2 δ σ H2 _ _ ((r.step s1).step s2) h2 fun o2 G3 H3 s3 h3 => ?_⟩
  have s := (s1.trans s2).trans s3
  have p3 := (p1.step s2).step s3
  have k' : ∀ fl d w G' H', Step G3 H3 G' H' → Rep X.K B H δ σ G' H' fl w d → QQ fl d → Q w H' := fun fl d w G' H' s' p' q' => k fl d w G' H' (s.trans s') p' q'
  cases d with
  | list ds =>
    obtain ⟨p, xs, rfl, hp, ra⟩ := p3.list s3.i
    exact .inl ⟨p, xs, rfl, .of hp, fin_new s.h s3.i (cut_rp ra _ _) h3 k'⟩
  | tuple ds =>
    obtain ⟨p, xs, rfl, hp, ra⟩ := p3.tuple s3.i
    exact .inr ⟨p, xs, rfl, s3.i.st hp, by rw [ra.length]; exact h3.1, fin_tup s3.i (cut_rp ra _ _) h3.2 k'⟩
  | dict kvs =>
    obtain ⟨p, ns, rfl, hp, rfl⟩ := rep_scr p3 s3.i
    have ra : RpAll X.K (lP B H .fresh) G3 (ns.map V.int) ((ns.map fun n => (PyData.int n, PyData.none)).map (·.1)) := by
      rw [List.map_map]
      exact RpAll.of_ints ns
    exact .inl ⟨p, _, rfl, hp, fin_new s.h s3.i (cut_rp ra _ _) h3 k'⟩
  | _ => exact h3.elim
/-! ### an own list lent -/
theorem look_put (δ : Ds) (i j : Nat) (s : Sl) : look (put δ i s) j = if j = i ∧ i < δ.length then s else look δ j := by
  by_cases h : j = i
  · subst h
    by_cases h2 : j < δ.length
    · rw [if_pos ⟨rfl, h2⟩, look_put_eq _ _ _ h2]
    · rw [if_neg (fun z => h2 z.2), look_out _ _ (by rw [put_length]; omega), look_out _ _ (by omega)]
  · rw [if_neg (fun z => h z.1), look_put_ne _ _ _ _ h]
theorem Rl.freeze {K : PySem.W.Frag} {B : Bg} {G0 G H : Hp} {δ : Ds} {σ : L2.St} {i : Nat} {m m' : Bool} {ds : List PyData} (hm : m' = true → m = true) (r : Rl K B G0 G δ σ H) (h : ownL (look δ i) = some (m, ds)) : ∃ p xs, σ[i]? = some (some (.ref p)) ∧ G p = none ∧ B p = none ∧ H p = some (.lst xs) ∧ RpAll K (mP B m) G xs ds ∧
    Rl K B G0 (upd G p (.lst xs)) (put δ i (.val m' (.list ds))) σ H ∧ Ext G (upd G p (.lst xs)) := by
  obtain ⟨p, xs, h1, h2, h3, h4, h5⟩ := r.own i m ds h
  have x : Ext G (upd G p (.lst xs)) := Ext.new h2
  refine ⟨p, xs, h1, h2, h3, h4, h5, ⟨r.st.take h3 h2 h4, by rw [put_length]; exact r.len, fun j n d e => ?_, fun j n es e => ?_, fun j d e => ?_, fun j l q n n' ds' es' e1 e2 e3 e4 => ?_, fun j k es e => ?_⟩, x⟩
  · rw [look_put] at e
    split at e
    · rename_i hj
      cases e
      rw [hj.1]
      exact ⟨_, h1, .lst (fun _ => h3) upd_same ((h5.mono x).weak fun a z y => z (hm y))⟩
    · obtain ⟨v, a1, a2⟩ := r.val j n d e
      exact ⟨v, a1, a2.mono x⟩
  · rw [look_put] at e
    split at e
    · cases e
    · rename_i hj
      obtain ⟨q, ys, a1, a2, a3, a4, a5⟩ := r.own j n es e
      have ne : q ≠ p := fun z => by
        subst z
        have := r.dis j i q n m es ds e h a1 h1
        subst this
        by_cases hl : j < δ.length
        · exact hj ⟨rfl, hl⟩
        · rw [look_out _ _ (by omega)] at h; cases h
      exact ⟨q, ys, a1, by rw [upd_ne ne]; exact a2, a3, a4, a5.mono x⟩
  · rw [look_put] at e
    split at e
    · cases e
    · exact r.old j d e
  · rw [look_put] at e1 e2
    split at e1
    · cases e1
    · split at e2
      · cases e2
      · exact r.dis j l q n n' ds' es' e1 e2 e3 e4
  · rw [look_put] at e
    split at e
    · cases e
    · exact r.par j k es e
theorem out_step {G H G' H' : Hp} {p : Addr} {xs : List V} (hg : G p = none) (hp : H p = some (.lst xs)) (s : Step (upd G p (.lst xs)) H G' H') : Step G H (out G' p) H' :=
  ⟨fun a o e => by
    have ne : a ≠ p := fun z => by subst z; rw [hg] at e; cases e
    rw [out_ne ne]; exact s.g a o (by rw [upd_ne ne]; exact e), s.h, fun a o e => s.i a o (out_ext a o e), fun q h1 h2 => by
    by_cases ne : q = p
    · subst ne; exact out_same
    · rw [out_ne ne]; exact s.f q (by rw [upd_ne ne]; exact h1) h2⟩
theorem out_at {G : Hp} {p : Addr} {ys : List V} (hp : G p = some (.lst ys)) : ∀ a o, G a = some o → (∀ xs, o ≠ .lst xs) → out G p a = some o := fun a o e h => by
  have ne : a ≠ p := fun z => by
    subst z
    rw [hp] at e
    cases e
    exact h _ rfl
  rw [out_ne ne]; exact e
/-- e, the list of slot i lent to it -/
theorem ed_lend {i : Nat} (ha : ED X a ta) : ED X a (dLend i ta) := by
  obtain ⟨ta', ha, sa⟩ := ha
  refine ⟨ta', ha, fun B G0 G δ σ H Q QQ r h k => ?_⟩
  unfold dLend at h
  cases e : look δ i with
  | own m ds =>
    rw [e] at h
    obtain ⟨p, xs, h1, h2, h3, h4, h5, r', x⟩ := r.freeze (m' := false) (fun z => nomatch z) (show ownL (look δ i) = some (m, ds) by rw [e]; rfl)
    refine sa B G0 _ _ σ H _ _ r' h fun fl d v G1 H1 s1 p1 q1 => ?_
    have hp1 : G1 p = some (.lst xs) := s1.g p _ upd_same
    cases fl with
    | av l =>
      have p1' : Rp X.K (lP B H l) G1 v d := p1
      exact k (.av .fresh) d v (out G1 p) H1 (out_step h2 h4 s1) (Rp.noList (out_at hp1) q1.1 p1') q1.2
    | new l =>
      obtain ⟨q, ys, es, rfl, rfl, _⟩ := p1
      cases q1.1
    | own j => exact q1.elim
  | par _ _ => rw [e] at h; exact h.elim
  | val m d => rw [e] at h; exact h.elim
  | old d => rw [e] at h; exact h.elim
  | non => rw [e] at h; exact h.elim
theorem td_lend {i : Nat} (ha : TD X a t) : TD X a (dLendT i t) := by
  obtain ⟨ta', ha, sa⟩ := ha
  refine ⟨ta', ha, fun B G0 G δ σ H Q QQ r h k => ?_⟩
  unfold dLendT at h
  cases e : look δ i with
  | own m ds =>
    rw [e] at h
    obtain ⟨p, xs, h1, h2, h3, h4, h5, r', x⟩ := r.freeze (m' := false) (fun z => nomatch z) (show ownL (look δ i) = some (m, ds) by rw [e]; rfl)
    exact sa B G0 _ _ σ H _ _ r' h fun b G1 H1 s1 q1 => k b (out G1 p) H1 (out_step h2 h4 s1) q1
  | par _ _ => rw [e] at h; exact h.elim
  | val m d => rw [e] at h; exact h.elim
  | old d => rw [e] at h; exact h.elim
  | non => rw [e] at h; exact h.elim
/-- what holds no list is of every age -/
theorem ed_nl (ha : ED X a ta) : ED X a (dNL ta) := by
  obtain ⟨ta', ha, sa⟩ := ha
  refine ⟨ta', ha, fun B G0 G δ σ H Q QQ r h k => sa B G0 G δ σ H _ _ r h fun fl d v G1 H1 s1 p1 q1 => ?_⟩
  cases fl with
  | av l =>
    have p1' : Rp X.K (lP B H l) G1 v d := p1
    exact k (.av .fresh) d v G1 H1 s1 (Rp.noList (fun _ _ e _ => e) q1.1 p1') q1.2
  | new l =>
    obtain ⟨q, ys, es, rfl, rfl, _⟩ := p1
    cases q1.1
  | own j => exact q1.elim
end
end DL

set_option Elab.async false
set_option linter.all false
set_option maxRecDepth 100000
set_option maxHeartbeats 2000000
/-! DW4: targets, statements, loops, comprehensions, defs. -/
namespace DL
open PySem PySem.Spec L2
open PyProof.Rows (envOfC)

/-! ### one reading for all contexts -/
def cvE (K : PySem.W.Frag) (t : DE) : TE := fun σ H Q => ∃ (B : Bg) (G0 G : Hp) (δ : Ds) (QQ : VK), Rl K B G0 G δ σ H ∧ t δ QQ ∧ ∀ fl d v G' H', Step G H G' H' → Rep K B H δ σ G' H' fl v d → QQ fl d → Q v H'
def cvT (K : PySem.W.Frag) (t : DT) : TT := fun σ H Q => ∃ (B : Bg) (G0 G : Hp) (δ : Ds) (QQ : Bool → Prop), Rl K B G0 G δ σ H ∧ t δ QQ ∧ ∀ b G' H', Step G H G' H' → QQ b → Q b H'
theorem sd_cv {K : PySem.W.Frag} {t : DE} : Sd K (cvE K t) t := fun B G0 G δ _ _ _ QQ r h k => ⟨B, G0, G, δ, QQ, r, h, k⟩
theorem sd_cvT {K : PySem.W.Frag} {t : DT} : SdT K (cvT K t) t := fun B G0 G δ _ _ _ QQ r h k => ⟨B, G0, G, δ, QQ, r, h, k⟩
theorem ED.pe {X : Cx} {e : Expr} {t : DE} (h : ED X e t) : PE X e (cvE X.K t) := by
  obtain ⟨te, h, s⟩ := h
  exact ⟨fun pins s' σ H Q I q => by
    obtain ⟨B, G0, G, δ, QQ, r, a, k⟩ := q
    exact h.run pins s' σ H Q I (s B G0 G δ σ H Q QQ r a k)⟩
theorem TD.pt {X : Cx} {e : Expr} {t : DT} (h : TD X e t) : PT X e (cvT X.K t) := by
  obtain ⟨te, h, s⟩ := h
  exact ⟨fun pins s' σ H Q I q => by
    obtain ⟨B, G0, G, δ, QQ, r, a, k⟩ := q
    exact h.run pins s' σ H Q I (s B G0 G δ σ H Q QQ r a k)⟩

/-! ### storing -/
section
variable {K : PySem.W.Frag} {B : Bg} {G0 G G' H H' : Hp} {δ : Ds} {σ : L2.St}
theorem set_at {i j : Nat} {o : Option V} (h : j ≠ i) : (σ.set i o)[j]? = σ[j]? := List.getElem?_set_ne (Ne.symm h)
theorem put_look {δ : Ds} {i j : Nat} {s t : Sl} (h : look (put δ i s) j = t) (hn : t ≠ .non) : (j = i ∧ i < δ.length ∧ s = t) ∨ (j ≠ i ∧ look δ j = t) := by
  by_cases z : j = i
  · subst z
    by_cases y : j < δ.length
    · rw [look_put_eq _ _ _ y] at h
      exact .inl ⟨rfl, y, h⟩
    · rw [look_out _ _ (by rw [put_length]; omega)] at h
      exact absurd h.symm hn
  · rw [look_put_ne _ _ _ _ z] at h
    exact .inr ⟨z, h⟩
theorem own_some {s : Sl} {x : Bool × List PyData} (h : ownL s = some x) : s ≠ .non := fun z => by rw [z] at h; cases h
theorem Rl.setVal {i : Nat} {m : Bool} {v : V} {d : PyData} (r : Rl K B G0 G δ σ H) (h : Rp K (mP B m) G v d) : Rl K B G0 G (put δ i (.val m d)) (σ.set i (some v)) H := by
  refine ⟨r.st, by rw [List.length_set, put_length]; exact r.len, fun j n e q => ?_, fun j n es q => ?_, fun j e q => ?_, fun j l p n n' ds es e1 e2 e3 e4 => ?_, fun j k es q => ?_⟩
  · rcases put_look q (fun z => nomatch z) with ⟨rfl, hl, e⟩ | ⟨hj, q⟩
    · cases e
      rw [List.getElem?_set_self (by rw [r.len]; exact hl)]
      exact ⟨v, rfl, h⟩
    · rw [set_at hj]
      exact r.val j n e q
  · rcases put_look rfl (own_some q) with ⟨_, _, e⟩ | ⟨hj, e⟩
    · rw [← e] at q
      cases q
    · rw [set_at hj]
      exact r.own j n es (by rw [e]; exact q)
  · rcases put_look q (fun z => nomatch z) with ⟨_, _, e⟩ | ⟨hj, q⟩
    · cases e
    · rw [set_at hj]
      exact r.old j e q
  · rcases put_look rfl (own_some e1) with ⟨_, _, e⟩ | ⟨hj, z1⟩
    · rw [← e] at e1
      cases e1
    · rcases put_look rfl (own_some e2) with ⟨_, _, e⟩ | ⟨hl, z2⟩
      · rw [← e] at e2
        cases e2
      · rw [set_at hj] at e3
        rw [set_at hl] at e4
        exact r.dis j l p n n' ds es (by rw [z1]; exact e1) (by rw [z2]; exact e2) e3 e4
  · rcases put_look q (fun z => nomatch z) with ⟨_, _, e⟩ | ⟨hj, q⟩
    · cases e
    · rw [set_at hj]
      exact r.par j k es q
/-- a list that is no other name's -/
theorem Rl.setOwn {i : Nat} {m : Bool} {p : Addr} {xs : List V} {ds : List PyData} (r : Rl K B G0 G δ σ H) (hg : G p = none) (hb : B p = none) (hp : H p = some (.lst xs)) (ra : RpAll K (mP B m) G xs ds) (hn : ∀ j n es, j ≠ i → ownL (look δ j) = some (n, es) → σ[j]? ≠ some (some (.ref p))) :
    Rl K B G0 G (put δ i (.own m ds)) (σ.set i (some (.ref p))) H := by
  refine ⟨r.st, by rw [List.length_set, put_length]; exact r.len, fun j n e q => ?_, fun j n es q => ?_, fun j e q => ?_, fun j l a n n' ds' es' e1 e2 e3 e4 => ?_, fun j k es q => ?_⟩
  · rcases put_look q (fun z => nomatch z) with ⟨_, _, e⟩ | ⟨hj, q⟩
    · cases e
    · rw [set_at hj]
      exact r.val j n e q
  · rcases put_look rfl (own_some q) with ⟨rfl, hl, e⟩ | ⟨hj, e⟩
    · rw [← e] at q
      cases q
      rw [List.getElem?_set_self (by rw [r.len]; exact hl)]
      exact ⟨p, xs, rfl, hg, hb, hp, ra⟩
    · rw [set_at hj]
      exact r.own j n es (by rw [e]; exact q)
  · rcases put_look q (fun z => nomatch z) with ⟨_, _, e⟩ | ⟨hj, q⟩
    · cases e
    · rw [set_at hj]
      exact r.old j e q
  · rcases put_look rfl (own_some e1) with ⟨rfl, hj, _⟩ | ⟨hj, z1⟩
    · rcases put_look rfl (own_some e2) with ⟨rfl, hl, _⟩ | ⟨hl, z2⟩
      · rfl
      · rw [set_at hl] at e4
        rw [List.getElem?_set_self (by rw [r.len]; exact hj)] at e3
        cases e3
        exact absurd e4 (hn l n' es' hl (by rw [z2]; exact e2))
    · rw [set_at hj] at e3
      rcases put_look rfl (own_some e2) with ⟨hi, hl, _⟩ | ⟨hl, z2⟩
      · rw [hi, List.getElem?_set_self (by rw [r.len]; exact hl)] at e4
        cases e4
        exact absurd e3 (hn j n ds' hj (by rw [z1]; exact e1))
      · rw [set_at hl] at e4
        exact r.dis j l a n n' ds' es' (by rw [z1]; exact e1) (by rw [z2]; exact e2) e3 e4
  · rcases put_look q (fun z => nomatch z) with ⟨_, _, e⟩ | ⟨hj, q⟩
    · cases e
    · rw [set_at hj]
      exact r.par j k es q
theorem own_reown {s : Sl} {m : Bool} {ds es : List PyData} (h : ownL s = some (m, ds)) : ownL (reown s es) = some (m, es) := by
  cases s with
  | own n xs =>
    cases h
    rfl
  | par k xs =>
    cases h
    rfl
  | _ => cases h
/-- the own list of slot i is changed -/
theorem Rl.write {i : Nat} {m : Bool} {p : Addr} {ys : List V} {ds es : List PyData} (r : Rl K B G0 G δ σ H) (h : ownL (look δ i) = some (m, ds)) (hs : σ[i]? = some (some (.ref p))) (ra : RpAll K (mP B m) G ys es) :
    Rl K B G0 G (put δ i (reown (look δ i) es)) σ (upd H p (.lst ys)) := by
  obtain ⟨q, zs, h1, h2, h3, h4, h5⟩ := r.own i m ds h
  have e : q = p := by
    rw [hs] at h1
    cases h1
    rfl
  subst e
  have hr := own_reown (es := es) h
  have f : ∀ j n ds', ownL (look (put δ i (reown (look δ i) es)) j) = some (n, ds') → ∃ n'' ds'', ownL (look δ j) = some (n'', ds'') := fun j n ds' q => by
    rcases put_look rfl (own_some q) with ⟨rfl, _, _⟩ | ⟨_, e⟩
    · exact ⟨_, _, h⟩
    · exact ⟨_, _, by rw [e]; exact q⟩
  refine ⟨⟨r.st.g, r.st.h.under h3, r.st.i.under h2, r.st.f⟩, by rw [put_length]; exact r.len, fun j n e q => ?_, fun j n fs q => ?_, fun j e q => ?_, fun j l a n n' ds' es' e1 e2 e3 e4 => ?_, fun j k fs q => ?_⟩
  · rcases put_look q (fun z => nomatch z) with ⟨_, _, e⟩ | ⟨hj, q⟩
    · rw [e] at hr
      cases hr
    · exact r.val j n e q
  · rcases put_look rfl (own_some q) with ⟨rfl, hl, e⟩ | ⟨hj, e⟩
    · rw [← e, hr] at q
      cases q
      exact ⟨_, ys, hs, h2, h3, upd_same, ra⟩
    · have q' : ownL (look δ j) = some (n, fs) := by rw [e]; exact q
      obtain ⟨a, ws, a1, a2, a3, a4, a5⟩ := r.own j n fs q'
      refine ⟨a, ws, a1, a2, a3, ?_, a5⟩
      rw [upd_ne fun z => ?_]
      · exact a4
      · subst z
        exact hj (r.dis j i _ n m fs ds q' h a1 hs)
  · rcases put_look q (fun z => nomatch z) with ⟨_, _, e⟩ | ⟨hj, q⟩
    · rw [e] at hr
      cases hr
    · exact r.old j e q
  · obtain ⟨_, _, f1⟩ := f j n ds' e1
    obtain ⟨_, _, f2⟩ := f l n' es' e2
    exact r.dis j l a _ _ _ _ f1 f2 e3 e4
  · rcases put_look q (fun z => nomatch z) with ⟨rfl, hl, e⟩ | ⟨hj, q⟩
    · cases w : look δ j with
      | par k2 xs =>
        rw [w] at e
        cases e
        exact r.par j k xs w
      | own m2 xs =>
        rw [w] at e
        cases e
      | non =>
        rw [w] at e
        cases e
      | val _ _ =>
        rw [w] at e
        cases e
      | old _ =>
        rw [w] at e
        cases e
    · exact r.par j k fs q
theorem Rl.clear (r : Rl K B G0 G δ σ H) (i : Nat) : Rl K B G0 G (put δ i .non) (σ.set i none) H := by
  refine ⟨r.st, by rw [List.length_set, put_length]; exact r.len, fun j n e q => ?_, fun j n es q => ?_, fun j e q => ?_, fun j l p n n' ds es e1 e2 e3 e4 => ?_, fun j k es q => ?_⟩
  · rcases put_look q (fun z => nomatch z) with ⟨_, _, e⟩ | ⟨hj, q⟩
    · cases e
    · rw [set_at hj]
      exact r.val j n e q
  · rcases put_look rfl (own_some q) with ⟨_, _, e⟩ | ⟨hj, e⟩
    · rw [← e] at q
      cases q
    · rw [set_at hj]
      exact r.own j n es (by rw [e]; exact q)
  · rcases put_look q (fun z => nomatch z) with ⟨_, _, e⟩ | ⟨hj, q⟩
    · cases e
    · rw [set_at hj]
      exact r.old j e q
  · rcases put_look rfl (own_some e1) with ⟨_, _, e⟩ | ⟨hj, z1⟩
    · rw [← e] at e1
      cases e1
    · rcases put_look rfl (own_some e2) with ⟨_, _, e⟩ | ⟨hl, z2⟩
      · rw [← e] at e2
        cases e2
      · rw [set_at hj] at e3
        rw [set_at hl] at e4
        exact r.dis j l p n n' ds es (by rw [z1]; exact e1) (by rw [z2]; exact e2) e3 e4
  · rcases put_look q (fun z => nomatch z) with ⟨_, _, e⟩ | ⟨hj, q⟩
    · cases e
    · rw [set_at hj]
      exact r.par j k es q
theorem Rl.wiped (r : Rl K B G0 G δ σ H) : ∀ vs : List Nat, Rl K B G0 G (DL.wipe δ vs) (L2.wipe σ vs) H
  | [] => r
  | i :: vs => (Rl.wiped r vs).clear i
end

/-! ### targets -/
def SameOut (vs : List Nat) (σ σ' : L2.St) : Prop := σ'.length = σ.length ∧ ∀ i, i ∉ vs → σ'[i]? = σ[i]?
theorem wipe_get (σ : L2.St) : ∀ (vs : List Nat) (i : Nat), (L2.wipe σ vs)[i]? = if i ∈ vs ∧ i < σ.length then some none else σ[i]?
  | [], i => by simp [L2.wipe]
  | v :: vs, i => by
    show ((L2.wipe σ vs).set v none)[i]? = _
    by_cases h : i = v
    · subst h
      by_cases hl : i < σ.length
      · rw [List.getElem?_set_self (by rw [L2.wipe_length]; exact hl), if_pos ⟨List.mem_cons_self, hl⟩]
      · rw [if_neg (fun z => hl z.2), List.getElem?_eq_none (by rw [List.length_set, L2.wipe_length]; omega), List.getElem?_eq_none (by omega)]
    · rw [List.getElem?_set_ne (Ne.symm h), wipe_get σ vs i]
      have e : (i ∈ v :: vs ∧ i < σ.length) ↔ (i ∈ vs ∧ i < σ.length) := by
        rw [List.mem_cons]
        constructor
        · rintro ⟨z | z, l⟩
          · exact absurd z h
          · exact ⟨z, l⟩
        · rintro ⟨z, l⟩
          exact ⟨.inr z, l⟩
      simp only [e]
theorem SameOut.wipe {vs : List Nat} {σ σ' : L2.St} (h : SameOut vs σ σ') : L2.wipe σ' vs = L2.wipe σ vs := by
  apply List.ext_getElem?
  intro i
  rw [wipe_get, wipe_get, h.1]
  by_cases z : i ∈ vs ∧ i < σ.length
  · rw [if_pos z, if_pos z]
  · rw [if_neg z, if_neg z]
    by_cases m : i ∈ vs
    · have : ¬ i < σ.length := fun l => z ⟨m, l⟩
      rw [List.getElem?_eq_none (by rw [h.1]; omega), List.getElem?_eq_none (by omega)]
    · exact h.2 i m
def Sg (K : PySem.W.Frag) (vs : List Nat) (tg : TG) (g : DG) : Prop := ∀ (B : Bg) (G0 G Hs : Hp) (δ : Ds) (σ : L2.St) (H : Hp) (l : Lv) (v : V) (d : PyData) (Q : L2.St → Hp → Prop) (QQ : Ds → Prop), Rl K B G0 G δ σ H → Ext B Hs → Rp K (lP B Hs l) G v d → g l d δ QQ →
  (∀ δ' σ', Rl K B G0 G δ' σ' H → SameOut vs σ σ' → QQ δ' → Q σ' H) → tg v σ H Q
def Sgs (K : PySem.W.Frag) (vs : List Nat) (tg : TGs) (g : DGs) : Prop := ∀ (B : Bg) (G0 G Hs : Hp) (δ : Ds) (σ : L2.St) (H : Hp) (l : Lv) (us : List V) (ds : List PyData) (Q : L2.St → Hp → Prop) (QQ : Ds → Prop), Rl K B G0 G δ σ H → Ext B Hs → RpAll K (lP B Hs l) G us ds → g l ds δ QQ →
  (∀ δ' σ', Rl K B G0 G δ' σ' H → SameOut vs σ σ' → QQ δ' → Q σ' H) → tg us σ H Q
def GD (X : Cx) (vs : List Nat) (e : Expr) (g : DG) : Prop := ∃ tg, PG X e tg ∧ Sg X.K vs tg g
def GsD (X : Cx) (vs : List Nat) (es : List Expr) (g : DGs) : Prop := ∃ tg, PGs X es tg ∧ Sgs X.K vs tg g
def cvG (K : PySem.W.Frag) (vs : List Nat) (g : DG) : TG := fun v σ H Q => ∃ (B : Bg) (G0 G Hs : Hp) (δ : Ds) (l : Lv) (d : PyData) (QQ : Ds → Prop), Rl K B G0 G δ σ H ∧ Ext B Hs ∧ Rp K (lP B Hs l) G v d ∧ g l d δ QQ ∧ ∀ δ' σ', Rl K B G0 G δ' σ' H → SameOut vs σ σ' → QQ δ' → Q σ' H
theorem sg_cv {K : PySem.W.Frag} {vs : List Nat} {g : DG} : Sg K vs (cvG K vs g) g := fun B G0 G Hs δ _ _ l _ d _ QQ r x h q k => ⟨B, G0, G, Hs, δ, l, d, QQ, r, x, h, q, k⟩
theorem GD.pg {X : Cx} {vs : List Nat} {e : Expr} {g : DG} (h : GD X vs e g) : PG X e (cvG X.K vs g) := by
  obtain ⟨tg, h, s⟩ := h
  exact ⟨fun pins s' σ H v u Q I rv q => by
    obtain ⟨B, G0, G, Hs, δ, l, d, QQ, r, x, a, b, k⟩ := q
    exact h.run pins s' σ H v u Q I rv (s B G0 G Hs δ σ H l v d Q QQ r x a b k)⟩
section
variable {X : Cx} {pos : Pos} {vs : List Nat}
theorem gd_name (i : Nat) {x : Str} (hN : X.N.Nodup) (hm : i ∈ vs := by decide) (hi : X.N[i]? = some x := by rfl) (hx : Loc X.env.scope x := by first | exact Or.inl rfl | exact Or.inr rfl) (hf : X.fn x = true ∨ X.env.scope.names.lookup x = some .local := by first | exact .inl rfl | exact .inr rfl) : GD X vs (.Name x pos) (DL.gName i) :=
  ⟨_, pg_name hN hi hx hf, fun B G0 G Hs δ σ H l v d Q QQ r x h q k => k _ _ (r.setVal (h.weak fun _ _ z => nomatch z)) ⟨List.length_set, fun j hj => set_at fun z => hj (by rw [z]; exact hm)⟩ q⟩
theorem gd_nameM (i : Nat) {x : Str} (hN : X.N.Nodup) (hm : i ∈ vs := by decide) (hi : X.N[i]? = some x := by rfl) (hx : Loc X.env.scope x := by first | exact Or.inl rfl | exact Or.inr rfl) (hf : X.fn x = true ∨ X.env.scope.names.lookup x = some .local := by first | exact .inl rfl | exact .inr rfl) : GD X vs (.Name x pos) (DL.gNameM i) :=
  ⟨_, pg_name hN hi hx hf, fun B G0 G Hs δ σ H l v d Q QQ r x h q k => k _ _ (r.setVal (h.weak fun a z _ => (lP_young x q z).1)) ⟨List.length_set, fun j hj => set_at fun z => hj (by rw [z]; exact hm)⟩ (young_get q)⟩
theorem gds_nil : GsD X vs [] DL.gNil := ⟨_, pgs_nil, fun B G0 G Hs δ σ H l us ds Q QQ r x h q k => by
  cases h with
  | nil => exact ⟨rfl, k δ σ r ⟨rfl, fun _ _ => rfl⟩ q⟩
  | cons _ _ => exact q.elim⟩
theorem gds_cons {e : Expr} {es : List Expr} {g : DG} {gs : DGs} (h1 : GD X vs e g) (h2 : GsD X vs es gs) (hs : (assignEach (e :: es) X.env).map (·.2) = assign e X.env :: (assignEach es X.env).map (·.2) := by rfl) : GsD X vs (e :: es) (DL.gCons g gs) := by
  obtain ⟨tg, h1, s1⟩ := h1
  obtain ⟨tgs, h2, s2⟩ := h2
  refine ⟨_, pgs_cons h1 h2 hs, fun B G0 G Hs δ σ H l us ds Q QQ r x h q k => ?_⟩
  cases h with
  | nil => exact q.elim
  | cons a b => exact ⟨_, _, rfl, s1 B G0 G Hs δ σ H l _ _ _ _ r x a q fun δ1 σ1 r1 o1 q1 => s2 B G0 G Hs δ1 σ1 H l _ _ _ _ r1 x b q1 fun δ2 σ2 r2 o2 q2 => k δ2 σ2 r2 ⟨o2.1.trans o1.1, fun i hi => (o2.2 i hi).trans (o1.2 i hi)⟩ q2⟩
theorem gd_tup {es : List Expr} {k n : Nat} {gs : DGs} (hc : X.calm = true) (h : GsD X vs es gs) (hn : (assignEach es X.env).length = n := by rfl) (hst : (assignEach es X.env).findIdx? (·.1) = none := by rfl) : GD X vs (.Tuple es k pos) (DL.gTup n gs) := by
  obtain ⟨tgs, h, s⟩ := h
  refine ⟨_, pg_tup hc h hn hst, fun B G0 G Hs δ σ H l v d Q QQ r x h q k => ?_⟩
  cases h with
  | tup ht ra =>
    obtain ⟨q1, q2⟩ := q
    exact ⟨_, _, rfl, r.st.i.st ht, by rw [ra.length]; exact q1, s B G0 G Hs δ σ H l _ _ _ _ r x ra q2 k⟩
  | _ => exact q.elim
end

/-! ### statements -/
/-- what is wished of an error: its class by name, its dict -/
abbrev XW := Str → Option Addr → L2.St → Hp → Prop
inductive FsRep (K : PySem.W.Frag) (G : Hp) : List (Str × V) → List (Str × PyData) → Prop
  | nil : FsRep K G [] []
  | cons {f : Str} {v : V} {d : PyData} {fs : List (Str × V)} {gs : List (Str × PyData)} : Rp K (fun _ => True) G v d → FsRep K G fs gs → FsRep K G ((f, v) :: fs) ((f, d) :: gs)
def ErRep (K : PySem.W.Frag) (G H : Hp) (er : Er) (dx : Option Addr) : Prop := er.fs = [] ∨ ∃ d fs, dx = some d ∧ H d = some (.xd fs) ∧ FsRep K G fs er.fs
structure EdOk (K : PySem.W.Frag) (W : XW) (B : Bg) (G0 G : Hp) (DD : Ed) (D : Ends) : Prop where
  nx : ∀ G' δ' σ' H', Ext G G' → Rl K B G0 G' δ' σ' H' → DD.nx δ' → D.nx σ' H'
  bk : ∀ G' δ' σ' H', Ext G G' → Rl K B G0 G' δ' σ' H' → DD.bk δ' → D.bk σ' H'
  ct : ∀ G' δ' σ' H', Ext G G' → Rl K B G0 G' δ' σ' H' → DD.ct δ' → D.ct σ' H'
  rt : ∀ b d v G' H', Step G0 B G' H' → RetRep K B G' H' b v d → DD.rt b d → D.rt v H'
  rp : ∀ G' δ' σ' v d H', Ext G G' → Rl K B G0 G' δ' σ' H' → Rp K (fun _ => True) G' v d → DD.rp δ' d → D.rt v H'
  ex : ∀ er dx G' δ' σ' H', Ext G G' → Rl K B G0 G' δ' σ' H' → ErRep K G' H' er dx → DD.ex δ' er → W er.cls dx σ' H'
theorem EdOk.up {K : PySem.W.Frag} {W : XW} {B : Bg} {G0 G G1 : Hp} {DD : Ed} {D : Ends} (h : EdOk K W B G0 G DD D) (e : Ext G G1) : EdOk K W B G0 G1 DD D :=
  ⟨fun G' δ' σ' H' x => h.nx G' δ' σ' H' (e.trans x), fun G' δ' σ' H' x => h.bk G' δ' σ' H' (e.trans x), fun G' δ' σ' H' x => h.ct G' δ' σ' H' (e.trans x), h.rt, fun G' δ' σ' v d H' x => h.rp G' δ' σ' v d H' (e.trans x), fun er dx G' δ' σ' H' x => h.ex er dx G' δ' σ' H' (e.trans x)⟩
def Ss (K : PySem.W.Frag) (W : XW) (ts : TS) (t : DS) : Prop := ∀ (B : Bg) (G0 G : Hp) (δ : Ds) (σ : L2.St) (H : Hp) (DD : Ed) (D : Ends), Rl K B G0 G δ σ H → t DD δ → EdOk K W B G0 G DD D → ts D σ H
def SD (X : Cx) (W : XW) (st : Stmt) (t : DS) : Prop := ∃ ts, PS X st ts ∧ Ss X.K W ts t
def SsD (X : Cx) (W : XW) (sts : List Stmt) (t : DS) : Prop := ∃ ts, PSs X sts ts ∧ Ss X.K W ts t
variable {W : XW}
section
variable {X : Cx} {st : Stmt} {rest : List Stmt} {e : Expr} {t u : DS} {te : DE} {pos : Pos}
theorem sd_nil : SsD X W [] dNext := ⟨_, pss_nil, fun B G0 G δ σ H DD D r h o => o.nx G δ σ H (Ext.refl _) r h⟩
theorem sd_cons (h1 : SD X W st t) (h2 : SsD X W rest u) : SsD X W (st :: rest) (dSeq t u) := by
  obtain ⟨t', h1, s1⟩ := h1
  obtain ⟨u', h2, s2⟩ := h2
  refine ⟨_, pss_cons h1 h2, fun B G0 G δ σ H DD D r h o => s1 B G0 G δ σ H { DD with nx := u DD } { D with nx := u' D } r h ⟨fun G' δ' σ' H' x r' q => ?_, o.bk, o.ct, o.rt, o.rp, o.ex⟩⟩
  exact s2 B G0 G' δ' σ' H' DD D r' q (o.up x)
theorem sd_one (h1 : SD X W st t) : SsD X W [st] t := by
  obtain ⟨t', h1, s1⟩ := h1
  exact ⟨_, pss_one h1, s1⟩
theorem sd_pass : SD X W (.Pass pos) dPass := ⟨_, ps_pass, fun B G0 G δ σ H DD D r h o => o.nx G δ σ H (Ext.refl _) r h⟩
theorem sd_break : SD X W (.Break pos) dBreak := ⟨_, ps_break, fun B G0 G δ σ H DD D r h o => o.bk G δ σ H (Ext.refl _) r h⟩
theorem sd_cont : SD X W (.Continue pos) dCont := ⟨_, ps_continue, fun B G0 G δ σ H DD D r h o => o.ct G δ σ H (Ext.refl _) r h⟩
theorem sd_doc {x j pos'} : SD X W (.Expr (.Constant (.str x) j pos) pos') dNext := ⟨_, ps_doc, fun B G0 G δ σ H DD D r h o => o.nx G δ σ H (Ext.refl _) r h⟩
theorem sd_drop (he : ED X e te) (hs : swapsWith e none pos.line X.env = pure false := by rfl) : SD X W (.Expr e pos) (dDrop te) := by
  obtain ⟨te', he, se⟩ := he
  exact ⟨_, ps_expr he hs, fun B G0 G δ σ H DD D r h o => se B G0 G δ σ H _ _ r h fun fl d v G' H' s p q => o.nx G' δ σ H' s.g (r.step s) q⟩
theorem sd_ret (he : ED X e te) : SD X W (.Return (some e) pos) (dRet te) := by
  obtain ⟨te', he, se⟩ := he
  refine ⟨_, ps_ret he, fun B G0 G δ σ H DD D r h o => se B G0 G δ σ H _ _ r h fun fl d v G' H' s p q => ?_⟩
  have s0 := r.st.trans s
  cases fl with
  | av l =>
    have p' : Rp X.K (lP B H l) G' v d := p
    exact o.rt .av d v G' H' s0 (p'.weak fun _ _ => trivial) q
  | new l =>
    obtain ⟨a, xs, ds, h1, h2, h3, h4, h5, h6⟩ := p
    exact o.rt .new d v G' H' s0 ⟨a, xs, ds, h1, h2, r.st.h.free h3, h4, h5, h6.weak fun _ _ => trivial⟩ q
  | own i m =>
    obtain ⟨ds, a, xs, rfl, rfl, h3, h4, h5, h6, h7⟩ := p
    obtain ⟨a', xs', b1, b2, b3, b4, b5⟩ := r.own i m ds h3
    rw [h4] at b1
    cases b1
    exact o.rt .new _ _ G' H' s0 ⟨_, xs, ds, rfl, rfl, b3, h5, h6, h7.weak fun _ _ => trivial⟩ q
theorem sd_retF (he : ED X e te) : SD X W (.Return (some e) pos) (dRetF te) := by
  obtain ⟨te', he, se⟩ := he
  refine ⟨_, ps_ret he, fun B G0 G δ σ H DD D r h o => se B G0 G δ σ H _ _ r h fun fl d v G' H' s p q => ?_⟩
  have s0 := r.st.trans s
  cases fl with
  | av l =>
    have p' : Rp X.K (lP B H l) G' v d := p
    cases l with
    | any => exact q.elim
    | mine => exact o.rt .avF d v G' H' s0 p' q
    | fresh => exact o.rt .avF d v G' H' s0 (p'.weak fun a z => r.st.h.free z) q
  | new l =>
    obtain ⟨a, xs, ds, h1, h2, h3, h4, h5, h6⟩ := p
    cases l with
    | any => exact q.elim
    | mine => exact o.rt .newF d v G' H' s0 ⟨a, xs, ds, h1, h2, r.st.h.free h3, h4, h5, h6⟩ q
    | fresh => exact o.rt .newF d v G' H' s0 ⟨a, xs, ds, h1, h2, r.st.h.free h3, h4, h5, h6.weak fun a z => r.st.h.free z⟩ q
  | own i m =>
    obtain ⟨ds, a, xs, rfl, rfl, h3, h4, h5, h6, h7⟩ := p
    obtain ⟨a', xs', b1, b2, b3, b4, b5⟩ := r.own i m ds h3
    rw [h4] at b1
    cases b1
    cases m with
    | true => exact o.rt .newF _ _ G' H' s0 ⟨_, xs, ds, rfl, rfl, b3, h5, h6, h7.weak fun _ z => z rfl⟩ q
    | false => exact q.elim
theorem sd_retN : SD X W (.Return none pos) dRetN := ⟨_, ps_retN, fun B G0 G δ σ H DD D r h o => o.rt .av .none .non G H r.st Rp.non h⟩
theorem sd_if {c : Expr} {a b : List Stmt} {tc : DT} (hc : TD X c tc) (ha : SsD X W a t) (hb : SsD X W b u) : SD X W (.If c a b pos) (dIf tc t u) := by
  obtain ⟨tc', hc, sc⟩ := hc
  obtain ⟨t', ha, sa⟩ := ha
  obtain ⟨u', hb, sb⟩ := hb
  refine ⟨_, ps_if hc ha hb, fun B G0 G δ σ H DD D r h o => sc B G0 G δ σ H _ _ r h fun b G' H' s q => ?_⟩
  cases b with
  | true => exact sa B G0 G' δ σ H' DD D (r.step s) q (o.up s.g)
  | false => exact sb B G0 G' δ σ H' DD D (r.step s) q (o.up s.g)
theorem ss_set {K : PySem.W.Frag} {i : Nat} {te' : TE} (se : Sd K te' te) : Ss K W (tAsg te' (L2.gName i)) (dSet i te) := fun B G0 G δ σ H DD D r h o => se B G0 G δ σ H _ _ r h fun fl d v G' H' s p q => by
  obtain ⟨G2, s2, x2, p2, q2⟩ := p.fix r.st.h s q
  exact o.nx G2 _ _ H' s2.g ((r.step s2).setVal (p2.weak fun _ _ z => nomatch z)) q2
theorem ss_setM {K : PySem.W.Frag} {i : Nat} {te' : TE} (se : Sd K te' te) : Ss K W (tAsg te' (L2.gName i)) (dSetM i te) := fun B G0 G δ σ H DD D r h o => se B G0 G δ σ H _ _ r h fun fl d v G' H' s p q => by
  obtain ⟨G2, s2, x2, p2, q2⟩ := p.fix r.st.h s q
  exact o.nx G2 _ _ H' s2.g ((r.step s2).setVal (p2.weak fun a z _ => (lP_young r.st.h q2 z).1)) (young_get q2)
theorem ss_own' {K : PySem.W.Frag} {i : Nat} {m : Bool} {te' : TE} {te : DE} {kk : Ed → Ds → Fl → PyData → Prop} (hk : ∀ D δ fl d, kk D δ fl d → ∃ l ds, fl = .new l ∧ d = .list ds ∧ (m = true → young l True) ∧ D.nx (put δ i (.own m ds))) (se : Sd K te' te) : Ss K W (tAsg te' (L2.gName i)) (fun D δ => te δ (kk D δ)) := fun B G0 G δ σ H DD D r h o => se B G0 G δ σ H _ _ r h fun fl d v G' H' s p q => by
  obtain ⟨l, ds, rfl, rfl, hm, q⟩ := hk _ _ _ _ q
  obtain ⟨a, xs, ds, rfl, e, h3, h4, h5, h6⟩ := p
  cases e
  refine o.nx G' _ _ H' s.g ((r.step s).setOwn h4 (r.st.h.free h3) h5 (h6.weak fun a z y => (lP_young r.st.h (hm y) z).1) fun j n es hj e z => ?_) q
  obtain ⟨a', ys, b1, b2, b3, b4, b5⟩ := r.own j n es e
  rw [b1] at z
  cases z
  rw [h3] at b4
  cases b4
theorem ss_own {K : PySem.W.Frag} {i : Nat} {te' : TE} (se : Sd K te' te) : Ss K W (tAsg te' (L2.gName i)) (dOwn i te) := ss_own' (m := false) (kk := fun D δ fl d => rOwn fl d fun _ ds => D.nx (put δ i (.own false ds))) (fun D δ fl d q => by
  cases fl with
  | new l =>
    cases d with
    | list ds => exact ⟨l, ds, rfl, rfl, (fun z => nomatch z), q⟩
    | _ => exact q.elim
  | _ => exact q.elim) se
theorem ss_ownM {K : PySem.W.Frag} {i : Nat} {te' : TE} (se : Sd K te' te) : Ss K W (tAsg te' (L2.gName i)) (dOwnM i te) := ss_own' (m := true) (kk := fun D δ fl d => rOwn fl d fun l ds => young l (D.nx (put δ i (.own true ds)))) (fun D δ fl d q => by
  cases fl with
  | new l =>
    cases d with
    | list ds =>
      refine ⟨l, ds, rfl, rfl, fun _ => ?_, young_get q⟩
      cases l with
      | any => exact q.elim
      | mine => trivial
      | fresh => trivial
    | _ => exact q.elim
  | _ => exact q.elim) se
theorem ss_ownA {K : PySem.W.Frag} {i : Nat} {te' : TE} (se : Sd K te' te) : Ss K W (tAsg te' (L2.gName i)) (dOwnA i te) := fun B G0 G δ σ H DD D r h o => se B G0 G δ σ H _ _ r h fun fl d v G' H' s p q => by
  have fin : ∀ {a : Addr} {G2 : Hp} {xs : List V} {ds : List PyData}, Step G H G2 H' → H a = none → G2 a = none → H' a = some (.lst xs) → RpAll K (mP B false) G2 xs ds → DD.nx (put δ i (.own false ds)) → D.nx (σ.set i (some (.ref a))) H' := fun {a G2 xs ds} s h3 h4 h5 h6 q => by
    refine o.nx G2 _ _ H' s.g ((r.step s).setOwn h4 (r.st.h.free h3) h5 h6 fun j n es hj e z => ?_) q
    obtain ⟨a', ys, b1, b2, b3, b4, b5⟩ := r.own j n es e
    rw [b1] at z
    cases z
    rw [h3] at b4
    cases b4
  cases fl with
  | new l =>
    obtain ⟨a, xs, ds, rfl, rfl, h3, h4, h5, h6⟩ := p
    exact fin s h3 h4 h5 (h6.weak fun _ _ z => nomatch z) q
  | av l =>
    cases l with
    | fresh =>
      cases d with
      | list ds =>
        obtain ⟨hn, q⟩ := q
        have p' : Rp K (lP B H .fresh) G' v (.list ds) := p
        cases p' with
        | lst hf hl ra =>
          rename_i a xs
          have hG : G a = none := r.st.i.free hf
          have st : Step G H (out G' a) H' := ⟨fun b ob e => by
            have ne : b ≠ a := fun z => by subst z; rw [hG] at e; cases e
            rw [out_ne ne]; exact s.g b ob e, s.h, fun b ob e => s.i b ob (out_ext b ob e), fun b h1 h2 => by
            by_cases ne : b = a
            · subst ne; exact out_same
            · rw [out_ne ne]; exact s.f b h1 h2⟩
          exact fin st hf out_same (s.i _ _ hl) (RpAll.via (fun d hd {v} z => Rp.noList (out_at hl) (hn d hd) z) ra) q
      | _ => exact q.elim
    | any => exact q.elim
    | mine => exact q.elim
  | own _ _ => exact q.elim
theorem sd_set (i : Nat) {x : Str} {pos' : Pos} (hN : X.N.Nodup) (he : ED X e te) (hi : X.N[i]? = some x := by rfl) (hx : Loc X.env.scope x := by first | exact Or.inl rfl | exact Or.inr rfl) (hs : swapsWith e (some (.Name x pos')) pos.line X.env = pure false := by rfl) (hf : X.fn x = true ∨ X.env.scope.names.lookup x = some .local := by first | exact .inl rfl | exact .inr rfl) :
    SD X W (.Assign [.Name x pos'] e pos) (dSet i te) := by
  obtain ⟨te', he, se⟩ := he
  exact ⟨_, ps_set hN hi hx he hs hf, ss_set se⟩
theorem sd_setM (i : Nat) {x : Str} {pos' : Pos} (hN : X.N.Nodup) (he : ED X e te) (hi : X.N[i]? = some x := by rfl) (hx : Loc X.env.scope x := by first | exact Or.inl rfl | exact Or.inr rfl) (hs : swapsWith e (some (.Name x pos')) pos.line X.env = pure false := by rfl) (hf : X.fn x = true ∨ X.env.scope.names.lookup x = some .local := by first | exact .inl rfl | exact .inr rfl) :
    SD X W (.Assign [.Name x pos'] e pos) (dSetM i te) := by
  obtain ⟨te', he, se⟩ := he
  exact ⟨_, ps_set hN hi hx he hs hf, ss_setM se⟩
theorem sd_own (i : Nat) {x : Str} {pos' : Pos} (hN : X.N.Nodup) (he : ED X e te) (hi : X.N[i]? = some x := by rfl) (hx : Loc X.env.scope x := by first | exact Or.inl rfl | exact Or.inr rfl) (hs : swapsWith e (some (.Name x pos')) pos.line X.env = pure false := by rfl) (hf : X.fn x = true ∨ X.env.scope.names.lookup x = some .local := by first | exact .inl rfl | exact .inr rfl) :
    SD X W (.Assign [.Name x pos'] e pos) (dOwn i te) := by
  obtain ⟨te', he, se⟩ := he
  exact ⟨_, ps_set hN hi hx he hs hf, ss_own se⟩
theorem sd_ownA (i : Nat) {x : Str} {pos' : Pos} (hN : X.N.Nodup) (he : ED X e te) (hi : X.N[i]? = some x := by rfl) (hx : Loc X.env.scope x := by first | exact Or.inl rfl | exact Or.inr rfl) (hs : swapsWith e (some (.Name x pos')) pos.line X.env = pure false := by rfl) (hf : X.fn x = true ∨ X.env.scope.names.lookup x = some .local := by first | exact .inl rfl | exact .inr rfl) :
    SD X W (.Assign [.Name x pos'] e pos) (dOwnA i te) := by
  obtain ⟨te', he, se⟩ := he
  exact ⟨_, ps_set hN hi hx he hs hf, ss_ownA se⟩
theorem sd_ownM (i : Nat) {x : Str} {pos' : Pos} (hN : X.N.Nodup) (he : ED X e te) (hi : X.N[i]? = some x := by rfl) (hx : Loc X.env.scope x := by first | exact Or.inl rfl | exact Or.inr rfl) (hs : swapsWith e (some (.Name x pos')) pos.line X.env = pure false := by rfl) (hf : X.fn x = true ∨ X.env.scope.names.lookup x = some .local := by first | exact .inl rfl | exact .inr rfl) :
    SD X W (.Assign [.Name x pos'] e pos) (dOwnM i te) := by
  obtain ⟨te', he, se⟩ := he
  exact ⟨_, ps_set hN hi hx he hs hf, ss_ownM se⟩
theorem sd_asg {tg : Expr} {vs : List Nat} {g : DG} (he : ED X e te) (hg : GD X vs tg g) (hs : swapsWithSole [tg] e pos.line X.env = pure false := by rfl) (hw : swappedStores [tg] e X.env = pure none := by rfl)
    (h1 : (assignEach [tg] X.env).map (·.2) = [assign tg X.env] := by rfl) : SD X W (.Assign [tg] e pos) (dAsg te g) := by
  obtain ⟨te', he, se⟩ := he
  obtain ⟨tg', hg, sg⟩ := hg
  refine ⟨_, ps_asg he hg hs hw h1, fun B G0 G δ σ H DD D r h o => se B G0 G δ σ H _ _ r h fun fl d v G' H' s p q => ?_⟩
  obtain ⟨G2, s2, x2, p2, q2⟩ := p.fix r.st.h s q
  exact sg B G0 G2 H δ σ H' fl.lv v d _ _ (r.step s2) r.st.h p2 q2 fun δ' σ' r' _ q' => o.nx G2 δ' σ' H' s2.g r' q'
/-- from here on the list of slot i stays -/
theorem sd_frz (i : Nat) (h : SD X W st t) : SD X W st (dFrz i t) := by
  obtain ⟨t', h, s⟩ := h
  refine ⟨t', h, fun B G0 G δ σ H DD D r h o => ?_⟩
  unfold dFrz at h
  cases e : look δ i with
  | own m ds =>
    rw [e] at h
    obtain ⟨p, xs, h1, h2, h3, h4, h5, r', x⟩ := r.freeze (m' := m) (fun z => z) (show ownL (look δ i) = some (m, ds) by rw [e]; rfl)
    exact s B G0 _ _ σ H DD D r' h (o.up x)
  | par _ _ => rw [e] at h; exact s B G0 G δ σ H DD D r h o
  | val m d => rw [e] at h; exact s B G0 G δ σ H DD D r h o
  | old d => rw [e] at h; exact s B G0 G δ σ H DD D r h o
  | non => rw [e] at h; exact s B G0 G δ σ H DD D r h o
theorem own_at {δ : Ds} {i : Nat} {k : Bool → List PyData → Prop} (h : ownAt δ i k) : ∃ m ds, ownL (look δ i) = some (m, ds) ∧ k m ds := by
  unfold ownAt at h
  cases e : look δ i with
  | own m ds => rw [e] at h; exact ⟨m, ds, rfl, h⟩
  | par k ds => rw [e] at h; exact ⟨false, ds, rfl, h⟩
  | val m d => rw [e] at h; exact h.elim
  | old d => rw [e] at h; exact h.elim
  | non => rw [e] at h; exact h.elim
theorem fit_rp {K : PySem.W.Frag} {B Hs G : Hp} {m : Bool} {l : Lv} {v : V} {d : PyData} {P : Prop} (x : Ext B Hs) (p : Rp K (lP B Hs l) G v d) (h : fit m l P) : Rp K (mP B m) G v d ∧ P := by
  cases m with
  | true => exact ⟨p.weak fun a z _ => (lP_young x h z).1, young_get h⟩
  | false => exact ⟨p.weak fun a z y => (nomatch y), h⟩
/-- x[i] = e of an own list -/
theorem sd_setIx (i : Nat) {x : Str} {ix : Expr} {ti : DE} {pos' pos2 : Pos} (he : ED X e te) (hx : PE X (.Name x pos') (tVar i)) (hix : ED X ix ti)
    (ha : ∀ v, assign (.Subscript (.Name x pos') ix pos2) X.env v = (do
      let ov ← holding [v] (eval (.Name x pos') X.env)
      let iv ← holding [v, ov] (eval ix X.env)
      standAt pos2
      holding [v, ov, iv] (setItem ov iv v)
      release [v, ov, iv] []) := by intro _; rfl)
    (hs : swapsWithSole [.Subscript (.Name x pos') ix pos2] e pos.line X.env = pure false := by rfl) (hw : swappedStores [.Subscript (.Name x pos') ix pos2] e X.env = pure none := by rfl)
    (h1 : (assignEach [.Subscript (.Name x pos') ix pos2] X.env).map (·.2) = [assign (.Subscript (.Name x pos') ix pos2) X.env] := by rfl) : SD X W (.Assign [.Subscript (.Name x pos') ix pos2] e pos) (dSetIx i te ti) := by
  obtain ⟨te', he, se⟩ := he
  obtain ⟨ti', hi, si⟩ := hix
  refine ⟨_, ps_asg he (pg_sub hx hi set_list ha) hs hw h1, fun B G0 G δ σ H DD D r h o => se B G0 G δ σ H _ _ r h fun fl d v G' H' s p q => ?_⟩
  obtain ⟨G2, s2, x2, p2, q2⟩ := p.fix r.st.h s q
  have r2 := r.step s2
  obtain ⟨m, ds, e, q2⟩ := own_at q2
  obtain ⟨p3', q2⟩ := fit_rp r.st.h p2 q2
  obtain ⟨a, xs, b1, b2, b3, b4, b5⟩ := r2.own i m ds e
  refine ⟨.ref a, b1, si B G0 G2 δ σ H' _ _ r2 q2 fun fl3 y w G3 H3 s3 p3 q3 => ?_⟩
  have r3 := r2.step s3
  cases y with
  | int k =>
    obtain ⟨j, hj, q3⟩ := q3
    have c4 : H3 a = some (.lst xs) := s3.h _ _ b4
    refine ⟨a, xs, k, j, rfl, rep_int p3, c4, by rw [b5.length]; exact hj, ?_⟩
    exact o.nx G3 _ _ _ (s2.g.trans s3.g) (r3.write e b1 ((b5.mono s3.g).set (p3'.mono s3.g) j)) q3
  | _ => exact q3.elim
/-- x.append(e) of an own list -/
theorem sd_app (i : Nat) {x : Str} {pos1 pos2 pos3 : Pos} (hx : PE X (.Name x pos1) (tVar i)) (he : ED X e te) (hs : swapsWith (.Call (.Attribute (.Name x pos1) "append" pos2) [e] [] pos3) none pos.line X.env = pure false := by rfl)
    (hbase : attributeBase (.Name x pos1) "append" X.env (eval (.Name x pos1) X.env) = eval (.Name x pos1) X.env := by rfl)
    (hfew : ((backTo pos3 (starEach [e] X.env)).all (fun x => !x.1) && (backToKw pos3 (keywordEach [] X.env)).all (fun x => x.1.isSome) && decide ([e].length + ([] : List Keyword).length + (if ([] : List Keyword).isEmpty then 0 else 1) < 30)) = true := by rfl)
    (hline : (pos2.endLine == pos3.line) = true := by rfl) (hse : starEach [e] X.env = [(false, eval e X.env)] := by rfl) (hpl : (backTo pos3 (starEach [] X.env)).any (·.1) = false := by rfl) :
    SD X W (.Expr (.Call (.Attribute (.Name x pos1) "append" pos2) [e] [] pos3) pos) (dApp i te) := by
  obtain ⟨te', he, se⟩ := he
  refine ⟨_, ps_expr (pe_bm PySem.F.plainAttrs_list PySem.F.slot_list_append PySem.F.type_list_append mt_append hx (pa_cons he pa_nil hse) hbase hfew hline hse hpl) hs, fun B G0 G δ σ H DD D r h o => ?_⟩
  obtain ⟨m, ds, q, h⟩ := own_at h
  obtain ⟨a, xs, b1, b2, b3, b4, b5⟩ := r.own i m ds q
  refine ⟨.ref a, b1, .inl ⟨rfl, xs, .of b4⟩, se B G0 G δ σ H _ _ r h fun fl d v G' H' s p h => ?_⟩
  obtain ⟨G2, s2, x2, p2, q2⟩ := p.fix r.st.h s h
  obtain ⟨p2, q2⟩ := fit_rp r.st.h p2 q2
  have b4' : H' a = some (.lst xs) := s2.h _ _ b4
  refine ⟨a, xs, v, rfl, rfl, b4', by rw [b5.length]; exact q2.1, ?_⟩
  exact o.nx G2 _ _ _ s2.g ((r.step s2).write q b1 ((b5.mono s2.g).append (.cons p2 .nil))) q2.2
theorem sd_ext (i : Nat) {x : Str} {pos1 pos2 pos3 : Pos} (hx : PE X (.Name x pos1) (tVar i)) (he : ED X e te) (hs : swapsWith (.Call (.Attribute (.Name x pos1) "extend" pos2) [e] [] pos3) none pos.line X.env = pure false := by rfl)
    (hbase : attributeBase (.Name x pos1) "extend" X.env (eval (.Name x pos1) X.env) = eval (.Name x pos1) X.env := by rfl)
    (hfew : ((backTo pos3 (starEach [e] X.env)).all (fun x => !x.1) && (backToKw pos3 (keywordEach [] X.env)).all (fun x => x.1.isSome) && decide ([e].length + ([] : List Keyword).length + (if ([] : List Keyword).isEmpty then 0 else 1) < 30)) = true := by rfl)
    (hline : (pos2.endLine == pos3.line) = true := by rfl) (hse : starEach [e] X.env = [(false, eval e X.env)] := by rfl) (hpl : (backTo pos3 (starEach [] X.env)).any (·.1) = false := by rfl) :
    SD X W (.Expr (.Call (.Attribute (.Name x pos1) "extend" pos2) [e] [] pos3) pos) (dExt i te) := by
  obtain ⟨te', he, se⟩ := he
  refine ⟨_, ps_expr (pe_bm PySem.F.plainAttrs_list PySem.F.slot_list_extend PySem.F.type_list_extend mt_extend hx (pa_cons he pa_nil hse) hbase hfew hline hse hpl) hs, fun B G0 G δ σ H DD D r h o => ?_⟩
  obtain ⟨m, ds, q, h⟩ := own_at h
  obtain ⟨a, xs, b1, b2, b3, b4, b5⟩ := r.own i m ds q
  refine ⟨.ref a, b1, .inl ⟨rfl, xs, .of b4⟩, se B G0 G δ σ H _ _ r h fun fl d v G' H' s p h => ?_⟩
  obtain ⟨G2, s2, x2, p2, q2⟩ := p.fix r.st.h s h
  obtain ⟨p2, q2⟩ := fit_rp r.st.h p2 q2
  have b4' : H' a = some (.lst xs) := s2.h _ _ b4
  cases d with
  | list es =>
    cases p2 with
    | lst _ hl ra =>
      refine ⟨a, _, xs, _, rfl, rfl, b4', s2.i _ _ hl, by rw [b5.length, ra.length]; exact q2.1, ?_⟩
      exact o.nx G2 _ _ _ s2.g ((r.step s2).write q b1 ((b5.mono s2.g).append ra)) q2.2
  | _ => exact q2.elim
theorem sd_rev (i : Nat) {x : Str} {pos1 pos2 pos3 : Pos} (hx : PE X (.Name x pos1) (tVar i)) (hs : swapsWith (.Call (.Attribute (.Name x pos1) "reverse" pos2) [] [] pos3) none pos.line X.env = pure false := by rfl)
    (hbase : attributeBase (.Name x pos1) "reverse" X.env (eval (.Name x pos1) X.env) = eval (.Name x pos1) X.env := by rfl) (hline : (pos2.endLine == pos3.line) = true := by rfl) :
    SD X W (.Expr (.Call (.Attribute (.Name x pos1) "reverse" pos2) [] [] pos3) pos) (dRev i) := by
  refine ⟨_, ps_expr (pe_bm0 PySem.F.plainAttrs_list PySem.F.slot_list_reverse PySem.F.type_list_reverse mt_reverse hx hbase hline) hs, fun B G0 G δ σ H DD D r h o => ?_⟩
  obtain ⟨m, ds, q, h⟩ := own_at h
  obtain ⟨a, xs, b1, b2, b3, b4, b5⟩ := r.own i m ds q
  refine ⟨.ref a, b1, .inl ⟨rfl, xs, .of b4⟩, a, xs, rfl, rfl, b4, ?_⟩
  exact o.nx G _ _ _ (Ext.refl _) (r.write q b1 b5.reverse) h

/-! ### loops -/
theorem go_list {K : PySem.W.Frag} {tg' : TG} {tb' : TS} {g : DG} {tb : DS} {vs : List Nat} (sg : Sg K vs tg' g) (sb : Ss K W tb' tb) {B : Bg} {G0 G : Hp} {δ : Ds} {σ : L2.St} {H : Hp} {DD : Ed} {D : Ends} {xs : List V} {ds : List PyData} (J : It)
    (hgo : ∀ i H', Ext G H' → i < xs.length → J.go i H') (hst : ∀ i H', Ext G H' → xs.length ≤ i → J.stop i H') (hy : ∀ i H1 x H2, Ext G H1 → J.yld i H1 x H2 → i < xs.length → H2 = H1 ∧ xs[i]? = some x)
    {l : Lv} {Hs : Hp} (xb : Ext B Hs) (ra : RpAll K (lP B Hs l) G xs ds) (r : Rl K B G0 G δ σ H) (o : EdOk K W B G0 G DD D) (h : forGo l g tb ds DD δ) :
    ∃ W : Nat → Nat → L2.St → Hp → Prop, (∃ m, W 0 m σ H) ∧ ∀ i m σ H, W i m σ H → (J.stop i H ∧ D.nx σ H) ∨ (J.go i H ∧ ∃ N : L2.St → Hp → Prop, (∀ σ' H', N σ' H' → ∃ m', m' < m ∧ W (i + 1) m' σ' H') ∧
      ∀ x H', J.yld i H x H' → tg' x σ H' fun σ2 H2 => tb' { D with nx := N, ct := N, bk := D.nx } σ2 H2) := by
  refine ⟨fun i m σ' H' => i + m = ds.length ∧ ∃ G' δ', Ext G G' ∧ Rl K B G0 G' δ' σ' H' ∧ forGo l g tb (ds.drop i) DD δ', ⟨ds.length, by omega, G, δ, Ext.refl _, r, h⟩, ?_⟩
  rintro i m σ1 H1 ⟨em, G1, δ1, x1, r1, h1⟩
  by_cases hi : i < ds.length
  · have e : ds.drop i = ds[i] :: ds.drop (i + 1) := List.drop_eq_getElem_cons hi
    rw [e] at h1
    refine .inr ⟨hgo i H1 (x1.trans r1.st.i) (by rw [ra.length]; exact hi), fun σ' H' => i + 1 + (m - 1) = ds.length ∧ ∃ G' δ', Ext G G' ∧ Rl K B G0 G' δ' σ' H' ∧ forGo l g tb (ds.drop (i + 1)) DD δ', fun σ' H' n => ⟨m - 1, by omega, n⟩, fun x H' y => ?_⟩
    obtain ⟨rfl, ex⟩ := hy i H1 x H' (x1.trans r1.st.i) y (by rw [ra.length]; exact hi)
    obtain ⟨v, ev, rv⟩ := ra.get (List.getElem?_eq_getElem hi)
    rw [ex] at ev
    cases ev
    refine sg B G0 G1 Hs δ1 σ1 _ l _ _ _ _ r1 xb (rv.mono x1) h1 fun δ2 σ2 r2 _ h2 => ?_
    refine sb B G0 G1 δ2 σ2 _ _ _ r2 h2 ⟨fun G' δ' σ' H' x' r' q => ?_, fun G' δ' σ' H' x' r' q => ?_, fun G' δ' σ' H' x' r' q => ?_, o.rt, (o.up x1).rp, (o.up x1).ex⟩
    · exact ⟨by omega, G', δ', x1.trans x', r', q⟩
    · exact o.nx G' δ' σ' H' (x1.trans x') r' q
    · exact ⟨by omega, G', δ', x1.trans x', r', q⟩
  · have e : ds.drop i = [] := List.drop_eq_nil_of_le (by omega)
    rw [e] at h1
    exact .inl ⟨hst i H1 (x1.trans r1.st.i) (by rw [ra.length]; omega), o.nx G1 δ1 σ1 H1 x1 r1 h1⟩
theorem it_list {K : PySem.W.Frag} {F : Addr → Prop} {G : Hp} {v : V} {d : PyData} {k : List PyData → Prop} (p : Rp K F G v d) (h : itL d k) : ∃ a xs ds, v = .ref a ∧ SqL K G a xs ∧ RpAll K F G xs ds ∧ k ds := by
  cases d with
  | list ds =>
    cases p with
    | lst _ hl ra => exact ⟨_, _, ds, rfl, .of hl, ra, h⟩
  | dict kvs =>
    cases p with
    | scr hl =>
      rename_i a ns
      have ra : RpAll K F G (ns.map V.int) ((ns.map fun n => (PyData.int n, PyData.none)).map (·.1)) := by
        rw [List.map_map]
        exact RpAll.of_ints ns
      exact ⟨a, _, _, rfl, hl, ra, h⟩
  | _ => exact h.elim
theorem it_tup {K : PySem.W.Frag} {F : Addr → Prop} {G : Hp} {v : V} {d : PyData} {k : List PyData → Prop} (p : Rp K F G v d) (h : itT d k) : ∃ a xs ds, v = .ref a ∧ SqT K G a xs ∧ RpAll K F G xs ds ∧ k ds := by
  cases d with
  | tuple ds =>
    cases p with
    | tup hl ra => exact ⟨_, _, ds, rfl, hl, ra, h⟩
  | _ => exact h.elim
theorem ss_forL {K : PySem.W.Frag} {tl' : TE} {tl : DE} {tg' : TG} {tb' : TS} {g : DG} {tb : DS} {vs : List Nat} (sl : Sd K tl' tl) (sg : Sg K vs tg' g) (sb : Ss K W tb' tb) : Ss K W (tFor (iList K tl') tg' tb') (dForL tl g tb) := fun B G0 G δ σ H DD D r h o => sl B G0 G δ σ H _ _ r h fun fl d v G1 H1 s1 p1 q1 => by
  obtain ⟨G2, s2, x2, p2, q2⟩ := p1.fix r.st.h s1 q1
  obtain ⟨a, xs, ds, rfl, hl, ra, q⟩ := it_list p2 q2
  exact ⟨a, rfl, ⟨xs, s2.i.sl hl⟩, go_list sg sb (Itl K a) (fun i H' x hi => ⟨xs, xs[i], x.sl hl, List.getElem?_eq_getElem hi⟩) (fun i H' x hi => ⟨xs, x.sl hl, hi⟩) (fun i H1 y H2 x hy hi => ⟨hy.1, hy.2 xs (x.sl hl)⟩) r.st.h ra (r.step s2) (o.up s2.g) q⟩
theorem ss_forT {K : PySem.W.Frag} {tl' : TE} {tl : DE} {tg' : TG} {tb' : TS} {g : DG} {tb : DS} {vs : List Nat} (sl : Sd K tl' tl) (sg : Sg K vs tg' g) (sb : Ss K W tb' tb) : Ss K W (tFor (iTup K tl') tg' tb') (dForT tl g tb) := fun B G0 G δ σ H DD D r h o => sl B G0 G δ σ H _ _ r h fun fl d v G1 H1 s1 p1 q1 => by
  obtain ⟨G2, s2, x2, p2, q2⟩ := p1.fix r.st.h s1 q1
  obtain ⟨a, xs, ds, rfl, hl, ra, q⟩ := it_tup p2 q2
  exact ⟨a, rfl, ⟨xs, s2.i.st hl⟩, go_list sg sb (Itt K a) (fun i H' x hi => ⟨xs, xs[i], x.st hl, List.getElem?_eq_getElem hi⟩) (fun i H' x hi => ⟨xs, x.st hl, hi⟩) (fun i H1 y H2 x hy hi => ⟨hy.1, hy.2 xs (x.st hl)⟩) r.st.h ra (r.step s2) (o.up s2.g) q⟩
theorem upTo_rp {K : PySem.W.Frag} {F : Addr → Prop} {G : Hp} (lo : Int) (n : Nat) : RpAll K F G ((List.range n).map fun (k : Nat) => V.int (lo + (k : Int))) (upTo lo n) := by
  have h := RpAll.of_ints (K := K) (F := F) (H := G) ((List.range n).map fun (k : Nat) => lo + (k : Int))
  rw [List.map_map, List.map_map] at h
  exact h
theorem go_range {K : PySem.W.Frag} {tg' : TG} {tb' : TS} {g : DG} {tb : DS} {vs : List Nat} (sg : Sg K vs tg' g) (sb : Ss K W tb' tb) {B : Bg} {G0 G : Hp} {δ : Ds} {σ : L2.St} {H : Hp} {DD : Ed} {D : Ends} (lo : Int) (n : Nat)
    (r : Rl K B G0 G δ σ H) (o : EdOk K W B G0 G DD D) (h : forGo .fresh g tb (upTo lo n) DD δ) :
    ∃ W : Nat → Nat → L2.St → Hp → Prop, (∃ m, W 0 m σ H) ∧ ∀ i m σ H, W i m σ H → ((Itr lo n).stop i H ∧ D.nx σ H) ∨ ((Itr lo n).go i H ∧ ∃ N : L2.St → Hp → Prop, (∀ σ' H', N σ' H' → ∃ m', m' < m ∧ W (i + 1) m' σ' H') ∧
      ∀ x H', (Itr lo n).yld i H x H' → tg' x σ H' fun σ2 H2 => tb' { D with nx := N, ct := N, bk := D.nx } σ2 H2) := by
  refine go_list sg sb (Itr lo n) (fun i H' _ hi => ?_) (fun i H' _ hi => ?_) (fun i H1 x H2 _ hy hi => ?_) (Hs := H) r.st.h (upTo_rp lo n) r o h
  · rw [List.length_map, List.length_range] at hi
    exact hi
  · rw [List.length_map, List.length_range] at hi
    exact hi
  · rw [List.length_map, List.length_range] at hi
    refine ⟨hy.1, ?_⟩
    rw [List.getElem?_map, List.getElem?_range hi, hy.2]
    rfl
variable {X : Cx} {tg iter a b c : Expr} {body : List Stmt} {tb : DS} {g : DG} {tl ta tc : DE} {t : DT} {vs : List Nat} {pos : Pos}
theorem sd_forL (hp : PassesOwn (model X.prog X.w) X.A X.env X.xe) (hc : X.calm = true) (hi : ED X iter tl) (hg : GD X vs tg g) (hb : SsD X W body tb) (hs : ∀ x, foldedSetIterable iter X.env x = pure x := by intro _; rfl) : SD X W (.For tg iter body [] pos) (dForL tl g tb) := by
  obtain ⟨tl', hi, sl⟩ := hi
  obtain ⟨tg', hg, sg⟩ := hg
  obtain ⟨tb', hb, sb⟩ := hb
  exact ⟨_, ps_for hp hc (pi_list hi) hg hb hs, ss_forL sl sg sb⟩
theorem sd_forT (hp : PassesOwn (model X.prog X.w) X.A X.env X.xe) (hc : X.calm = true) (hi : ED X iter tl) (hg : GD X vs tg g) (hb : SsD X W body tb) (hs : ∀ x, foldedSetIterable iter X.env x = pure x := by intro _; rfl) : SD X W (.For tg iter body [] pos) (dForT tl g tb) := by
  obtain ⟨tl', hi, sl⟩ := hi
  obtain ⟨tg', hg, sg⟩ := hg
  obtain ⟨tb', hb, sb⟩ := hb
  exact ⟨_, ps_for hp hc (pi_tup hi) hg hb hs, ss_forT sl sg sb⟩
theorem sd_forR1 {p pos2 : Pos} (hp : PassesOwn (model X.prog X.w) X.A X.env X.xe) (hc : X.calm = true) (hgl : Gl X "range") (hm : X.mg "range" = none) (ha : ED X a ta) (hg : GD X vs tg g) (hb : SsD X W body tb)
    (hst : starEach [a] X.env = [(false, eval a X.env)] := by rfl) (hs : ∀ x, foldedSetIterable (.Call (.Name "range" p) [a] [] pos2) X.env x = pure x := by intro _; rfl) : SD X W (.For tg (.Call (.Name "range" p) [a] [] pos2) body [] pos) (dForR1 ta g tb) := by
  obtain ⟨ta', ha, sa⟩ := ha
  obtain ⟨tg', hg, sg⟩ := hg
  obtain ⟨tb', hb, sb⟩ := hb
  refine ⟨_, ps_for hp hc (pi_range1 hgl hm (pa_cons ha pa_nil hst) hst) hg hb hs, fun B G0 G δ σ H DD D r h o => sa B G0 G δ σ H _ _ r h fun fl d v G1 H1 s1 p1 q1 => ?_⟩
  cases d with
  | int n => exact ⟨n, by rw [rep_int p1], q1.1.1, q1.1.2, go_range sg sb 0 n.toNat (r.step s1) (o.up s1.g) q1.2⟩
  | _ => exact q1.elim
theorem sd_forR2 {p pos2 : Pos} (hp : PassesOwn (model X.prog X.w) X.A X.env X.xe) (hc : X.calm = true) (hgl : Gl X "range") (hm : X.mg "range" = none) (ha : ED X a ta) (hb2 : ED X b tc) (hg : GD X vs tg g) (hb : SsD X W body tb)
    (hst : starEach [a, b] X.env = [(false, eval a X.env), (false, eval b X.env)] := by rfl) (hst2 : starEach [b] X.env = [(false, eval b X.env)] := by rfl) (hs : ∀ x, foldedSetIterable (.Call (.Name "range" p) [a, b] [] pos2) X.env x = pure x := by intro _; rfl) :
    SD X W (.For tg (.Call (.Name "range" p) [a, b] [] pos2) body [] pos) (dForR2 ta tc g tb) := by
  obtain ⟨ta', ha, sa⟩ := ha
  obtain ⟨tc', hb2, sc⟩ := hb2
  obtain ⟨tg', hg, sg⟩ := hg
  obtain ⟨tb', hb, sb⟩ := hb
  refine ⟨_, ps_for hp hc (pi_range2 hgl hm (pa_cons ha (pa_cons hb2 pa_nil hst2) (by rw [hst, hst2])) hst hst2) hg hb hs, fun B G0 G δ σ H DD D r h o => sa B G0 G δ σ H _ _ r h fun fl d v G1 H1 s1 p1 q1 => sc B G0 G1 δ σ H1 _ _ (r.step s1) q1 fun fl2 d2 v2 G2 H2 s2 p2 q2 => ?_⟩
  cases d with
  | int m =>
    cases d2 with
    | int n => exact ⟨m, n, by rw [rep_int p1, rep_int p2], ⟨q2.1.1, q2.1.2, q2.2.1.1, q2.2.1.2⟩, go_range sg sb m (n - m).toNat ((r.step s1).step s2) ((o.up s1.g).up s2.g) q2.2.2⟩
    | _ => exact q2.elim
  | _ => exact q2.elim
theorem sd_while (hp : PassesOwn (model X.prog X.w) X.A X.env X.xe) (hc : TD X c t) (hb : SsD X W body tb) : SD X W (.While c body [] pos) (dWhile t tb) := by
  obtain ⟨tc', hc, sc⟩ := hc
  obtain ⟨tb', hb, sb⟩ := hb
  refine ⟨_, ps_while hp hc hb, fun B G0 G δ σ H DD D r h o => ?_⟩
  obtain ⟨W, ⟨m0, w0⟩, turn⟩ := h
  refine ⟨fun m σ' H' => ∃ G' δ', Ext G G' ∧ Rl X.K B G0 G' δ' σ' H' ∧ W m δ', ⟨m0, G, δ, Ext.refl _, r, w0⟩, ?_⟩
  rintro m σ1 H1 ⟨G1, δ1, x1, r1, w1⟩
  refine sc B G0 G1 δ1 σ1 H1 _ _ r1 (turn m δ1 w1) fun b G2 H2 s2 q2 => ?_
  cases b with
  | true =>
    obtain ⟨N, hN, q2⟩ := q2
    refine ⟨fun σ' H' => ∃ G' δ', Ext G G' ∧ Rl X.K B G0 G' δ' σ' H' ∧ N δ', fun σ' H' ⟨G', δ', x', r', n⟩ => ?_, ?_⟩
    · obtain ⟨m', hm, w'⟩ := hN δ' n
      exact ⟨m', hm, G', δ', x', r', w'⟩
    · exact sb B G0 G2 δ1 σ1 H2 _ _ (r1.step s2) q2 ⟨fun G' δ' σ' H' x' r' q => ⟨G', δ', (x1.trans s2.g).trans x', r', q⟩, fun G' δ' σ' H' x' r' q => o.nx G' δ' σ' H' ((x1.trans s2.g).trans x') r' q,
        fun G' δ' σ' H' x' r' q => ⟨G', δ', (x1.trans s2.g).trans x', r', q⟩, o.rt, (o.up (x1.trans s2.g)).rp, (o.up (x1.trans s2.g)).ex⟩
  | false => exact o.nx G2 δ1 σ1 H2 (x1.trans s2.g) (r1.step s2) q2

/-! ### comprehensions -/
/-- the age of a comprehension's items -/
def fP (H : Hp) (f : Bool) (a : Addr) : Prop := f = true → H a = none
theorem ok_get {f : Bool} {k : Lv} {p : Prop} (h : okF f k p) : p := by
  cases f with
  | false => exact h
  | true =>
    cases k with
    | fresh => exact h
    | _ => exact h.elim
theorem ok_fP {B H Hs : Hp} {f : Bool} {k : Lv} {p : Prop} {a : Addr} (x : Ext H Hs) (h : okF f k p) (z : lP B Hs k a) : fP H f a := by
  cases f with
  | false => exact fun y => nomatch y
  | true =>
    cases k with
    | fresh => exact fun _ => x.free z
    | _ => exact h.elim
theorem fP_cL {B Hs : Hp} {f : Bool} {a : Addr} (h : fP Hs f a) : lP B Hs (cL f) a := by
  cases f with
  | false => exact trivial
  | true => exact h rfl
theorem go_lc {K : PySem.W.Frag} {tg' : TG} {tt' : TT} {te' : TE} {f : Bool} {g : DG} {tt : DT} {te : DE} {vs : List Nat} (sg : Sg K vs tg' g) (st : SdT K tt' tt) (se : Sd K te' te) {B : Bg} {G0 G1 Hs : Hp} {δ : Ds} {σ : L2.St} {H1 : Hp} {Q : L2.VK} {QQ : List PyData → Prop} {l : Lv} {xs : List V} {ds : List PyData} (J : It) {Dl : Addr}
    (hgo : ∀ i H', Ext H1 H' → i < xs.length → J.go i H') (hst : ∀ i H', Ext H1 H' → xs.length ≤ i → J.stop i H') (hy : ∀ i H1' x H2, Ext H1 H1' → J.yld i H1' x H2 → i < xs.length → H2 = H1' ∧ xs[i]? = some x)
    (xb : Ext B Hs) (x1 : Ext Hs H1) (ra : RpAll K (lP B Hs l) G1 xs ds) (r : Rl K B G0 G1 δ σ H1) (hD : H1 Dl = none) (h : lcGo f l g tt te (DL.wipe δ vs) ds [] QQ)
    (k : ∀ rs us G' H', Step G1 H1 G' H' → G' Dl = none → H' Dl = some (.lst us) → RpAll K (fP Hs f) G' us rs → QQ rs → Q (.ref Dl) H') :
    ∃ W : Nat → Nat → Hp → Prop, (∃ m, W 0 m (upd H1 Dl (.lst []))) ∧ ∀ i m H, W i m H → (J.stop i H ∧ Q (.ref Dl) H) ∨ (J.go i H ∧ ∃ Nx : Hp → Prop, (∀ H', Nx H' → ∃ m', m' < m ∧ W (i + 1) m' H') ∧
      ∀ x H', J.yld i H x H' → tg' x (L2.wipe σ vs) H' fun σ2 H2 => L2.wipe σ2 vs = L2.wipe σ vs ∧ tt' σ2 H2 fun b H3 =>
        if b = true then te' σ2 H3 fun y H4 => ∃ acc, H4 Dl = some (.lst acc) ∧ acc.length < sizeLine ∧ Nx (upd H4 Dl (.lst (acc ++ [y]))) else Nx H3) := by
  have hG : G1 Dl = none := r.st.i.free hD
  refine ⟨fun i m H' => i + m = ds.length ∧ ∃ G' us rs, Step G1 H1 G' H' ∧ G' Dl = none ∧ H' Dl = some (.lst us) ∧ RpAll K (fP Hs f) G' us rs ∧ lcGo f l g tt te (DL.wipe δ vs) (ds.drop i) rs QQ,
    ⟨ds.length, by omega, G1, [], [], Step.lay r.st.i hD, hG, upd_same, .nil, h⟩, ?_⟩
  rintro i m H2 ⟨em, G2, us, rs, s2, g2, hd2, ru, h2⟩
  by_cases hi : i < ds.length
  · have e : ds.drop i = ds[i] :: ds.drop (i + 1) := List.drop_eq_getElem_cons hi
    rw [e] at h2
    refine .inr ⟨hgo i H2 s2.h (by rw [ra.length]; exact hi), fun H' => ∃ G' us rs, Step G1 H1 G' H' ∧ G' Dl = none ∧ H' Dl = some (.lst us) ∧ RpAll K (fP Hs f) G' us rs ∧ lcGo f l g tt te (DL.wipe δ vs) (ds.drop (i + 1)) rs QQ, fun H' n => ⟨m - 1, by omega, by omega, n⟩, fun x H' y => ?_⟩
    obtain ⟨rfl, ex⟩ := hy i H2 x H' s2.h y (by rw [ra.length]; exact hi)
    obtain ⟨v, ev, rv⟩ := ra.get (List.getElem?_eq_getElem hi)
    rw [ex] at ev
    cases ev
    have r2 := (r.wiped vs).step s2
    refine sg B G0 G2 Hs _ _ _ l _ _ _ _ r2 xb (rv.mono s2.g) h2 fun δ3 σ3 r3 o3 h3 => ⟨?_, ?_⟩
    · rw [o3.wipe]
      apply List.ext_getElem?
      intro j
      rw [wipe_get, wipe_get, L2.wipe_length]
      split <;> rfl
    · refine st B G0 G2 δ3 σ3 _ _ _ r3 h3 fun b G4 H4 s4 h4 => ?_
      have hd4 : H4 Dl = some (.lst us) := s4.h _ _ hd2
      have g4 : G4 Dl = none := s4.f _ g2 (by rw [hd2]; exact fun e => nomatch e)
      cases b with
      | true =>
        have r4 := r3.step s4
        refine se B G0 G4 δ3 σ3 H4 _ _ r4 h4 fun fl d w G5 H5 s5 p5 h5 => ?_
        obtain ⟨G6, s6, x6, p6, h6⟩ := p5.fix r4.st.h s5 h5
        have hd6 : H5 Dl = some (.lst us) := s6.h _ _ hd4
        have g6 : G6 Dl = none := s6.f _ g4 (by rw [hd4]; exact fun e => nomatch e)
        have sA := (s2.trans s4).trans s6
        have h7 := ok_get h6
        refine ⟨us, hd6, by rw [ru.length]; exact h7.1, G6, us ++ [w], rs ++ [d], ⟨sA.g, sA.h.under hD, sA.i.under g6, sA.f⟩, g6, upd_same, ((ru.mono s4.g).mono s6.g).append (.cons (p6.weak fun a z => ok_fP (x1.trans (s2.h.trans s4.h)) h6 z) .nil), h7.2⟩
      | false => exact ⟨G4, us, rs, s2.trans s4, g4, hd4, ru.mono s4.g, h4⟩
  · have e : ds.drop i = [] := List.drop_eq_nil_of_le (by omega)
    rw [e] at h2
    exact .inl ⟨hst i H2 s2.h (by rw [ra.length]; omega), k rs us G2 H2 s2 g2 hd2 ru h2⟩
/-- the tests of a comprehension -/
def PtD (X : Cx) (ifs : List Expr) (t : DT) : Prop := ∃ tt, PTs X ifs tt ∧ SdT X.K tt t
theorem ptd_nil : PtD X [] dYes := ⟨_, pts_nil, fun B G0 G δ σ H Q QQ r h k => k true G H (Step.refl r.st.i) h⟩
theorem ptd_one (h : TD X c t) : PtD X [c] t := by
  obtain ⟨tt, h, s⟩ := h
  exact ⟨_, pts_one h, s⟩
theorem PtD.pts {ifs : List Expr} (h : PtD X ifs t) : PTs X ifs (cvT X.K t) := by
  obtain ⟨te, h, s⟩ := h
  exact ⟨fun pins s' σ H Q I q => by
    obtain ⟨B, G0, G, δ, QQ, r, a, k⟩ := q
    exact h.run pins s' σ H Q I (s B G0 G δ σ H Q QQ r a k)⟩
section
variable {elt : Expr} {ifs : List Expr} {scope : Scope} {own : List (Str × Nat)} {tt : DT} {te : DE}
theorem it_listR {K : PySem.W.Frag} {B : Bg} {Hs : Hp} {δ : Ds} {σ : L2.St} {G H : Hp} {fl : Fl} {v : V} {d : PyData} {k : List PyData → Prop} (p : Rep K B Hs δ σ G H fl v d) (i : Ext G H) (h : itL d k) : ∃ a xs ds, v = .ref a ∧ SqL K H a xs ∧ RpAll K (lP B Hs fl.lv) G xs ds ∧ k ds := by
  cases d with
  | list ds =>
    obtain ⟨a, xs, rfl, hp, ra⟩ := p.list i
    exact ⟨_, _, ds, rfl, .of hp, ra, h⟩
  | dict kvs =>
    obtain ⟨a, ns, rfl, hl, rfl⟩ := rep_scr p i
    have ra : RpAll K (lP B Hs fl.lv) G (ns.map V.int) ((ns.map fun n => (PyData.int n, PyData.none)).map (·.1)) := by
      rw [List.map_map]
      exact RpAll.of_ints ns
    exact ⟨a, _, _, rfl, hl, ra, h⟩
  | _ => exact h.elim
theorem it_tupR {K : PySem.W.Frag} {B : Bg} {Hs : Hp} {δ : Ds} {σ : L2.St} {G H : Hp} {fl : Fl} {v : V} {d : PyData} {k : List PyData → Prop} (p : Rep K B Hs δ σ G H fl v d) (i : Ext G H) (h : itT d k) : ∃ a xs ds, v = .ref a ∧ SqT K H a xs ∧ RpAll K (lP B Hs fl.lv) G xs ds ∧ k ds := by
  cases d with
  | tuple ds =>
    obtain ⟨a, xs, rfl, hp, ra⟩ := p.tuple i
    exact ⟨_, _, ds, rfl, i.st hp, ra, h⟩
  | _ => exact h.elim
theorem fin_lc {K : PySem.W.Frag} {B : Hp} {f : Bool} {δ : Ds} {σ : L2.St} {G H G1 H1 : Hp} {Dl : Addr} {Q : L2.VK} {QQ : VK} (s1 : Step G H G1 H1) (hD : H1 Dl = none) (k : ∀ fl d w G' H', Step G H G' H' → Rep K B H δ σ G' H' fl w d → QQ fl d → Q w H') :
    ∀ rs us G' H', Step G1 H1 G' H' → G' Dl = none → H' Dl = some (.lst us) → RpAll K (fP H f) G' us rs → QQ (.new (cL f)) (.list rs) → Q (.ref Dl) H' := fun rs us G' H' s2 g2 h2 ru q =>
  k (.new (cL f)) (.list rs) _ G' H' (s1.trans s2) ⟨Dl, us, rs, rfl, rfl, s1.h.free hD, g2, h2, ru.weak fun _ z => fP_cL z⟩ q
/-- what a comprehension walks, and what it gives -/
def PID (X : Cx) (tg iter : Expr) (vs : List Nat) (g : DG) (tt : DT) (te t : DE) : Prop := ∃ wi, PI X tg iter wi ∧ Sd X.K (tLc wi (cvG X.K vs g) (cvT X.K tt) (cvE X.K te) vs) t
theorem pid_L (f : Bool) (hi : ED X iter tl) : PID X tg iter vs g tt te (dLcL f tl g tt te vs) := by
  obtain ⟨tl', hi, sl⟩ := hi
  refine ⟨_, pi_list hi, fun B G0 G δ σ H Q QQ r h k => sl B G0 G δ σ H _ _ r h fun fl d v G1 H1 s1 p1 q1 => ?_⟩
  obtain ⟨a, xs, ds, rfl, hl, ra, q⟩ := it_listR p1 s1.i q1
  exact ⟨a, rfl, ⟨xs, hl⟩, fun Dl hD => go_lc sg_cv sd_cvT sd_cv (Itl X.K a) (fun i H' x hi => ⟨xs, xs[i], x.sl hl, List.getElem?_eq_getElem hi⟩) (fun i H' x hi => ⟨xs, x.sl hl, hi⟩) (fun i H1 y H2 x hy hi => ⟨hy.1, hy.2 xs (x.sl hl)⟩) r.st.h s1.h ra (r.step s1) hD q (fin_lc s1 hD k)⟩
theorem pid_T (f : Bool) (hi : ED X iter tl) : PID X tg iter vs g tt te (dLcT f tl g tt te vs) := by
  obtain ⟨tl', hi, sl⟩ := hi
  refine ⟨_, pi_tup hi, fun B G0 G δ σ H Q QQ r h k => sl B G0 G δ σ H _ _ r h fun fl d v G1 H1 s1 p1 q1 => ?_⟩
  obtain ⟨a, xs, ds, rfl, hl, ra, q⟩ := it_tupR p1 s1.i q1
  exact ⟨a, rfl, ⟨xs, hl⟩, fun Dl hD => go_lc sg_cv sd_cvT sd_cv (Itt X.K a) (fun i H' x hi => ⟨xs, xs[i], x.st hl, List.getElem?_eq_getElem hi⟩) (fun i H' x hi => ⟨xs, x.st hl, hi⟩) (fun i H1 y H2 x hy hi => ⟨hy.1, hy.2 xs (x.st hl)⟩) r.st.h s1.h ra (r.step s1) hD q (fin_lc s1 hD k)⟩
theorem lc_rng {f : Bool} {lo : Int} {n : Nat} {B : Bg} {G0 G1 Hs H1 : Hp} {δ : Ds} {σ : L2.St} {Q : L2.VK} {QQ : List PyData → Prop} {vs : List Nat} (xb : Ext B Hs) (x1 : Ext Hs H1) (r : Rl X.K B G0 G1 δ σ H1) (h : lcGo f .fresh g tt te (DL.wipe δ vs) (upTo lo n) [] QQ)
    (k : ∀ (Dl : Addr), H1 Dl = none → ∀ rs us G' H', Step G1 H1 G' H' → G' Dl = none → H' Dl = some (.lst us) → RpAll X.K (fP Hs f) G' us rs → QQ rs → Q (.ref Dl) H') : ∀ Dl, H1 Dl = none →
    ∃ W : Nat → Nat → Hp → Prop, (∃ m, W 0 m (upd H1 Dl (.lst []))) ∧ ∀ i m H, W i m H → ((Itr lo n).stop i H ∧ Q (.ref Dl) H) ∨ ((Itr lo n).go i H ∧ ∃ Nx : Hp → Prop, (∀ H', Nx H' → ∃ m', m' < m ∧ W (i + 1) m' H') ∧
      ∀ x H', (Itr lo n).yld i H x H' → cvG X.K vs g x (L2.wipe σ vs) H' fun σ2 H2 => L2.wipe σ2 vs = L2.wipe σ vs ∧ cvT X.K tt σ2 H2 fun b H3 =>
        if b = true then cvE X.K te σ2 H3 fun y H4 => ∃ acc, H4 Dl = some (.lst acc) ∧ acc.length < sizeLine ∧ Nx (upd H4 Dl (.lst (acc ++ [y]))) else Nx H3) := fun Dl hD =>
  go_lc sg_cv sd_cvT sd_cv (Itr lo n) (fun i H' _ hi => by
      rw [List.length_map, List.length_range] at hi
      exact hi) (fun i H' _ hi => by
      rw [List.length_map, List.length_range] at hi
      exact hi) (fun i H1 x H2 _ hy hi => by
      rw [List.length_map, List.length_range] at hi
      refine ⟨hy.1, ?_⟩
      rw [List.getElem?_map, List.getElem?_range hi, hy.2]
      rfl) xb x1 (upTo_rp lo n) r hD h (k Dl hD)
theorem pid_R1 (f : Bool) {p pos2 : Pos} (hgl : Gl X "range") (hm : X.mg "range" = none) (ha : ED X a ta) (hst : starEach [a] X.env = [(false, eval a X.env)] := by rfl) : PID X tg (.Call (.Name "range" p) [a] [] pos2) vs g tt te (dLcR1 f ta g tt te vs) := by
  obtain ⟨ta', ha, sa⟩ := ha
  refine ⟨_, pi_range1 hgl hm (pa_cons ha pa_nil hst) hst, fun B G0 G δ σ H Q QQ r h k => sa B G0 G δ σ H _ _ r h fun fl d v G1 H1 s1 p1 q1 => ?_⟩
  cases d with
  | int n => exact ⟨n, by rw [rep_int p1], q1.1.1, q1.1.2, lc_rng r.st.h s1.h (r.step s1) q1.2 fun Dl hD => fin_lc s1 hD k⟩
  | _ => exact q1.elim
theorem pid_R2 (f : Bool) {p pos2 : Pos} (hgl : Gl X "range") (hm : X.mg "range" = none) (ha : ED X a ta) (hb : ED X b tc) (hst : starEach [a, b] X.env = [(false, eval a X.env), (false, eval b X.env)] := by rfl) (hst2 : starEach [b] X.env = [(false, eval b X.env)] := by rfl) :
    PID X tg (.Call (.Name "range" p) [a, b] [] pos2) vs g tt te (dLcR2 f ta tc g tt te vs) := by
  obtain ⟨ta', ha, sa⟩ := ha
  obtain ⟨tc', hb, sc⟩ := hb
  refine ⟨_, pi_range2 hgl hm (pa_cons ha (pa_cons hb pa_nil hst2) (by rw [hst, hst2])) hst hst2, fun B G0 G δ σ H Q QQ r h k => sa B G0 G δ σ H _ _ r h fun fl d v G1 H1 s1 p1 q1 => sc B G0 G1 δ σ H1 _ _ (r.step s1) q1 fun fl2 d2 v2 G2 H2 s2 p2 q2 => ?_⟩
  cases d with
  | int m =>
    cases d2 with
    | int n => exact ⟨m, n, by rw [rep_int p1, rep_int p2], ⟨q2.1.1, q2.1.2, q2.2.1.1, q2.2.1.2⟩, lc_rng r.st.h (s1.h.trans s2.h) ((r.step s1).step s2) q2.2.2 fun Dl hD => fin_lc (s1.trans s2) hD k⟩
    | _ => exact q2.elim
  | _ => exact q2.elim
variable {t' : DE}
theorem ed_lc (own : List (Str × Nat)) (hc : X.calm = true) (hN : X.N.Nodup) (hi : PID X tg iter (own.map (·.2)) g tt te t') (ok : BlkOk X.N X.env.scope scope own) (hg : ∀ (s : Shared) (H : Hp) (C : Addr) (cl : List (Str × Addr)) (fp : List Addr), GD (X.blk s H scope (compEnvC scope cl C X.env) fp) (own.map (·.2)) tg g)
    (ht : ∀ (s : Shared) (H : Hp) (C : Addr) (cl : List (Str × Addr)) (fp : List Addr), PtD (X.blk s H scope (compEnvC scope cl C X.env) fp) ifs tt) (he : ∀ (s : Shared) (H : Hp) (C : Addr) (cl : List (Str × Addr)) (fp : List Addr), ED (X.blk s H scope (compEnvC scope cl C X.env) fp) elt te)
    (hs : ∀ x, foldedSetIterable iter X.env x = pure x := by intro _; rfl) : ED X (.ListComp elt [⟨tg, iter, ifs, 0⟩] scope pos) t' := by
  obtain ⟨wi, hi, sl⟩ := hi
  exact ⟨_, pe_lc (g := cvG X.K (own.map (·.2)) g) (tt := cvT X.K tt) (te := cvE X.K te) hc hN hi ok (fun s H C cl fp => (hg s H C cl fp).pg) (fun s H C cl fp => (ht s H C cl fp).pts) (fun s H C cl fp => (he s H C cl fp).pe) hs, sl⟩
/-- x = [..] on one line -/
theorem sd_setLc (i : Nat) (own : List (Str × Nat)) {y : Str} {py spos : Pos} (hc : X.calm = true) (hN : X.N.Nodup) (hi : PID X tg iter (own.map (·.2)) g tt te t') (ok : BlkOk X.N X.env.scope scope own) (hg : ∀ (s : Shared) (H : Hp) (C : Addr) (cl : List (Str × Addr)) (fp : List Addr), GD (X.blk s H scope (compEnvC scope cl C X.env) fp) (own.map (·.2)) tg g)
    (ht : ∀ (s : Shared) (H : Hp) (C : Addr) (cl : List (Str × Addr)) (fp : List Addr), PtD (X.blk s H scope (compEnvC scope cl C X.env) fp) ifs tt) (he : ∀ (s : Shared) (H : Hp) (C : Addr) (cl : List (Str × Addr)) (fp : List Addr), ED (X.blk s H scope (compEnvC scope cl C X.env) fp) elt te)
    (hsw : swapsWith (.ListComp elt [⟨tg, iter, ifs, 0⟩] scope pos) (some (.Name y py)) spos.line X.env = pure true) (hy : X.N[i]? = some y := by rfl) (hyl : X.env.scope.names.lookup y = some .local := by rfl) (hs : ∀ x, foldedSetIterable iter X.env x = pure x := by intro _; rfl) :
    SD X W (.Assign [.Name y py] (.ListComp elt [⟨tg, iter, ifs, 0⟩] scope pos) spos) (dSet i t') := by
  obtain ⟨wi, hi, sl⟩ := hi
  exact ⟨_, ps_setLc (g := cvG X.K (own.map (·.2)) g) (tt := cvT X.K tt) (te := cvE X.K te) hc hN hy hyl hsw hi ok (fun s H C cl fp => (hg s H C cl fp).pg) (fun s H C cl fp => (ht s H C cl fp).pts) (fun s H C cl fp => (he s H C cl fp).pe) hs, ss_set sl⟩
theorem sd_setMLc (i : Nat) (own : List (Str × Nat)) {y : Str} {py spos : Pos} (hc : X.calm = true) (hN : X.N.Nodup) (hi : PID X tg iter (own.map (·.2)) g tt te t') (ok : BlkOk X.N X.env.scope scope own) (hg : ∀ (s : Shared) (H : Hp) (C : Addr) (cl : List (Str × Addr)) (fp : List Addr), GD (X.blk s H scope (compEnvC scope cl C X.env) fp) (own.map (·.2)) tg g)
    (ht : ∀ (s : Shared) (H : Hp) (C : Addr) (cl : List (Str × Addr)) (fp : List Addr), PtD (X.blk s H scope (compEnvC scope cl C X.env) fp) ifs tt) (he : ∀ (s : Shared) (H : Hp) (C : Addr) (cl : List (Str × Addr)) (fp : List Addr), ED (X.blk s H scope (compEnvC scope cl C X.env) fp) elt te)
    (hsw : swapsWith (.ListComp elt [⟨tg, iter, ifs, 0⟩] scope pos) (some (.Name y py)) spos.line X.env = pure true) (hy : X.N[i]? = some y := by rfl) (hyl : X.env.scope.names.lookup y = some .local := by rfl) (hs : ∀ x, foldedSetIterable iter X.env x = pure x := by intro _; rfl) :
    SD X W (.Assign [.Name y py] (.ListComp elt [⟨tg, iter, ifs, 0⟩] scope pos) spos) (dSetM i t') := by
  obtain ⟨wi, hi, sl⟩ := hi
  exact ⟨_, ps_setLc (g := cvG X.K (own.map (·.2)) g) (tt := cvT X.K tt) (te := cvE X.K te) hc hN hy hyl hsw hi ok (fun s H C cl fp => (hg s H C cl fp).pg) (fun s H C cl fp => (ht s H C cl fp).pts) (fun s H C cl fp => (he s H C cl fp).pe) hs, ss_setM sl⟩
theorem sd_ownLc (i : Nat) (own : List (Str × Nat)) {y : Str} {py spos : Pos} (hc : X.calm = true) (hN : X.N.Nodup) (hi : PID X tg iter (own.map (·.2)) g tt te t') (ok : BlkOk X.N X.env.scope scope own) (hg : ∀ (s : Shared) (H : Hp) (C : Addr) (cl : List (Str × Addr)) (fp : List Addr), GD (X.blk s H scope (compEnvC scope cl C X.env) fp) (own.map (·.2)) tg g)
    (ht : ∀ (s : Shared) (H : Hp) (C : Addr) (cl : List (Str × Addr)) (fp : List Addr), PtD (X.blk s H scope (compEnvC scope cl C X.env) fp) ifs tt) (he : ∀ (s : Shared) (H : Hp) (C : Addr) (cl : List (Str × Addr)) (fp : List Addr), ED (X.blk s H scope (compEnvC scope cl C X.env) fp) elt te)
    (hsw : swapsWith (.ListComp elt [⟨tg, iter, ifs, 0⟩] scope pos) (some (.Name y py)) spos.line X.env = pure true) (hy : X.N[i]? = some y := by rfl) (hyl : X.env.scope.names.lookup y = some .local := by rfl) (hs : ∀ x, foldedSetIterable iter X.env x = pure x := by intro _; rfl) :
    SD X W (.Assign [.Name y py] (.ListComp elt [⟨tg, iter, ifs, 0⟩] scope pos) spos) (dOwn i t') := by
  obtain ⟨wi, hi, sl⟩ := hi
  exact ⟨_, ps_setLc (g := cvG X.K (own.map (·.2)) g) (tt := cvT X.K tt) (te := cvE X.K te) hc hN hy hyl hsw hi ok (fun s H C cl fp => (hg s H C cl fp).pg) (fun s H C cl fp => (ht s H C cl fp).pts) (fun s H C cl fp => (he s H C cl fp).pe) hs, ss_own sl⟩
theorem sd_ownMLc (i : Nat) (own : List (Str × Nat)) {y : Str} {py spos : Pos} (hc : X.calm = true) (hN : X.N.Nodup) (hi : PID X tg iter (own.map (·.2)) g tt te t') (ok : BlkOk X.N X.env.scope scope own) (hg : ∀ (s : Shared) (H : Hp) (C : Addr) (cl : List (Str × Addr)) (fp : List Addr), GD (X.blk s H scope (compEnvC scope cl C X.env) fp) (own.map (·.2)) tg g)
    (ht : ∀ (s : Shared) (H : Hp) (C : Addr) (cl : List (Str × Addr)) (fp : List Addr), PtD (X.blk s H scope (compEnvC scope cl C X.env) fp) ifs tt) (he : ∀ (s : Shared) (H : Hp) (C : Addr) (cl : List (Str × Addr)) (fp : List Addr), ED (X.blk s H scope (compEnvC scope cl C X.env) fp) elt te)
    (hsw : swapsWith (.ListComp elt [⟨tg, iter, ifs, 0⟩] scope pos) (some (.Name y py)) spos.line X.env = pure true) (hy : X.N[i]? = some y := by rfl) (hyl : X.env.scope.names.lookup y = some .local := by rfl) (hs : ∀ x, foldedSetIterable iter X.env x = pure x := by intro _; rfl) :
    SD X W (.Assign [.Name y py] (.ListComp elt [⟨tg, iter, ifs, 0⟩] scope pos) spos) (dOwnM i t') := by
  obtain ⟨wi, hi, sl⟩ := hi
  exact ⟨_, ps_setLc (g := cvG X.K (own.map (·.2)) g) (tt := cvT X.K tt) (te := cvE X.K te) hc hN hy hyl hsw hi ok (fun s H C cl fp => (hg s H C cl fp).pg) (fun s H C cl fp => (ht s H C cl fp).pts) (fun s H C cl fp => (he s H C cl fp).pe) hs, ss_ownM sl⟩
end
end

/-! ### defs -/
theorem start_rl {K : PySem.W.Frag} {N : List Str} {G H : Hp} {vs : List V} {ds : List PyData} (i : Ext G H) (ra : RpAll K (fun _ => True) G vs ds) (hl : vs.length ≤ N.length) : Rl K ⟨H, []⟩ G G (DL.start N.length ds) (L2.start N vs) H := by
  have lk : ∀ (ds : List PyData) (m j : Nat) (s : Sl), look (ds.map (Sl.val false) ++ List.replicate m .non) j = s → s ≠ .non → ∃ d, s = .val false d ∧ ds[j]? = some d := by
    intro ds m
    induction ds with
    | nil =>
      intro j s h hn
      exfalso
      apply hn
      rw [← h]
      clear h hn
      induction m generalizing j with
      | zero => rfl
      | succ m ih =>
        cases j with
        | zero => rfl
        | succ j => exact ih j
    | cons d ds ih =>
      intro j s h hn
      cases j with
      | zero => exact ⟨d, h.symm, rfl⟩
      | succ j => exact ih j s h hn
  refine ⟨Step.refl i, ?_, fun j m d h => ?_, fun j m es h => ?_, fun j d h => ?_, fun j m p n n' es fs h => ?_, fun j k es h => ?_⟩
  · unfold L2.start DL.start
    rw [List.length_append, List.length_append, List.length_map, List.length_map, List.length_replicate, List.length_replicate, ra.length]
  · obtain ⟨d', e, hd⟩ := lk ds _ j _ h (fun z => nomatch z)
    cases e
    obtain ⟨v, hv, rv⟩ := ra.get hd
    refine ⟨v, ?_, rv.weak fun _ _ z => nomatch z⟩
    unfold L2.start
    rw [List.getElem?_append_left (by rw [List.length_map]; exact (List.getElem?_eq_some_iff.mp hv).1), List.getElem?_map, hv]
    rfl
  · obtain ⟨d', e, hd⟩ := lk ds _ j _ rfl (own_some h)
    unfold DL.start at h
    rw [e] at h
    cases h
  · obtain ⟨d', e, hd⟩ := lk ds _ j _ h (fun z => nomatch z)
    cases e
  · obtain ⟨d', e, hd⟩ := lk ds _ j _ rfl (own_some h)
    unfold DL.start at h
    rw [e] at h
    cases h
  · obtain ⟨d', e, hd⟩ := lk ds _ j _ h (fun z => nomatch z)
    cases e
theorem blkOk_in {N : List Str} {scope1 scope : Scope} {own : List (Str × Nat)} {cl : List (Str × Addr)} {C : Addr} {env : Env} (sc : Scope) (he : env.scope = sc) (h : blkC N (relS scope1 sc) scope own = true) : BlkOk N (compEnvC scope1 cl C env).scope scope own := by
  subst he
  exact blkOk_by h
theorem hu65 {k : Nat} {A : Around} (hr : Room k A) : A.units + 65 < cLine := by
  have := hr.un
  omega
section
variable {P : Program} {w : World} {K : PySem.W.Frag} {mg : Str → Option Value} {base : Heap}
/-- THE RULE for a def: its body's reading, and that the reading keeps the promise -/
theorem fn_d {x qual : Str} {st : Stmt} {f : Addr} {fd : FuncData} {N ps : List Str} {k : Nat} {S : DSp} {t : DS} (F : Fun K x qual st f fd) (Sc : FnScope N ps (defScope st)) (hl : ps.length ≤ N.length) (m : MonoS S) (kp : Keeps N.length t S)
    (hb : ∀ (cdv : Value) (A : Around) (outer : List Env) (s : Shared) (H : Hp) (E : XK), Room k (A.deeper (envOfC qual (defScope st) s.heap.objs.size f cdv)) → SsD (cxOf CX0 P w K mg base N qual (defScope st) f cdv A outer s H E).nox (fun _ _ _ _ => False) (defBody st) t) : FnD P w K mg base (k + 1) f fd ps S := by
  refine ⟨F.ok Sc (fun vs H Q E h => h.1) (fun cdv A outer s H vs Q E hr h => ?_), m⟩
  obtain ⟨hn, G, ds, i, ra, h⟩ := h
  obtain ⟨t', ht, st'⟩ := hb cdv A outer s H E hr
  refine ⟨t', ht, ?_⟩
  refine st' ⟨H, []⟩ G G (DL.start N.length ds) (L2.start N vs) H { nx := fun _ => _, rt := _ } _ (start_rl i ra (by rw [hn]; exact hl)) (kp ds _ h) ⟨fun G' δ' σ' H' _ r q => ?_, fun _ _ _ _ _ _ q => q.elim, fun _ _ _ _ _ _ q => q.elim, fun b d v G' H' s' p q => ?_, fun _ _ _ _ _ _ _ _ _ q => q.elim, fun _ _ _ _ _ _ _ _ _ q => q.elim⟩
  · exact q .non G' H' r.st Rp.non
  · exact q v G' H' s' p
end
end DL

set_option Elab.async false
set_option linter.all false
set_option maxRecDepth 100000
set_option maxHeartbeats 2000000
/-! DW5: more readings. -/
namespace DL
open PySem PySem.Spec L2
/-- what a lent list's reader gives: all its lists are new -/
def rFr (fl : Fl) (d : PyData) (Q : VK) : Prop := match fl with
  | .av l => (match l with
    | .fresh => Q (.av .fresh) d
    | _ => False)
  | .new l => (match l with
    | .fresh => Q (.new .fresh) d
    | _ => False)
  | .own _ _ => False
/-- e with the own list of slot i lent: all lists of what it gives are new -/
def dLendF (i : Nat) (t : DE) : DE := fun σ Q => match look σ i with
  | .own _ ds => t (put σ i (.val false (.list ds))) fun fl d => d.canLay0 = true ∧ rFr fl d Q
  | _ => False
section
variable {K : PySem.W.Frag} {F : Addr → Prop} {G : Hp} {p : Addr} {zs : List V}
mutual
theorem Rp.outF (hp : G p = some (.lst zs)) (hF : ¬ F p) : ∀ {v : V} {d : PyData}, d.canLay0 = true → Rp K F G v d → Rp K F (out G p) v d
  | _, _, _, .non => .non
  | _, _, _, .bl b => .bl b
  | _, _, _, .int i => .int i
  | _, _, _, .str x => .str x
  | _, _, c, .lst f h r => .lst f (by rw [out_ne (fun e => hF (by rw [← e]; exact f))]; exact h) (RpAll.outF hp hF (by simpa [PyData.canLay0] using c) r)
  | _, _, c, .tup h r => .tup (by
      rcases h with (q | ⟨o, q⟩) | q
      · exact .inl (.inl (out_at hp _ _ q fun _ e => nomatch e))
      · exact .inl (.inr ⟨o, out_at hp _ _ q fun _ e => nomatch e⟩)
      · exact .inr q) (RpAll.outF hp hF (by simpa [PyData.canLay0] using c) r)
  | _, _, c, .scr h => by simp [PyData.canLay0] at c
theorem RpAll.outF (hp : G p = some (.lst zs)) (hF : ¬ F p) : ∀ {v : List V} {d : List PyData}, PyData.canLayAll0 d = true → RpAll K F G v d → RpAll K F (out G p) v d
  | _, _, _, .nil => .nil
  | _, _, c, .cons h r => by
    have c' := (Bool.and_eq_true_iff.mp (by simpa [PyData.canLayAll0] using c))
    exact .cons (Rp.outF hp hF c'.1 h) (RpAll.outF hp hF c'.2 r)
end
end
section
variable {X : Cx} {a : Expr} {ta : DE}
theorem ed_lendF {i : Nat} (ha : ED X a ta) : ED X a (dLendF i ta) := by
  obtain ⟨ta', ha, sa⟩ := ha
  refine ⟨ta', ha, fun B G0 G δ σ H Q QQ r h k => ?_⟩
  unfold dLendF at h
  cases e : look δ i with
  | own m ds =>
    rw [e] at h
    obtain ⟨p, xs, h1, h2, h3, h4, h5, r', x⟩ := r.freeze (m' := false) (fun z => nomatch z) (show ownL (look δ i) = some (m, ds) by rw [e]; rfl)
    refine sa B G0 _ _ σ H _ _ r' h fun fl d v G1 H1 s1 p1 q1 => ?_
    have hp1 : G1 p = some (.lst xs) := s1.g p _ upd_same
    have hF : ¬ H p = none := fun z => by rw [h4] at z; cases z
    obtain ⟨c, q1⟩ := q1
    cases fl with
    | av l =>
      cases l with
      | fresh =>
        have p1' : Rp X.K (fun b => H b = none) G1 v d := p1
        exact k (.av .fresh) d v (out G1 p) H1 (out_step h2 h4 s1) (Rp.outF hp1 hF c p1') q1
      | any => exact q1.elim
      | mine => exact q1.elim
    | new l =>
      cases l with
      | fresh =>
        obtain ⟨q, ys, es, rfl, rfl, a1, a2, a3, a4⟩ := p1
        have ne : q ≠ p := fun z => hF (by rw [← z]; exact a1)
        exact k (.new .fresh) (.list es) _ (out G1 p) H1 (out_step h2 h4 s1) ⟨q, ys, es, rfl, rfl, a1, by rw [out_ne ne]; exact a2, a3, RpAll.outF hp1 hF (by simpa [PyData.canLay0] using c) a4⟩ q1
      | any => exact q1.elim
      | mine => exact q1.elim
    | own j => exact q1.elim
  | par _ _ => rw [e] at h; exact h.elim
  | val m d => rw [e] at h; exact h.elim
  | old d => rw [e] at h; exact h.elim
  | non => rw [e] at h; exact h.elim
end
end DL

set_option Elab.async false
set_option linter.all false
set_option maxRecDepth 100000
set_option maxHeartbeats 2000000
/-! DW6: defs that change lists that are lent to them. -/
namespace DL
open PySem PySem.Spec L2
open PyProof.Rows (envOfC)
/-- what is never reached -/
def dNever : DS := fun _ _ => False
theorem sd_never {X : Cx} {W : XW} {st : Stmt} : SD X W st dNever := ⟨_, ps_never, fun B G0 G δ σ H DD D r h o => h.elim⟩
/-! ### arguments: some are own lists that are lent -/
inductive MA where
  | own (i : Nat)
  | val (t : DE)
def mEval : List MA → Ds → (List PyData → Prop) → Prop
  | [], _, Q => Q []
  | .own i :: r, σ, Q => ownAt σ i fun _ ds => mEval r σ fun xs => Q (.list ds :: xs)
  | .val t :: r, σ, Q => t σ fun fl d => fz fl fun _ => mEval r σ fun xs => Q (d :: xs)
/-- the slots that are lent; the places where they stand -/
def mSlots : List MA → List Nat
  | [] => []
  | .own i :: r => i :: mSlots r
  | .val _ :: r => mSlots r
def mPos : Nat → List MA → List Nat
  | _, [] => []
  | j, .own _ :: r => j :: mPos (j + 1) r
  | j, .val _ :: r => mPos (j + 1) r
def fallen (s : Sl) (es : List PyData) : Sl := match s with
  | .own _ _ => .own false es
  | .par k _ => .par k es
  | s => s
def putAll : Ds → List Nat → List (List PyData) → Ds
  | σ, i :: is, es :: ess => putAll (put σ i (fallen (look σ i) es)) is ess
  | σ, _, _ => σ
/-- a promise: the arguments, what is wanted of the answer and the lists -/
abbrev DSM := List PyData → (PyData → List (List PyData) → Prop) → Prop
abbrev DM := Ds → (PyData → Ds → Prop) → Prop
def dMCall (S : DSM) (as : List MA) : DM := fun σ Q => mEval as σ fun ds => S ds fun d oss => Q d (putAll σ (mSlots as) oss)
def dMSet (j : Nat) (c : DM) : DS := fun D σ => c σ fun d σ' => D.nx (put σ' j (.val false d))
def dMDrop (c : DM) : DS := fun D σ => c σ fun _ σ' => D.nx σ'
def dMRet (c : DM) : DS := fun D σ => c σ fun d _ => D.rt .av d
def dMRetP (c : DM) : DS := fun D σ => c σ fun d σ' => D.rp σ' d
def dRetP (t : DE) : DS := fun D σ => t σ fun fl d => fz fl fun _ => D.rp σ d
def dRetPN : DS := fun D σ => D.rp σ .none
/-! a def's lists at its entry and its end -/
def idxM (j : Nat) : List Nat → Nat → Option Nat
  | [], _ => none
  | m :: ms, k => match Nat.beq m j with
    | true => some k
    | false => idxM j ms (k + 1)
def toPar (k : Nat) (d : PyData) : Sl := match d with
  | .list es => .par k es
  | _ => .non
def slotM (ms : List Nat) (j : Nat) (d : PyData) : Sl := match idxM j ms 0 with
  | some k => toPar k d
  | none => .val false d
def startG (ms : List Nat) : Nat → List PyData → Ds
  | _, [] => []
  | j, d :: r => slotM ms j d :: startG ms (j + 1) r
def startM (n : Nat) (ms : List Nat) (ds : List PyData) : Ds := startG ms 0 ds ++ List.replicate (n - ds.length) .non
def parQ (s : Sl) (k : Nat) (q : List PyData → Prop) : Prop := match s with
  | .par k' ds => Nat.beq k' k = true ∧ q ds
  | _ => False
def parsAt : Ds → Nat → List Nat → (List (List PyData) → Prop) → Prop
  | _, _, [], Q => Q []
  | σ, k, i :: is, Q => parQ (look σ i) k fun ds => parsAt σ (k + 1) is fun oss => Q (ds :: oss)
def KeepsM (n : Nat) (ms : List Nat) (body : DS) (S : DSM) : Prop := ∀ ds Q, S ds Q → body { nx := fun δ => parsAt δ 0 ms (Q .none), rt := fun _ _ => False, rp := fun δ d => parsAt δ 0 ms (Q d) } (startM n ms ds)
def MonoM (S : DSM) : Prop := ∀ ds Q Q', (∀ d oss, Q d oss → Q' d oss) → S ds Q → S ds Q'
/-! ### the promise over the heap -/
def outs (H : Hp) (ps : List Addr) : Hp := fun q => if q ∈ ps then none else H q
theorem outs_in {H : Hp} {ps : List Addr} {q : Addr} (h : q ∈ ps) : outs H ps q = none := if_pos h
theorem outs_not {H : Hp} {ps : List Addr} {q : Addr} (h : q ∉ ps) : outs H ps q = H q := if_neg h
theorem outs_ext {H : Hp} {ps : List Addr} : Ext (outs H ps) H := fun a o h => by
  by_cases e : a ∈ ps
  · rw [outs_in e] at h
    cases h
  · rw [outs_not e] at h
    exact h
structure ArgsM (K : PySem.W.Frag) (G H : Hp) (ms : List Nat) (ps : List Addr) (vs : List V) (ds : List PyData) : Prop where
  len : vs.length = ds.length
  val : ∀ (j : Nat) (d : PyData), ds[j]? = some d → j ∉ ms → ∃ v, vs[j]? = some v ∧ Rp K (fun _ => True) G v d
  own : ∀ (k i : Nat), ms[k]? = some i → ∃ p xs es, ps[k]? = some p ∧ vs[i]? = some (.ref p) ∧ ds[i]? = some (.list es) ∧ G p = none ∧ H p = some (.lst xs) ∧ RpAll K (fun _ => True) G xs es
  nod : ps.Nodup
  num : ps.length = ms.length
structure OwnsM (K : PySem.W.Frag) (G H : Hp) (ps : List Addr) (oss : List (List PyData)) : Prop where
  num : oss.length = ps.length
  own : ∀ (k : Nat) (p : Addr), ps[k]? = some p → ∃ xs es, oss[k]? = some es ∧ G p = none ∧ H p = some (.lst xs) ∧ RpAll K (fun _ => True) G xs es
def spM (K : PySem.W.Frag) (n : Nat) (ms : List Nat) (S : DSM) : Sp := fun vs H Q _ => vs.length = n ∧ ∃ (G : Hp) (ds : List PyData) (ps : List Addr), Ext G H ∧ ArgsM K G H ms ps vs ds ∧
  S ds fun d oss => ∀ v G' H', Step G (outs H ps) G' H' → Rp K (fun _ => True) G' v d → OwnsM K G' H' ps oss → Q v H'
structure FnM (P : Program) (w : World) (K : PySem.W.Frag) (mg : Str → Option Value) (base : Heap) (k : Nat) (f : Addr) (fd : FuncData) (ps : List Str) (ms : List Nat) (S : DSM) : Prop where
  ok : FnOk P w K mg base CX0 k f fd ps (spM K ps.length ms S)
  mono : MonoM S
theorem FnM.up {P : Program} {w : World} {K : PySem.W.Frag} {mg : Str → Option Value} {base : Heap} {j k : Nat} {f : Addr} {fd : FuncData} {ps : List Str} {ms : List Nat} {S : DSM} (F : FnM P w K mg base j f fd ps ms S) (h : j ≤ k) : FnM P w K mg base k f fd ps ms S := ⟨F.ok.mono h, F.mono⟩
/-! ### the def's side -/
theorem idxM_some : ∀ {ms : List Nat} {j k0 k : Nat}, idxM j ms k0 = some k → ∃ t, k = k0 + t ∧ ms[t]? = some j
  | [], _, _, _, h => nomatch h
  | m :: ms, j, k0, k, h => by
    unfold idxM at h
    cases e : Nat.beq m j with
    | true =>
      rw [e] at h
      cases h
      exact ⟨0, rfl, by rw [Nat.eq_of_beq_eq_true e]; rfl⟩
    | false =>
      rw [e] at h
      obtain ⟨t, e1, e2⟩ := idxM_some h
      exact ⟨t + 1, by omega, by simpa using e2⟩
theorem idxM_none : ∀ {ms : List Nat} {j k0 : Nat}, idxM j ms k0 = none → j ∉ ms
  | [], _, _, _ => by simp
  | m :: ms, j, k0, h => by
    unfold idxM at h
    cases e : Nat.beq m j with
    | true =>
      rw [e] at h
      cases h
    | false =>
      rw [e] at h
      have := idxM_none h
      have ne : m ≠ j := Nat.ne_of_beq_eq_false e
      simp only [List.mem_cons, not_or]
      exact ⟨fun z => ne z.symm, this⟩
theorem look_startG (ms : List Nat) : ∀ (ds : List PyData) (m j0 j : Nat), look (startG ms j0 ds ++ List.replicate m .non) j = match ds[j]? with
    | some d => slotM ms (j0 + j) d
    | none => .non
  | [], m, _, j => by
    simp only [startG, List.nil_append, List.getElem?_nil]
    induction m generalizing j with
    | zero => rfl
    | succ m ih =>
      cases j with
      | zero => rfl
      | succ j => exact ih j
  | d :: ds, m, j0, 0 => rfl
  | d :: ds, m, j0, j + 1 => by
    have := look_startG ms ds m (j0 + 1) j
    simp only [startG, List.cons_append, List.getElem?_cons_succ]
    show look (startG ms (j0 + 1) ds ++ List.replicate m .non) j = _
    rw [this, show j0 + 1 + j = j0 + (j + 1) by omega]
theorem startG_len (ms : List Nat) : ∀ (ds : List PyData) (j : Nat), (startG ms j ds).length = ds.length
  | [], _ => rfl
  | _ :: ds, j => congrArg (· + 1) (startG_len ms ds (j + 1))
theorem start_val {N : List Str} {vs : List V} {j : Nat} {v : V} (h : vs[j]? = some v) : (L2.start N vs)[j]? = some (some v) := by
  unfold L2.start
  rw [List.getElem?_append_left (by rw [List.length_map]; exact (List.getElem?_eq_some_iff.mp h).1), List.getElem?_map, h]
  rfl
theorem start_rlM {K : PySem.W.Frag} {N : List Str} {G H : Hp} {ms : List Nat} {ps : List Addr} {vs : List V} {ds : List PyData} (i : Ext G H) (a : ArgsM K G H ms ps vs ds) (hl : vs.length ≤ N.length) : Rl K ⟨outs H ps, ps⟩ G G (startM N.length ms ds) (L2.start N vs) H := by
  have lk : ∀ j, look (startM N.length ms ds) j = match ds[j]? with
    | some d => slotM ms j d
    | none => .non := fun j => by
    unfold startM
    rw [look_startG]
    simp only [Nat.zero_add]
  have par : ∀ j k es, look (startM N.length ms ds) j = .par k es → ∃ p xs, (L2.start N vs)[j]? = some (some (.ref p)) ∧ ps[k]? = some p ∧ ms[k]? = some j ∧ G p = none ∧ H p = some (.lst xs) ∧ RpAll K (fun _ => True) G xs es := fun j k es h => by
    rw [lk] at h
    cases e : ds[j]? with
    | none =>
      rw [e] at h
      cases h
    | some d =>
      rw [e] at h
      unfold slotM at h
      cases e2 : idxM j ms 0 with
      | none =>
        simp only [e2] at h
        cases h
      | some k2 =>
        simp only [e2] at h
        obtain ⟨t, e3, e4⟩ := idxM_some e2
        have e5 : k2 = t := by omega
        subst e5
        obtain ⟨p, xs, es', b1, b2, b3, b4, b5, b6⟩ := a.own k2 j e4
        rw [e] at b3
        cases b3
        unfold toPar at h
        cases h
        exact ⟨p, xs, start_val b2, b1, e4, b4, b5, b6⟩
  have own : ∀ j m es, ownL (look (startM N.length ms ds) j) = some (m, es) → ∃ k, m = false ∧ look (startM N.length ms ds) j = .par k es := fun j m es h => by
    cases e : look (startM N.length ms ds) j with
    | par k xs =>
      rw [e] at h
      cases h
      exact ⟨k, rfl, rfl⟩
    | own m2 xs =>
      rw [lk] at e
      cases e1 : ds[j]? with
      | none =>
        rw [e1] at e
        cases e
      | some d =>
        rw [e1] at e
        unfold slotM at e
        cases e2 : idxM j ms 0 with
        | none =>
          simp only [e2] at e
          cases e
        | some k2 =>
          simp only [e2] at e
          unfold toPar at e
          cases d <;> cases e
    | non =>
      rw [e] at h
      cases h
    | val _ _ =>
      rw [e] at h
      cases h
    | old _ =>
      rw [e] at h
      cases h
  refine ⟨⟨Ext.refl _, outs_ext, i, fun p h _ => h⟩, ?_, fun j m d h => ?_, fun j m es h => ?_, fun j d h => ?_, fun j l p m n es fs h1 h2 h3 h4 => ?_, fun j k es h => ?_⟩
  · unfold L2.start startM
    rw [List.length_append, List.length_append, List.length_map, startG_len, List.length_replicate, List.length_replicate, a.len]
  · rw [lk] at h
    cases e : ds[j]? with
    | none =>
      rw [e] at h
      cases h
    | some d' =>
      rw [e] at h
      unfold slotM at h
      cases e2 : idxM j ms 0 with
      | none =>
        simp only [e2] at h
        cases h
        obtain ⟨v, hv, rv⟩ := a.val j d e (idxM_none e2)
        exact ⟨v, start_val hv, rv.weak fun _ _ z => nomatch z⟩
      | some k2 =>
        simp only [e2] at h
        unfold toPar at h
        cases d' <;> cases h
  · obtain ⟨k, rfl, e⟩ := own j m es h
    obtain ⟨p, xs, b1, b2, b3, b4, b5, b6⟩ := par j k es e
    exact ⟨p, xs, b1, b4, outs_in (List.mem_of_getElem? b2), b5, b6.weak fun _ _ z => nomatch z⟩
  · rw [lk] at h
    cases e : ds[j]? with
    | none =>
      rw [e] at h
      cases h
    | some d' =>
      rw [e] at h
      unfold slotM at h
      cases e2 : idxM j ms 0 with
      | none =>
        simp only [e2] at h
        cases h
      | some k2 =>
        simp only [e2] at h
        unfold toPar at h
        cases d' <;> cases h
  · obtain ⟨k1, _, e1⟩ := own j m es h1
    obtain ⟨k2, _, e2⟩ := own l n fs h2
    obtain ⟨p1, xs1, b1, b2, b3, _⟩ := par j k1 es e1
    obtain ⟨p2, xs2, c1, c2, c3, _⟩ := par l k2 fs e2
    rw [h3] at b1
    cases b1
    rw [h4] at c1
    cases c1
    have e : k1 = k2 := (List.getElem?_inj (List.getElem?_eq_some_iff.mp b2).1 a.nod).mp (b2.trans c2.symm)
    subst e
    rw [b3] at c3
    exact Option.some.inj c3
  · obtain ⟨p, xs, b1, b2, _⟩ := par j k es h
    exact ⟨p, b1, b2⟩
theorem parsAt_get : ∀ {is : List Nat} {σ : Ds} {k : Nat} {Q : List (List PyData) → Prop}, parsAt σ k is Q → ∃ oss, Q oss ∧ oss.length = is.length ∧ ∀ (t i : Nat), is[t]? = some i → ∃ es, oss[t]? = some es ∧ look σ i = .par (k + t) es
  | [], _, _, _, h => ⟨[], h, rfl, fun t i e => by simp at e⟩
  | i :: is, σ, k, Q, h => by
    unfold parsAt parQ at h
    cases e : look σ i with
    | par k' ds =>
      simp only [e] at h
      obtain ⟨hk, h⟩ := h
      have hk' := Nat.eq_of_beq_eq_true hk
      subst hk'
      obtain ⟨oss, q, hl, ho⟩ := parsAt_get h
      refine ⟨ds :: oss, q, congrArg (· + 1) hl, fun t j hj => ?_⟩
      cases t with
      | zero =>
        simp at hj
        subst hj
        exact ⟨ds, rfl, e⟩
      | succ t =>
        obtain ⟨es, a1, a2⟩ := ho t j (by simpa using hj)
        exact ⟨es, by simpa using a1, by rw [a2, show k' + 1 + t = k' + (t + 1) by omega]⟩
    | own _ _ =>
      simp only [e] at h
    | non =>
      simp only [e] at h
    | val _ _ =>
      simp only [e] at h
    | old _ =>
      simp only [e] at h
theorem owns_of {K : PySem.W.Frag} {H0 G0 G H : Hp} {ps : List Addr} {δ : Ds} {σ : L2.St} {ms : List Nat} (hn : ps.length = ms.length) (r : Rl K ⟨H0, ps⟩ G0 G δ σ H) {Q : List (List PyData) → Prop} (h : parsAt δ 0 ms Q) : ∃ oss, Q oss ∧ OwnsM K G H ps oss := by
  obtain ⟨oss, q, hl, ho⟩ := parsAt_get h
  refine ⟨oss, q, by rw [hl, hn], fun k p hp => ?_⟩
  have hk : k < ms.length := by
    rw [← hn]
    exact (List.getElem?_eq_some_iff.mp hp).1
  obtain ⟨es, e1, e2⟩ := ho k ms[k] (List.getElem?_eq_getElem hk)
  rw [Nat.zero_add] at e2
  obtain ⟨p1, s1, c1⟩ := r.par _ k es e2
  have c2 : ps[k]? = some p1 := c1
  rw [hp] at c2
  cases c2
  obtain ⟨p2, xs, s2, g2, b2, h2, ra⟩ := r.own ms[k] false es (by rw [e2]; rfl)
  rw [s1] at s2
  cases s2
  exact ⟨xs, es, e1, g2, h2, ra.weak fun _ _ => trivial⟩
section
variable {P : Program} {w : World} {K : PySem.W.Frag} {mg : Str → Option Value} {base : Heap}
theorem fn_m {x qual : Str} {st : Stmt} {f : Addr} {fd : FuncData} {N ps : List Str} {ms : List Nat} {k : Nat} {S : DSM} {t : DS} (F : Fun K x qual st f fd) (Sc : FnScope N ps (defScope st)) (hl : ps.length ≤ N.length) (m : MonoM S) (kp : KeepsM N.length ms t S)
    (hb : ∀ (cdv : Value) (A : Around) (outer : List Env) (s : Shared) (H : Hp) (E : XK), Room k (A.deeper (envOfC qual (defScope st) s.heap.objs.size f cdv)) → SsD (cxOf CX0 P w K mg base N qual (defScope st) f cdv A outer s H E).nox (fun _ _ _ _ => False) (defBody st) t) : FnM P w K mg base (k + 1) f fd ps ms S := by
  refine ⟨F.ok Sc (fun vs H Q E h => h.1) (fun cdv A outer s H vs Q E hr h => ?_), m⟩
  obtain ⟨hn, G, ds, ads, i, a, h⟩ := h
  obtain ⟨t', ht, st'⟩ := hb cdv A outer s H E hr
  refine ⟨t', ht, ?_⟩
  refine st' ⟨outs H ads, ads⟩ G G (startM N.length ms ds) (L2.start N vs) H { nx := fun δ => parsAt δ 0 ms (fun oss => _), rt := fun _ _ => False, rp := fun δ d => parsAt δ 0 ms (fun oss => _) } _ (start_rlM i a (by rw [hn]; exact hl)) (kp ds _ h) ⟨fun G' δ' σ' H' _ r q => ?_, fun _ _ _ _ _ _ q => q.elim, fun _ _ _ _ _ _ q => q.elim, fun _ _ _ _ _ _ _ q => q.elim, fun G' δ' σ' v d H' _ r p q => ?_, fun _ _ _ _ _ _ _ _ _ q => q.elim⟩
  · obtain ⟨oss, q, o⟩ := owns_of a.num r q
    exact q .non G' H' r.st Rp.non o
  · obtain ⟨oss, q, o⟩ := owns_of a.num r q
    exact q v G' H' r.st p o
end
end DL

set_option Elab.async false
set_option linter.all false
set_option maxRecDepth 100000
set_option maxHeartbeats 2000000
/-! DW7: calls of defs that change lists that are lent to them. -/
namespace DL
open PySem PySem.Spec L2
inductive AllM (K : PySem.W.Frag) (δ : Ds) (σ : L2.St) (G : Hp) : List MA → List V → List PyData → Prop
  | nil : AllM K δ σ G [] [] []
  | val {t : DE} {as : List MA} {v : V} {vs : List V} {d : PyData} {ds : List PyData} : Rp K (fun _ => True) G v d → AllM K δ σ G as vs ds → AllM K δ σ G (.val t :: as) (v :: vs) (d :: ds)
  | own {i : Nat} {m : Bool} {as : List MA} {p : Addr} {vs : List V} {es : List PyData} {ds : List PyData} : ownL (look δ i) = some (m, es) → σ[i]? = some (some (.ref p)) → AllM K δ σ G as vs ds → AllM K δ σ G (.own i :: as) (.ref p :: vs) (.list es :: ds)
def SdM (K : PySem.W.Frag) (n : Nat) (te : TA) (as : List MA) : Prop := ∀ (B : Bg) (G0 G : Hp) (δ : Ds) (σ : L2.St) (H : Hp) (Q : List V → Hp → Prop) (QQ : List PyData → Prop), Rl K B G0 G δ σ H → mEval as δ QQ →
  (∀ ds vs G' H', ds.length = n → Step G H G' H' → AllM K δ σ G' as vs ds → QQ ds → Q vs H') → te σ H Q
def MD (X : Cx) (es : List Expr) (as : List MA) : Prop := ∃ te, PA X es te ∧ SdM X.K es.length te as
theorem AllM.mono {K : PySem.W.Frag} {δ : Ds} {σ : L2.St} {G G' : Hp} (x : Ext G G') : ∀ {as : List MA} {vs : List V} {ds : List PyData}, AllM K δ σ G as vs ds → AllM K δ σ G' as vs ds
  | _, _, _, .nil => .nil
  | _, _, _, .val r t => .val (r.mono x) (AllM.mono x t)
  | _, _, _, .own h1 h2 t => .own h1 h2 (AllM.mono x t)
theorem AllM.len {K : PySem.W.Frag} {δ : Ds} {σ : L2.St} {G : Hp} : ∀ {as : List MA} {vs : List V} {ds : List PyData}, AllM K δ σ G as vs ds → vs.length = ds.length
  | _, _, _, .nil => rfl
  | _, _, _, .val _ t => congrArg (· + 1) t.len
  | _, _, _, .own _ _ t => congrArg (· + 1) t.len
section
variable {X : Cx} {e : Expr} {es : List Expr} {te : DE} {as : List MA}
theorem md_nil : MD X [] [] := ⟨_, pa_nil, fun B G0 G δ σ H Q QQ r h k => k [] [] G H rfl (Step.refl r.st.i) .nil h⟩
theorem md_val (ha : ED X e te) (hr : MD X es as) (hs : starEach (e :: es) X.env = (false, eval e X.env) :: starEach es X.env := by rfl) : MD X (e :: es) (.val te :: as) := by
  obtain ⟨ta', ha, sa⟩ := ha
  obtain ⟨tr', hr, sr⟩ := hr
  refine ⟨_, pa_cons ha hr hs, fun B G0 G δ σ H Q QQ r h k => sa B G0 G δ σ H _ _ r h fun fl d v G1 H1 s1 p1 h1 => ?_⟩
  obtain ⟨G2, s2, x2, p2, h2⟩ := p1.fix r.st.h s1 h1
  exact sr B G0 G2 δ σ H1 _ _ (r.step s2) h2 fun ds vs G3 H3 n3 s3 p3 h3 => k (d :: ds) (v :: vs) G3 H3 (congrArg (· + 1) n3) (s2.trans s3) (.val ((p2.weak fun _ _ => trivial).mono s3.g) p3) h3
theorem md_own (i : Nat) {x : Str} {pos : Pos} (hx : PE X (.Name x pos) (tVar i)) (hr : MD X es as) (hs : starEach (.Name x pos :: es) X.env = (false, eval (.Name x pos) X.env) :: starEach es X.env := by rfl) : MD X (.Name x pos :: es) (.own i :: as) := by
  obtain ⟨tr', hr, sr⟩ := hr
  refine ⟨_, pa_cons hx hr hs, fun B G0 G δ σ H Q QQ r h k => ?_⟩
  obtain ⟨m, ds0, q, h⟩ := own_at h
  obtain ⟨p, xs, b1, _⟩ := r.own i m ds0 q
  exact ⟨.ref p, b1, sr B G0 G δ σ H _ _ r h fun ds vs G3 H3 n3 s3 p3 h3 => k (.list ds0 :: ds) (.ref p :: vs) G3 H3 (congrArg (· + 1) n3) s3 (.own q b1 p3) h3⟩
end
/-! the addresses that are lent -/
theorem AllM.lent {K : PySem.W.Frag} {δ : Ds} {σ : L2.St} {G : Hp} : ∀ {as : List MA} {vs : List V} {ds : List PyData} (j : Nat), AllM K δ σ G as vs ds → ∃ ps : List Addr, ps.length = (mPos j as).length ∧ (mSlots as).length = (mPos j as).length ∧
    (∀ (k i : Nat), (mSlots as)[k]? = some i → ∃ p m es t, ps[k]? = some p ∧ ownL (look δ i) = some (m, es) ∧ σ[i]? = some (some (.ref p)) ∧ (mPos j as)[k]? = some (j + t) ∧ vs[t]? = some (.ref p) ∧ ds[t]? = some (.list es)) ∧
    (∀ (t : Nat) (d : PyData), ds[t]? = some d → j + t ∉ mPos j as → ∃ v, vs[t]? = some v ∧ Rp K (fun _ => True) G v d) ∧ (∀ x ∈ mPos j as, j ≤ x)
  | _, _, _, j, .nil => ⟨[], rfl, rfl, fun k i h => by simp [mSlots] at h, fun t d h => by simp at h, fun x h => by simp [mPos] at h⟩
  | _, _, _, j, .val (t := t0) (as := as) (v := v) (vs := vs) (d := d) (ds := ds) r a => by
    obtain ⟨ps, h1, h2, h3, h4, h5⟩ := a.lent (j + 1)
    refine ⟨ps, h1, h2, fun k i h => ?_, fun t d' h hn => ?_, fun x h => ?_⟩
    · obtain ⟨p, m, es, t, a1, a2, a3, a4, a5, a6⟩ := h3 k i h
      exact ⟨p, m, es, t + 1, a1, a2, a3, by show (mPos (j + 1) as)[k]? = _; rw [a4]; congr 1; omega, by simpa using a5, by simpa using a6⟩
    · cases t with
      | zero =>
        simp at h
        subst h
        exact ⟨v, rfl, r⟩
      | succ t =>
        obtain ⟨v', b1, b2⟩ := h4 t d' (by simpa using h) (by rw [show j + 1 + t = j + (t + 1) by omega]; exact hn)
        exact ⟨v', by simpa using b1, b2⟩
    · have := h5 x h
      omega
  | _, _, _, j, .own (i := i0) (m := m0) (as := as) (p := p0) (vs := vs) (es := es0) (ds := ds) q1 q2 a => by
    obtain ⟨ps, h1, h2, h3, h4, h5⟩ := a.lent (j + 1)
    refine ⟨p0 :: ps, congrArg (· + 1) h1, congrArg (· + 1) h2, fun k i h => ?_, fun t d' h hn => ?_, fun x h => ?_⟩
    · cases k with
      | zero =>
        have : i0 = i := by simpa [mSlots] using h
        subst this
        exact ⟨p0, m0, es0, 0, rfl, q1, q2, rfl, rfl, rfl⟩
      | succ k =>
        obtain ⟨p, m, es, t, a1, a2, a3, a4, a5, a6⟩ := h3 k i (by simpa [mSlots] using h)
        exact ⟨p, m, es, t + 1, by simpa using a1, a2, a3, by
          show (mPos (j + 1) as)[k]? = _
          rw [a4]
          congr 1
          omega, by simpa using a5, by simpa using a6⟩
    · cases t with
      | zero => exact absurd (List.mem_cons_self) hn
      | succ t =>
        obtain ⟨v', b1, b2⟩ := h4 t d' (by simpa using h) (fun z => hn (by
          rw [show j + 1 + t = j + (t + 1) by omega] at z
          exact List.mem_cons_of_mem _ z))
        exact ⟨v', by simpa using b1, b2⟩
    · rcases List.mem_cons.mp h with e | e
      · omega
      · have := h5 x e
        omega
theorem fall_own {s : Sl} {m : Bool} {ds es : List PyData} (h : ownL s = some (m, ds)) : ownL (fallen s es) = some (false, es) := by
  cases s with
  | own n xs => rfl
  | par k xs => rfl
  | _ => cases h
theorem look_putAll : ∀ {is : List Nat} {ess : List (List PyData)} {δ : Ds}, is.Nodup → ess.length = is.length → (∀ i ∈ is, i < δ.length) → (∀ (k i : Nat), is[k]? = some i → ∃ es, ess[k]? = some es ∧ look (putAll δ is ess) i = fallen (look δ i) es) ∧ (∀ j, j ∉ is → look (putAll δ is ess) j = look δ j) ∧ (putAll δ is ess).length = δ.length
  | [], _, δ, _, _, _ => ⟨fun k i h => by simp at h, fun j _ => by simp [putAll], by simp [putAll]⟩
  | i0 :: is, [], δ, _, h, _ => by simp at h
  | i0 :: is, es0 :: ess, δ, hd, hl, hb => by
    obtain ⟨hni, hd'⟩ := List.nodup_cons.mp hd
    have hi0 := hb i0 List.mem_cons_self
    obtain ⟨a1, a2, a3⟩ := look_putAll (is := is) (ess := ess) (δ := put δ i0 (fallen (look δ i0) es0)) hd' (by simpa using hl) (fun i hi => by rw [put_length]; exact hb i (List.mem_cons_of_mem _ hi))
    refine ⟨fun k i h => ?_, fun j hj => ?_, by rw [putAll, a3, put_length]⟩
    · cases k with
      | zero =>
        have : i0 = i := by simpa using h
        subst this
        exact ⟨es0, rfl, by rw [putAll, a2 _ hni, look_put_eq _ _ _ hi0]⟩
      | succ k =>
        have h' : is[k]? = some i := by simpa using h
        obtain ⟨es, b1, b2⟩ := a1 k i h'
        refine ⟨es, by simpa using b1, ?_⟩
        have ne : i ≠ i0 := fun z => hni (by rw [← z]; exact List.mem_of_getElem? h')
        rw [putAll, b2, look_put_ne _ _ _ _ ne]
    · have ne : j ≠ i0 := fun z => hj (by rw [z]; exact List.mem_cons_self)
      rw [putAll, a2 j (fun z => hj (List.mem_cons_of_mem _ z)), look_put_ne _ _ _ _ ne]
/-- a call that changes what is lent -/
def SdC (K : PySem.W.Frag) (te : TE) (c : DM) : Prop := ∀ (B : Bg) (G0 G : Hp) (δ : Ds) (σ : L2.St) (H : Hp) (Q : L2.VK) (QQ : PyData → Ds → Prop), Rl K B G0 G δ σ H → c δ QQ →
  (∀ d v G' H' δ', Ext G G' → Rl K B G0 G' δ' σ H' → Rp K (fun _ => True) G' v d → QQ d δ' → Q v H') → te σ H Q
def CD (X : Cx) (e : Expr) (c : DM) : Prop := ∃ te, PE X e te ∧ SdC X.K te c
theorem sdc_call {K : PySem.W.Frag} {S : DSM} {as : List MA} {tr' : TA} {n : Nat} {ms : List Nat} {E : XK} (m : MonoM S) (hms : mPos 0 as = ms) (hnd : (mSlots as).Nodup) (h : SdM K n tr' as) : SdC K (tCall (spM K n ms S) [] E tr') (dMCall S as) := fun B G0 G δ σ H Q QQ r hq k =>
  h B G0 G δ σ H _ _ r hq fun ds vs G1 H1 n1 s1 a1 h1 => by
    subst hms
    have r1 := r.step s1
    obtain ⟨ps, l1, l2, l3, l4, _⟩ := a1.lent 0
    have hslot : ∀ i ∈ mSlots as, i < δ.length := fun i hi => by
      obtain ⟨k, hk⟩ := List.mem_iff_getElem?.mp hi
      obtain ⟨p, m, es, t, _, b2, _⟩ := l3 k i hk
      by_cases z : i < δ.length
      · exact z
      · rw [look_out _ _ (by omega)] at b2
        cases b2
    have hk_of : ∀ k p, ps[k]? = some p → ∃ i, (mSlots as)[k]? = some i := fun k p hp => by
      have : k < (mSlots as).length := by
        rw [l2, ← l1]
        exact (List.getElem?_eq_some_iff.mp hp).1
      exact ⟨_, List.getElem?_eq_getElem this⟩
    have hown : ∀ k i, (mSlots as)[k]? = some i → ∃ p m es xs t, ps[k]? = some p ∧ ownL (look δ i) = some (m, es) ∧ σ[i]? = some (some (.ref p)) ∧ (mPos 0 as)[k]? = some t ∧ vs[t]? = some (V.ref p) ∧ ds[t]? = some (PyData.list es) ∧ G1 p = none ∧ B p = none ∧ H1 p = some (.lst xs) ∧ RpAll K (mP B m) G1 xs es := fun k i hk => by
      obtain ⟨p, m, es, t, b1, b2, b3, b4, b5, b6⟩ := l3 k i hk
      obtain ⟨p', xs, c1, c2, c3, c4, c5⟩ := r1.own i m es b2
      rw [b3] at c1
      cases c1
      rw [Nat.zero_add] at b4
      exact ⟨p, m, es, xs, t, b1, b2, b3, b4, b5, b6, c2, c3, c4, c5⟩
    have hnod : ps.Nodup := by
      refine List.pairwise_iff_getElem.mpr fun x y hx hy hxy e' => ?_
      obtain ⟨py, hpy⟩ : ∃ p, ps[y]? = some p := ⟨_, List.getElem?_eq_getElem hy⟩
      have e : ps[x]? = some py := by
        rw [List.getElem?_eq_getElem hx, e', ← List.getElem?_eq_getElem hy]
        exact hpy
      obtain ⟨i1, g1⟩ := hk_of x py e
      obtain ⟨i2, g2⟩ := hk_of y py hpy
      obtain ⟨p1, m1, es1, xs1, t1, a1, a2, a3, _⟩ := hown x i1 g1
      obtain ⟨p2, m2, es2, xs2, t2, c1, c2, c3, _⟩ := hown y i2 g2
      rw [e] at a1
      cases a1
      rw [hpy] at c1
      cases c1
      have := r1.dis i1 i2 _ m1 m2 es1 es2 a2 c2 a3 c3
      subst this
      have e2 : x = y := (List.getElem?_inj (List.getElem?_eq_some_iff.mp g1).1 hnd).mp (g1.trans g2.symm)
      omega
    refine ⟨by rw [List.append_nil, a1.len]; exact n1, G1, ds, ps, s1.i, ⟨by rw [List.append_nil]; exact a1.len, fun j d hj hn => ?_, fun k i hk => ?_, hnod, l1⟩, ?_⟩
    · obtain ⟨v, b1, b2⟩ := l4 j d hj (by rw [Nat.zero_add]; exact hn)
      exact ⟨v, by rw [List.append_nil]; exact b1, b2⟩
    · have hks : k < (mSlots as).length := by
        rw [l2]
        exact (List.getElem?_eq_some_iff.mp hk).1
      obtain ⟨p, m, es, xs, t, b1, b2, b3, b4, b5, b6, b7, b8, b9, b10⟩ := hown k _ (List.getElem?_eq_getElem hks)
      rw [hk] at b4
      cases b4
      exact ⟨p, xs, es, b1, by rw [List.append_nil]; exact b5, b6, b7, b9, b10.weak fun _ _ => trivial⟩
    · refine m ds _ _ (fun d oss q v G2 H2 s2 p2 o2 => ?_) h1
      have hlen : oss.length = (mSlots as).length := by rw [o2.num, l1, l2]
      obtain ⟨z1, z2, z3⟩ := look_putAll (δ := δ) hnd hlen hslot
      have nps : ∀ {p : Addr}, B p ≠ none → p ∉ ps := fun {p} hb hp => by
        obtain ⟨k, hk⟩ := List.mem_iff_getElem?.mp hp
        obtain ⟨i, gi⟩ := hk_of k p hk
        obtain ⟨p', m, es, xs, t, b1, b2, b3, b4, b5, b6, b7, b8, _⟩ := hown k i gi
        rw [hk] at b1
        cases b1
        exact hb b8
      have hown2 : ∀ j m es, ownL (look (putAll δ (mSlots as) oss) j) = some (m, es) → ∃ p xs, σ[j]? = some (some (.ref p)) ∧ G2 p = none ∧ B p = none ∧ H2 p = some (.lst xs) ∧ RpAll K (mP B m) G2 xs es ∧ ∃ m0 es0, ownL (look δ j) = some (m0, es0) := fun j m es e => by
        by_cases hj : j ∈ mSlots as
        · obtain ⟨k, hk⟩ := List.mem_iff_getElem?.mp hj
          obtain ⟨es', c1, c2⟩ := z1 k j hk
          obtain ⟨p, m0, es0, xs0, t, b1, b2, b3, b4, b5, b6, b7, b8, b9, b10⟩ := hown k j hk
          rw [c2, fall_own b2] at e
          cases e
          obtain ⟨xs, es2, d1, d2, d3, d4⟩ := o2.own k p b1
          rw [c1] at d1
          cases d1
          exact ⟨p, xs, b3, d2, b8, d3, d4.weak (F' := mP B false) (fun _ _ z => nomatch z), m0, es0, b2⟩
        · rw [z2 j hj] at e
          obtain ⟨p, xs, c1, c2, c3, c4, c5⟩ := r1.own j m es e
          have hp : p ∉ ps := fun hp => by
            obtain ⟨k, hk⟩ := List.mem_iff_getElem?.mp hp
            obtain ⟨i, gi⟩ := hk_of k p hk
            obtain ⟨p', m', es', xs', t, b1, b2, b3, _⟩ := hown k i gi
            rw [hk] at b1
            cases b1
            have := r1.dis i j p m' m es' es b2 e b3 c1
            subst this
            exact hj (List.mem_of_getElem? gi)
          have c4' : outs H1 ps p = some (.lst xs) := by rw [outs_not hp]; exact c4
          exact ⟨p, xs, c1, s2.f p c2 (by rw [c4']; exact fun z => nomatch z), c3, s2.h _ _ c4', c5.mono s2.g, m, es, e⟩
      have nonown : ∀ j s, look (putAll δ (mSlots as) oss) j = s → ownL s = none → look δ j = s := fun j s e hs => by
        by_cases hj : j ∈ mSlots as
        · obtain ⟨k, hk⟩ := List.mem_iff_getElem?.mp hj
          obtain ⟨es', c1, c2⟩ := z1 k j hk
          obtain ⟨p, m0, es0, xs0, t, b1, b2, _⟩ := hown k j hk
          have := fall_own (es := es') b2
          rw [← c2, e, hs] at this
          cases this
        · rw [z2 j hj] at e
          exact e
      refine k d v G2 H2 _ (s1.g.trans s2.g) ⟨⟨r1.st.g.trans s2.g, fun a o e => ?_, s2.i, fun p e1 e2 => ?_⟩, by rw [z3]; exact r1.len, fun j m d e => ?_, fun j m es e => ?_, fun j d e => ?_, fun i j p m n es fs e1 e2 e3 e4 => ?_, fun j k es e => ?_⟩ p2 q
      · have : a ∉ ps := nps (by rw [e]; exact fun z => nomatch z)
        exact s2.h _ _ (by rw [outs_not this]; exact r1.st.h _ _ e)
      · have hp : p ∉ ps := nps e2
        refine s2.f p (r1.st.f p e1 e2) ?_
        rw [outs_not hp]
        intro z
        cases w : B p with
        | none => exact e2 w
        | some o =>
          have := r1.st.h _ _ w
          rw [z] at this
          cases this
      · obtain ⟨v, c1, c2⟩ := r1.val j m d (nonown j _ e rfl)
        exact ⟨v, c1, c2.mono s2.g⟩
      · obtain ⟨p, xs, c1, c2, c3, c4, c5, _⟩ := hown2 j m es e
        exact ⟨p, xs, c1, c2, c3, c4, c5⟩
      · exact r1.old j d (nonown j _ e rfl)
      · obtain ⟨_, _, _, _, _, _, _, m1, es1, f1⟩ := hown2 i m es e1
        obtain ⟨_, _, _, _, _, _, _, m2, es2, f2⟩ := hown2 j n fs e2
        exact r1.dis i j p m1 m2 es1 es2 f1 f2 e3 e4
      · by_cases hj : j ∈ mSlots as
        · obtain ⟨k2, hk⟩ := List.mem_iff_getElem?.mp hj
          obtain ⟨es', c1, c2⟩ := z1 k2 j hk
          rw [e] at c2
          cases w : look δ j with
          | par k3 es3 =>
            rw [w] at c2
            unfold fallen at c2
            cases c2
            exact r1.par j k es3 w
          | own _ _ =>
            rw [w] at c2
            cases c2
          | non =>
            rw [w] at c2
            cases c2
          | val _ _ =>
            rw [w] at c2
            cases c2
          | old _ =>
            rw [w] at c2
            cases c2
        · rw [z2 j hj] at e
          exact r1.par j k es e
section
variable {X : Cx} {e : Expr} {es : List Expr} {as : List MA} {pos : Pos} {c : DM} {te : DE} {W : XW}
theorem cd_call {x : Str} {p : Pos} {f : Addr} {fd : FuncData} {ps : List Str} {k : Nat} {ms : List Nat} {S : DSM} (F : FnM X.prog X.w X.K X.mg X.base k f fd ps ms S) (hr : Room k X.A) (hg : Gl X x) (hm : X.mg x = some (.ref f)) (hk : PySem.W.keepIn X.K (.ref f) = true) (hb : Binds X.K fd ps [])
    (ha : MD X (e :: es) as) (hl : (e :: es).length = ps.length := by rfl) (hms : mPos 0 as = ms := by rfl) (hnd : (mSlots as).Nodup := by decide) (hdb : (x == ("__debug__" : Str)) = false := by decide) (he : starEach (e :: es) X.env = (false, eval e X.env) :: starEach es X.env := by rfl) (hpl : (backTo pos (starEach es X.env)).any (·.1) = false := by rfl) :
    CD X (.Call (.Name x p) (e :: es) [] pos) (dMCall S as) := by
  obtain ⟨tr', ha, sa⟩ := ha
  rw [hl] at sa
  exact ⟨_, pe_call F.ok hr hg hm hk hb .nil pass0 ha hdb he hpl, sdc_call F.mono hms hnd sa⟩
theorem sd_mset (i : Nat) {x : Str} {pos' : Pos} (hN : X.N.Nodup) (he : CD X e c) (hi : X.N[i]? = some x := by rfl) (hx : Loc X.env.scope x := by first | exact Or.inl rfl | exact Or.inr rfl) (hs : swapsWith e (some (.Name x pos')) pos.line X.env = pure false := by rfl) (hf : X.fn x = true ∨ X.env.scope.names.lookup x = some .local := by first | exact .inl rfl | exact .inr rfl) :
    SD X W (.Assign [.Name x pos'] e pos) (dMSet i c) := by
  obtain ⟨te', he, se⟩ := he
  exact ⟨_, ps_set hN hi hx he hs hf, fun B G0 G δ σ H DD D r h o => se B G0 G δ σ H _ _ r h fun d v G' H' δ' x r' p q => o.nx G' _ _ H' x (r'.setVal (p.weak fun _ _ z => nomatch z)) q⟩
theorem sd_mdrop (he : CD X e c) (hs : swapsWith e none pos.line X.env = pure false := by rfl) : SD X W (.Expr e pos) (dMDrop c) := by
  obtain ⟨te', he, se⟩ := he
  exact ⟨_, ps_expr he hs, fun B G0 G δ σ H DD D r h o => se B G0 G δ σ H _ _ r h fun d v G' H' δ' x r' p q => o.nx G' δ' σ H' x r' q⟩
theorem sd_mret (he : CD X e c) : SD X W (.Return (some e) pos) (dMRet c) := by
  obtain ⟨te', he, se⟩ := he
  exact ⟨_, ps_ret he, fun B G0 G δ σ H DD D r h o => se B G0 G δ σ H _ _ r h fun d v G' H' δ' x r' p q => o.rt .av d v G' H' r'.st p q⟩
theorem sd_mretP (he : CD X e c) : SD X W (.Return (some e) pos) (dMRetP c) := by
  obtain ⟨te', he, se⟩ := he
  exact ⟨_, ps_ret he, fun B G0 G δ σ H DD D r h o => se B G0 G δ σ H _ _ r h fun d v G' H' δ' x r' p q => o.rp G' δ' σ v d H' x r' p q⟩
theorem sd_retP (he : ED X e te) : SD X W (.Return (some e) pos) (dRetP te) := by
  obtain ⟨te', he, se⟩ := he
  refine ⟨_, ps_ret he, fun B G0 G δ σ H DD D r h o => se B G0 G δ σ H _ _ r h fun fl d v G' H' s p q => ?_⟩
  obtain ⟨G2, s2, x2, p2, q2⟩ := p.fix r.st.h s q
  exact o.rp G2 δ σ v d H' s2.g (r.step s2) (p2.weak fun _ _ => trivial) q2
theorem sd_retPN : SD X W (.Return none pos) dRetPN := ⟨_, ps_retN, fun B G0 G δ σ H DD D r h o => o.rp G δ σ .non .none H (Ext.refl _) r Rp.non h⟩
end
end DL

set_option Elab.async false
set_option linter.all false
set_option maxRecDepth 100000
set_option maxHeartbeats 2000000
/-! DW8: a def that is entered with no object being shown: repr. -/
namespace DL
open PySem PySem.Spec L2
open PyProof.Rows
/-- as FnOk, entered while nothing is being shown -/
structure FnG (P : Program) (w : World) (K : PySem.W.Frag) (mg : Str → Option Value) (base : Heap) (k : Nat) (f : Addr) (fd : FuncData) (ps : List Str) (sp : Sp) : Prop where
  len : ∀ vs H Q E, sp vs H Q E → vs.length = ps.length
  go : ∀ (A : Around) (out1 : List Env) (s : Shared) (H : Hp) (ag : Args) (us : List Value) (vs : List V) (Q : L2.VK) (E : XK), A.guards = some [] → Room k A → Env0 P w K mg base A out1 s H →
    BindsTo s fd ag (ps.zip us) → Vals vs us → sp vs H Q E → codeAny (model P w) A (.call (.ref f) ag) (CR CX0 out1 P w H s Q E) s
theorem FnG.imp {P : Program} {w : World} {K : PySem.W.Frag} {mg : Str → Option Value} {base : Heap} {k : Nat} {f : Addr} {fd : FuncData} {ps : List Str} {sp sp' : Sp} (F : FnG P w K mg base k f fd ps sp) (h : ∀ vs H Q E, sp' vs H Q E → sp vs H Q E) : FnG P w K mg base k f fd ps sp' :=
  ⟨fun vs H Q E x => F.len vs H Q E (h _ _ _ _ x), fun A o s H a us vs Q E g r e b v x => F.go A o s H a us vs Q E g r e b v (h _ _ _ _ x)⟩
section
variable {P : Program} {w : World} {K : PySem.W.Frag} {mg : Str → Option Value} {base : Heap}
theorem fng_of {k : Nat} {f : Addr} {nm qual : Str} {pms : Arguments} {bd : List Stmt} {sc : Scope} {v1 v2 v3 v4 v5 v6 v7 : Value} {a1 a2 : Option Addr} {sl : Array (Option Value)} {N ps : List Str} {sp : Sp}
    (lk : K.lookup f = some ⟨v7, a2, .func (PySem.W.fnOf nm qual pms bd sc v1 v2 v3 v4 a1 v5 v6), sl⟩) (hc : PySem.W.codeIn K v5 qual = true) (S : FnScope N ps sc) (len : ∀ vs H Q E, sp vs H Q E → vs.length = ps.length)
    (hb : ∀ (A : Around) (o : List Env) (s : Shared) (H : Hp) (vs : List V) (Q : L2.VK) (E : XK), (A.deeper (envOfC qual sc s.heap.objs.size f v5)).guards = some [] → Room k (A.deeper (envOfC qual sc s.heap.objs.size f v5)) → sp vs H Q E →
      ∃ t, PSs (cxOf CX0 P w K mg base N qual sc f v5 A o s H E) bd t ∧ t { nx := fun _ H' => Q .non H', rt := Q } (L2.start N vs) H) :
    FnG P w K mg base (k + 1) f (PySem.W.fnOf nm qual pms bd sc v1 v2 v3 v4 a1 v5 v6) ps sp := by
  refine ⟨len, fun A o s H ag us vs Q E hg hr e0 bt r hq => ?_⟩
  have n1 := len _ _ _ _ hq
  have kp : ∀ b ob, base.get? b = some ob → s.heap.get? b = some ob := fun b ob e => (e0.bs b ob e).1
  have KX : K.In s.heap := e0.mod.kin.keeps kp
  have nl : s.heap.NoLimit := e0.mod.nolimit.keeps kp
  have kinds : ∀ y ∈ ps.zip us, sc.names.lookup y.1 = some .local ∨ (sc.names.lookup y.1 = some .cell ∧ ((cellsFrom (s.heap.objs.size + 1) sc.names []).lookup y.1).isSome = true) := fun y hy => by
    obtain ⟨n, v⟩ := y
    cases S.par n (List.of_mem_zip hy).1 with
    | inl q => exact .inl q
    | inr q => exact .inr ⟨q, PySem.W.cellsFrom_some _ _ _ (.inl q)⟩
  refine codeAny_call_function hr.depth (KX _ _ lk) rfl S.co S.gen rfl (PySem.W.codeRec_of KX hc) (bt _ _ _ _ ?_)
  refine wpAny_newFunctionEnv_cells S.kind kinds fun env ev s1 x => ?_
  subst ev
  refine ⟨nl.keeps x.toInCall.keep, codeAny_func ?_⟩
  obtain ⟨t, ht, q⟩ := hb A o s H vs Q E hg (hr.deeper _) hq
  have I := inv_start (CX := CX0) (E := E) S hr.hd e0 n1 r x
  refine wpAny_mono (ht.run [] s1 (L2.start N vs) H _ I q) (fun fl s' hs => ?_) fun _ _ z => z
  cases fl with
  | ret u =>
    obtain ⟨v, σ1, H1, J, rv, q1⟩ := hs
    exact ⟨v, H1, J.os, J.bare, J.base, J.hok, rv, q1⟩
  | next =>
    obtain ⟨σ1, H1, J, q1⟩ := hs
    exact ⟨.non, H1, J.os, J.bare, J.base, J.hok, rfl, q1⟩
  | brk =>
    obtain ⟨_, _, _, z⟩ := hs
    exact z.elim
  | cont =>
    obtain ⟨_, _, _, z⟩ := hs
    exact z.elim
/-- a def by its reading, repr allowed -/
theorem fn_g {x qual : Str} {st : Stmt} {f : Addr} {fd : FuncData} {N ps : List Str} {k : Nat} {S : DSp} {t : DS} (F : Fun K x qual st f fd) (Sc : FnScope N ps (defScope st)) (hl : ps.length ≤ N.length) (kp : Keeps N.length t S)
    (hb : ∀ (cdv : Value) (A : Around) (o : List Env) (s : Shared) (H : Hp) (E : XK), (cxOf CX0 P w K mg base N qual (defScope st) f cdv A o s H E).nox.A.guards = some [] → Room k (A.deeper (envOfC qual (defScope st) s.heap.objs.size f cdv)) → SsD (cxOf CX0 P w K mg base N qual (defScope st) f cdv A o s H E).nox (fun _ _ _ _ => False) (defBody st) t) : FnG P w K mg base (k + 1) f fd ps (spD K ps.length S) := by
  obtain ⟨oc, od, kV, doc, pm, an, cdv, ct, osl, rfl, lk, hcd⟩ := F.ex
  refine fng_of lk hcd Sc (fun vs H Q E h => h.1) (fun A o s H vs Q E hg hr h => ?_)
  obtain ⟨hn, G, ds, i, ra, h⟩ := h
  obtain ⟨t', ht, st'⟩ := hb cdv A o s H E hg hr
  refine ⟨t', ht.nox, ?_⟩
  refine st' ⟨H, []⟩ G G (DL.start N.length ds) (L2.start N vs) H { nx := fun _ => _, rt := _ } _ (start_rl i ra (by rw [hn]; exact hl)) (kp ds _ h) ⟨fun G' δ' σ' H' _ r q => ?_, fun _ _ _ _ _ _ q => q.elim, fun _ _ _ _ _ _ q => q.elim, fun b d v G' H' s' p q => ?_, fun _ _ _ _ _ _ _ _ _ q => q.elim, fun _ _ _ _ _ _ _ _ _ q => q.elim⟩
  · exact q .non G' H' r.st Rp.non
  · exact q v G' H' s' p
/-- the law's call -/
theorem law_callG {mb : Str → Option Value} {k : Nat} {fa a : Addr} {fd : FuncData} {x : Str} {sp : Sp} {s1 : Shared} {vs : List Value} {ns : List Int} (KX : K.In s1.heap) (n1 : s1.heap.Ns mainGlobals mg) (n2 : s1.heap.Ns builtinsNs mb)
    (nb : ∀ x : Str, x ≠ "__name__" → mb x = bootBuiltins x) (nl : s1.heap.NoLimit) (gn : s1.gens = #[]) (ha : s1.heap.get? a = some { cls := .type "list", data := .seq vs.toArray }) (hi : IntsAre vs ns) (hl : ns.length ≤ sizeLine) (hr : Room k callerA)
    (F : ∀ base : Heap, K.In base → base.Ns mainGlobals mg → FnG P w K mg base k fa fd [x] sp) (bt : ∀ (s : Shared) (u : Value), BindsTo s fd ⟨[u], []⟩ [(x, u)])
    (hsp : ∀ H : Hp, Only H → SqL K H a (ns.map V.int) → sp [.ref a] H (fun v _ => v = .bl true) fun _ _ _ => False) :
    codeAny (model P w) callerA (.call (.ref fa) ⟨[.ref a], []⟩) (fun r s' => r = .ok (.ret (.bool true)) ∧ OldK s1.heap s'.heap ∧ s'.os = s1.os ∧ AllBare s'.gens) s1 := by
  have lv := hi.length
  suffices core : ∀ H : Hp, Only H → SqL K H a (ns.map V.int) → HOk P w H s1.heap → (∀ b, H b ≠ none → b = a) → (H a ≠ none → K.lookup a = none) →
      codeAny (model P w) callerA (.call (.ref fa) ⟨[.ref a], []⟩) (fun r s' => r = .ok (.ret (.bool true)) ∧ OldK s1.heap s'.heap ∧ s'.os = s1.os ∧ AllBare s'.gens) s1 by
    cases hk : K.lookup a with
    | some o =>
      have e := KX a o hk
      rw [ha] at e
      obtain rfl := Option.some.inj e
      exact core (fun _ => none) (fun _ => .inl rfl) (.inr ⟨_, vs.toArray, _, hk, rfl, rfl, rfl, by rw [List.size_toArray, lv]; exact hl, by simpa using vals_ints hi⟩) (fun b u z => nomatch z) (fun b z => absurd rfl z) fun z => absurd rfl z
    | none =>
      have at_a : ∀ {b : Addr} {u : HO}, (if b = a then some (HO.frz { cls := .type "list", data := .seq vs.toArray } (.lst (ns.map V.int))) else none) = some u → b = a ∧ u = HO.frz { cls := .type "list", data := .seq vs.toArray } (.lst (ns.map V.int)) := fun {b u} z => by
        by_cases e : b = a
        · rw [if_pos e] at z
          exact ⟨e, (Option.some.inj z).symm⟩
        · rw [if_neg e] at z
          cases z
      refine core (fun b => if b = a then some (.frz { cls := .type "list", data := .seq vs.toArray } (.lst (ns.map V.int))) else none) (fun b => ?_) (.inl (.inr ⟨_, if_pos rfl⟩)) (fun b u z => ?_) (fun b z => ?_) fun _ => hk
      · by_cases e : b = a
        · exact .inr ⟨_, _, if_pos e⟩
        · exact .inl (if_neg e)
      · obtain ⟨rfl, rfl⟩ := at_a z
        exact ⟨ha, by rw [List.length_map]; exact hl, vs, _, vals_ints hi, ha⟩
      · refine Classical.byContradiction fun e => z (if_neg e)
  intro H hO hS hok hA hK
  have hid : ∀ {b : Addr} {o : Obj}, s1.heap.get? b = some o → b ≠ a → (hidT s1.heap H).get? b = some o := fun {b o} e nb => hidT_get e (by
    cases q : H b with
    | none => rfl
    | some u => exact absurd (hA b (by rw [q]; exact fun z => nomatch z)) nb)
  have nsG : ∀ {b : Addr} {m : Str → Option Value}, s1.heap.Ns b m → (hidT s1.heap H).Ns b m := fun {b m} ⟨o, es, ep, e, d, r⟩ => ⟨o, es, ep, hid e (fun z => by
    subst z
    rw [ha] at e
    obtain rfl := Option.some.inj e
    exact nomatch (show Data.seq vs.toArray _ = Data.dict es ep from d)), d, r⟩
  have hKb : K.In (hidT s1.heap H) := fun b o e => by
    by_cases z : b = a
    · subst z
      refine hidT_get (KX b o e) ?_
      cases q : H b with
      | none => rfl
      | some u =>
        rw [hK (by rw [q]; exact fun y => nomatch y)] at e
        cases e
    · exact hid (KX b o e) z
  obtain ⟨mc, l1, l2⟩ := nl
  have e0 : Env0 P w K mg (hidT s1.heap H) callerA [] s1 H := ⟨rfl, ⟨hKb, nsG n1, ⟨mb, nsG n2, nb⟩, ⟨mc, nsG l1, l2⟩⟩, fun b o e => of_hidT e, Nat.le_of_eq (hidT_size _ _), trivial, (fun b z => nomatch (show b ∈ ([] : List Addr) from z)), hok, .of_eq gn⟩
  refine codeAny_mono ((F _ hKb (nsG n1)).go callerA [] s1 H ⟨[.ref a], []⟩ [.ref a] [.ref a] _ _ rfl hr e0 (bt s1 (.ref a)) (.cons rfl .nil) (hsp H hO hS)) fun r s' h => ?_
  cases r with
  | error e => exact False.elim h
  | ok fl =>
    cases fl with
    | ret u =>
      obtain ⟨v, H1, os, bare, un, hok1, rv, q⟩ := h
      have q : v = .bl true := q
      subst q
      have eu : u = Value.bool true := rv
      subst eu
      refine ⟨rfl, OldK.of_keep fun b o e => ?_, os, bare⟩
      rcases hO b with z | ⟨ob, xs, z⟩
      · exact un.keep b o e z (fun y => nomatch (show b ∈ ([] : List Addr) from y)) (fun y => nomatch (show b ∈ ([] : List Addr) from y))
      · obtain ⟨y1, _⟩ := hok b _ z
        rw [e] at y1
        obtain rfl := Option.some.inj y1
        exact (hok1 b _ (un.frzs b _ _ z)).1
    | next => exact False.elim h
    | brk => exact False.elim h
    | cont => exact False.elim h
end
theorem walk_ofG {l : PySem.W.OpenLaw} {n k : Nat} {q : Program} {loose : List Str} {XP : (Str → Option Value) → Heap → Prop} {YP : World → Heap → Prop} {d : DefRec} {K : Params → PySem.W.Frag} {sp : World → Sp} {x : Str}
    (h1 : l.most = some n) (h2 : n ≤ sizeLine) (h3 : d.params.defaults = []) (hr : Room k callerA) (hY : ∀ (w : World) (h : Heap), YP w h → (K w.params).In h)
    (F : ∀ (w : World) (mg : Str → Option Value) (fa : Addr) (h : Heap), (K w.params).In h → h.Ns mainGlobals mg → mg d.name = some (.ref fa) → ∃ fd : FuncData, (∀ (s : Shared) (u : Value), BindsTo s fd ⟨[u], []⟩ [(x, u)]) ∧
      ∀ base : Heap, (K w.params).In base → base.Ns mainGlobals mg → FnG l.prog w (K w.params) mg base k fa fd [x] (sp w))
    (hsp : ∀ (w : World) (H : Hp) (a : Addr) (ns : List Int), ns.length ≤ n → Only H → SqL (K w.params) H a (ns.map V.int) → sp w [.ref a] H (fun v _ => v = .bl true) fun _ _ _ => False) :
    PySem.W.WalkO q loose XP YP l.row.toRowW d [] (fun f vs => PySem.call f vs) := by
  refine Att.attach_call h1 h3 fun w s0 s1 mg mb fa o pm cd doc a vs ns G Y _ _ _ hm hob hin hln hg => ?_
  have KX := hY w _ Y
  obtain ⟨fd, hb, hF⟩ := F w mg fa _ KX G.T.g hm
  exact law_callG KX G.T.g G.T.b G.T.builtins G.T.nolimit hg hob hin (Nat.le_trans hln h2) hr hF hb fun H hO hS => hsp w H a ns hln hO hS
/-! repr -/
theorem call_reprD {X : Cx} (hg : X.A.guards = some []) (hu : X.A.units + 66 < cLine) : CallR X (.builtin "repr") (fun xs H Q => ∃ (a : Addr) (d : PyData), xs = [.ref a] ∧ Dp X.K H (.ref a) d ∧ SeqAt.shaped d = true ∧ d.showable = true ∧ d.hasDict = false ∧ d.shown.length ≤ sizeLine ∧ Q (.str d.shown) H) := by
  intro pins s σ H xs us Q I r h
  obtain ⟨a, d, rfl, hd, hs, h1, h2, h3, q⟩ := h
  obtain ⟨u, rfl, ru⟩ := vals1 r
  have eu : u = Value.ref a := ru
  subst eu
  obtain ⟨as, rd⟩ := Dp.reads I d (.ref a) (.ref a) hd rfl
  have hdep : d.depth ≤ 64 := by
    have : (d.canLay0 && decide (d.depth ≤ 64)) = true := hs
    rw [Bool.and_eq_true, decide_eq_true_eq] at this
    exact this.2
  exact repr_of_reads' rd h1 (fun z => by rw [h2] at z; cases z) hg (by omega) (fun _ _ e => e) (fun h' u tk k => ⟨.str d.shown, H, I.kept k, ⟨_, rfl⟩, q⟩) h3
def rRepr : R1 := fun _ x Q => match x with
  | .list ds => SeqAt.shaped (.list ds) = true ∧ PyData.showable (.list ds) = true ∧ PyData.hasDict (.list ds) = false ∧ (PyData.shown (.list ds)).length ≤ sizeLine ∧ Q (.av .fresh) (.str (PyData.shown (.list ds)))
  | .tuple ds => SeqAt.shaped (.tuple ds) = true ∧ PyData.showable (.tuple ds) = true ∧ PyData.hasDict (.tuple ds) = false ∧ (PyData.shown (.tuple ds)).length ≤ sizeLine ∧ Q (.av .fresh) (.str (PyData.shown (.tuple ds)))
  | _ => False
theorem ed_repr {X : Cx} {a : Expr} {ta : DE} {pos p : Pos} (hgd : X.A.guards = some []) (hu : X.A.units + 66 < cLine) (hg : Gl X "repr") (hm : X.mg "repr" = none) (ha : ED X a ta) (he : starEach [a] X.env = [(false, eval a X.env)] := by rfl) : ED X (.Call (.Name "repr" p) [a] [] pos) (dUn rRepr ta) := by
  refine ed_bi1 (call_reprD hgd hu) (fun B Hs δ σ G H fx x v Q QQ xb y0 i rx h k => ?_) hg hm (by decide +kernel) ha (he := he)
  cases x with
  | list ds =>
    obtain ⟨h1, h2, h3, h4, h5⟩ := h
    obtain ⟨p, xs, rfl, _⟩ := rx.list i
    exact ⟨p, _, rfl, (rx.all i).dp (SeqAt.canLay_of_shaped h1), h1, h2, h3, h4, fin_av (QQ := QQ) (Q := Q) i (.str _) h5 k⟩
  | tuple ds =>
    obtain ⟨h1, h2, h3, h4, h5⟩ := h
    obtain ⟨p, xs, rfl, _⟩ := rx.tuple i
    exact ⟨p, _, rfl, (rx.all i).dp (SeqAt.canLay_of_shaped h1), h1, h2, h3, h4, fin_av (QQ := QQ) (Q := Q) i (.str _) h5 k⟩
  | _ => exact h.elim
end DL

set_option Elab.async false
set_option linter.all false
set_option maxRecDepth 100000
set_option maxHeartbeats 2000000
/-! DW9: a mark, and a list that is changed from outside: only what was known at the mark is known behind it. -/
namespace DL
open PySem PySem.Spec L2
def remS (s : Sl) : Sl := match s with
  | .val _ d => .old d
  | .own _ ds => .old (.list ds)
  | .old d => .old d
  | _ => .non
def dMrk (u : DS) : DS := fun D σ => u { nx := fun _ => False, rt := D.rt } (σ.map remS)
def spoilS (s : Sl) : Sl := match s with
  | .old d => .old d
  | .val m d => (match scalar d with
    | true => .val m d
    | false => .non)
  | _ => .non
def rYoungL (fl : Fl) (d : PyData) (k : List PyData → Prop) : Prop := match fl with
  | .av l => young l (match d with
    | .list es => k es
    | _ => False)
  | _ => False
/-- l.append(e) of a list that was made since the mark; u: what follows -/
def dSpoil (tl te : DE) (u : DS) : DS := fun D σ => tl σ fun fl d => rYoungL fl d fun es => te σ fun fl2 _ => fz fl2 fun _ => es.length < sizeLine ∧ u { nx := fun _ => False, rt := D.rt } (σ.map spoilS)
theorem look_map {f : Sl → Sl} (hf : f .non = .non) : ∀ (δ : Ds) (i : Nat), look (δ.map f) i = f (look δ i)
  | [], i => by
    have a : look ([] : Ds) i = .non := rfl
    show look [] i = f (look [] i)
    rw [a, hf]
  | _ :: _, 0 => rfl
  | _ :: r, i + 1 => look_map hf r i
section
variable {K : PySem.W.Frag} {W : XW} {B : Bg} {G0 G H : Hp} {δ : Ds} {σ : L2.St}
open Classical in
/-- all own lists stay from here on -/
noncomputable def allIn (G H : Hp) (δ : Ds) (σ : L2.St) : Hp := fun a => if G a = none ∧ ¬ (∃ i m ds, ownL (look δ i) = some (m, ds) ∧ σ[i]? = some (some (.ref a))) then none else H a
theorem allIn_ext (r : Rl K B G0 G δ σ H) : Ext G (allIn G H δ σ) := fun a o e => by
  unfold allIn
  rw [if_neg (fun z => by rw [z.1] at e; cases e)]
  exact r.st.i a o e
theorem allIn_le : Ext (allIn G H δ σ) H := fun a o e => by
  unfold allIn at e
  split at e
  · cases e
  · exact e
theorem Rl.mark (r : Rl K B G0 G δ σ H) : Step G0 B (allIn G H δ σ) H ∧ Rl K ⟨H, []⟩ (allIn G H δ σ) (allIn G H δ σ) (δ.map remS) σ H := by
  have x := allIn_ext r
  refine ⟨⟨r.st.g.trans x, r.st.h, allIn_le, fun p h1 h2 => ?_⟩, Step.refl allIn_le, by rw [List.length_map]; exact r.len, fun i m d h => ?_, fun i m ds h => ?_, fun i d h => ?_, fun i j p m n ds es h1 => ?_, fun i k ds h => ?_⟩
  · have g := r.st.f p h1 h2
    unfold allIn
    rw [if_pos]
    refine ⟨g, ?_⟩
    rintro ⟨i, m, ds, e1, e2⟩
    obtain ⟨p', xs, c1, _, c3, _⟩ := r.own i m ds e1
    rw [e2] at c1
    cases c1
    exact h2 c3
  · rw [look_map rfl] at h
    cases e : look δ i <;> rw [e] at h <;> cases h
  · rw [look_map rfl] at h
    cases e : look δ i <;> rw [e] at h <;> cases h
  · rw [look_map rfl] at h
    cases e : look δ i with
    | val m d' =>
      rw [e] at h
      cases h
      obtain ⟨v, c1, c2⟩ := r.val i m _ e
      exact ⟨v, c1, (c2.mono x).weak fun _ _ => trivial⟩
    | own m ds =>
      rw [e] at h
      cases h
      obtain ⟨p, xs, c1, c2, c3, c4, c5⟩ := r.own i m ds (by rw [e]; rfl)
      refine ⟨.ref p, c1, .lst trivial ?_ ((c5.mono x).weak fun _ _ => trivial)⟩
      unfold allIn
      rw [if_neg (fun z => z.2 ⟨i, m, ds, by rw [e]; rfl, c1⟩)]
      exact c4
    | old d' =>
      rw [e] at h
      cases h
      obtain ⟨v, c1, c2⟩ := r.old i _ e
      exact ⟨v, c1, c2.mono (r.st.g.trans x)⟩
    | non =>
      rw [e] at h
      cases h
    | par _ _ =>
      rw [e] at h
      cases h
  · rw [look_map rfl] at h1
    cases e : look δ i <;> rw [e] at h1 <;> cases h1
  · rw [look_map rfl] at h
    cases e : look δ i <;> rw [e] at h <;> cases h
theorem ret_from {Hs Hs' G H : Hp} {b : Rt} {v : V} {d : PyData} (x : Ext Hs Hs') (r : RetRep K Hs' G H b v d) : RetRep K Hs G H b v d := by
  cases b with
  | av => exact r
  | avF => exact Rp.weak (fun _ z => x.free z) r
  | new =>
    obtain ⟨p, xs, ds, h1, h2, h3, h4⟩ := r
    exact ⟨p, xs, ds, h1, h2, x.free h3, h4⟩
  | newF =>
    obtain ⟨p, xs, ds, h1, h2, h3, h4, h5, h6⟩ := r
    exact ⟨p, xs, ds, h1, h2, x.free h3, h4, h5, h6.weak fun _ z => x.free z⟩
/-- readings where what stays was there at the ground -/
def SsB (K : PySem.W.Frag) (W : XW) (ts : TS) (t : DS) : Prop := ∀ (B : Bg) (G0 G : Hp) (δ : Ds) (σ : L2.St) (H : Hp) (DD : Ed) (D : Ends), Ext G0 B → Rl K B G0 G δ σ H → t DD δ → EdOk K W B G0 G DD D → ts D σ H
def SsDB (X : Cx) (W : XW) (sts : List Stmt) (t : DS) : Prop := ∃ ts, PSs X sts ts ∧ SsB X.K W ts t
theorem sdb_of {X : Cx} {sts : List Stmt} {t : DS} (h : SsD X W sts t) : SsDB X W sts t := by
  obtain ⟨t', h, s⟩ := h
  exact ⟨t', h, fun B G0 G δ σ H DD D _ r q o => s B G0 G δ σ H DD D r q o⟩
theorem sdb_cons {X : Cx} {st : Stmt} {rest : List Stmt} {t u : DS} (h1 : SD X W st t) (h2 : SsDB X W rest u) : SsDB X W (st :: rest) (dSeq t u) := by
  obtain ⟨t', h1, s1⟩ := h1
  obtain ⟨u', h2, s2⟩ := h2
  refine ⟨_, pss_cons h1 h2, fun B G0 G δ σ H DD D x r h o => s1 B G0 G δ σ H { DD with nx := u DD } { D with nx := u' D } r h ⟨fun G' δ' σ' H' y r' q => ?_, o.bk, o.ct, o.rt, o.rp, o.ex⟩⟩
  exact s2 B G0 G' δ' σ' H' DD D x r' q (o.up y)
theorem sd_mark {X : Cx} {sts : List Stmt} {u : DS} (h : SsDB X W sts u) : SsD X W sts (dMrk u) := by
  obtain ⟨u', hu, su⟩ := h
  refine ⟨u', hu, fun B G0 G δ σ H DD D r h o => ?_⟩
  obtain ⟨s, r'⟩ := r.mark
  refine su _ _ _ _ σ H { nx := fun _ => False, rt := DD.rt } D allIn_le r' h ⟨fun _ _ _ _ _ _ q => q.elim, fun _ _ _ _ _ _ q => q.elim, fun _ _ _ _ _ _ q => q.elim, fun b d v G' H' s' p q => ?_, fun _ _ _ _ _ _ _ _ _ q => q.elim, fun _ _ _ _ _ _ _ _ _ q => q.elim⟩
  exact o.rt b d v G' H' (s.trans s') (ret_from r.st.h p) q
theorem scalar_rp {F F' : Addr → Prop} {G G' : Hp} {v : V} {d : PyData} (h : scalar d = true) (r : Rp K F G v d) : Rp K F' G' v d := by
  cases r with
  | non => exact .non
  | bl b => exact .bl b
  | int i => exact .int i
  | str x => exact .str x
  | lst _ _ _ => cases h
  | tup _ _ => cases h
  | scr _ => cases h
theorem Rl.spoil {p : Addr} {xs : List V} (x : Ext G0 B) (r : Rl K B G0 G δ σ H) (hb : B p = none) : Rl K B G0 G0 (δ.map spoilS) σ (upd H p (.lst xs)) := by
  have g0 : G0 p = none := x.free hb
  have i0 : Ext G0 H := r.st.g.trans r.st.i
  refine ⟨⟨Ext.refl _, r.st.h.under hb, i0.under g0, fun q h _ => h⟩, by rw [List.length_map]; exact r.len, fun i m d h => ?_, fun i m ds h => ?_, fun i d h => ?_, fun i j p m n ds es h1 => ?_, fun i k ds h => ?_⟩
  · rw [look_map rfl] at h
    cases e : look δ i with
    | val m' d' =>
      rw [e] at h
      unfold spoilS at h
      cases hs : scalar d' with
      | true =>
        simp only [hs] at h
        cases h
        obtain ⟨v, c1, c2⟩ := r.val i _ _ e
        exact ⟨v, c1, scalar_rp hs c2⟩
      | false =>
        simp only [hs] at h
        cases h
    | own _ _ =>
      rw [e] at h
      cases h
    | old _ =>
      rw [e] at h
      cases h
    | non =>
      rw [e] at h
      cases h
    | par _ _ =>
      rw [e] at h
      cases h
  · rw [look_map rfl] at h
    have : ownL (spoilS (look δ i)) = none := by
      cases look δ i with
      | val m d =>
        unfold spoilS
        cases hs : scalar d <;> simp only [hs] <;> rfl
      | _ => rfl
    rw [this] at h
    cases h
  · rw [look_map rfl] at h
    cases e : look δ i with
    | old d' =>
      rw [e] at h
      cases h
      exact r.old i _ e
    | val m d' =>
      rw [e] at h
      unfold spoilS at h
      cases hs : scalar d' <;> simp only [hs] at h <;> cases h
    | own _ _ =>
      rw [e] at h
      cases h
    | non =>
      rw [e] at h
      cases h
    | par _ _ =>
      rw [e] at h
      cases h
  · rw [look_map rfl] at h1
    have : ownL (spoilS (look δ i)) = none := by
      cases look δ i with
      | val m d =>
        unfold spoilS
        cases hs : scalar d <;> simp only [hs] <;> rfl
      | _ => rfl
    rw [this] at h1
    cases h1
  · rw [look_map rfl] at h
    cases e : look δ i with
    | val m d' =>
      rw [e] at h
      unfold spoilS at h
      cases hs : scalar d' <;> simp only [hs] at h <;> cases h
    | _ =>
      rw [e] at h
      cases h
/-- l.append(e) of a list that was made since the mark, and what follows -/
theorem sdb_spoil {X : Cx} {l e : Expr} {rest : List Stmt} {tl te : DE} {u : DS} {pos pos2 pos3 : Pos} (hx : ED X l tl) (he : ED X e te) (hr : SsDB X W rest u) (hs : swapsWith (.Call (.Attribute l "append" pos2) [e] [] pos3) none pos.line X.env = pure false := by rfl)
    (hbase : attributeBase l "append" X.env (eval l X.env) = eval l X.env := by rfl)
    (hfew : ((backTo pos3 (starEach [e] X.env)).all (fun x => !x.1) && (backToKw pos3 (keywordEach [] X.env)).all (fun x => x.1.isSome) && decide ([e].length + ([] : List Keyword).length + (if ([] : List Keyword).isEmpty then 0 else 1) < 30)) = true := by rfl)
    (hline : (pos2.endLine == pos3.line) = true := by rfl) (hse : starEach [e] X.env = [(false, eval e X.env)] := by rfl) (hpl : (backTo pos3 (starEach [] X.env)).any (·.1) = false := by rfl) :
    SsDB X W (.Expr (.Call (.Attribute l "append" pos2) [e] [] pos3) pos :: rest) (dSpoil tl te u) := by
  obtain ⟨tl', hx, sl⟩ := hx
  obtain ⟨te', he, se⟩ := he
  obtain ⟨u', hr, su⟩ := hr
  refine ⟨_, pss_cons (ps_expr (pe_bm PySem.F.plainAttrs_list PySem.F.slot_list_append PySem.F.type_list_append mt_append hx (pa_cons he pa_nil hse) hbase hfew hline hse hpl) hs) hr, fun B G0 G δ σ H DD D xg r h o => ?_⟩
  refine sl B G0 G δ σ H _ _ r h fun fl d v G1 H1 s1 p1 q1 => ?_
  cases fl with
  | av l0 =>
    have yg := q1
    cases d with
    | list es =>
      have p1' : Rp X.K (lP B H l0) G1 v (.list es) := p1
      cases p1' with
      | lst hf hl ra =>
        rename_i a xs
        have hb : B a = none := (lP_young r.st.h yg hf).1
        have q2 := young_get yg
        have ha1 : H1 a = some (.lst xs) := s1.i _ _ hl
        refine .inl ⟨rfl, xs, .of ha1⟩ |> fun z => ⟨z, ?_⟩
        refine se B G0 G1 δ σ H1 _ _ (r.step s1) q2 fun fl2 d2 v2 G2 H2 s2 p2 q3 => ?_
        obtain ⟨G3, s3, x3, p3, q4⟩ := p2.fix (r.step s1).st.h s2 q3
        have ha2 : H2 a = some (.lst xs) := s2.h _ _ ha1
        refine ⟨a, xs, v2, rfl, rfl, ha2, by rw [ra.length]; exact q4.1, ?_⟩
        refine su B G0 G0 (δ.map spoilS) σ _ { nx := fun _ => False, rt := DD.rt } D xg (((r.step s1).step s3).spoil xg hb) q4.2 ⟨fun _ _ _ _ _ _ q => q.elim, fun _ _ _ _ _ _ q => q.elim, fun _ _ _ _ _ _ q => q.elim, o.rt, fun _ _ _ _ _ _ _ _ _ q => q.elim, fun _ _ _ _ _ _ _ _ _ q => q.elim⟩
    | _ => exact (young_get yg).elim
  | new _ => exact q1.elim
  | own _ _ => exact q1.elim
end
end DL

set_option Elab.async false
set_option linter.all false
set_option maxRecDepth 100000
set_option maxHeartbeats 2000000
/-! DW10: lists whose items hold no list. -/
namespace DL
open PySem PySem.Spec L2
/-- from here on the list of slot i stays; its items hold no list -/
def dFrzN (i : Nat) (t : DS) : DS := fun D σ => match look σ i with
  | .own _ ds => (∀ x ∈ ds, NL x) ∧ t D (put σ i (.val true (.list ds)))
  | _ => False
def rRetFN (D : Ed) (fl : Fl) (d : PyData) : Prop := match fl with
  | .av _ => NL d ∧ D.rt .avF d
  | .new _ => (match d with
    | .list ds => (∀ x ∈ ds, NL x) ∧ D.rt .newF d
    | _ => False)
  | .own _ _ => (match d with
    | .list ds => (∀ x ∈ ds, NL x) ∧ D.rt .newF d
    | _ => False)
def dRetFN (t : DE) : DS := fun D σ => t σ fun fl d => rRetFN D fl d
theorem hu66 {k : Nat} {A : Around} (hr : Room k A) : A.units + 66 < cLine := by
  have := hr.un
  omega
section
variable {X : Cx} {W : XW} {st : Stmt} {t : DS} {e : Expr} {te : DE} {pos : Pos}
theorem all_nl {K : PySem.W.Frag} {F F' : Addr → Prop} {G : Hp} {xs : List V} {ds : List PyData} (h : ∀ x ∈ ds, NL x) (r : RpAll K F G xs ds) : RpAll K F' G xs ds :=
  RpAll.via (fun d hd {v} z => Rp.noList (fun _ _ e _ => e) (h d hd) z) r
theorem Rl.younger {K : PySem.W.Frag} {B : Bg} {G0 G H : Hp} {δ : Ds} {σ : L2.St} {i : Nat} {m : Bool} {ds : List PyData} (r : Rl K B G0 G δ σ H) (h : look δ i = .own m ds) (hn : ∀ x ∈ ds, NL x) : Rl K B G0 G (put δ i (.own true ds)) σ H := by
  have hi : i < δ.length := by
    by_cases z : i < δ.length
    · exact z
    · rw [look_out _ _ (by omega)] at h
      cases h
  refine ⟨r.st, by rw [put_length]; exact r.len, fun j n d q => ?_, fun j n es q => ?_, fun j d q => ?_, fun j l p n n' es fs e1 e2 e3 e4 => ?_, fun j k es q => ?_⟩
  · rcases put_look q (fun z => nomatch z) with ⟨_, _, e⟩ | ⟨_, q⟩
    · cases e
    · exact r.val j n d q
  · rcases put_look rfl (own_some q) with ⟨rfl, _, e⟩ | ⟨_, e⟩
    · rw [← e] at q
      cases q
      obtain ⟨p, xs, c1, c2, c3, c4, c5⟩ := r.own j m ds (by rw [h]; rfl)
      exact ⟨p, xs, c1, c2, c3, c4, all_nl hn c5⟩
    · exact r.own j n es (by rw [e]; exact q)
  · rcases put_look q (fun z => nomatch z) with ⟨_, _, e⟩ | ⟨_, q⟩
    · cases e
    · exact r.old j d q
  · have f : ∀ j n es, ownL (look (put δ i (.own true ds)) j) = some (n, es) → ∃ n2 es2, ownL (look δ j) = some (n2, es2) := fun j n es q => by
      rcases put_look rfl (own_some q) with ⟨rfl, _, _⟩ | ⟨_, e⟩
      · exact ⟨m, ds, by rw [h]; rfl⟩
      · exact ⟨n, es, by rw [e]; exact q⟩
    obtain ⟨_, _, f1⟩ := f j n es e1
    obtain ⟨_, _, f2⟩ := f l n' fs e2
    exact r.dis j l p _ _ _ _ f1 f2 e3 e4
  · rcases put_look q (fun z => nomatch z) with ⟨_, _, e⟩ | ⟨_, q⟩
    · cases e
    · exact r.par j k es q
theorem put_put (δ : Ds) (i : Nat) (s s' : Sl) : put (put δ i s) i s' = put δ i s' := by
  induction δ generalizing i with
  | nil => rfl
  | cons x r ih =>
    cases i with
    | zero => rfl
    | succ i => exact congrArg (x :: ·) (ih i)
theorem sd_frzN (i : Nat) (h : SD X W st t) : SD X W st (dFrzN i t) := by
  obtain ⟨t', h, s⟩ := h
  refine ⟨t', h, fun B G0 G δ σ H DD D r h o => ?_⟩
  unfold dFrzN at h
  cases e : look δ i with
  | own m ds =>
    rw [e] at h
    obtain ⟨hn, h⟩ := h
    have hi : i < δ.length := by
      by_cases z : i < δ.length
      · exact z
      · rw [look_out _ _ (by omega)] at e
        cases e
    have r1 := r.younger e hn
    obtain ⟨p, xs, h1, h2, h3, h4, h5, r', x⟩ := r1.freeze (m' := true) (m := true) (fun z => z) (show ownL (look (put δ i (.own true ds)) i) = some (true, ds) by rw [look_put_eq _ _ _ hi]; rfl)
    rw [put_put] at r'
    exact s B G0 _ _ σ H DD D r' h (o.up x)
  | val m d => rw [e] at h; exact h.elim
  | old d => rw [e] at h; exact h.elim
  | non => rw [e] at h; exact h.elim
  | par _ _ => rw [e] at h; exact h.elim
theorem sd_retFN (he : ED X e te) : SD X W (.Return (some e) pos) (dRetFN te) := by
  obtain ⟨te', he, se⟩ := he
  refine ⟨_, ps_ret he, fun B G0 G δ σ H DD D r h o => se B G0 G δ σ H _ _ r h fun fl d v G' H' s p q => ?_⟩
  have s0 := r.st.trans s
  cases fl with
  | av l =>
    have p' : Rp X.K (lP B H l) G' v d := p
    exact o.rt .avF d v G' H' s0 (Rp.noList (fun _ _ e _ => e) q.1 p') q.2
  | new l =>
    obtain ⟨a, xs, ds, rfl, rfl, h3, h4, h5, h6⟩ := p
    exact o.rt .newF _ _ G' H' s0 ⟨a, xs, ds, rfl, rfl, r.st.h.free h3, h4, h5, all_nl q.1 h6⟩ q.2
  | own i m =>
    obtain ⟨ds, a, xs, rfl, rfl, h3, h4, h5, h6, h7⟩ := p
    obtain ⟨a', xs', b1, b2, b3, b4, b5⟩ := r.own i m ds h3
    rw [h4] at b1
    cases b1
    exact o.rt .newF _ _ G' H' s0 ⟨_, xs, ds, rfl, rfl, b3, h5, h6, all_nl q.1 h7⟩ q.2
end
end DL

set_option linter.all false
set_option maxRecDepth 100000
namespace RD
open PySem DL
/-- is_number(value): 0 value, -/
def rd_is_number : DS := (dRet (dAndV (dUn (rKind isInt) (dVar 0)) (dNotV (dUn (rKind isBool) (dVar 0)))))
/-- is_index(value, size): 0 value, 1 size, -/
def rd_is_index (S_is_number : DSp) : DS := (dRet (dAndV (dCall S_is_number (dCons (dVar 0) dNil)) (dBool (dChain rLe rLt (dC (.int 0)) (dVar 0) (dVar 1)))))
/-- _law_draws(script, many): 0 script, 1 many, 2 found, 3 cell, 4 number, 5 k, 6 mixed, 7 base, -/
def rd__law_draws : DS := (dSeq (dOwn 2 (dLst dNil)) (dSeq (dForL (dSl (dVar 0) dNo (dPart (dC (.int 63)))) (gName 3) (dSeq (dSet 4 (dUn rAbs (dUn rToInt (dVar 3)))) (dIf (dCmp rGe (dVar 4) (dOp rPow (dC (.int 10)) (dC (.int 18)))) (dForR1 (dC (.int 60)) (gName 5) (dIf (dCmp rGt (dVar 4) (dC (.int 0))) (dSeq (dApp 2 (dOp rMod (dVar 4) (dC (.int 1000003)))) (dSet 4 (dOp rDiv (dVar 4) (dC (.int 1000003))))) dNext)) (dSeq (dSet 6 (dOp rMod (dOp rAdd (dOp rAdd (dOp rMul (dVar 4) (dC (.int 48271))) (dOp rMul (dC (.int 7)) (dUn rLen (dVar 2)))) (dC (.int 11))) (dC (.int 2147483647)))) (dForR1 (dC (.int 4)) (gName 5) (dSeq (dSet 6 (dOp rMod (dOp rAdd (dOp rAdd (dOp rAdd (dOp rMul (dVar 6) (dC (.int 69621))) (dOp rDiv (dVar 6) (dC (.int 65536)))) (dOp rMul (dC (.int 13)) (dVar 5))) (dC (.int 5))) (dC (.int 2147483629)))) (dApp 2 (dOp rMod (dOp rDiv (dVar 6) (dC (.int 8))) (dC (.int 1000003)))))))))) (dSeq (dForR1 (dVar 1) (gName 5) (dIf (dCmp rLt (dUn rLen (dVar 2)) (dVar 1)) (dSeq (dSet 7 (dC (.int 0))) (dSeq (dIf (dCmp rGt (dUn rLen (dVar 2)) (dC (.int 0))) (dSet 7 (dOp rIx (dVar 2) (dOp rMod (dVar 5) (dUn rLen (dVar 2))))) dNext) (dApp 2 (dOp rMod (dOp rAdd (dOp rAdd (dOp rMul (dVar 7) (dC (.int 16807))) (dOp rMul (dC (.int 31)) (dUn rLen (dVar 2)))) (dC (.int 17))) (dC (.int 1000003)))))) dNext)) (dRet (dSl (dVar 2) dNo (dPart (dVar 1)))))))
/-- _law_cell(draws, k): 0 draws, 1 k, -/
def rd__law_cell : DS := (dSeq (dIf (dCmp rLt (dVar 1) (dUn rLen (dVar 0))) (dRet (dOp rIx (dVar 0) (dVar 1))) dNext) (dRet (dOp rMod (dOp rAdd (dOp rAdd (dOp rMul (dOp rIx (dVar 0) (dOp rMod (dVar 1) (dUn rLen (dVar 0)))) (dC (.int 31))) (dOp rMul (dOp rIx (dVar 0) (dOp rMod (dOp rMul (dC (.int 7)) (dVar 1)) (dUn rLen (dVar 0)))) (dC (.int 17)))) (dOp rMul (dC (.int 101)) (dVar 1))) (dC (.int 1000003)))))
/-- _law_is_number(value): 0 value, -/
def rd__law_is_number : DS := (dRet (dAndV (dUn (rKind isInt) (dVar 0)) (dNotV (dUn (rKind isBool) (dVar 0)))))
/-- within(width, least, most): 0 width, 1 least, 2 most, -/
def rd_within : DS := (dSeq (dIf (dAnd (dCmp rIsNot (dVar 1) (dC .none)) (dCmp rLt (dVar 0) (dVar 1))) (dRet (dC (.bool false))) dNext) (dRet (dOrV (dBool (dCmp rIs (dVar 2) (dC .none))) (dBool (dCmp rLe (dVar 0) (dVar 2))))))
/-- meets(demands, tuning): 0 demands, 1 tuning, 2 low, 3 high, 4 least, 5 most, -/
def rd_meets (S_within : DSp) : DS := (dSeq (dForL (dVar 0) (gTup 4 (gCons (gName 2) (gCons (gName 3) (gCons (gName 4) (gCons (gName 5) gNil))))) (dIf (dNot (dTest (dCall S_within (dCons (dOp rSub (dOp rIx (dVar 1) (dVar 3)) (dOp rIx (dVar 1) (dVar 2))) (dCons (dVar 4) (dCons (dVar 5) dNil)))))) (dRet (dC (.bool false))) dNext)) (dRet (dC (.bool true))))
/-- ways_of(size, plan): 0 size, 1 plan, 2 ways, 3 string, 4 at, 5 source, 6 index, -/
def rd_ways_of : DS := (dSeq (dOwn 2 (dLcR1 false (dVar 0) (gName 3) dYes (dLst dNil) [3])) (dSeq (dForR1 (dUn rLen (dVar 1)) (gName 4) (dSeq (dAsg (dOp rIx (dVar 1) (dVar 4)) (gTup 3 (gCons (gName 3) (gCons (gName 5) (gCons (gName 6) gNil))))) (dSetIx 2 (dOp rAdd (dOp rIx (dVar 2) (dVar 5)) (dLst (dCons (dVar 4) dNil))) (dVar 3)))) (dRet (dVar 2))))
/-- parting(first, second): 0 first, 1 second, 2 at, -/
def rd_parting : DS := (dRet (dOp rAdd (dLcL false (dVar 0) (gName 2) (dCmp rNotIn (dVar 2) (dVar 1)) (dVar 2) [2]) (dLcL false (dVar 1) (gName 2) (dCmp rNotIn (dVar 2) (dVar 0)) (dVar 2) [2])))
/-- pair_error(size, root, listenings, plan, first, second): 0 size, 1 root, 2 listenings, 3 plan, 4 first, 5 second, 6 ways, 7 total, 8 at, -/
def rd_pair_error (S_ways_of S_parting : DSp) : DS := (dSeq (dSet 6 (dCall S_ways_of (dCons (dVar 0) (dCons (dVar 3) dNil)))) (dSeq (dSet 7 (dC (.int 0))) (dSeq (dForL (dCall S_parting (dCons (dOp rIx (dVar 6) (dVar 4)) (dCons (dOp rIx (dVar 6) (dVar 5)) dNil))) (gName 8) (dSet 7 (dOp rAdd (dVar 7) (dOp rIx (dOp rIx (dVar 2) (dOp rIx (dOp rIx (dVar 3) (dVar 8)) (dC (.int 2)))) (dC (.int 2)))))) (dRet (dVar 7)))))
/-- tuned_by_ear(target, root, listenings, plan, slips): 0 target, 1 root, 2 listenings, 3 plan, 4 slips, 5 pitches, 6 at, 7 string, 8 source, 9 index, -/
def rd_tuned_by_ear : DS := (dSeq (dOwn 5 (dUn rToList (dVar 0))) (dSeq (dForR1 (dUn rLen (dVar 3)) (gName 6) (dSeq (dAsg (dOp rIx (dVar 3) (dVar 6)) (gTup 3 (gCons (gName 7) (gCons (gName 8) (gCons (gName 9) gNil))))) (dSetIx 5 (dOp rAdd (dOp rSub (dOp rAdd (dOp rIx (dVar 5) (dVar 8)) (dOp rIx (dVar 0) (dVar 7))) (dOp rIx (dVar 0) (dVar 8))) (dOp rIx (dVar 4) (dVar 6))) (dVar 7)))) (dRet (dVar 5))))
/-- narrowed(demand, error): 0 demand, 1 error, 2 low, 3 high, 4 least, 5 most, -/
def rd_narrowed : DS := (dSeq (dAsg (dVar 0) (gTup 4 (gCons (gName 2) (gCons (gName 3) (gCons (gName 4) (gCons (gName 5) gNil)))))) (dSeq (dIf (dCmp rIsNot (dVar 4) (dC .none)) (dSet 4 (dOp rAdd (dVar 4) (dVar 1))) dNext) (dSeq (dIf (dCmp rIsNot (dVar 5) (dC .none)) (dSet 5 (dOp rSub (dVar 5) (dVar 1))) dNext) (dRet (dTup (dCons (dVar 2) (dCons (dVar 3) (dCons (dVar 4) (dCons (dVar 5) dNil)))))))))
/-- safe_demands(size, demands, root, listenings, plan): 0 size, 1 demands, 2 root, 3 listenings, 4 plan, 5 safe, 6 demand, 7 error, -/
def rd_safe_demands (S_pair_error S_narrowed : DSp) : DS := (dSeq (dOwn 5 (dLst dNil)) (dSeq (dForL (dVar 1) (gName 6) (dSeq (dSet 7 (dCall S_pair_error (dCons (dVar 0) (dCons (dVar 2) (dCons (dVar 3) (dCons (dVar 4) (dCons (dOp rIx (dVar 6) (dC (.int 0))) (dCons (dOp rIx (dVar 6) (dC (.int 1))) dNil)))))))) (dApp 5 (dCall S_narrowed (dCons (dVar 6) (dCons (dVar 7) dNil)))))) (dRet (dVar 5))))
/-- slips_apart(listenings, plan, low_way, high_way, sign): 0 listenings, 1 plan, 2 low_way, 3 high_way, 4 sign, 5 slips, 6 at, 7 error, -/
def rd_slips_apart : DS := (dSeq (dOwn 5 (dOp rMul (dLst (dCons (dC (.int 0)) dNil)) (dUn rLen (dVar 1)))) (dSeq (dForR1 (dUn rLen (dVar 1)) (gName 6) (dSeq (dSet 7 (dOp rIx (dOp rIx (dVar 0) (dOp rIx (dOp rIx (dVar 1) (dVar 6)) (dC (.int 2)))) (dC (.int 2)))) (dSeq (dIf (dAnd (dCmp rIn (dVar 6) (dVar 3)) (dCmp rNotIn (dVar 6) (dVar 2))) (dSetIx 5 (dOp rMul (dVar 4) (dVar 7)) (dVar 6)) dNext) (dIf (dAnd (dCmp rIn (dVar 6) (dVar 2)) (dCmp rNotIn (dVar 6) (dVar 3))) (dSetIx 5 (dOp rMul (dUn rNeg (dVar 4)) (dVar 7)) (dVar 6)) dNext)))) (dRet (dVar 5))))
/-- breaking_errors(size, demands, root, listenings, plan, target): 0 size, 1 demands, 2 root, 3 listenings, 4 plan, 5 target, 6 ways, 7 demand, 8 sign, 9 slips, -/
def rd_breaking_errors (S_ways_of S_slips_apart S_meets S_tuned_by_ear : DSp) : DS := (dSeq (dSet 6 (dCall S_ways_of (dCons (dVar 0) (dCons (dVar 4) dNil)))) (dSeq (dForL (dVar 1) (gName 7) (dForT (dTup (dCons (dC (.int 1)) (dCons (dUn rNeg (dC (.int 1))) dNil))) (gName 8) (dSeq (dSet 9 (dCall S_slips_apart (dCons (dVar 3) (dCons (dVar 4) (dCons (dOp rIx (dVar 6) (dOp rIx (dVar 7) (dC (.int 0)))) (dCons (dOp rIx (dVar 6) (dOp rIx (dVar 7) (dC (.int 1)))) (dCons (dVar 8) dNil))))))) (dIf (dNot (dTest (dCall S_meets (dCons (dLst (dCons (dVar 7) dNil)) (dCons (dCall S_tuned_by_ear (dCons (dVar 5) (dCons (dVar 2) (dCons (dVar 3) (dCons (dVar 4) (dCons (dVar 9) dNil)))))) dNil))))) (dRet (dVar 9)) dNext)))) (dRet (dC .none))))
/-- _law_is_numbers(value, size): 0 value, 1 size, 2 item, -/
def rd__law_is_numbers_6e0e (S__law_is_number : DSp) : DS := (dSeq (dIf (dOr (dNot (dTest (dUn (rKind isList) (dVar 0)))) (dCmp rNe (dUn rLen (dVar 0)) (dVar 1))) (dRet (dC (.bool false))) dNext) (dSeq (dForL (dVar 0) (gName 2) (dIf (dNot (dTest (dCall S__law_is_number (dCons (dVar 2) dNil)))) (dRet (dC (.bool false))) dNext)) (dRet (dC (.bool true)))))
/-- _law_meets(demands, tuning): 0 demands, 1 tuning, 2 low, 3 high, 4 least, 5 most, 6 width, -/
def rd__law_meets_d118 : DS := (dSeq (dForL (dVar 0) (gTup 4 (gCons (gName 2) (gCons (gName 3) (gCons (gName 4) (gCons (gName 5) gNil))))) (dSeq (dSet 6 (dOp rSub (dOp rIx (dVar 1) (dVar 3)) (dOp rIx (dVar 1) (dVar 2)))) (dSeq (dIf (dAnd (dCmp rIsNot (dVar 4) (dC .none)) (dCmp rLt (dVar 6) (dVar 4))) (dRet (dC (.bool false))) dNext) (dIf (dAnd (dCmp rIsNot (dVar 5) (dC .none)) (dCmp rGt (dVar 6) (dVar 5))) (dRet (dC (.bool false))) dNext)))) (dRet (dC (.bool true))))
/-- _law_safe(demands, errors): 0 demands, 1 errors, 2 safe, 3 low, 4 high, 5 least, 6 most, -/
def rd__law_safe : DS := (dSeq (dOwn 2 (dLst dNil)) (dSeq (dForL (dVar 0) (gTup 4 (gCons (gName 3) (gCons (gName 4) (gCons (gName 5) (gCons (gName 6) gNil))))) (dSeq (dIf (dCmp rIsNot (dVar 5) (dC .none)) (dSet 5 (dOp rAdd (dVar 5) (dOp rIx (dOp rIx (dVar 1) (dVar 3)) (dVar 4)))) dNext) (dSeq (dIf (dCmp rIsNot (dVar 6) (dC .none)) (dSet 6 (dOp rSub (dVar 6) (dOp rIx (dOp rIx (dVar 1) (dVar 3)) (dVar 4)))) dNext) (dApp 2 (dTup (dCons (dVar 3) (dCons (dVar 4) (dCons (dVar 5) (dCons (dVar 6) dNil))))))))) (dRet (dVar 2))))
/-- offsets_after(size, turns): 0 size, 1 turns, 2 offsets, 3 player, 4 model, 5 slip, -/
def rd_offsets_after : DS := (dSeq (dOwn 2 (dOp rMul (dLst (dCons (dC (.int 0)) dNil)) (dVar 0))) (dSeq (dForL (dVar 1) (gTup 3 (gCons (gName 3) (gCons (gName 4) (gCons (gName 5) gNil)))) (dSetIx 2 (dOp rAdd (dOp rIx (dVar 2) (dVar 4)) (dVar 5)) (dVar 3))) (dRet (dVar 2))))
/-- all_heard(size, turns): 0 size, 1 turns, 2 heard, 3 player, 4 at, 5 model, 6 slip, -/
def rd_all_heard : DS := (dSeq (dOwnM 2 (dLcR1 true (dVar 0) (gName 3) dYes (dLst dNil) [3])) (dSeq (dForR1 (dUn rLen (dVar 1)) (gName 4) (dSeq (dAsg (dOp rIx (dVar 1) (dVar 4)) (gTup 3 (gCons (gName 3) (gCons (gName 5) (gCons (gName 6) gNil))))) (dSetIx 2 (dOp rAdd (dOp rIx (dVar 2) (dVar 5)) (dLst (dCons (dNL (dVar 4)) dNil))) (dVar 3)))) (dRetF (dVar 2))))
/-- slips_heard(size, turns, player): 0 size, 1 turns, 2 player, -/
def rd_slips_heard (S_all_heard : DSp) : DS := (dRetF (dOp rIx (dCall S_all_heard (dCons (dVar 0) (dCons (dVar 1) dNil))) (dVar 2)))
/-- greatest_apart(size, turns, errors, first, second): 0 size, 1 turns, 2 errors, 3 first, 4 second, 5 heard, 6 at, -/
def rd_greatest_apart (S_all_heard S_parting : DSp) : DS := (dSeq (dSet 5 (dCall S_all_heard (dCons (dVar 0) (dCons (dVar 1) dNil)))) (dRet (dUn rSum (dLcL false (dCall S_parting (dCons (dOp rIx (dVar 5) (dVar 3)) (dCons (dOp rIx (dVar 5) (dVar 4)) dNil))) (gName 6) dYes (dOp rIx (dVar 2) (dVar 6)) [6]))))
/-- _law_world(draws): 0 draws, 1 size, 2 many, 3 scale, 4 turns, 5 k, 6 player, 7 model, -/
def rd__law_world_02d4 (S__law_cell : DSp) : DS := (dSeq (dSet 1 (dOp rAdd (dC (.int 2)) (dOp rMod (dOp rIx (dVar 0) (dC (.int 0))) (dC (.int 6))))) (dSeq (dSet 2 (dOp rMod (dOp rDiv (dOp rIx (dVar 0) (dC (.int 1))) (dC (.int 8))) (dC (.int 25)))) (dSeq (dIf (dCmp rEq (dOp rMod (dOp rIx (dVar 0) (dC (.int 1))) (dC (.int 8))) (dC (.int 2))) (dSeq (dSet 1 (dOp rAdd (dC (.int 8)) (dOp rMod (dOp rDiv (dOp rIx (dVar 0) (dC (.int 0))) (dC (.int 6))) (dC (.int 53))))) (dSet 2 (dOp rMod (dOp rDiv (dOp rIx (dVar 0) (dC (.int 1))) (dC (.int 8))) (dC (.int 151))))) dNext) (dSeq (dSet 3 (dC (.int 1))) (dSeq (dIf (dCmp rEq (dOp rMod (dOp rIx (dVar 0) (dC (.int 1))) (dC (.int 8))) (dC (.int 4))) (dSet 3 (dOp rAdd (dOp rPow (dC (.int 10)) (dC (.int 9))) (dOp rIx (dVar 0) (dC (.int 2))))) dNext) (dSeq (dOwn 4 (dLst dNil)) (dSeq (dForR1 (dVar 2) (gName 5) (dSeq (dSet 6 (dOp rMod (dCall S__law_cell (dCons (dVar 0) (dCons (dOp rAdd (dC (.int 3)) (dOp rMul (dC (.int 3)) (dVar 5))) dNil))) (dVar 1))) (dSeq (dSet 7 (dOp rMod (dOp rAdd (dOp rAdd (dVar 6) (dC (.int 1))) (dOp rMod (dCall S__law_cell (dCons (dVar 0) (dCons (dOp rAdd (dC (.int 4)) (dOp rMul (dC (.int 3)) (dVar 5))) dNil))) (dOp rSub (dVar 1) (dC (.int 1))))) (dVar 1))) (dApp 4 (dTup (dCons (dVar 6) (dCons (dVar 7) (dCons (dOp rMul (dOp rSub (dOp rMod (dCall S__law_cell (dCons (dVar 0) (dCons (dOp rAdd (dC (.int 5)) (dOp rMul (dC (.int 3)) (dVar 5))) dNil))) (dC (.int 41))) (dC (.int 20))) (dVar 3)) dNil)))))))) (dFrz 4 (dRet (dTup (dCons (dVar 1) (dCons (dVar 4) dNil))))))))))))
/-- _law_offsets(size, turns): 0 size, 1 turns, 2 offsets, 3 player, 4 model, 5 slip, -/
def rd__law_offsets : DS := (dSeq (dOwn 2 (dOp rMul (dLst (dCons (dC (.int 0)) dNil)) (dVar 0))) (dSeq (dForL (dVar 1) (gTup 3 (gCons (gName 3) (gCons (gName 4) (gCons (gName 5) gNil)))) (dSetIx 2 (dOp rAdd (dOp rIx (dVar 2) (dVar 4)) (dVar 5)) (dVar 3))) (dRet (dVar 2))))
/-- is_step(demands, step): 0 demands, 1 step, -/
def rd_is_step (S_is_index : DSp) : DS := (dSeq (dIf (dOr (dNot (dTest (dUn (rKind isTup) (dVar 1)))) (dCmp rNe (dUn rLen (dVar 1)) (dC (.int 2)))) (dRet (dC (.bool false))) dNext) (dSeq (dIf (dOr (dNot (dTest (dCall S_is_index (dCons (dOp rIx (dVar 1) (dC (.int 0))) (dCons (dUn rLen (dVar 0)) dNil))))) (dNot (dTest (dUn (rKind isStr) (dOp rIx (dVar 1) (dC (.int 1))))))) (dRet (dC (.bool false))) dNext) (dSeq (dIf (dCmp rEq (dOp rIx (dVar 1) (dC (.int 1))) (dC (.str (PySem.Str.ofString "most")))) (dRet (dBool (dCmp rIsNot (dOp rIx (dOp rIx (dVar 0) (dOp rIx (dVar 1) (dC (.int 0)))) (dC (.int 3))) (dC .none)))) dNext) (dRet (dAndV (dBool (dCmp rEq (dOp rIx (dVar 1) (dC (.int 1))) (dC (.str (PySem.Str.ofString "least"))))) (dBool (dCmp rIsNot (dOp rIx (dOp rIx (dVar 0) (dOp rIx (dVar 1) (dC (.int 0)))) (dC (.int 2))) (dC .none))))))))
/-- step_of(demands, step): 0 demands, 1 step, 2 low, 3 high, 4 least, 5 most, -/
def rd_step_of (S_is_step : DSp) : DS := (dSeq (dIf (dNot (dTest (dCall S_is_step (dCons (dVar 0) (dCons (dVar 1) dNil))))) dNever dNext) (dSeq (dAsg (dOp rIx (dVar 0) (dOp rIx (dVar 1) (dC (.int 0)))) (gTup 4 (gCons (gName 2) (gCons (gName 3) (gCons (gName 4) (gCons (gName 5) gNil)))))) (dSeq (dIf (dCmp rEq (dOp rIx (dVar 1) (dC (.int 1))) (dC (.str (PySem.Str.ofString "most")))) (dRet (dTup (dCons (dVar 2) (dCons (dVar 3) (dCons (dVar 5) dNil))))) dNext) (dRet (dTup (dCons (dVar 3) (dCons (dVar 2) (dCons (dUn rNeg (dVar 4)) dNil))))))))
/-- all_steps(demands): 0 demands, 1 steps, 2 at, 3 side, 4 bound, 5 start, 6 end, 7 cost, -/
def rd_all_steps (S_step_of : DSp) : DS := (dSeq (dOwn 1 (dLst dNil)) (dSeq (dForR1 (dUn rLen (dVar 0)) (gName 2) (dForT (dTup (dCons (dC (.str (PySem.Str.ofString "most"))) (dCons (dC (.str (PySem.Str.ofString "least"))) dNil))) (gName 3) (dSeq (dSet 4 (dOp rIx (dOp rIx (dVar 0) (dVar 2)) (dC (.int 3)))) (dSeq (dIf (dCmp rEq (dVar 3) (dC (.str (PySem.Str.ofString "least")))) (dSet 4 (dOp rIx (dOp rIx (dVar 0) (dVar 2)) (dC (.int 2)))) dNext) (dIf (dCmp rIsNot (dVar 4) (dC .none)) (dSeq (dAsg (dCall S_step_of (dCons (dVar 0) (dCons (dTup (dCons (dVar 2) (dCons (dVar 3) dNil))) dNil))) (gTup 3 (gCons (gName 5) (gCons (gName 6) (gCons (gName 7) gNil))))) (dApp 1 (dTup (dCons (dTup (dCons (dVar 2) (dCons (dVar 3) dNil))) (dCons (dVar 5) (dCons (dVar 6) (dCons (dVar 7) dNil))))))) dNext))))) (dRet (dVar 1))))
/-- relax_once(steps, sums, last): 0 steps, 1 sums, 2 last, 3 changed, 4 step, 5 start, 6 end, 7 cost, 8 total, -/
def rd_relax_once : DS := (dSeq (dSet 3 (dC .none)) (dSeq (dForL (dVar 0) (gTup 4 (gCons (gName 4) (gCons (gName 5) (gCons (gName 6) (gCons (gName 7) gNil))))) (dIf (dCmp rIsNot (dOp rIx (dVar 1) (dVar 5)) (dC .none)) (dSeq (dSet 8 (dOp rAdd (dOp rIx (dVar 1) (dVar 5)) (dVar 7))) (dIf (dOr (dCmp rIs (dOp rIx (dVar 1) (dVar 6)) (dC .none)) (dCmp rLt (dVar 8) (dOp rIx (dVar 1) (dVar 6)))) (dSeq (dSetIx 1 (dVar 8) (dVar 6)) (dSeq (dSetIx 2 (dTup (dCons (dVar 4) (dCons (dVar 5) dNil))) (dVar 6)) (dSet 3 (dVar 6)))) dNext)) dNext)) (dRetP (dVar 3))))
/-- relax(size, steps, sums, last): 0 size, 1 steps, 2 sums, 3 last, 4 round_number, 5 changed, -/
def rd_relax (S_relax_once : DSM) : DS := (dSeq (dForR1 (dOp rAdd (dVar 0) (dC (.int 1))) (gName 4) (dSeq (dMSet 5 (dMCall S_relax_once [.val (dVar 1), .own 2, .own 3])) (dIf (dCmp rIs (dVar 5) (dC .none)) (dRetP (dC .none)) dNext))) (dRetP (dVar 5)))
/-- ring_behind(size, last, string): 0 size, 1 last, 2 string, 3 at, 4 back, 5 ring, 6 begin, -/
def rd_ring_behind : DS := (dSeq (dSet 3 (dVar 2)) (dSeq (dForR1 (dVar 0) (gName 4) (dSet 3 (dOp rIx (dOp rIx (dVar 1) (dVar 3)) (dC (.int 1))))) (dSeq (dOwn 5 (dLst (dCons (dOp rIx (dOp rIx (dVar 1) (dVar 3)) (dC (.int 0))) dNil))) (dSeq (dSet 6 (dOp rIx (dOp rIx (dVar 1) (dVar 3)) (dC (.int 1)))) (dSeq (dWhile (dCmp rNe (dVar 6) (dVar 3)) (dSeq (dApp 5 (dOp rIx (dOp rIx (dVar 1) (dVar 6)) (dC (.int 0)))) (dSet 6 (dOp rIx (dOp rIx (dVar 1) (dVar 6)) (dC (.int 1)))))) (dSeq (dRev 5) (dRetFN (dVar 5))))))))
/-- solve(size, demands): 0 size, 1 demands, 2 sums, 3 last, 4 string, -/
def rd_solve (S_relax : DSM) (S_all_steps : DSp) (S_ring_behind : DSp) : DS := (dSeq (dOwn 2 (dOp rMul (dLst (dCons (dC (.int 0)) dNil)) (dVar 0))) (dSeq (dOwn 3 (dOp rMul (dLst (dCons (dC .none) dNil)) (dVar 0))) (dSeq (dMSet 4 (dMCall S_relax [.val (dVar 0), .val (dCall S_all_steps (dCons (dVar 1) dNil)), .own 2, .own 3])) (dSeq (dFrzN 2 (dIf (dCmp rIs (dVar 4) (dC .none)) (dRetF (dTup (dCons (dC (.str (PySem.Str.ofString "tuning"))) (dCons (dVar 2) dNil)))) dNext)) (dFrzN 3 (dRetF (dTup (dCons (dC (.str (PySem.Str.ofString "ring"))) (dCons (dCall S_ring_behind (dCons (dVar 0) (dCons (dVar 3) (dCons (dVar 4) dNil)))) dNil)))))))))
/-- _law_step(demands, step): 0 demands, 1 step, 2 low, 3 high, 4 least, 5 most, -/
def rd__law_step_be11 (S__law_is_number : DSp) : DS := (dSeq (dIf (dOr (dNot (dTest (dUn (rKind isTup) (dVar 1)))) (dOr (dCmp rNe (dUn rLen (dVar 1)) (dC (.int 2))) (dOr (dNot (dTest (dCall S__law_is_number (dCons (dOp rIx (dVar 1) (dC (.int 0))) dNil)))) (dNot (dTest (dUn (rKind isStr) (dOp rIx (dVar 1) (dC (.int 1))))))))) (dRet (dC .none)) dNext) (dSeq (dIf (dOr (dCmp rLt (dOp rIx (dVar 1) (dC (.int 0))) (dC (.int 0))) (dCmp rGe (dOp rIx (dVar 1) (dC (.int 0))) (dUn rLen (dVar 0)))) (dRet (dC .none)) dNext) (dSeq (dAsg (dOp rIx (dVar 0) (dOp rIx (dVar 1) (dC (.int 0)))) (gTup 4 (gCons (gName 2) (gCons (gName 3) (gCons (gName 4) (gCons (gName 5) gNil)))))) (dSeq (dIf (dAnd (dCmp rEq (dOp rIx (dVar 1) (dC (.int 1))) (dC (.str (PySem.Str.ofString "most")))) (dCmp rIsNot (dVar 5) (dC .none))) (dRet (dTup (dCons (dVar 2) (dCons (dVar 3) (dCons (dVar 5) dNil))))) dNext) (dSeq (dIf (dAnd (dCmp rEq (dOp rIx (dVar 1) (dC (.int 1))) (dC (.str (PySem.Str.ofString "least")))) (dCmp rIsNot (dVar 4) (dC .none))) (dRet (dTup (dCons (dVar 3) (dCons (dVar 2) (dCons (dUn rNeg (dVar 4)) dNil))))) dNext) (dRet (dC .none)))))))
/-- _law_walk(demands, steps): 0 demands, 1 steps, 2 start, 3 end, 4 total, 5 at, 6 told, -/
def rd__law_walk (S__law_step : DSp) : DS := (dSeq (dIf (dOr (dNot (dTest (dUn (rKind isList) (dVar 1)))) (dCmp rEq (dUn rLen (dVar 1)) (dC (.int 0)))) (dRet (dC .none)) dNext) (dSeq (dSet 2 (dUn rNeg (dC (.int 1)))) (dSeq (dSet 3 (dUn rNeg (dC (.int 1)))) (dSeq (dSet 4 (dC (.int 0))) (dSeq (dForR1 (dUn rLen (dVar 1)) (gName 5) (dSeq (dSet 6 (dCall S__law_step (dCons (dVar 0) (dCons (dOp rIx (dVar 1) (dVar 5)) dNil)))) (dSeq (dIf (dOr (dCmp rIs (dVar 6) (dC .none)) (dAnd (dCmp rGt (dVar 5) (dC (.int 0))) (dCmp rNe (dOp rIx (dVar 6) (dC (.int 0))) (dVar 3)))) (dRet (dC .none)) dNext) (dSeq (dIf (dCmp rEq (dVar 5) (dC (.int 0))) (dSet 2 (dOp rIx (dVar 6) (dC (.int 0)))) dNext) (dSeq (dSet 3 (dOp rIx (dVar 6) (dC (.int 1)))) (dSet 4 (dOp rAdd (dVar 4) (dOp rIx (dVar 6) (dC (.int 2)))))))))) (dRet (dTup (dCons (dVar 2) (dCons (dVar 3) (dCons (dVar 4) dNil))))))))))
/-- _law_is_short_ring(demands, ring): 0 demands, 1 ring, 2 told, -/
def rd__law_is_short_ring (S__law_walk : DSp) : DS := (dSeq (dSet 2 (dCall S__law_walk (dCons (dVar 0) (dCons (dVar 1) dNil)))) (dRet (dAndV (dBool (dCmp rIsNot (dVar 2) (dC .none))) (dAndV (dBool (dCmp rEq (dOp rIx (dVar 2) (dC (.int 0))) (dOp rIx (dVar 2) (dC (.int 1))))) (dBool (dCmp rLt (dOp rIx (dVar 2) (dC (.int 2))) (dC (.int 0))))))))
/-- sounding(tuning, period, place): 0 tuning, 1 period, 2 place, 3 string, 4 octave, -/
def rd_sounding : DS := (dSeq (dAsg (dVar 2) (gTup 2 (gCons (gName 3) (gCons (gName 4) gNil)))) (dRet (dOp rAdd (dOp rIx (dVar 0) (dVar 3)) (dOp rMul (dVar 1) (dVar 4)))))
/-- place_of_note(note, count): 0 note, 1 count, -/
def rd_place_of_note : DS := (dRet (dTup (dCons (dOp rMod (dVar 0) (dVar 1)) (dCons (dOp rDiv (dVar 0) (dVar 1)) dNil))))
/-- moved(piece, by): 0 piece, 1 by, 2 note, 3 chord, -/
def rd_moved : DS := (dRet (dLcL false (dVar 0) (gName 3) dYes (dLcL false (dVar 3) (gName 2) dYes (dOp rAdd (dVar 2) (dVar 1)) [2]) [3]))
/-- taste_of(tastes, width): 0 tastes, 1 width, 2 taste, -/
def rd_taste_of : DS := (dSeq (dForL (dVar 0) (gName 2) (dIf (dCmp rEq (dOp rIx (dVar 2) (dC (.int 0))) (dVar 1)) (dRet (dVar 2)) dNext)) (dRet (dC .none)))
/-- tasted_pairs(chord, tastes): 0 chord, 1 tastes, 2 found, 3 i, 4 j, 5 taste, -/
def rd_tasted_pairs (S_taste_of : DSp) : DS := (dSeq (dOwn 2 (dLst dNil)) (dSeq (dForR1 (dUn rLen (dVar 0)) (gName 3) (dForR2 (dOp rAdd (dVar 3) (dC (.int 1))) (dUn rLen (dVar 0)) (gName 4) (dSeq (dSet 5 (dCall S_taste_of (dCons (dVar 1) (dCons (dOp rSub (dOp rIx (dVar 0) (dVar 4)) (dOp rIx (dVar 0) (dVar 3))) dNil)))) (dIf (dCmp rIsNot (dVar 5) (dC .none)) (dApp 2 (dTup (dCons (dOp rIx (dVar 0) (dVar 3)) (dCons (dOp rIx (dVar 0) (dVar 4)) (dCons (dOp rIx (dVar 5) (dC (.int 1))) (dCons (dOp rIx (dVar 5) (dC (.int 2))) dNil)))))) dNext)))) (dRet (dVar 2))))
/-- piece_placed(count, piece, tastes): 0 count, 1 piece, 2 tastes, 3 placed, 4 chord, 5 low, 6 high, 7 least, 8 most, -/
def rd_piece_placed (S_tasted_pairs S_place_of_note : DSp) : DS := (dSeq (dOwn 3 (dLst dNil)) (dSeq (dForL (dVar 1) (gName 4) (dForL (dCall S_tasted_pairs (dCons (dVar 4) (dCons (dVar 2) dNil))) (gTup 4 (gCons (gName 5) (gCons (gName 6) (gCons (gName 7) (gCons (gName 8) gNil))))) (dApp 3 (dTup (dCons (dCall S_place_of_note (dCons (dVar 5) (dCons (dVar 0) dNil))) (dCons (dCall S_place_of_note (dCons (dVar 6) (dCons (dVar 0) dNil))) (dCons (dVar 7) (dCons (dVar 8) dNil)))))))) (dRet (dVar 3))))
/-- distance(count, period, tuning, low, high): 0 count, 1 period, 2 tuning, 3 low, 4 high, 5 top, -/
def rd_distance (S_sounding S_place_of_note : DSp) : DS := (dSeq (dSet 5 (dCall S_sounding (dCons (dVar 2) (dCons (dVar 1) (dCons (dCall S_place_of_note (dCons (dVar 4) (dCons (dVar 0) dNil))) dNil))))) (dRet (dOp rSub (dVar 5) (dCall S_sounding (dCons (dVar 2) (dCons (dVar 1) (dCons (dCall S_place_of_note (dCons (dVar 3) (dCons (dVar 0) dNil))) dNil)))))))
/-- breaches(count, period, tuning, piece, tastes): 0 count, 1 period, 2 tuning, 3 piece, 4 tastes, 5 found, 6 at, 7 low, 8 high, 9 least, 10 most, 11 width, -/
def rd_breaches (S_tasted_pairs S_distance S_within : DSp) : DS := (dSeq (dOwn 5 (dLst dNil)) (dSeq (dForR1 (dUn rLen (dVar 3)) (gName 6) (dForL (dCall S_tasted_pairs (dCons (dOp rIx (dVar 3) (dVar 6)) (dCons (dVar 4) dNil))) (gTup 4 (gCons (gName 7) (gCons (gName 8) (gCons (gName 9) (gCons (gName 10) gNil))))) (dSeq (dSet 11 (dCall S_distance (dCons (dVar 0) (dCons (dVar 1) (dCons (dVar 2) (dCons (dVar 7) (dCons (dVar 8) dNil))))))) (dIf (dNot (dTest (dCall S_within (dCons (dVar 11) (dCons (dVar 9) (dCons (dVar 10) dNil)))))) (dApp 5 (dTup (dCons (dVar 6) (dCons (dVar 7) (dCons (dVar 8) (dCons (dVar 11) dNil)))))) dNext)))) (dRet (dVar 5))))
/-- _law_same_numbers(found, due): 0 found, 1 due, 2 at, -/
def rd__law_same_numbers (S__law_is_numbers : DSp) : DS := (dSeq (dIf (dNot (dTest (dCall S__law_is_numbers (dCons (dVar 0) (dCons (dUn rLen (dVar 1)) dNil))))) (dRet (dC (.bool false))) dNext) (dSeq (dForR1 (dUn rLen (dVar 1)) (gName 2) (dIf (dCmp rNe (dOp rIx (dVar 0) (dVar 2)) (dOp rIx (dVar 1) (dVar 2))) (dRet (dC (.bool false))) dNext)) (dRet (dC (.bool true)))))
/-- _law_same_row(found, due): 0 found, 1 due, 2 k, -/
def rd__law_same_row (S__law_is_number : DSp) : DS := (dSeq (dIf (dOr (dNot (dTest (dUn (rKind isTup) (dVar 0)))) (dCmp rNe (dUn rLen (dVar 0)) (dUn rLen (dVar 1)))) (dRet (dC (.bool false))) dNext) (dSeq (dForR1 (dUn rLen (dVar 1)) (gName 2) (dIf (dCmp rIs (dOp rIx (dVar 1) (dVar 2)) (dC .none)) (dIf (dCmp rIsNot (dOp rIx (dVar 0) (dVar 2)) (dC .none)) (dRet (dC (.bool false))) dNext) (dIf (dOr (dNot (dTest (dCall S__law_is_number (dCons (dOp rIx (dVar 0) (dVar 2)) dNil)))) (dCmp rNe (dOp rIx (dVar 0) (dVar 2)) (dOp rIx (dVar 1) (dVar 2)))) (dRet (dC (.bool false))) dNext))) (dRet (dC (.bool true)))))
/-- _law_unlike(numbers): 0 numbers, 1 result, 2 number, -/
def rd__law_unlike : DS := (dSeq (dOwn 1 (dLst dNil)) (dSeq (dForL (dUn rSorted (dVar 0)) (gName 2) (dIf (dOr (dCmp rEq (dUn rLen (dVar 1)) (dC (.int 0))) (dCmp rNe (dOp rIx (dVar 1) (dUn rNeg (dC (.int 1)))) (dVar 2))) (dApp 1 (dVar 2)) dNext)) (dRet (dVar 1))))
/-- _law_place(note, count): 0 note, 1 count, 2 octave, -/
def rd__law_place : DS := (dSeq (dSet 2 (dOp rDiv (dVar 0) (dVar 1))) (dRet (dTup (dCons (dOp rSub (dVar 0) (dOp rMul (dVar 1) (dVar 2))) (dCons (dVar 2) dNil)))))
/-- _law_pairs(chord, tastes): 0 chord, 1 tastes, 2 result, 3 low, 4 high, 5 width, 6 least, 7 most, -/
def rd__law_pairs : DS := (dSeq (dOwn 2 (dLst dNil)) (dSeq (dForL (dVar 0) (gName 3) (dForL (dVar 0) (gName 4) (dForL (dVar 1) (gTup 3 (gCons (gName 5) (gCons (gName 6) (gCons (gName 7) gNil)))) (dIf (dAnd (dCmp rLt (dVar 3) (dVar 4)) (dCmp rEq (dOp rSub (dVar 4) (dVar 3)) (dVar 5))) (dApp 2 (dTup (dCons (dVar 3) (dCons (dVar 4) (dCons (dVar 6) (dCons (dVar 7) dNil)))))) dNext)))) (dRet (dVar 2))))
/-- _law_placed(count, piece, tastes): 0 count, 1 piece, 2 tastes, 3 result, 4 chord, 5 low, 6 high, 7 least, 8 most, -/
def rd__law_placed (S__law_pairs S__law_place : DSp) : DS := (dSeq (dOwn 3 (dLst dNil)) (dSeq (dForL (dVar 1) (gName 4) (dForL (dCall S__law_pairs (dCons (dVar 4) (dCons (dVar 2) dNil))) (gTup 4 (gCons (gName 5) (gCons (gName 6) (gCons (gName 7) (gCons (gName 8) gNil))))) (dApp 3 (dTup (dCons (dCall S__law_place (dCons (dVar 5) (dCons (dVar 0) dNil))) (dCons (dCall S__law_place (dCons (dVar 6) (dCons (dVar 0) dNil))) (dCons (dVar 7) (dCons (dVar 8) dNil)))))))) (dRet (dVar 3))))
/-- _law_same_placed(found, due): 0 found, 1 due, 2 at, -/
def rd__law_same_placed (S__law_same_row : DSp) : DS := (dSeq (dIf (dOr (dNot (dTest (dUn (rKind isList) (dVar 0)))) (dCmp rNe (dUn rLen (dVar 0)) (dUn rLen (dVar 1)))) (dRet (dC (.bool false))) dNext) (dSeq (dForR1 (dUn rLen (dVar 1)) (gName 2) (dSeq (dIf (dOr (dNot (dTest (dUn (rKind isTup) (dOp rIx (dVar 0) (dVar 2))))) (dOr (dCmp rNe (dUn rLen (dOp rIx (dVar 0) (dVar 2))) (dC (.int 4))) (dNot (dTest (dCall S__law_same_row (dCons (dSl (dOp rIx (dVar 0) (dVar 2)) (dPart (dC (.int 2))) dNo) (dCons (dSl (dOp rIx (dVar 1) (dVar 2)) (dPart (dC (.int 2))) dNo) dNil))))))) (dRet (dC (.bool false))) dNext) (dIf (dOr (dNot (dTest (dCall S__law_same_row (dCons (dOp rIx (dOp rIx (dVar 0) (dVar 2)) (dC (.int 0))) (dCons (dOp rIx (dOp rIx (dVar 1) (dVar 2)) (dC (.int 0))) dNil))))) (dNot (dTest (dCall S__law_same_row (dCons (dOp rIx (dOp rIx (dVar 0) (dVar 2)) (dC (.int 1))) (dCons (dOp rIx (dOp rIx (dVar 1) (dVar 2)) (dC (.int 1))) dNil)))))) (dRet (dC (.bool false))) dNext))) (dRet (dC (.bool true)))))
/-- _law_note_pitch(tuning, period, note): 0 tuning, 1 period, 2 note, 3 place, -/
def rd__law_note_pitch (S__law_place : DSp) : DS := (dSeq (dSet 3 (dCall S__law_place (dCons (dVar 2) (dCons (dUn rLen (dVar 0)) dNil)))) (dRet (dOp rAdd (dOp rIx (dVar 0) (dOp rIx (dVar 3) (dC (.int 0)))) (dOp rMul (dVar 1) (dOp rIx (dVar 3) (dC (.int 1)))))))
/-- _law_piece_world(draws): 0 draws, 1 count, 2 unit, 3 period, 4 hidden, 5 k, 6 tastes, 7 width, 8 taste, 9 low, 10 apart, 11 least, 12 most, 13 base, 14 piece, 15 i, -/
def rd__law_piece_world (S__law_note_pitch S__law_unlike : DSp) : DS := (dSeq (dSet 1 (dOp rAdd (dC (.int 1)) (dOp rMod (dOp rIx (dVar 0) (dC (.int 0))) (dC (.int 7))))) (dSeq (dSet 2 (dC (.int 1))) (dSeq (dSet 3 (dOp rAdd (dC (.int 6)) (dOp rMod (dOp rDiv (dOp rIx (dVar 0) (dC (.int 2))) (dC (.int 3))) (dC (.int 30))))) (dSeq (dIf (dCmp rEq (dOp rMod (dOp rIx (dVar 0) (dC (.int 1))) (dC (.int 8))) (dC (.int 0))) (dSeq (dSet 2 (dOp rAdd (dOp rPow (dC (.int 10)) (dC (.int 9))) (dOp rIx (dVar 0) (dC (.int 3))))) (dSet 3 (dOp rAdd (dOp rPow (dC (.int 10)) (dC (.int 10))) (dOp rMul (dOp rIx (dVar 0) (dC (.int 3))) (dOp rPow (dC (.int 10)) (dC (.int 4))))))) dNext) (dSeq (dIf (dCmp rEq (dOp rMod (dOp rIx (dVar 0) (dC (.int 1))) (dC (.int 8))) (dC (.int 1))) (dSet 1 (dOp rAdd (dC (.int 8)) (dOp rMod (dOp rIx (dVar 0) (dC (.int 0))) (dC (.int 53))))) dNext) (dSeq (dSet 4 (dLcR1 false (dVar 1) (gName 5) dYes (dOp rMul (dOp rAdd (dOp rSub (dOp rMod (dOp rIx (dVar 0) (dOp rAdd (dC (.int 4)) (dOp rMod (dVar 5) (dC (.int 12))))) (dC (.int 41))) (dC (.int 20))) (dOp rDiv (dVar 5) (dC (.int 12)))) (dVar 2)) [5])) (dSeq (dOwn 6 (dLst dNil)) (dSeq (dForR1 (dOp rMod (dOp rIx (dVar 0) (dC (.int 16))) (dC (.int 5))) (gName 5) (dSeq (dSet 7 (dOp rAdd (dC (.int 1)) (dOp rMod (dOp rIx (dVar 0) (dOp rAdd (dC (.int 17)) (dVar 5))) (dC (.int 9))))) (dIf (dCmp rNotIn (dVar 7) (dLcL false (dVar 6) (gName 8) dYes (dOp rIx (dVar 8) (dC (.int 0))) [8])) (dSeq (dSet 9 (dOp rMod (dOp rIx (dVar 0) (dOp rAdd (dC (.int 21)) (dVar 5))) (dC (.int 30)))) (dSeq (dSet 10 (dOp rSub (dCall S__law_note_pitch (dCons (dVar 4) (dCons (dVar 3) (dCons (dOp rAdd (dVar 9) (dVar 7)) dNil)))) (dCall S__law_note_pitch (dCons (dVar 4) (dCons (dVar 3) (dCons (dVar 9) dNil)))))) (dSeq (dSet 11 (dOp rSub (dVar 10) (dOp rMod (dOp rIx (dVar 0) (dOp rAdd (dC (.int 25)) (dVar 5))) (dOp rMul (dC (.int 6)) (dVar 2))))) (dSeq (dSet 12 (dOp rAdd (dVar 10) (dOp rMod (dOp rIx (dVar 0) (dOp rAdd (dC (.int 29)) (dVar 5))) (dOp rMul (dC (.int 6)) (dVar 2))))) (dSeq (dIf (dCmp rEq (dOp rMod (dOp rIx (dVar 0) (dC (.int 2))) (dC (.int 3))) (dC (.int 2))) (dSeq (dSet 11 (dOp rSub (dOp rAdd (dVar 10) (dOp rMod (dOp rIx (dVar 0) (dOp rAdd (dC (.int 25)) (dVar 5))) (dC (.int 21)))) (dC (.int 10)))) (dSet 12 (dOp rAdd (dVar 11) (dOp rMod (dOp rIx (dVar 0) (dOp rAdd (dC (.int 29)) (dVar 5))) (dC (.int 6)))))) dNext) (dSeq (dIf (dCmp rEq (dOp rMod (dOp rIx (dVar 0) (dOp rAdd (dC (.int 33)) (dVar 5))) (dC (.int 7))) (dC (.int 0))) (dSet 11 (dC .none)) dNext) (dSeq (dIf (dCmp rEq (dOp rMod (dOp rIx (dVar 0) (dOp rAdd (dC (.int 33)) (dVar 5))) (dC (.int 7))) (dC (.int 1))) (dSet 12 (dC .none)) dNext) (dApp 6 (dTup (dCons (dVar 7) (dCons (dVar 11) (dCons (dVar 12) dNil)))))))))))) dNext))) (dSeq (dSet 13 (dC (.int 0))) (dSeq (dIf (dCmp rEq (dOp rMod (dOp rDiv (dOp rIx (dVar 0) (dC (.int 1))) (dC (.int 8))) (dC (.int 4))) (dC (.int 0))) (dSet 13 (dOp rSub (dOp rIx (dVar 0) (dC (.int 37))) (dC (.int 500000)))) dNext) (dSeq (dOwn 14 (dLst dNil)) (dSeq (dForR1 (dOp rMod (dOp rIx (dVar 0) (dC (.int 38))) (dC (.int 5))) (gName 5) (dApp 14 (dCall S__law_unlike (dCons (dLcR1 false (dOp rMod (dOp rIx (dVar 0) (dOp rAdd (dC (.int 59)) (dVar 5))) (dC (.int 6))) (gName 15) dYes (dOp rSub (dOp rAdd (dVar 13) (dOp rMod (dOp rIx (dVar 0) (dOp rAdd (dOp rAdd (dC (.int 39)) (dOp rMul (dC (.int 5)) (dVar 5))) (dVar 15))) (dC (.int 25)))) (dC (.int 9))) [15]) dNil)))) (dFrz 6 (dFrz 14 (dRet (dTup (dCons (dVar 1) (dCons (dVar 3) (dCons (dVar 4) (dCons (dVar 14) (dCons (dVar 6) dNil)))))))))))))))))))))
/-- _law_copied(piece): 0 piece, 1 chord, -/
def rd__law_copied : DS := (dRet (dLcL false (dVar 0) (gName 1) dYes (dUn rToList (dVar 1)) [1]))
/-- _law_same_rows(found, due): 0 found, 1 due, 2 at, -/
def rd__law_same_rows (S__law_same_row : DSp) : DS := (dSeq (dIf (dOr (dNot (dTest (dUn (rKind isList) (dVar 0)))) (dCmp rNe (dUn rLen (dVar 0)) (dUn rLen (dVar 1)))) (dRet (dC (.bool false))) dNext) (dSeq (dForR1 (dUn rLen (dVar 1)) (gName 2) (dIf (dNot (dTest (dCall S__law_same_row (dCons (dOp rIx (dVar 0) (dVar 2)) (dCons (dOp rIx (dVar 1) (dVar 2)) dNil))))) (dRet (dC (.bool false))) dNext)) (dRet (dC (.bool true)))))
/-- _law_breaches(period, tuning, piece, tastes): 0 period, 1 tuning, 2 piece, 3 tastes, 4 result, 5 at, 6 low, 7 high, 8 least, 9 most, 10 apart, -/
def rd__law_breaches (S__law_pairs S__law_note_pitch : DSp) : DS := (dSeq (dOwn 4 (dLst dNil)) (dSeq (dForR1 (dUn rLen (dVar 2)) (gName 5) (dForL (dCall S__law_pairs (dCons (dOp rIx (dVar 2) (dVar 5)) (dCons (dVar 3) dNil))) (gTup 4 (gCons (gName 6) (gCons (gName 7) (gCons (gName 8) (gCons (gName 9) gNil))))) (dSeq (dSet 10 (dOp rSub (dCall S__law_note_pitch (dCons (dVar 1) (dCons (dVar 0) (dCons (dVar 7) dNil)))) (dCall S__law_note_pitch (dCons (dVar 1) (dCons (dVar 0) (dCons (dVar 6) dNil)))))) (dIf (dOr (dAnd (dCmp rIsNot (dVar 8) (dC .none)) (dCmp rLt (dVar 10) (dVar 8))) (dAnd (dCmp rIsNot (dVar 9) (dC .none)) (dCmp rGt (dVar 10) (dVar 9)))) (dApp 4 (dTup (dCons (dVar 5) (dCons (dVar 6) (dCons (dVar 7) (dCons (dVar 10) dNil)))))) dNext)))) (dRet (dVar 4))))
/-- unmet(demands, tuning): 0 demands, 1 tuning, 2 found, 3 at, 4 low, 5 high, 6 least, 7 most, -/
def rd_unmet (S_within : DSp) : DS := (dSeq (dOwn 2 (dLst dNil)) (dSeq (dForR1 (dUn rLen (dVar 0)) (gName 3) (dSeq (dAsg (dOp rIx (dVar 0) (dVar 3)) (gTup 4 (gCons (gName 4) (gCons (gName 5) (gCons (gName 6) (gCons (gName 7) gNil)))))) (dIf (dNot (dTest (dCall S_within (dCons (dOp rSub (dOp rIx (dVar 1) (dVar 5)) (dOp rIx (dVar 1) (dVar 4))) (dCons (dVar 6) (dCons (dVar 7) dNil)))))) (dApp 2 (dVar 3)) dNext))) (dRet (dVar 2))))
/-- bound_at(base, rate, x): 0 base, 1 rate, 2 x, -/
def rd_bound_at : DS := (dSeq (dIf (dCmp rIs (dVar 0) (dC .none)) (dRet (dC .none)) dNext) (dRet (dOp rAdd (dVar 0) (dOp rMul (dVar 2) (dVar 1)))))
/-- demand_at(demand, x): 0 demand, 1 x, 2 low, 3 high, 4 least, 5 least_rate, 6 most, 7 most_rate, -/
def rd_demand_at (S_bound_at : DSp) : DS := (dSeq (dAsg (dVar 0) (gTup 6 (gCons (gName 2) (gCons (gName 3) (gCons (gName 4) (gCons (gName 5) (gCons (gName 6) (gCons (gName 7) gNil)))))))) (dRet (dTup (dCons (dVar 2) (dCons (dVar 3) (dCons (dCall S_bound_at (dCons (dVar 4) (dCons (dVar 5) (dCons (dVar 1) dNil)))) (dCons (dCall S_bound_at (dCons (dVar 6) (dCons (dVar 7) (dCons (dVar 1) dNil)))) dNil)))))))
/-- demands_at(moving, x): 0 moving, 1 x, 2 demand, -/
def rd_demands_at (S_demand_at : DSp) : DS := (dRet (dLcL false (dVar 0) (gName 2) dYes (dCall S_demand_at (dCons (dVar 2) (dCons (dVar 1) dNil))) [2]))
/-- moving_octave(demand): 0 demand, 1 low, 2 high, 3 least, 4 most, 5 apart, -/
def rd_moving_octave : DS := (dSeq (dAsg (dVar 0) (gTup 4 (gCons (gName 1) (gCons (gName 2) (gCons (gName 3) (gCons (gName 4) gNil)))))) (dSeq (dSet 5 (dOp rSub (dOp rIx (dVar 2) (dC (.int 1))) (dOp rIx (dVar 1) (dC (.int 1))))) (dRet (dTup (dCons (dOp rIx (dVar 1) (dC (.int 0))) (dCons (dOp rIx (dVar 2) (dC (.int 0))) (dCons (dVar 3) (dCons (dUn rNeg (dVar 5)) (dCons (dVar 4) (dCons (dUn rNeg (dVar 5)) dNil))))))))))
/-- moving_octaves(placed): 0 placed, 1 demand, -/
def rd_moving_octaves (S_moving_octave : DSp) : DS := (dRet (dLcL false (dVar 0) (gName 1) dYes (dCall S_moving_octave (dCons (dVar 1) dNil)) [1]))
/-- placed_at(placed, period): 0 placed, 1 period, -/
def rd_placed_at (S_demands_at S_moving_octaves : DSp) : DS := (dRet (dCall S_demands_at (dCons (dCall S_moving_octaves (dCons (dVar 0) dNil)) (dCons (dVar 1) dNil))))
/-- _law_all_pairs(piece, tastes): 0 piece, 1 tastes, 2 result, 3 at, 4 low, 5 high, 6 least, 7 most, -/
def rd__law_all_pairs (S__law_pairs : DSp) : DS := (dSeq (dOwn 2 (dLst dNil)) (dSeq (dForR1 (dUn rLen (dVar 0)) (gName 3) (dForL (dCall S__law_pairs (dCons (dOp rIx (dVar 0) (dVar 3)) (dCons (dVar 1) dNil))) (gTup 4 (gCons (gName 4) (gCons (gName 5) (gCons (gName 6) (gCons (gName 7) gNil))))) (dApp 2 (dTup (dCons (dVar 3) (dCons (dVar 4) (dCons (dVar 5) dNil))))))) (dRet (dVar 2))))
/-- _law_asks(count, period, tuning, piece, tastes): 0 count, 1 period, 2 tuning, 3 piece, 4 tastes, 5 due, 6 pitches, 7 chords, 8 chord, 9 wishes, 10 found, 11 demands, 12 told, 13 pairs, 14 broken, 15 k, -/
def rd__law_asks_fe4a (S__law_breaches S_breaches S__law_same_rows S_placed_at S_piece_placed S_meets S__law_all_pairs S_unmet S__law_is_numbers : DSp) : DS := (dSeq (dSet 5 (dCall S__law_breaches (dCons (dVar 1) (dCons (dVar 2) (dCons (dVar 3) (dCons (dVar 4) dNil)))))) (dSeq (dSet 6 (dUn rToList (dVar 2))) (dSeq (dSet 7 (dLcL false (dVar 3) (gName 8) dYes (dUn rToList (dVar 8)) [8])) (dSeq (dSet 9 (dUn rToList (dVar 4))) (dSeq (dOwnA 10 (dCall S_breaches (dCons (dVar 0) (dCons (dVar 1) (dCons (dVar 6) (dCons (dVar 7) (dCons (dVar 9) dNil))))))) (dSeq (dIf (dOr (dCmp rNe (dVar 6) (dVar 2)) (dOr (dCmp rNe (dVar 7) (dVar 3)) (dOr (dCmp rNe (dVar 9) (dVar 4)) (dNot (dTest (dLend 10 (dCall S__law_same_rows (dCons (dVar 10) (dCons (dVar 5) dNil))))))))) (dRet (dC (.bool false))) dNext) (dSeq (dApp 10 (dTup (dCons (dC (.int 0)) (dCons (dC (.int 0)) (dCons (dC (.int 0)) (dCons (dC (.int 0)) dNil)))))) (dSeq (dSet 11 (dCall S_placed_at (dCons (dCall S_piece_placed (dCons (dVar 0) (dCons (dVar 7) (dCons (dVar 9) dNil)))) (dCons (dVar 1) dNil)))) (dSeq (dSet 12 (dCall S_meets (dCons (dVar 11) (dCons (dVar 6) dNil)))) (dSeq (dIf (dOr (dNot (dTest (dUn (rKind isBool) (dVar 12)))) (dCmp rNe (dVar 12) (dBool (dCmp rEq (dUn rLen (dVar 5)) (dC (.int 0)))))) (dRet (dC (.bool false))) dNext) (dSeq (dSet 13 (dCall S__law_all_pairs (dCons (dVar 3) (dCons (dVar 4) dNil)))) (dSeq (dSet 14 (dCall S_unmet (dCons (dVar 11) (dCons (dVar 6) dNil)))) (dSeq (dIf (dOr (dNot (dTest (dCall S__law_is_numbers (dCons (dVar 14) (dCons (dUn rLen (dVar 5)) dNil))))) (dCmp rNe (dUn rLen (dVar 11)) (dUn rLen (dVar 13)))) (dRet (dC (.bool false))) dNext) (dSeq (dForR1 (dUn rLen (dVar 5)) (gName 15) (dSeq (dIf (dOr (dCmp rLt (dOp rIx (dVar 14) (dVar 15)) (dC (.int 0))) (dOr (dCmp rGe (dOp rIx (dVar 14) (dVar 15)) (dUn rLen (dVar 13))) (dCmp rNe (dOp rIx (dVar 13) (dOp rIx (dVar 14) (dVar 15))) (dSl (dOp rIx (dVar 5) (dVar 15)) dNo (dPart (dC (.int 3))))))) (dRet (dC (.bool false))) dNext) (dIf (dAnd (dCmp rGt (dVar 15) (dC (.int 0))) (dCmp rLe (dOp rIx (dVar 14) (dVar 15)) (dOp rIx (dVar 14) (dOp rSub (dVar 15) (dC (.int 1)))))) (dRet (dC (.bool false))) dNext))) (dRet (dCall S__law_same_rows (dCons (dCall S_breaches (dCons (dVar 0) (dCons (dVar 1) (dCons (dVar 6) (dCons (dVar 7) (dCons (dVar 9) dNil)))))) (dCons (dVar 5) dNil))))))))))))))))))
/-- rotated(tuning, period, by): 0 tuning, 1 period, 2 by, 3 count, 4 string, -/
def rd_rotated (S_sounding S_place_of_note : DSp) : DS := (dSeq (dSet 3 (dUn rLen (dVar 0))) (dRet (dLcR1 false (dVar 3) (gName 4) dYes (dCall S_sounding (dCons (dVar 0) (dCons (dVar 1) (dCons (dCall S_place_of_note (dCons (dOp rAdd (dVar 4) (dVar 2)) (dCons (dVar 3) dNil))) dNil)))) [4])))
/-- good_moves(count, period, tuning, piece, tastes): 0 count, 1 period, 2 tuning, 3 piece, 4 tastes, 5 found, 6 by, -/
def rd_good_moves (S_breaches S_moved : DSp) : DS := (dSeq (dOwn 5 (dLst dNil)) (dSeq (dForR1 (dVar 0) (gName 6) (dIf (dCmp rEq (dUn rLen (dCall S_breaches (dCons (dVar 0) (dCons (dVar 1) (dCons (dVar 2) (dCons (dCall S_moved (dCons (dVar 3) (dCons (dVar 6) dNil))) (dCons (dVar 4) dNil))))))) (dC (.int 0))) (dApp 5 (dVar 6)) dNext)) (dRet (dVar 5))))
/-- _law_rotated(tuning, period, by): 0 tuning, 1 period, 2 by, 3 string, -/
def rd__law_rotated (S__law_note_pitch : DSp) : DS := (dRet (dLcR1 false (dUn rLen (dVar 0)) (gName 3) dYes (dCall S__law_note_pitch (dCons (dVar 0) (dCons (dVar 1) (dCons (dOp rAdd (dVar 3) (dVar 2)) dNil)))) [3]))
/-- moves_placed(count, piece, tastes, moves): 0 count, 1 piece, 2 tastes, 3 moves, 4 placed, 5 by, -/
def rd_moves_placed (S_piece_placed S_moved : DSp) : DS := (dSeq (dSet 4 (dLst dNil)) (dSeq (dForL (dVar 3) (gName 5) (dSet 4 (dOp rAdd (dVar 4) (dCall S_piece_placed (dCons (dVar 0) (dCons (dCall S_moved (dCons (dVar 1) (dCons (dVar 5) dNil))) (dCons (dVar 2) dNil))))))) (dRet (dVar 4))))
/-- longest_moves(count, period, piece, tastes, moves): 0 count, 1 period, 2 piece, 3 tastes, 4 moves, 5 tuning, 6 many, 7 placed, 8 found, -/
def rd_longest_moves (S_moves_placed S_solve S_placed_at : DSp) : DS := (dSeq (dSetM 5 (dOp rMul (dLst (dCons (dC (.int 0)) dNil)) (dVar 0))) (dSeq (dForR1 (dUn rLen (dVar 4)) (gNameM 6) (dSeq (dSet 7 (dCall S_moves_placed (dCons (dVar 0) (dCons (dVar 2) (dCons (dVar 3) (dCons (dSl (dVar 4) dNo (dPart (dOp rAdd (dVar 6) (dC (.int 1))))) dNil)))))) (dSeq (dSetM 8 (dCall S_solve (dCons (dVar 0) (dCons (dCall S_placed_at (dCons (dVar 7) (dCons (dVar 1) dNil))) dNil)))) (dSeq (dIf (dCmp rEq (dOp rIx (dVar 8) (dC (.int 0))) (dC (.str (PySem.Str.ofString "ring")))) (dRetF (dTup (dCons (dC (.str (PySem.Str.ofString "stop"))) (dCons (dVar 6) (dCons (dVar 5) (dCons (dOp rIx (dVar 8) (dC (.int 1))) dNil)))))) dNext) (dSetM 5 (dOp rIx (dVar 8) (dC (.int 1)))))))) (dRetF (dTup (dCons (dC (.str (PySem.Str.ofString "all"))) (dCons (dVar 5) dNil))))))
/-- _law_is_answer(size, demands, paper): 0 size, 1 demands, 2 paper, -/
def rd__law_is_answer (S__law_is_numbers S__law_meets S__law_is_short_ring : DSp) : DS := (dSeq (dIf (dOr (dNot (dTest (dUn (rKind isTup) (dVar 2)))) (dOr (dCmp rNe (dUn rLen (dVar 2)) (dC (.int 2))) (dNot (dTest (dUn (rKind isStr) (dOp rIx (dVar 2) (dC (.int 0)))))))) (dRet (dC (.bool false))) dNext) (dSeq (dIf (dCmp rEq (dOp rIx (dVar 2) (dC (.int 0))) (dC (.str (PySem.Str.ofString "tuning")))) (dRet (dAndV (dCall S__law_is_numbers (dCons (dOp rIx (dVar 2) (dC (.int 1))) (dCons (dVar 0) dNil))) (dCall S__law_meets (dCons (dVar 1) (dCons (dOp rIx (dVar 2) (dC (.int 1))) dNil))))) dNext) (dRet (dAndV (dBool (dCmp rEq (dOp rIx (dVar 2) (dC (.int 0))) (dC (.str (PySem.Str.ofString "ring"))))) (dCall S__law_is_short_ring (dCons (dVar 1) (dCons (dOp rIx (dVar 2) (dC (.int 1))) dNil)))))))
/-- _law_bound(base, rate, x): 0 base, 1 rate, 2 x, -/
def rd__law_bound : DS := (dSeq (dIf (dCmp rIs (dVar 0) (dC .none)) (dRet (dC .none)) dNext) (dRet (dOp rAdd (dVar 0) (dOp rMul (dVar 2) (dVar 1)))))
/-- _law_tagged(paper, tag, length): 0 paper, 1 tag, 2 length, -/
def rd__law_tagged : DS := (dRet (dAndV (dUn (rKind isTup) (dVar 0)) (dAndV (dBool (dCmp rEq (dUn rLen (dVar 0)) (dVar 2))) (dAndV (dUn (rKind isStr) (dOp rIx (dVar 0) (dC (.int 0)))) (dBool (dCmp rEq (dOp rIx (dVar 0) (dC (.int 0))) (dVar 1)))))))
/-- _law_plain(placed, period): 0 placed, 1 period, 2 result, 3 low, 4 high, 5 least, 6 most, 7 apart, -/
def rd__law_plain (S__law_bound : DSp) : DS := (dSeq (dOwn 2 (dLst dNil)) (dSeq (dForL (dVar 0) (gTup 4 (gCons (gName 3) (gCons (gName 4) (gCons (gName 5) (gCons (gName 6) gNil))))) (dSeq (dSet 7 (dOp rSub (dOp rIx (dVar 4) (dC (.int 1))) (dOp rIx (dVar 3) (dC (.int 1))))) (dApp 2 (dTup (dCons (dOp rIx (dVar 3) (dC (.int 0))) (dCons (dOp rIx (dVar 4) (dC (.int 0))) (dCons (dCall S__law_bound (dCons (dVar 5) (dCons (dUn rNeg (dVar 7)) (dCons (dVar 1) dNil)))) (dCons (dCall S__law_bound (dCons (dVar 6) (dCons (dUn rNeg (dVar 7)) (dCons (dVar 1) dNil)))) dNil)))))))) (dRet (dVar 2))))
/-- _law_moves_placed(count, piece, tastes, moves): 0 count, 1 piece, 2 tastes, 3 moves, 4 result, 5 by, 6 note, 7 chord, -/
def rd__law_moves_placed (S__law_placed : DSp) : DS := (dSeq (dSet 4 (dLst dNil)) (dSeq (dForL (dVar 3) (gName 5) (dSet 4 (dOp rAdd (dVar 4) (dCall S__law_placed (dCons (dVar 0) (dCons (dLcL false (dVar 1) (gName 7) dYes (dLcL false (dVar 7) (gName 6) dYes (dOp rAdd (dVar 6) (dVar 5)) [6]) [7]) (dCons (dVar 2) dNil))))))) (dRet (dVar 4))))
/-- _law_sounds_well(period, tuning, piece, tastes, moves): 0 period, 1 tuning, 2 piece, 3 tastes, 4 moves, 5 by, 6 note, 7 chord, -/
def rd__law_sounds_well (S__law_breaches S_breaches S_moved : DSp) : DS := (dSeq (dForL (dVar 4) (gName 5) (dSeq (dIf (dCmp rGt (dUn rLen (dCall S__law_breaches (dCons (dVar 0) (dCons (dVar 1) (dCons (dLcL false (dVar 2) (gName 7) dYes (dLcL false (dVar 7) (gName 6) dYes (dOp rAdd (dVar 6) (dVar 5)) [6]) [7]) (dCons (dVar 3) dNil)))))) (dC (.int 0))) (dRet (dC (.bool false))) dNext) (dIf (dCmp rGt (dUn rLen (dCall S_breaches (dCons (dUn rLen (dVar 1)) (dCons (dVar 0) (dCons (dUn rToList (dVar 1)) (dCons (dCall S_moved (dCons (dVar 2) (dCons (dVar 5) dNil))) (dCons (dUn rToList (dVar 3)) dNil))))))) (dC (.int 0))) (dRet (dC (.bool false))) dNext))) (dRet (dC (.bool true))))
/-- _law_is_right(count, period, piece, tastes, moves, paper): 0 count, 1 period, 2 piece, 3 tastes, 4 moves, 5 paper, 6 many, 7 demands, -/
def rd__law_is_right_5988 (S__law_tagged S__law_is_numbers S__law_sounds_well S__law_is_number S__law_plain S__law_moves_placed S__law_is_short_ring : DSp) : DS := (dSeq (dIf (dTest (dCall S__law_tagged (dCons (dVar 5) (dCons (dC (.str (PySem.Str.ofString "all"))) (dCons (dC (.int 2)) dNil))))) (dRet (dAndV (dCall S__law_is_numbers (dCons (dOp rIx (dVar 5) (dC (.int 1))) (dCons (dVar 0) dNil))) (dCall S__law_sounds_well (dCons (dVar 1) (dCons (dOp rIx (dVar 5) (dC (.int 1))) (dCons (dVar 2) (dCons (dVar 3) (dCons (dVar 4) dNil)))))))) dNext) (dSeq (dIf (dOr (dNot (dTest (dCall S__law_tagged (dCons (dVar 5) (dCons (dC (.str (PySem.Str.ofString "stop"))) (dCons (dC (.int 4)) dNil)))))) (dOr (dNot (dTest (dCall S__law_is_number (dCons (dOp rIx (dVar 5) (dC (.int 1))) dNil)))) (dOr (dCmp rLt (dOp rIx (dVar 5) (dC (.int 1))) (dC (.int 0))) (dCmp rGe (dOp rIx (dVar 5) (dC (.int 1))) (dUn rLen (dVar 4)))))) (dRet (dC (.bool false))) dNext) (dSeq (dSet 6 (dOp rIx (dVar 5) (dC (.int 1)))) (dSeq (dIf (dOr (dNot (dTest (dCall S__law_is_numbers (dCons (dOp rIx (dVar 5) (dC (.int 2))) (dCons (dVar 0) dNil))))) (dNot (dTest (dCall S__law_sounds_well (dCons (dVar 1) (dCons (dOp rIx (dVar 5) (dC (.int 2))) (dCons (dVar 2) (dCons (dVar 3) (dCons (dSl (dVar 4) dNo (dPart (dVar 6))) dNil))))))))) (dRet (dC (.bool false))) dNext) (dSeq (dSet 7 (dCall S__law_plain (dCons (dCall S__law_moves_placed (dCons (dVar 0) (dCons (dVar 2) (dCons (dVar 3) (dCons (dSl (dVar 4) dNo (dPart (dOp rAdd (dVar 6) (dC (.int 1))))) dNil))))) (dCons (dVar 1) dNil)))) (dRet (dCall S__law_is_short_ring (dCons (dVar 7) (dCons (dOp rIx (dVar 5) (dC (.int 3))) dNil)))))))))
/-- _law_asks_solving(count, period, piece, tastes, moves, many): 0 count, 1 period, 2 piece, 3 tastes, 4 moves, 5 many, 6 first, 7 placed, 8 due, 9 demands, 10 answer, -/
def rd__law_asks_solving (S_moves_placed S__law_moves_placed S__law_same_placed S__law_plain S_solve S_placed_at S__law_is_answer : DSp) : DS := (dSeq (dForR1 (dOp rAdd (dUn rLen (dVar 4)) (dC (.int 1))) (gName 6) (dSeq (dSet 7 (dCall S_moves_placed (dCons (dVar 0) (dCons (dVar 2) (dCons (dVar 3) (dCons (dSl (dVar 4) dNo (dPart (dVar 6))) dNil)))))) (dSeq (dSet 8 (dCall S__law_moves_placed (dCons (dVar 0) (dCons (dVar 2) (dCons (dVar 3) (dCons (dSl (dVar 4) dNo (dPart (dVar 6))) dNil)))))) (dSeq (dIf (dNot (dTest (dCall S__law_same_placed (dCons (dVar 7) (dCons (dVar 8) dNil))))) (dRet (dC (.bool false))) dNext) (dSeq (dSet 9 (dCall S__law_plain (dCons (dVar 8) (dCons (dVar 1) dNil)))) (dSeq (dSet 10 (dCall S_solve (dCons (dVar 0) (dCons (dCall S_placed_at (dCons (dVar 7) (dCons (dVar 1) dNil))) dNil)))) (dIf (dOr (dNot (dTest (dCall S__law_is_answer (dCons (dVar 0) (dCons (dVar 9) (dCons (dVar 10) dNil)))))) (dCmp rNe (dBool (dCmp rEq (dOp rIx (dVar 10) (dC (.int 0))) (dC (.str (PySem.Str.ofString "tuning"))))) (dBool (dCmp rLe (dVar 6) (dVar 5))))) (dRet (dC (.bool false))) dNext))))))) (dRet (dC (.bool true))))
/-- _law_asks_many(draws): 0 draws, 1 count, 2 period, 3 piece, 4 tastes, 5 moves, 6 k, 7 paper, 8 chord, 9 placed, -/
def rd__law_asks_many (S_longest_moves S__law_is_right S_moves_placed S__law_same_placed S__law_moves_placed : DSp) : DS := (dSeq (dSet 1 (dOp rAdd (dC (.int 8)) (dOp rMod (dOp rIx (dVar 0) (dC (.int 75))) (dC (.int 10))))) (dSeq (dSet 2 (dOp rSub (dOp rAdd (dVar 1) (dOp rMod (dOp rIx (dVar 0) (dC (.int 76))) (dC (.int 4)))) (dC (.int 1)))) (dSeq (dSet 3 (dLst (dCons (dLst (dCons (dC (.int 0)) (dCons (dC (.int 1)) dNil))) (dCons (dLst (dCons (dOp rAdd (dC (.int 3)) (dOp rMod (dOp rIx (dVar 0) (dC (.int 77))) (dC (.int 5)))) dNil)) dNil)))) (dSeq (dSet 4 (dLst (dCons (dTup (dCons (dC (.int 1)) (dCons (dC (.int 1)) (dCons (dC .none) dNil)))) dNil))) (dSeq (dSet 5 (dLcR1 false (dC (.int 20)) (gName 6) dYes (dOp rSub (dOp rMod (dOp rDiv (dOp rIx (dVar 0) (dOp rAdd (dC (.int 78)) (dOp rMod (dVar 6) (dC (.int 6))))) (dOp rAdd (dC (.int 1)) (dVar 6))) (dC (.int 40))) (dC (.int 9))) [6])) (dSeq (dSet 7 (dCall S_longest_moves (dCons (dVar 1) (dCons (dVar 2) (dCons (dLcL false (dVar 3) (gName 8) dYes (dUn rToList (dVar 8)) [8]) (dCons (dUn rToList (dVar 4)) (dCons (dUn rToList (dVar 5)) dNil))))))) (dSeq (dIf (dNot (dTest (dCall S__law_is_right (dCons (dVar 1) (dCons (dVar 2) (dCons (dVar 3) (dCons (dVar 4) (dCons (dVar 5) (dCons (dVar 7) dNil))))))))) (dRet (dC (.bool false))) dNext) (dSeq (dSet 9 (dCall S_moves_placed (dCons (dVar 1) (dCons (dLcL false (dVar 3) (gName 8) dYes (dUn rToList (dVar 8)) [8]) (dCons (dUn rToList (dVar 4)) (dCons (dUn rToList (dVar 5)) dNil)))))) (dRet (dCall S__law_same_placed (dCons (dVar 9) (dCons (dCall S__law_moves_placed (dCons (dVar 1) (dCons (dVar 3) (dCons (dVar 4) (dCons (dVar 5) dNil))))) dNil))))))))))))
/-- law(script): 0 script, 1 draws, 2 count, 3 period, 4 hidden, 5 piece, 6 tastes, 7 more, 8 row, 9 moves, 10 k, 11 by, 12 passed, 13 chord, 14 wishes, 15 asked, 16 paper, 17 many, 18 told, 19 shorter, -/
def rd_law_900c (S__law_draws S__law_piece_world S__law_bound S_longest_moves S__law_is_right S__law_asks_many S__law_asks_solving S__law_tagged : DSp) : DS := (dSeq (dSet 1 (dCall S__law_draws (dCons (dVar 0) (dCons (dC (.int 90)) dNil)))) (dSeq (dAsg (dCall S__law_piece_world (dCons (dVar 1) dNil)) (gTup 5 (gCons (gName 2) (gCons (gName 3) (gCons (gName 4) (gCons (gName 5) (gCons (gName 6) gNil))))))) (dSeq (dIf (dCmp rEq (dOp rMod (dOp rIx (dVar 1) (dC (.int 64))) (dC (.int 3))) (dC (.int 0))) (dSeq (dSet 7 (dOp rAdd (dC (.int 3)) (dOp rMod (dOp rIx (dVar 1) (dC (.int 65))) (dC (.int 18))))) (dSet 6 (dLcL false (dVar 6) (gName 8) dYes (dTup (dCons (dOp rIx (dVar 8) (dC (.int 0))) (dCons (dCall S__law_bound (dCons (dOp rIx (dVar 8) (dC (.int 1))) (dCons (dUn rNeg (dC (.int 1))) (dCons (dVar 7) dNil)))) (dCons (dCall S__law_bound (dCons (dOp rIx (dVar 8) (dC (.int 2))) (dCons (dC (.int 1)) (dCons (dVar 7) dNil)))) dNil)))) [8]))) dNext) (dSeq (dOwn 9 (dLcR1 false (dOp rMod (dOp rIx (dVar 1) (dC (.int 72))) (dC (.int 7))) (gName 10) dYes (dOp rSub (dOp rMod (dOp rIx (dVar 1) (dOp rAdd (dC (.int 66)) (dVar 10))) (dC (.int 25))) (dC (.int 9))) [10])) (dSeq (dIf (dCmp rEq (dOp rMod (dOp rIx (dVar 1) (dC (.int 73))) (dC (.int 4))) (dC (.int 0))) (dOwn 9 (dLcL false (dVar 9) (gName 11) dYes (dOp rMul (dOp rDiv (dVar 11) (dC (.int 3))) (dVar 2)) [11])) dNext) (dSeq (dIf (dAnd (dCmp rEq (dOp rMod (dOp rIx (dVar 1) (dC (.int 73))) (dC (.int 4))) (dC (.int 1))) (dCmp rGt (dUn rLen (dVar 9)) (dC (.int 1)))) (dSetIx 9 (dOp rIx (dVar 9) (dC (.int 0))) (dUn rNeg (dC (.int 1)))) dNext) (dSeq (dSet 12 (dLcL false (dVar 5) (gName 13) dYes (dUn rToList (dVar 13)) [13])) (dSeq (dSet 14 (dUn rToList (dVar 6))) (dSeq (dSet 15 (dUn rToList (dVar 9))) (dMrk (dSeq (dSetM 16 (dCall S_longest_moves (dCons (dVar 2) (dCons (dVar 3) (dCons (dVar 12) (dCons (dVar 14) (dCons (dVar 15) dNil))))))) (dSeq (dIf (dOr (dCmp rNe (dVar 12) (dVar 5)) (dOr (dCmp rNe (dVar 14) (dVar 6)) (dCmp rNe (dVar 15) (dVar 9)))) (dRet (dC (.bool false))) dNext) (dSeq (dIf (dNot (dTest (dCall S__law_is_right (dCons (dVar 2) (dCons (dVar 3) (dCons (dVar 5) (dCons (dVar 6) (dCons (dVar 9) (dCons (dVar 16) dNil))))))))) (dRet (dC (.bool false))) dNext) (dSeq (dIf (dAnd (dCmp rEq (dOp rMod (dOp rIx (dVar 1) (dC (.int 74))) (dC (.int 4))) (dC (.int 0))) (dNot (dTest (dCall S__law_asks_many (dCons (dVar 1) dNil))))) (dRet (dC (.bool false))) dNext) (dSeq (dSet 17 (dUn rLen (dVar 9))) (dSeq (dIf (dCmp rEq (dOp rIx (dVar 16) (dC (.int 0))) (dC (.str (PySem.Str.ofString "stop")))) (dSet 17 (dOp rIx (dVar 16) (dC (.int 1)))) dNext) (dSeq (dIf (dNot (dTest (dCall S__law_asks_solving (dCons (dVar 2) (dCons (dVar 3) (dCons (dVar 12) (dCons (dVar 14) (dCons (dVar 15) (dCons (dVar 17) dNil))))))))) (dRet (dC (.bool false))) dNext) (dSeq (dSet 18 (dUn rRepr (dVar 16))) (dSpoil (dOp rIx (dVar 16) (dUn rNeg (dC (.int 1)))) (dC (.int 0)) (dSeq (dIf (dCmp rNe (dUn rRepr (dCall S_longest_moves (dCons (dVar 2) (dCons (dVar 3) (dCons (dVar 12) (dCons (dVar 14) (dCons (dVar 15) dNil))))))) (dVar 18)) (dRet (dC (.bool false))) dNext) (dSeq (dSet 19 (dCall S_longest_moves (dCons (dVar 2) (dCons (dVar 3) (dCons (dVar 12) (dCons (dVar 14) (dCons (dSl (dVar 9) dNo (dPart (dVar 17))) dNil))))))) (dRet (dAndV (dCall S__law_tagged (dCons (dVar 19) (dCons (dC (.str (PySem.Str.ofString "all"))) (dCons (dC (.int 2)) dNil)))) (dCall S__law_is_right (dCons (dVar 2) (dCons (dVar 3) (dCons (dVar 5) (dCons (dVar 6) (dCons (dSl (dVar 9) dNo (dPart (dVar 17))) (dCons (dVar 19) dNil))))))))))))))))))))))))))))))
end RD

set_option Elab.async false
set_option linter.all false
set_option maxRecDepth 100000
/-! DX: how readings are shown. -/
namespace DL
open PySem

theorem sz {n : Nat} (h : n ≤ 16000000) : n ≤ sizeLine := Nat.le_trans h (by decide)
theorem szlt {n : Nat} (h : n < 16000000) : n < sizeLine := Nat.lt_of_lt_of_le h (by decide)
theorem sm {i : Int} (h1 : -4611686018427387904 ≤ i) (h2 : i < 4611686018427387904) : Sm i := ⟨by simpa using h1, by simpa using h2⟩

/-- a for over a list: S holds ahead of each turn -/
theorem for_inv {α : Type} {l : Lv} {g : DG} {tb : DS} {D : Ed} {σ : Ds} (en : α → PyData) (xs : List α) (S : Nat → Ds → Prop) (h0 : S 0 σ)
    (hs : ∀ (i : Nat) (hi : i < xs.length) (σ : Ds) (K : Ds → Prop), S i σ → (∀ σ', S (i + 1) σ' → K σ') → g l (en xs[i]) σ fun σ' => tb { D with nx := K, ct := K, bk := D.nx } σ') (hd : ∀ σ, S xs.length σ → D.nx σ) : forGo l g tb (xs.map en) D σ := by
  have main : ∀ (m i : Nat) (σ : Ds), i + m = xs.length → S i σ → forGo l g tb ((xs.drop i).map en) D σ := by
    intro m
    induction m with
    | zero =>
      intro i σ e h
      have e' : i = xs.length := by omega
      subst e'
      rw [List.drop_length]
      exact hd σ h
    | succ m ih =>
      intro i σ e h
      have hi : i < xs.length := by omega
      rw [List.drop_eq_getElem_cons hi]
      exact hs i hi σ _ h fun σ' h' => ih (i + 1) σ' (by omega) h'
  have := main xs.length 0 σ (by omega) h0
  exact this
theorem for_upTo {l : Lv} {g : DG} {tb : DS} {D : Ed} {σ : Ds} {lo : Int} {n : Nat} (S : Nat → Ds → Prop) (h0 : S 0 σ)
    (hs : ∀ (i : Nat) (σ : Ds) (K : Ds → Prop), i < n → S i σ → (∀ σ', S (i + 1) σ' → K σ') → g l (.int (lo + (i : Int))) σ fun σ' => tb { D with nx := K, ct := K, bk := D.nx } σ') (hd : ∀ σ, S n σ → D.nx σ) : forGo l g tb (upTo lo n) D σ := by
  refine for_inv (fun (k : Nat) => PyData.int (lo + (k : Int))) (List.range n) S h0 (fun i hi σ K h k => ?_) (by rw [List.length_range]; exact hd)
  rw [List.getElem_range]
  exact hs i σ K (by rw [List.length_range] at hi; exact hi) h k
/-- a comprehension -/
theorem lc_opt {α : Type} {f : Bool} {l : Lv} {g : DG} {tt : DT} {te : DE} {σ : Ds} {Q : List PyData → Prop} (en : α → PyData) (xs : List α) (o : α → Option PyData) (hl : xs.length ≤ 10000000)
    (hs : ∀ x ∈ xs, ∀ (P : PyData → Prop) (N : Prop), (∀ d, o x = some d → P d) → (o x = none → N) → g l (en x) σ fun σ' => tt σ' fun b => br b (te σ' fun fl d => fz fl fun k => okF f k (P d)) N) (h : Q (xs.filterMap o)) : lcGo f l g tt te σ (xs.map en) [] Q := by
  have main : ∀ (ys : List α) (acc : List PyData), (∀ y ∈ ys, y ∈ xs) → acc.length + ys.length ≤ 10000000 → Q (acc ++ ys.filterMap o) → lcGo f l g tt te σ (ys.map en) acc Q := by
    intro ys
    induction ys with
    | nil =>
      intro acc _ _ h
      rw [List.filterMap_nil, List.append_nil] at h
      exact h
    | cons y ys ih =>
      intro acc hm hl h
      rw [List.length_cons] at hl
      refine hs y (hm y List.mem_cons_self) _ _ (fun d e => ⟨szlt (by omega), ?_⟩) (fun e => ?_)
      · refine ih _ (fun z hz => hm z (List.mem_cons_of_mem _ hz)) (by rw [List.length_append, List.length_singleton]; omega) ?_
        rw [List.filterMap_cons_some e] at h
        rw [List.append_assoc]
        exact h
      · refine ih _ (fun z hz => hm z (List.mem_cons_of_mem _ hz)) (by omega) ?_
        rw [List.filterMap_cons_none e] at h
        exact h
  exact main xs [] (fun _ h => h) (by simpa using hl) h
theorem lc_map {α : Type} {f : Bool} {l : Lv} {g : DG} {tt : DT} {te : DE} {σ : Ds} {Q : List PyData → Prop} (en : α → PyData) (xs : List α) (o : α → PyData) (hl : xs.length ≤ 10000000)
    (hs : ∀ x ∈ xs, ∀ (P : PyData → Prop) (N : Prop), P (o x) → g l (en x) σ fun σ' => tt σ' fun b => br b (te σ' fun fl d => fz fl fun k => okF f k (P d)) N) (h : Q (xs.map o)) : lcGo f l g tt te σ (xs.map en) [] Q := by
  refine lc_opt en xs (fun x => some (o x)) hl (fun x hx P N hp _ => hs x hx P N (hp _ rfl)) ?_
  rw [List.filterMap_eq_map']
  exact h
theorem lc_upTo {f : Bool} {l : Lv} {g : DG} {tt : DT} {te : DE} {σ : Ds} {Q : List PyData → Prop} {lo : Int} {n : Nat} (o : Nat → PyData) (hl : n ≤ 10000000)
    (hs : ∀ (k : Nat), k < n → ∀ (P : PyData → Prop) (N : Prop), P (o k) → g l (.int (lo + (k : Int))) σ fun σ' => tt σ' fun b => br b (te σ' fun fl d => fz fl fun k => okF f k (P d)) N) (h : Q ((List.range n).map o)) : lcGo f l g tt te σ (upTo lo n) [] Q :=
  lc_map (fun (k : Nat) => PyData.int (lo + (k : Int))) (List.range n) o (by rw [List.length_range]; exact hl) (fun x hx => hs x (List.mem_range.mp hx)) h
/-! items -/
theorem at_map {α : Type} {en : α → PyData} {xs : List α} {i : Nat} (h : i < xs.length) : L2.atI (xs.map en) (i : Int) = some (en xs[i]) :=
  L2.atI_nat (by rw [List.getElem?_map, List.getElem?_eq_getElem h]; rfl)
theorem ixN_nat {n j : Nat} (h : j < n) : L2.ixN n (j : Int) = some j := by
  unfold L2.ixN
  rw [if_pos (by omega), if_pos (by omega)]
  simp
theorem flat_rep {α : Type} (n : Nat) (x : α) : (List.replicate n [x]).flatten = List.replicate n x := by
  induction n with
  | zero => rfl
  | succ n ih => rw [List.replicate_succ, List.flatten_cons, ih]; rfl
end DL
namespace DL
open PySem
theorem at_int {α : Type} {en : α → PyData} {xs : List α} {i : Int} (h0 : 0 ≤ i) (h : i.toNat < xs.length) : L2.atI (xs.map en) i = some (en xs[i.toNat]) := by
  have e : i = ((i.toNat : Nat) : Int) := by omega
  have := at_map (en := en) (xs := xs) (i := i.toNat) h
  rw [← e] at this
  exact this
theorem ixN_int {n : Nat} {i : Int} (h0 : 0 ≤ i) (h : i.toNat < n) : L2.ixN n i = some i.toNat := by
  have e : i = ((i.toNat : Nat) : Int) := by omega
  have := ixN_nat (n := n) (j := i.toNat) h
  rw [← e] at this
  exact this
theorem cut_to {α : Type} (xs : List α) (m : Nat) : cut xs none (some (m : Int)) = xs.take m := by
  unfold cut
  rw [HT.sIx_none, HT.sIx_nat, List.drop_zero, Nat.sub_zero]
  by_cases h : m ≤ xs.length
  · rw [Nat.min_eq_left h]
  · rw [Nat.min_eq_right (by omega), List.take_of_length_le (Nat.le_refl _), List.take_of_length_le (by omega)]
theorem cut_from {α : Type} (xs : List α) (m : Nat) : cut xs (some (m : Int)) none = xs.drop m := by
  unfold cut
  rw [HT.sIx_none, HT.sIx_nat]
  by_cases h : m ≤ xs.length
  · rw [Nat.min_eq_left h]
    exact List.take_of_length_le (by rw [List.length_drop]; exact Nat.le_refl _)
  · rw [Nat.min_eq_right (by omega), List.drop_of_length_le (Nat.le_refl _), List.drop_of_length_le (by omega)]
    exact List.take_nil
theorem cut_butLast {α : Type} (xs : List α) : cut xs none (some (-1)) = xs.dropLast := by
  unfold cut
  rw [HT.sIx_none, List.drop_zero, Nat.sub_zero, List.dropLast_eq_take]
  have e : HT.sIx xs.length xs.length (some (-1)) = xs.length - 1 := by
    show (if (-1 : Int) < 0 then ((-1 : Int) + (xs.length : Int)).toNat else min (-1 : Int).toNat xs.length) = _
    rw [if_pos (by decide)]
    omega
  rw [e]
/-- a list of numbers -/
abbrev eI (ns : List Int) : PyData := .list (ns.map PyData.int)
theorem set_map {α : Type} {en : α → PyData} (xs : List α) (i : Nat) (y : α) : (xs.map en).set i (en y) = (xs.set i y).map en := List.map_set.symm
theorem mul_l {a b : Int} (h : -1000000000000000000 ≤ a ∧ a ≤ 1000000000000000000) : MulC a b := .inl (.inl ⟨by omega, by omega⟩)
theorem mul_r {a b : Int} (h : -1000000000000000000 ≤ b ∧ b ≤ 1000000000000000000) : MulC a b := .inl (.inr ⟨by omega, by omega⟩)
theorem div_s {a b : Int} (h : 0 < b ∧ b < 1073741824) : DivC a b := .inl h
end DL
namespace DL
theorem md {a b : Int} (h : 0 < b) : ModC a b := h
end DL
namespace DL
open PySem
/-- data of one type -/
class En (α : Type) where
  en : α → PyData
  dp : Nat
  lay : ∀ a, (en a).canLay0 = true
  dep : ∀ a, (en a).depth ≤ dp
  eqv : ∀ a b, PyData.eqv (en a) (en b) = true ↔ a = b
open En (en)
instance : En Int where
  en := PyData.int
  dp := 0
  lay := fun _ => by simp only [PyData.canLay0]
  dep := fun _ => by simp only [PyData.depth]; omega
  eqv := fun a b => by simp only [PyData.eqv]; exact beq_iff_eq
instance : En Nat where
  en := fun n => PyData.int (n : Int)
  dp := 0
  lay := fun _ => by simp only [PyData.canLay0]
  dep := fun _ => by simp only [PyData.depth]; omega
  eqv := fun a b => by simp only [PyData.eqv, beq_iff_eq]; omega
instance : En Bool where
  en := PyData.bool
  dp := 0
  lay := fun _ => by simp only [PyData.canLay0]
  dep := fun _ => by simp only [PyData.depth]; omega
  eqv := fun a b => by simp only [PyData.eqv]; exact beq_iff_eq
theorem layAll {α : Type} [En α] : ∀ xs : List α, PyData.canLayAll0 (xs.map en) = true
  | [] => by simp only [List.map_nil, PyData.canLayAll0]
  | x :: xs => by simp only [List.map_cons, PyData.canLayAll0, En.lay x, layAll xs, Bool.and_self]
theorem depAll {α : Type} [En α] : ∀ xs : List α, PyData.depthAll (xs.map en) ≤ En.dp α
  | [] => by simp only [List.map_nil, PyData.depthAll]; omega
  | x :: xs => by
    simp only [List.map_cons, PyData.depthAll]
    have h1 := En.dep x
    have h2 := depAll xs
    omega
theorem eqvAll {α : Type} [En α] : ∀ xs ys : List α, PyData.eqvAll (xs.map en) (ys.map en) = true ↔ xs = ys
  | [], [] => by simp only [List.map_nil, PyData.eqvAll]
  | [], y :: ys => by simp [PyData.eqvAll]
  | x :: xs, [] => by simp [PyData.eqvAll]
  | x :: xs, y :: ys => by
    simp only [List.map_cons, PyData.eqvAll, Bool.and_eq_true, En.eqv x y, eqvAll xs ys, List.cons.injEq]
instance {α : Type} [En α] : En (List α) where
  en := fun xs => .list (xs.map en)
  dp := En.dp α + 1
  lay := fun xs => by simp only [PyData.canLay0]; exact layAll xs
  dep := fun xs => by simp only [PyData.depth]; have := depAll xs; omega
  eqv := fun xs ys => by simp only [PyData.eqv]; exact eqvAll xs ys
/-- a number or None -/
instance : En (Option Int) where
  en := fun o => match o with
    | none => .none
    | some i => .int i
  dp := 0
  lay := fun o => by cases o <;> simp only [PyData.canLay0]
  dep := fun o => by cases o <;> simp only [PyData.depth] <;> omega
  eqv := fun a b => by cases a <;> cases b <;> simp [PyData.eqv]
/-- a class of tuples, by its parts -/
theorem shaped_en {α : Type} [En α] (h : En.dp α ≤ 64) (a : α) : SeqAt.shaped (en a) = true := by
  have h1 := En.dep a
  show ((en a).canLay0 && decide ((en a).depth ≤ 64)) = true
  rw [En.lay a, decide_eq_true (by omega)]
  rfl
theorem eqG_en {α : Type} [En α] [DecidableEq α] {a b : α} {Q : Bool → Prop} (h : En.dp α ≤ 64) (q : Q (decide (a = b))) : eqG (en a) (en b) Q := by
  refine ⟨shaped_en h a, shaped_en h b, ?_⟩
  have e : PyData.eqv (en a) (en b) = decide (a = b) := by
    rw [Bool.eq_iff_iff, En.eqv a b, decide_eq_true_iff]
  rw [e]
  exact q
theorem eq_list {α : Type} [En α] [DecidableEq α] {xs ys : List α} {Q : Bool → Prop} (h : En.dp α ≤ 60) (q : Q (decide (xs = ys))) : rEq (.list (xs.map en)) (.list (ys.map en)) Q :=
  eqG_en (α := List α) (Nat.succ_le_succ (Nat.le_trans h (by decide))) q
theorem ne_list {α : Type} [En α] [DecidableEq α] {xs ys : List α} {Q : Bool → Prop} (h : En.dp α ≤ 60) (q : Q (!decide (xs = ys))) : rNe (.list (xs.map en)) (.list (ys.map en)) Q :=
  eq_list (Q := fun b => Q (!b)) h q
theorem in_list {α : Type} [En α] [DecidableEq α] {x : α} {xs : List α} {Q : Bool → Prop} (h : En.dp α ≤ 60) (q : Q (decide (x ∈ xs))) : rIn (en x) (.list (xs.map en)) Q := by
  refine ⟨shaped_en (by omega) x, shaped_en (α := List α) (Nat.succ_le_succ (Nat.le_trans h (by decide))) xs, ?_⟩
  have e : ((xs.map en).any fun z => PyData.eqv z (en x)) = decide (x ∈ xs) := by
    rw [Bool.eq_iff_iff, List.any_eq_true, decide_eq_true_iff]
    constructor
    · rintro ⟨z, hz, e⟩
      obtain ⟨y, hy, rfl⟩ := List.mem_map.mp hz
      rw [En.eqv y x] at e
      subst e
      exact hy
    · intro hx
      exact ⟨en x, List.mem_map_of_mem hx, (En.eqv x x).mpr rfl⟩
  rw [e]
  exact q
theorem notIn_list {α : Type} [En α] [DecidableEq α] {x : α} {xs : List α} {Q : Bool → Prop} (h : En.dp α ≤ 60) (q : Q (!decide (x ∈ xs))) : rNotIn (en x) (.list (xs.map en)) Q :=
  in_list (Q := fun b => Q (!b)) h q
end DL
namespace DL
theorem gD {α : Type} {xs : List α} {i : Nat} {d : α} (h : i < xs.length) : xs.getD i d = xs[i] := by
  rw [List.getD_eq_getElem?_getD, List.getElem?_eq_getElem h]
  rfl
end DL
namespace DL
open PySem
theorem filterMap_if {α β : Type} (p : α → Bool) (o : α → β) : ∀ xs : List α, xs.filterMap (fun x => if p x = true then some (o x) else none) = (xs.filter p).map o
  | [] => rfl
  | x :: xs => by
    have ih := filterMap_if p o xs
    rw [List.filterMap_cons, List.filter_cons]
    by_cases h : p x = true
    · rw [if_pos h, if_pos h, List.map_cons, ih]
    · rw [if_neg h, if_neg h, ih]
/-- a comprehension with a test -/
theorem lc_filt {α : Type} {f : Bool} {l : Lv} {g : DG} {tt : DT} {te : DE} {σ : Ds} {Q : List PyData → Prop} (en : α → PyData) (xs : List α) (p : α → Bool) (o : α → PyData) (hl : xs.length ≤ 10000000)
    (hs : ∀ x ∈ xs, ∀ (P : PyData → Prop) (N : Prop), (p x = true → P (o x)) → (p x = false → N) → g l (en x) σ fun σ' => tt σ' fun b => br b (te σ' fun fl d => fz fl fun k => okF f k (P d)) N) (h : Q ((xs.filter p).map o)) : lcGo f l g tt te σ (xs.map en) [] Q := by
  refine lc_opt en xs (fun x => if p x = true then some (o x) else none) hl (fun x hx P N hp hn => hs x hx P N (fun h => hp _ (if_pos h)) (fun h => hn (if_neg (by rw [h]; decide)))) ?_
  rw [filterMap_if]
  exact h
end DL
namespace DL
open PySem
open En (en)
theorem any_en {α : Type} [En α] [DecidableEq α] {x : α} {xs : List α} : ((xs.map en).any fun z => PyData.eqv z (en x)) = decide (x ∈ xs) := by
  rw [Bool.eq_iff_iff, List.any_eq_true, decide_eq_true_iff]
  constructor
  · rintro ⟨z, hz, e⟩
    obtain ⟨y, hy, rfl⟩ := List.mem_map.mp hz
    rw [En.eqv y x] at e
    subst e
    exact hy
  · intro hx
    exact ⟨en x, List.mem_map_of_mem hx, (En.eqv x x).mpr rfl⟩
/-- what an «in» asks for typed data -/
theorem in_go {α : Type} [En α] [DecidableEq α] (x : α) (xs : List α) {Q : Bool → Prop} (q : Q (decide (x ∈ xs))) (h : En.dp α ≤ 60 := by decide) : SeqAt.shaped (en x) = true ∧ SeqAt.shaped (.list (xs.map en)) = true ∧ Q ((xs.map en).any fun z => PyData.eqv z (en x)) :=
  ⟨shaped_en (by omega) x, shaped_en (α := List α) (Nat.succ_le_succ (Nat.le_trans h (by decide))) xs, by rw [any_en]; exact q⟩
theorem eqv_en {α : Type} [En α] [DecidableEq α] (a b : α) : PyData.eqv (en a) (en b) = decide (a = b) := by
  rw [Bool.eq_iff_iff, En.eqv a b, decide_eq_true_iff]
theorem eq_go {α : Type} [En α] [DecidableEq α] (a b : α) {Q : Bool → Prop} (q : Q (decide (a = b))) (h : En.dp α ≤ 64 := by decide) : SeqAt.shaped (en a) = true ∧ SeqAt.shaped (en b) = true ∧ Q (PyData.eqv (en a) (en b)) :=
  ⟨shaped_en h a, shaped_en h b, by rw [eqv_en]; exact q⟩
end DL
namespace DL
/-! sums over 0 .. n - 1 -/
def sm0 (n : Nat) (f : Nat → Int) : Int := ((List.range n).map f).sum
theorem sm0_succ (n : Nat) (f : Nat → Int) : sm0 (n + 1) f = sm0 n f + f n := by
  unfold sm0
  rw [List.range_succ, List.map_append, List.sum_append]
  simp
theorem sm0_congr {n : Nat} {f g : Nat → Int} (h : ∀ k, k < n → f k = g k) : sm0 n f = sm0 n g := by
  unfold sm0
  rw [List.map_congr_left fun k hk => h k (List.mem_range.mp hk)]
theorem sm0_add (n : Nat) (f g : Nat → Int) : sm0 n f + sm0 n g = sm0 n fun k => f k + g k := by
  induction n with
  | zero => rfl
  | succ n ih => rw [sm0_succ, sm0_succ, sm0_succ, ← ih]; omega
theorem sm0_sub (n : Nat) (f g : Nat → Int) : sm0 n f - sm0 n g = sm0 n fun k => f k - g k := by
  induction n with
  | zero => rfl
  | succ n ih => rw [sm0_succ, sm0_succ, sm0_succ, ← ih]; omega
theorem sm0_le {n : Nat} {f g : Nat → Int} (h : ∀ k, k < n → f k ≤ g k) : sm0 n f ≤ sm0 n g := by
  induction n with
  | zero => exact Int.le_refl _
  | succ n ih =>
    rw [sm0_succ, sm0_succ]
    have := ih fun k hk => h k (by omega)
    have := h n (by omega)
    omega
theorem sum_filter {α : Type} (p : α → Bool) (f : α → Int) : ∀ xs : List α, ((xs.filter p).map f).sum = (xs.map fun x => if p x = true then f x else 0).sum
  | [] => rfl
  | x :: xs => by
    have ih := sum_filter p f xs
    rw [List.filter_cons, List.map_cons, List.sum_cons]
    by_cases h : p x = true
    · rw [if_pos h, if_pos h, List.map_cons, List.sum_cons, ih]
    · rw [if_neg h, if_neg h, ih]
      omega
theorem set_range {α : Type} (m i : Nat) (F : Nat → α) (y : α) : ((List.range m).map F).set i y = (List.range m).map fun k => if k = i then y else F k := by
  apply List.ext_getElem?
  intro j
  rw [List.getElem?_set, List.length_map, List.length_range]
  by_cases hj : j < m
  · rw [List.getElem?_map, List.getElem?_map, List.getElem?_range hj]
    by_cases h : i = j
    · subst h
      rw [if_pos rfl, if_pos hj]
      simp
    · rw [if_neg h]
      simp [Ne.symm h]
  · have e1 : ((List.range m).map F)[j]? = none := List.getElem?_eq_none (by rw [List.length_map, List.length_range]; omega)
    have e2 : ((List.range m).map fun k => if k = i then y else F k)[j]? = none := List.getElem?_eq_none (by rw [List.length_map, List.length_range]; omega)
    rw [e1, e2]
    by_cases h : i = j
    · subst h
      rw [if_pos rfl, if_neg hj]
    · rw [if_neg h]
theorem gD_range {α : Type} {m i : Nat} {F : Nat → α} {d : α} (h : i < m) : ((List.range m).map F).getD i d = F i := by
  rw [gD (by rw [List.length_map, List.length_range]; exact h), List.getElem_map, List.getElem_range]
end DL
namespace DL
open PySem
open En (en)
/-- data is equal to itself -/
theorem eqv_self {d : PyData} (h : SeqAt.shaped d = true) : PyData.eqv d d = true := SeqAt.eqv_refl d (SeqAt.canLay_of_shaped h)
theorem self_go {d : PyData} (h : SeqAt.shaped d = true) {Q : Bool → Prop} (q : Q true) : SeqAt.shaped d = true ∧ SeqAt.shaped d = true ∧ Q (PyData.eqv d d) := ⟨h, h, by rw [eqv_self h]; exact q⟩
theorem shaped_L2 {α β : Type} [En α] [En β] (a : α) (b : β) (h1 : En.dp α ≤ 60 := by decide) (h2 : En.dp β ≤ 60 := by decide) : SeqAt.shaped (.list [en a, en b]) = true := by
  have e1 := En.dep a
  have e2 := En.dep b
  show (PyData.canLay0 _ && decide (PyData.depth _ ≤ 64)) = true
  have l : PyData.canLay0 (.list [en a, en b]) = true := by simp only [PyData.canLay0, PyData.canLayAll0, En.lay, Bool.and_self]
  have d : PyData.depth (.list [en a, en b]) ≤ 64 := by
    simp only [PyData.depth, PyData.depthAll]
    omega
  rw [l, decide_eq_true d]
  rfl
theorem nl_ints (ns : List Int) : ∀ x ∈ ns.map PyData.int, NL x := fun x h => by
  obtain ⟨n, _, rfl⟩ := List.mem_map.mp h
  exact .int n
theorem nl_nats (ns : List Nat) : ∀ x ∈ ns.map (en (α := Nat)), NL x := fun x h => by
  obtain ⟨n, _, rfl⟩ := List.mem_map.mp h
  exact .int n
end DL
namespace DL
open PySem
theorem nat_ints (xs : List Nat) : eI (xs.map fun (k : Nat) => (k : Int)) = .list (xs.map (En.en (α := Nat))) := by
  show PyData.list ((xs.map fun (k : Nat) => (k : Int)).map PyData.int) = _
  rw [List.map_map]
  rfl
/-! comprehensions whose items are not fixed -/
def LRel {α β : Type} (R : α → β → Prop) : List α → List β → Prop
  | [], [] => True
  | x :: xs, y :: ys => R x y ∧ LRel R xs ys
  | _, _ => False
theorem LRel.len {α β : Type} {R : α → β → Prop} : ∀ {xs : List α} {ys : List β}, LRel R xs ys → ys.length = xs.length
  | [], [], _ => rfl
  | _ :: _, _ :: _, h => by
    rw [List.length_cons, List.length_cons, h.2.len]
  | [], _ :: _, h => h.elim
  | _ :: _, [], h => h.elim
theorem LRel.at {α β : Type} {R : α → β → Prop} : ∀ {xs : List α} {ys : List β}, LRel R xs ys → ∀ (i : Nat) (h1 : i < xs.length) (h2 : i < ys.length), R xs[i] ys[i]
  | _ :: _, _ :: _, h, 0, _, _ => h.1
  | x :: xs, y :: ys, h, i + 1, h1, h2 => h.2.at i (by simpa using h1) (by simpa using h2)
  | [], _ :: _, h, _, _, _ => h.elim
  | _ :: _, [], h, _, _, _ => h.elim
  | [], [], _, i, h1, _ => absurd h1 (Nat.not_lt_zero i)
theorem LRel.all {α β : Type} {R : α → β → Prop} {T : β → Prop} (hT : ∀ x y, R x y → T y) : ∀ {xs : List α} {ys : List β}, LRel R xs ys → ∀ y ∈ ys, T y
  | _ :: _, _ :: _, h, y, hy => by
    rcases List.mem_cons.mp hy with e | e
    · rw [e]
      exact hT _ _ h.1
    · exact h.2.all hT y e
  | [], _ :: _, h, _, _ => h.elim
  | _ :: _, [], h, _, _ => h.elim
  | [], [], _, y, hy => nomatch hy
theorem lc_rel {α β : Type} {f : Bool} {l : Lv} {g : DG} {tt : DT} {te : DE} {σ : Ds} {Q : List PyData → Prop} (en : α → PyData) (eb : β → PyData) (R : α → β → Prop) (xs : List α) (hl : xs.length ≤ 10000000)
    (hs : ∀ x ∈ xs, ∀ (P : PyData → Prop) (N : Prop), (∀ y, R x y → P (eb y)) → g l (en x) σ fun σ' => tt σ' fun b => br b (te σ' fun fl d => fz fl fun k => okF f k (P d)) N) (h : ∀ ys, LRel R xs ys → Q (ys.map eb)) : lcGo f l g tt te σ (xs.map en) [] Q := by
  have main : ∀ (ys : List α) (acc : List PyData), (∀ y ∈ ys, y ∈ xs) → acc.length + ys.length ≤ 10000000 → (∀ ws, LRel R ys ws → Q (acc ++ ws.map eb)) → lcGo f l g tt te σ (ys.map en) acc Q := by
    intro ys
    induction ys with
    | nil =>
      intro acc _ _ h
      have := h [] trivial
      rw [List.map_nil, List.append_nil] at this
      exact this
    | cons y ys ih =>
      intro acc hm hl h
      rw [List.length_cons] at hl
      refine hs y (hm y List.mem_cons_self) _ _ (fun d e => ⟨szlt (by omega), ?_⟩)
      refine ih _ (fun z hz => hm z (List.mem_cons_of_mem _ hz)) (by rw [List.length_append, List.length_singleton]; omega) (fun ws hw => ?_)
      have := h (d :: ws) ⟨e, hw⟩
      rw [List.append_assoc]
      exact this
  exact main xs [] (fun _ h => h) (by simpa using hl) h
theorem lc_upToR {β : Type} {f : Bool} {l : Lv} {g : DG} {tt : DT} {te : DE} {σ : Ds} {Q : List PyData → Prop} {lo : Int} {n : Nat} (eb : β → PyData) (R : Nat → β → Prop) (hl : n ≤ 10000000)
    (hs : ∀ (k : Nat), k < n → ∀ (P : PyData → Prop) (N : Prop), (∀ y, R k y → P (eb y)) → g l (.int (lo + (k : Int))) σ fun σ' => tt σ' fun b => br b (te σ' fun fl d => fz fl fun k => okF f k (P d)) N) (h : ∀ ys, LRel R (List.range n) ys → Q (ys.map eb)) : lcGo f l g tt te σ (upTo lo n) [] Q :=
  lc_rel (fun (k : Nat) => PyData.int (lo + (k : Int))) eb R (List.range n) (by rw [List.length_range]; exact hl) (fun x hx => hs x (List.mem_range.mp hx)) h
theorem LRel.upTo {β : Type} {R : Nat → β → Prop} {n : Nat} {ys : List β} (h : LRel R (List.range n) ys) : ys.length = n ∧ ∀ i (h : i < ys.length), R i ys[i] := by
  have e : ys.length = n := by rw [h.len, List.length_range]
  refine ⟨e, fun i hi => ?_⟩
  have := h.at i (by rw [List.length_range]; omega) hi
  rw [List.getElem_range] at this
  exact this
end DL

set_option Elab.async false
set_option linter.all false
set_option maxRecDepth 100000
/-! MC: what all laws share: the draws. -/
namespace RD
open PySem DL
def scr (ns : List Int) : PyData := .dict (ns.map fun n => (PyData.int n, PyData.none))
def Good (r : List Int) : Prop := ∀ x ∈ r, 0 ≤ x ∧ x < 1000003
def S__law_draws : DSp := fun ds Q => ∃ (ns : List Int) (many : Nat), ds = [scr ns, .int many] ∧ ns.length ≤ 63 ∧ many ≤ 1000 ∧ ∀ r : List Int, r.length = many → Good r → Q .new (eI r)
theorem Good.app {r : List Int} {x : Int} (h : Good r) (h0 : 0 ≤ x ∧ x < 1000003) : Good (r ++ [x]) := fun y hy => by
  rcases List.mem_append.mp hy with q | q
  · exact h y q
  · rw [List.mem_singleton.mp q]
    exact h0
theorem md3 (a : Int) : 0 ≤ a % 1000003 ∧ a % 1000003 < 1000003 := ⟨Int.emod_nonneg _ (by decide), Int.emod_lt_of_pos _ (by decide)⟩
theorem ms__law_draws : MonoS S__law_draws := fun ds Q Q' h ⟨ns, m, e, h1, h2, q⟩ => ⟨ns, m, e, h1, h2, fun r a b => h _ _ (q r a b)⟩
theorem kp__law_draws : Keeps 8 rd__law_draws S__law_draws := by
  rintro ds Q ⟨ns, many, rfl, hns, hm, q⟩
  refine ⟨by decide, ?_⟩
  -- for cell in script[:63]
  have e63 : cut ((ns.map fun n => (PyData.int n, PyData.none)).map (·.1)) none (some 63) = (ns.take 63).map PyData.int := by
    rw [List.map_map]
    have := cut_to (ns.map PyData.int) 63
    rw [← List.map_take] at this
    exact this
  show forGo _ _ _ (cut ((ns.map fun n => (PyData.int n, PyData.none)).map (·.1)) none (some 63)) _ _
  rw [e63]
  refine for_inv PyData.int (ns.take 63) (fun i σ => ∃ fs s3 s4 s5 s6, σ = [.val false (scr ns), .val false (.int many), .own false (fs.map .int), s3, s4, s5, s6, .non] ∧ Good fs ∧ fs.length ≤ 60 * i) ⟨[], .non, .non, .non, .non, rfl, (fun x h => nomatch h), by simp⟩ (fun i hi σ K h k => ?_) (fun σ h => ?_)
  · obtain ⟨fs, s3, s4, s5, s6, rfl, hg, hl⟩ := h
    have hi63 : i < 63 := by
      rw [List.length_take] at hi
      omega
    -- number = abs(int(cell))
    generalize hn : (if (ns.take 63)[i] < 0 then -(ns.take 63)[i] else (ns.take 63)[i]) = number
    have hn0 : 0 ≤ number := by
      rw [← hn]
      split <;> omega
    refine ⟨⟨by decide, by decide, by decide⟩, br.dec (fun hb => ?_) (fun hb => ?_)⟩
    · refine ⟨sm (by decide) (by decide), for_upTo (fun j σ => ∃ fs' num s5, σ = [.val false (scr ns), .val false (.int many), .own false (fs'.map .int), .val false (.int (ns.take 63)[i]), .val false (.int num), s5, s6, .non] ∧ Good fs' ∧ fs'.length ≤ 60 * i + j ∧ 0 ≤ num)
        ⟨fs, number, s5, by rw [← hn]; rfl, hg, by omega, hn0⟩ (fun j σ K2 hj h k2 => ?_) (fun σ h => ?_)⟩
      · obtain ⟨fs', num, t5, rfl, hg', hl', h0'⟩ := h
        refine br.dec (fun hp => ?_) (fun hp => ?_)
        · refine ⟨md (by decide), szlt (by rw [List.length_map]; omega), ?_⟩
          refine ⟨div_s ⟨by decide, by decide⟩, k2 _ ⟨fs' ++ [num % 1000003], num / 1000003, _, by rw [List.map_append]; rfl, hg'.app (md3 _), by rw [List.length_append]; simp; omega, Int.ediv_nonneg h0' (by decide)⟩⟩
        · exact k2 _ ⟨fs', num, _, rfl, hg', by omega, h0'⟩
      · obtain ⟨fs', num, t5, rfl, hg', hl', h0'⟩ := h
        exact k _ ⟨fs', _, _, _, _, rfl, hg', by omega⟩
    · refine ⟨mul_r (by decide), mul_l (by decide), md (by decide), sm (by decide) (by decide), for_upTo (fun j σ => ∃ fs' mx s5, σ = [.val false (scr ns), .val false (.int many), .own false (fs'.map .int), .val false (.int (ns.take 63)[i]), .val false (.int (if (ns.take 63)[i] < 0 then -(ns.take 63)[i] else (ns.take 63)[i])), s5, .val false (.int mx), .non] ∧ Good fs' ∧ fs'.length ≤ 60 * i + j ∧ 0 ≤ mx)
        ⟨fs, _, s5, rfl, hg, by omega, Int.emod_nonneg _ (by decide)⟩ (fun j σ K2 hj h k2 => ?_) (fun σ h => ?_)⟩
      · obtain ⟨fs', mx, t5, rfl, hg', hl', h0'⟩ := h
        refine ⟨mul_r (by decide), div_s ⟨by decide, by decide⟩, mul_l (by decide), md (by decide), div_s ⟨by decide, by decide⟩, md (by decide), szlt (by rw [List.length_map]; omega), ?_⟩
        refine k2 _ ⟨fs' ++ [_], _, _, by rw [List.map_append]; rfl, hg'.app (md3 _), by rw [List.length_append]; simp; omega, Int.emod_nonneg _ (by decide)⟩
      · obtain ⟨fs', mx, t5, rfl, hg', hl', h0'⟩ := h
        exact k _ ⟨fs', _, _, _, _, rfl, hg', by omega⟩
  · obtain ⟨fs, s3, s4, s5, s6, rfl, hg, hl⟩ := h
    have hl' : fs.length ≤ 3780 := by
      rw [List.length_take] at hl
      omega
    refine ⟨sm (by omega) (by omega), for_upTo (fun j σ => ∃ fs' s5 s7, σ = [.val false (scr ns), .val false (.int many), .own false (fs'.map .int), s3, s4, s5, s6, s7] ∧ Good fs' ∧ fs'.length ≤ 3780 + j ∧ (j ≤ fs'.length ∨ many ≤ fs'.length)) ⟨fs, s5, .non, rfl, hg, by omega, by omega⟩ (fun j σ K2 hj h k2 => ?_) (fun σ h => ?_)⟩
    · obtain ⟨fs', t5, s7, rfl, hg', hl', hc⟩ := h
      have ej : ((many : Int)).toNat = many := by omega
      refine br.dec (fun hp => ?_) (fun hp => ?_)
      · have hp' : fs'.length < many := by
          have : ((fs'.map PyData.int).length : Int) < (many : Int) := hp
          rw [List.length_map] at this
          omega
        have fin : ∀ (base : Int) (σ1 : Ds) , σ1 = [.val false (scr ns), .val false (.int many), .own false (fs'.map .int), s3, s4, .val false (.int (0 + (j : Int))), s6, .val false (.int base)] → (dApp 2 (dOp rMod (dOp rAdd (dOp rAdd (dOp rMul (dVar 7) (dC (.int 16807))) (dOp rMul (dC (.int 31)) (dUn rLen (dVar 2)))) (dC (.int 17))) (dC (.int 1000003)))) { nx := K2, rt := Q, ct := K2 } σ1 := by
          rintro base σ1 rfl
          refine ⟨mul_r (by decide), mul_l (by decide), md (by decide), szlt (by rw [List.length_map]; omega), ?_⟩
          refine k2 _ ⟨fs' ++ [_], _, _, by rw [List.map_append]; rfl, hg'.app (md3 _), by rw [List.length_append]; simp; omega, .inl (by rw [List.length_append]; simp; omega)⟩
        refine br.dec (fun hq => ?_) (fun hq => ?_)
        · have hq' : 0 < fs'.length := by
            have : (0 : Int) < ((fs'.map PyData.int).length : Int) := hq
            rw [List.length_map] at this
            omega
          have hm0 : 0 ≤ (0 + (j : Int)) % ((fs'.map PyData.int).length : Int) := Int.emod_nonneg _ (by rw [List.length_map]; omega)
          have hm1 : (0 + (j : Int)) % ((fs'.map PyData.int).length : Int) < ((fs'.map PyData.int).length : Int) := Int.emod_lt_of_pos _ (by rw [List.length_map]; omega)
          refine ⟨md (by rw [List.length_map]; omega), _, at_int hm0 (by simp only [List.length_map] at hm0 hm1 ⊢; omega), ?_⟩
          exact fin _ _ rfl
        · exact fin 0 _ rfl
      · refine k2 _ ⟨fs', _, _, rfl, hg', by omega, .inr ?_⟩
        have : ¬ ((fs'.map PyData.int).length : Int) < (many : Int) := hp
        rw [List.length_map] at this
        omega
    · obtain ⟨fs', t5, s7, rfl, hg', hl', hc⟩ := h
      have := q (fs'.take many) (by rw [List.length_take]; omega) (fun x hx => hg' x (List.mem_of_mem_take hx))
      show Q .new (.list (cut (fs'.map PyData.int) none (some (many : Int))))
      rw [cut_to, ← List.map_take]
      exact this
/-! a cell of the draws -/
def S__law_cell : DSp := fun ds Q => ∃ (r : List Int) (k : Int), ds = [eI r, .int k] ∧ Good r ∧ 0 < r.length ∧ 0 ≤ k ∧ ∀ c : Int, 0 ≤ c → c < 1000003 → Q .av (.int c)
theorem ms__law_cell : MonoS S__law_cell := fun ds Q Q' h ⟨r, k, e, h1, h2, h3, q⟩ => ⟨r, k, e, h1, h2, h3, fun c a b => h _ _ (q c a b)⟩
theorem kp__law_cell : Keeps 2 rd__law_cell S__law_cell := by
  rintro ds Q ⟨r, k, rfl, hg, hl, hk, q⟩
  have hl' : (0 : Int) < ((r.map PyData.int).length : Int) := by rw [List.length_map]; omega
  refine br.dec (fun h => ?_) (fun h => ?_)
  · have h' : k.toNat < r.length := by
      rw [List.length_map] at h
      omega
    refine ⟨_, at_int hk h', ?_⟩
    have := hg _ (List.getElem_mem h')
    exact q _ this.1 this.2
  · have m : ∀ z : Int, (z % ((r.map PyData.int).length : Int)).toNat < r.length := fun z => by
      have h1 := Int.emod_lt_of_pos z hl'
      simp only [List.length_map] at h1 ⊢
      omega
    have m0 : ∀ z : Int, 0 ≤ z % ((r.map PyData.int).length : Int) := fun z => Int.emod_nonneg _ (by omega)
    refine ⟨md hl', _, at_int (m0 k) (m k), mul_r (by decide), mul_l (by decide), md hl', _, at_int (m0 _) (m _), mul_r (by decide), mul_l (by decide), md (by decide), ?_⟩
    exact q _ (md3 _).1 (md3 _).2
/-! numbers -/
def S__law_is_number : DSp := fun ds Q => ∃ d, ds = [d] ∧ Q .av (.bool (isInt d && !isBool d))
theorem ms__law_is_number : MonoS S__law_is_number := fun ds Q Q' h ⟨d, e, q⟩ => ⟨d, e, h _ _ q⟩
theorem kp__law_is_number : Keeps 1 rd__law_is_number S__law_is_number := by
  rintro ds Q ⟨d, rfl, q⟩
  cases h : isInt d with
  | true =>
    refine br.t h ?_
    rw [h] at q
    exact q
  | false =>
    refine br.f h ?_
    rw [h] at q
    exact q
def S__law_is_numbers : DSp := fun ds Q => ∃ (ns : List Int) (n : Int), ds = [eI ns, .int n] ∧ Q .av (.bool (decide ((ns.length : Int) = n)))
theorem ms__law_is_numbers : MonoS S__law_is_numbers := fun ds Q Q' h ⟨d, n, e, q⟩ => ⟨d, n, e, h _ _ q⟩
theorem kp__law_is_numbers : Keeps 3 (rd__law_is_numbers_6e0e S__law_is_number) S__law_is_numbers := by
  rintro ds Q ⟨ns, n, rfl, q⟩
  refine br.nd (fun h => ?_) (fun h => ?_)
  · rw [List.length_map] at h
    rw [decide_eq_false h] at q
    exact q
  · rw [List.length_map] at h
    rw [decide_eq_true h] at q
    refine for_inv PyData.int ns (fun i σ => ∃ s2, σ = [.val false (eI ns), .val false (.int n), s2]) ⟨.non, rfl⟩ (fun i hi σ K h k => ?_) (fun σ h => ?_)
    · obtain ⟨s2, rfl⟩ := h
      exact ⟨_, rfl, k _ ⟨_, rfl⟩⟩
    · obtain ⟨s2, rfl⟩ := h
      exact q
end RD

set_option Elab.async false
set_option linter.all false
set_option maxRecDepth 100000
/-! MP: demands, places, pieces, breaches. -/
namespace RD
open PySem DL
open En (en)
/-! widths within bounds -/
def wi (x : Int) (lo hi : Option Int) : Bool := (match lo with
  | none => true
  | some l => decide (l ≤ x)) && (match hi with
  | none => true
  | some h => decide (x ≤ h))
def S_within : DSp := fun ds Q => ∃ (x : Int) (lo hi : Option Int), ds = [.int x, en lo, en hi] ∧ Q .av (.bool (wi x lo hi))
theorem ms_within : MonoS S_within := fun ds Q Q' h ⟨x, lo, hi, e, q⟩ => ⟨x, lo, hi, e, h _ _ q⟩
theorem kp_within : Keeps 3 rd_within S_within := by
  rintro ds Q ⟨x, lo, hi, rfl, q⟩
  have up : ∀ b : Bool, Q .av (.bool (wi x none hi)) → (dRet (dOrV (dBool (dCmp rIs (dVar 2) (dC .none))) (dBool (dCmp rLe (dVar 0) (dVar 2))))) { nx := fun _ => Q .av .none, rt := Q } [.val false (.int x), .val false (en lo), .val false (en hi)] := fun b q => by
    cases hi with
    | none => exact q
    | some h => exact q
  cases lo with
  | none => exact up true q
  | some l =>
    refine br.dec (fun h => ?_) (fun h => ?_)
    · have e : wi x (some l) hi = false := by
        unfold wi
        simp only [decide_eq_false (show ¬ l ≤ x by omega), Bool.false_and]
      rw [e] at q
      exact q
    · have e : wi x (some l) hi = wi x none hi := by
        unfold wi
        simp only [decide_eq_true (show l ≤ x by omega)]
      rw [e] at q
      exact up true q
/-! demands -/
structure Dm where
  lw : Nat
  hg : Nat
  lo : Option Int
  hi : Option Int
  deriving DecidableEq
theorem opt_lay (o : Option Int) : (en o).canLay0 = true := En.lay o
theorem opt_dep (o : Option Int) : (en o).depth = 0 := Nat.le_zero.mp (En.dep o)
theorem opt_eqv (a b : Option Int) : PyData.eqv (en a) (en b) = true ↔ a = b := En.eqv a b
instance : En Dm where
  en := fun t => .tuple [.int (t.lw : Int), .int (t.hg : Int), en t.lo, en t.hi]
  dp := 1
  lay := fun t => by simp only [PyData.canLay0, PyData.canLayAll0, opt_lay, Bool.and_self]
  dep := fun t => by simp [PyData.depth, PyData.depthAll, opt_dep]
  eqv := fun a b => by
    obtain ⟨a1, a2, a3, a4⟩ := a
    obtain ⟨b1, b2, b3, b4⟩ := b
    simp [PyData.eqv, PyData.eqvAll, Int.natCast_inj, opt_eqv]
/-- a demand is met -/
def mt (t : List Int) (d : Dm) : Bool := wi (t.getD d.hg 0 - t.getD d.lw 0) d.lo d.hi
def Ok (n : Nat) (dms : List Dm) : Prop := ∀ d ∈ dms, d.lw < n ∧ d.hg < n
def S_meets : DSp := fun ds Q => ∃ (dms : List Dm) (t : List Int), ds = [.list (dms.map en), eI t] ∧ Ok t.length dms ∧ Q .av (.bool (dms.all (mt t)))
theorem ms_meets : MonoS S_meets := fun ds Q Q' h ⟨dms, t, e, h1, q⟩ => ⟨dms, t, e, h1, h _ _ q⟩
theorem kp_meets : Keeps 6 (rd_meets S_within) S_meets := by
  rintro ds Q ⟨dms, t, rfl, hk, q⟩
  refine for_inv en dms (fun i σ => ∃ s2 s3 s4 s5, σ = [.val false (.list (dms.map en)), .val false (eI t), s2, s3, s4, s5] ∧ (dms.take i).all (mt t) = true) ⟨.non, .non, .non, .non, rfl, rfl⟩ (fun i hi σ K h k => ?_) (fun σ h => ?_)
  · obtain ⟨s2, s3, s4, s5, rfl, ha⟩ := h
    obtain ⟨h1, h2⟩ := hk dms[i] (List.getElem_mem hi)
    refine ⟨rfl, _, at_map (i := dms[i].hg) h2, _, at_map (i := dms[i].lw) h1, ?_⟩
    refine ⟨_, dms[i].lo, dms[i].hi, rfl, ?_⟩
    have e : wi (t[dms[i].hg] - t[dms[i].lw]) dms[i].lo dms[i].hi = mt t dms[i] := by
      unfold mt
      rw [gD h2, gD h1]
    rw [e]
    cases hm : mt t dms[i] with
    | true =>
      refine k _ ⟨.val false (.int (dms[i].lw : Int)), .val false (.int (dms[i].hg : Int)), .val false (en dms[i].lo), .val false (en dms[i].hi), rfl, ?_⟩
      rw [List.take_succ_eq_append_getElem hi, List.all_append, ha]
      simp [hm]
    | false =>
      have e2 : dms.all (mt t) = false := by
        rw [List.all_eq_false]
        exact ⟨dms[i], List.getElem_mem hi, by rw [hm]; decide⟩
      rw [e2] at q
      exact q
  · obtain ⟨s2, s3, s4, s5, rfl, ha⟩ := h
    rw [List.take_length] at ha
    rw [ha] at q
    exact q
def broken (t : List Int) (dms : List Dm) : List Nat := (List.range dms.length).filter fun k => !mt t (dms.getD k ⟨0, 0, none, none⟩)
def S_unmet : DSp := fun ds Q => ∃ (dms : List Dm) (t : List Int), ds = [.list (dms.map en), eI t] ∧ dms.length ≤ 1000000 ∧ Ok t.length dms ∧ Q .new (en (broken t dms))
theorem ms_unmet : MonoS S_unmet := fun ds Q Q' h ⟨dms, t, e, h1, h2, q⟩ => ⟨dms, t, e, h1, h2, h _ _ q⟩
theorem kp_unmet : Keeps 8 (rd_unmet S_within) S_unmet := by
  rintro ds Q ⟨dms, t, rfl, hl, hk, q⟩
  refine ⟨by simp, sm (by simp) (by simp; omega), for_upTo (fun i σ => ∃ s3 s4 s5 s6 s7, σ = [.val false (.list (dms.map en)), .val false (eI t), .own false (((List.range i).filter fun k => !mt t (dms.getD k ⟨0, 0, none, none⟩)).map (en (α := Nat))), s3, s4, s5, s6, s7]) ⟨.non, .non, .non, .non, .non, rfl⟩ (fun i σ K hi h k => ?_) (fun σ h => ?_)⟩
  · obtain ⟨s3, s4, s5, s6, s7, rfl⟩ := h
    have hi' : i < dms.length := by simpa using hi
    have e0 : (0 : Int) + (i : Int) = (i : Int) := by omega
    obtain ⟨h1, h2⟩ := hk dms[i] (List.getElem_mem hi')
    rw [e0]
    refine ⟨_, at_map hi', rfl, _, at_map (i := dms[i].hg) h2, _, at_map (i := dms[i].lw) h1, ?_⟩
    refine ⟨_, dms[i].lo, dms[i].hi, rfl, ?_⟩
    have e : wi (t[dms[i].hg] - t[dms[i].lw]) dms[i].lo dms[i].hi = mt t (dms.getD i ⟨0, 0, none, none⟩) := by
      unfold mt
      rw [gD hi', gD h2, gD h1]
    rw [e]
    cases hm : mt t (dms.getD i ⟨0, 0, none, none⟩) with
    | true =>
      refine k _ ⟨.val false (.int (i : Int)), .val false (.int (dms[i].lw : Int)), .val false (.int (dms[i].hg : Int)), .val false (en dms[i].lo), .val false (en dms[i].hi), ?_⟩
      have : ([i].filter fun k => !mt t (dms.getD k ⟨0, 0, none, none⟩)) = [] := by
        simp only [List.filter_cons, hm, Bool.not_true, Bool.false_eq_true, if_false, List.filter_nil]
      rw [List.range_succ, List.filter_append, this, List.append_nil]
      rfl
    | false =>
      refine ⟨szlt ?_, k _ ⟨.val false (.int (i : Int)), .val false (.int (dms[i].lw : Int)), .val false (.int (dms[i].hg : Int)), .val false (en dms[i].lo), .val false (en dms[i].hi), ?_⟩⟩
      · rw [List.length_map]
        have := List.length_filter_le (fun k => !mt t (dms.getD k ⟨0, 0, none, none⟩)) (List.range i)
        rw [List.length_range] at this
        omega
      · rw [List.range_succ, List.filter_append, List.map_append]
        have : ([i].filter fun k => !mt t (dms.getD k ⟨0, 0, none, none⟩)) = [i] := by
          simp only [List.filter_cons, hm, Bool.not_false, if_true, List.filter_nil]
        rw [this]
        rfl
  · obtain ⟨s3, s4, s5, s6, s7, rfl⟩ := h
    have en1 : (((dms.map (en (α := Dm))).length : Nat) : Int).toNat = dms.length := by simp
    rw [en1]
    exact q
/-! places -/
def S_place : DSp := fun ds Q => ∃ (note : Int) (n : Nat), ds = [.int note, .int (n : Int)] ∧ 0 < n ∧ n ≤ 1000 ∧ Q .av (.tuple [.int (note % n), .int (note / n)])
theorem ms_place : MonoS S_place := fun ds Q Q' h ⟨x, n, e, h1, h2, q⟩ => ⟨x, n, e, h1, h2, h _ _ q⟩
theorem kp_place : Keeps 2 rd_place_of_note S_place := by
  rintro ds Q ⟨x, n, rfl, h1, h2, q⟩
  exact ⟨md (by omega), div_s ⟨by omega, by omega⟩, by simp, q⟩
theorem kp_lplace : Keeps 3 rd__law_place S_place := by
  rintro ds Q ⟨x, n, rfl, h1, h2, q⟩
  refine ⟨div_s ⟨by omega, by omega⟩, mul_l (by omega), by simp, ?_⟩
  rw [Int.emod_def] at q
  exact q
def Pb (p : Int) : Prop := -1000000000000000000 ≤ p ∧ p ≤ 1000000000000000000
/-- the pitch of a note -/
def pt (t : List Int) (p x : Int) : Int := t.getD (x % (t.length : Int)).toNat 0 + p * (x / (t.length : Int))
theorem pt_lt {t : List Int} (h : 0 < t.length) (x : Int) : 0 ≤ x % (t.length : Int) ∧ (x % (t.length : Int)).toNat < t.length := by
  have h1 := Int.emod_nonneg x (b := (t.length : Int)) (by omega)
  have h2 := Int.emod_lt_of_pos x (b := (t.length : Int)) (by omega)
  omega
def S_sounding : DSp := fun ds Q => ∃ (t : List Int) (p s o : Int), ds = [eI t, .int p, .tuple [.int s, .int o]] ∧ 0 ≤ s ∧ s.toNat < t.length ∧ Pb p ∧ Q .av (.int (t.getD s.toNat 0 + p * o))
theorem ms_sounding : MonoS S_sounding := fun ds Q Q' h ⟨t, p, s, o, e, h1, h2, h3, q⟩ => ⟨t, p, s, o, e, h1, h2, h3, h _ _ q⟩
theorem kp_sounding : Keeps 5 rd_sounding S_sounding := by
  rintro ds Q ⟨t, p, s, o, rfl, h1, h2, h3, q⟩
  refine ⟨rfl, _, at_int h1 h2, mul_l h3, ?_⟩
  rw [gD h2] at q
  exact q
def S_distance : DSp := fun ds Q => ∃ (t : List Int) (p lo hi : Int), ds = [.int (t.length : Int), .int p, eI t, .int lo, .int hi] ∧ 0 < t.length ∧ t.length ≤ 1000 ∧ Pb p ∧ Q .av (.int (pt t p hi - pt t p lo))
theorem ms_distance : MonoS S_distance := fun ds Q Q' h ⟨t, p, s, o, e, h1, h2, h3, q⟩ => ⟨t, p, s, o, e, h1, h2, h3, h _ _ q⟩
theorem kp_distance : Keeps 6 (rd_distance S_sounding S_place) S_distance := by
  rintro ds Q ⟨t, p, lo, hi, rfl, h1, h2, h3, q⟩
  refine ⟨hi, t.length, rfl, h1, h2, ?_⟩
  refine ⟨t, p, _, _, rfl, (pt_lt h1 hi).1, (pt_lt h1 hi).2, h3, ?_⟩
  refine ⟨lo, t.length, rfl, h1, h2, ?_⟩
  exact ⟨t, p, _, _, rfl, (pt_lt h1 lo).1, (pt_lt h1 lo).2, h3, q⟩
def S__law_note_pitch : DSp := fun ds Q => ∃ (t : List Int) (p x : Int), ds = [eI t, .int p, .int x] ∧ 0 < t.length ∧ t.length ≤ 1000 ∧ Pb p ∧ Q .av (.int (pt t p x))
theorem ms__law_note_pitch : MonoS S__law_note_pitch := fun ds Q Q' h ⟨t, p, x, e, h1, h2, h3, q⟩ => ⟨t, p, x, e, h1, h2, h3, h _ _ q⟩
theorem kp__law_note_pitch : Keeps 4 (rd__law_note_pitch S_place) S__law_note_pitch := by
  rintro ds Q ⟨t, p, x, rfl, h1, h2, h3, q⟩
  obtain ⟨m0, m1⟩ := pt_lt h1 x
  refine ⟨x, t.length, by rw [List.length_map], h1, h2, _, rfl, ?_⟩
  refine ⟨_, at_int m0 m1, _, rfl, mul_l h3, ?_⟩
  unfold pt at q
  rw [gD m1] at q
  exact q
end RD

set_option Elab.async false
set_option linter.all false
set_option maxRecDepth 100000
/-! MP2: tastes, pairs of notes, breaches. -/
namespace RD
open PySem DL
open En (en)
structure Ts where
  w : Int
  lo : Option Int
  hi : Option Int
  deriving DecidableEq
instance : En Ts where
  en := fun t => .tuple [.int t.w, en t.lo, en t.hi]
  dp := 1
  lay := fun t => by simp only [PyData.canLay0, PyData.canLayAll0, opt_lay, Bool.and_self]
  dep := fun t => by simp [PyData.depth, PyData.depthAll, opt_dep]
  eqv := fun a b => by
    obtain ⟨a1, a2, a3⟩ := a
    obtain ⟨b1, b2, b3⟩ := b
    simp [PyData.eqv, PyData.eqvAll, opt_eqv]
structure Pr where
  a : Int
  b : Int
  lo : Option Int
  hi : Option Int
  deriving DecidableEq
instance : En Pr where
  en := fun t => .tuple [.int t.a, .int t.b, en t.lo, en t.hi]
  dp := 1
  lay := fun t => by simp only [PyData.canLay0, PyData.canLayAll0, opt_lay, Bool.and_self]
  dep := fun t => by simp [PyData.depth, PyData.depthAll, opt_dep]
  eqv := fun a b => by
    obtain ⟨a1, a2, a3, a4⟩ := a
    obtain ⟨b1, b2, b3, b4⟩ := b
    simp [PyData.eqv, PyData.eqvAll, opt_eqv]
def fr (ts : List Ts) (w : Int) : Option Ts := ts.find? fun t => decide (t.w = w)
def enO (o : Option Ts) : PyData := match o with
  | none => .none
  | some t => en t
def S_taste_of : DSp := fun ds Q => ∃ (ts : List Ts) (w : Int), ds = [.list (ts.map en), .int w] ∧ Q .av (enO (fr ts w))
theorem ms_taste_of : MonoS S_taste_of := fun ds Q Q' h ⟨ts, w, e, q⟩ => ⟨ts, w, e, h _ _ q⟩
theorem kp_taste_of : Keeps 3 rd_taste_of S_taste_of := by
  rintro ds Q ⟨ts, w, rfl, q⟩
  refine for_inv en ts (fun i σ => ∃ s2, σ = [.val false (.list (ts.map en)), .val false (.int w), s2] ∧ fr (ts.take i) w = none) ⟨.non, rfl, rfl⟩ (fun i hi σ K h k => ?_) (fun σ h => ?_)
  · obtain ⟨s2, rfl, hf⟩ := h
    refine ⟨_, rfl, br.dec (fun h => ?_) (fun h => ?_)⟩
    · have h : ts[i].w = w := h
      have e : fr ts w = some ts[i] := by
        unfold fr at hf ⊢
        have e0 : (ts.find? fun t => decide (t.w = w)) = (ts.take i ++ ts.drop i).find? fun t => decide (t.w = w) := by rw [List.take_append_drop]
        rw [e0, List.find?_append, hf, List.drop_eq_getElem_cons hi, List.find?_cons_of_pos (by rw [h]; exact decide_eq_true rfl)]
        simp
      rw [e] at q
      exact q
    · have h : ¬ ts[i].w = w := h
      refine k _ ⟨.val false (en ts[i]), rfl, ?_⟩
      unfold fr at hf ⊢
      rw [List.take_succ_eq_append_getElem hi, List.find?_append, hf, List.find?_cons_of_neg (by rw [decide_eq_false h]; decide)]
      rfl
  · obtain ⟨s2, rfl, hf⟩ := h
    rw [List.take_length] at hf
    rw [hf] at q
    exact q
/-! the pairs of a chord -/
def fp (ts : List Ts) (x y : Int) : Option Pr := (fr ts (y - x)).map fun t => ⟨x, y, t.lo, t.hi⟩
def row (chord : List Int) (ts : List Ts) (i m : Nat) : List Pr := ((chord.drop (i + 1)).take m).filterMap (fp ts (chord.getD i 0))
def tpN (chord : List Int) (ts : List Ts) (i : Nat) : List Pr := (List.range i).flatMap fun k => row chord ts k chord.length
def tp (chord : List Int) (ts : List Ts) : List Pr := tpN chord ts chord.length
theorem tpN_succ (chord : List Int) (ts : List Ts) (i : Nat) : tpN chord ts (i + 1) = tpN chord ts i ++ row chord ts i chord.length := by
  unfold tpN
  rw [List.range_succ, List.flatMap_append, List.flatMap_cons, List.flatMap_nil, List.append_nil]
theorem row_full (chord : List Int) (ts : List Ts) (i : Nat) : row chord ts i (chord.length - (i + 1)) = row chord ts i chord.length := by
  unfold row
  rw [List.take_of_length_le (by rw [List.length_drop]; exact Nat.le_refl _), List.take_of_length_le (by rw [List.length_drop]; omega)]
theorem row_len (chord : List Int) (ts : List Ts) (i m : Nat) : (row chord ts i m).length ≤ m := by
  unfold row
  refine Nat.le_trans (List.length_filterMap_le _ _) ?_
  rw [List.length_take]
  omega
theorem tpN_len (chord : List Int) (ts : List Ts) : ∀ i, (tpN chord ts i).length ≤ i * chord.length
  | 0 => by simp [tpN]
  | i + 1 => by
    rw [tpN_succ, List.length_append, Nat.succ_mul]
    have := tpN_len chord ts i
    have := row_len chord ts i chord.length
    omega
theorem tp_len {chord : List Int} (ts : List Ts) (h : chord.length ≤ 100) : (tp chord ts).length ≤ 10000 :=
  Nat.le_trans (tpN_len chord ts chord.length) (Nat.mul_le_mul h h)
theorem row_succ {chord : List Int} (ts : List Ts) {i m : Nat} (h : i + 1 + m < chord.length) : row chord ts i (m + 1) = row chord ts i m ++ [chord[i + 1 + m]].filterMap (fp ts (chord.getD i 0)) := by
  unfold row
  rw [List.take_succ_eq_append_getElem (by rw [List.length_drop]; omega), List.filterMap_append, List.getElem_drop]
def S_tasted_pairs : DSp := fun ds Q => ∃ (chord : List Int) (ts : List Ts), ds = [eI chord, .list (ts.map en)] ∧ chord.length ≤ 100 ∧ Q .new (en (tp chord ts))
theorem ms_tasted_pairs : MonoS S_tasted_pairs := fun ds Q Q' h ⟨c, ts, e, h1, q⟩ => ⟨c, ts, e, h1, h _ _ q⟩
theorem kp_tasted_pairs : Keeps 6 (rd_tasted_pairs S_taste_of) S_tasted_pairs := by
  rintro ds Q ⟨c, ts, rfl, hc, q⟩
  refine ⟨by simp, sm (by simp) (by simp; omega), for_upTo (fun i σ => ∃ s3 s4 s5, σ = [.val false (eI c), .val false (.list (ts.map en)), .own false ((tpN c ts i).map en), s3, s4, s5]) ⟨.non, .non, .non, rfl⟩ (fun i σ K hi h k => ?_) (fun σ h => ?_)⟩
  · obtain ⟨s3, s4, s5, rfl⟩ := h
    have hi' : i < c.length := by simpa using hi
    have hN := tpN_len c ts i
    have hN2 : i * c.length ≤ 100 * 100 := Nat.mul_le_mul (by omega) hc
    have el : ((((c.map PyData.int).length : Nat) : Int) - (0 + (i : Int) + 1)).toNat = c.length - (i + 1) := by
      rw [List.length_map]
      omega
    refine ⟨sm (by omega) (by omega), sm (by simp) (by simp; omega), ?_⟩
    rw [el]
    refine for_upTo (fun j σ => ∃ s4 s5, σ = [.val false (eI c), .val false (.list (ts.map en)), .own false ((tpN c ts i ++ row c ts i j).map en), .val false (.int (0 + (i : Int))), s4, s5]) ⟨s4, s5, ?_⟩ (fun j σ K2 hj h k2 => ?_) (fun σ h => ?_)
    · have : row c ts i 0 = [] := by
        unfold row
        rw [List.take_zero]
        rfl
      rw [this, List.append_nil]
      rfl
    · obtain ⟨s4, s5, rfl⟩ := h
      have e0 : (0 : Int) + (i : Int) = (i : Int) := by omega
      have e1 : (0 : Int) + (i : Int) + 1 + (j : Int) = ((i + 1 + j : Nat) : Int) := by omega
      have hj' : i + 1 + j < c.length := by omega
      have hR := row_len c ts i j
      have ai : L2.atI (c.map PyData.int) (0 + (i : Int)) = some (.int c[i]) := by rw [e0]; exact at_map hi'
      have aj : L2.atI (c.map PyData.int) (0 + (i : Int) + 1 + (j : Int)) = some (.int c[i + 1 + j]) := by rw [e1]; exact at_map hj'
      refine ⟨_, aj, _, ai, ts, _, rfl, ?_⟩
      cases hf : fr ts (c[i + 1 + j] - c[i]) with
      | none =>
        refine k2 _ ⟨.val false (.int (0 + (i : Int) + 1 + (j : Int))), .val false .none, ?_⟩
        have : [c[i + 1 + j]].filterMap (fp ts (c.getD i 0)) = [] := by
          rw [gD hi']
          simp [List.filterMap_cons, fp, hf]
        rw [row_succ ts hj', this, List.append_nil]
        rfl
      | some t =>
        refine ⟨_, ai, _, aj, _, rfl, _, rfl, by simp, szlt (by rw [List.length_map, List.length_append]; omega), k2 _ ⟨.val false (.int (0 + (i : Int) + 1 + (j : Int))), .val false (en t), ?_⟩⟩
        have : [c[i + 1 + j]].filterMap (fp ts (c.getD i 0)) = [⟨c[i], c[i + 1 + j], t.lo, t.hi⟩] := by
          rw [gD hi']
          simp [List.filterMap_cons, fp, hf]
        rw [row_succ ts hj', this, ← List.append_assoc, List.map_append (l₂ := [_])]
        rfl
    · obtain ⟨s4, s5, rfl⟩ := h
      refine k _ ⟨.val false (.int (0 + (i : Int))), s4, s5, ?_⟩
      rw [tpN_succ, row_full]
  · obtain ⟨s3, s4, s5, rfl⟩ := h
    have en1 : ((((c.map PyData.int).length : Nat) : Int)).toNat = c.length := by simp
    rw [en1]
    exact q
/-! the pairs as the law finds them -/
def tpr (ts : List Ts) : List Int → List Pr
  | [] => []
  | x :: r => r.filterMap (fp ts x) ++ tpr ts r
theorem tp_tpr (ts : List Ts) : ∀ c : List Int, tp c ts = tpr ts c
  | [] => rfl
  | x :: r => by
    have ih := tp_tpr ts r
    unfold tp tpN at ih ⊢
    rw [List.length_cons, List.range_succ_eq_map, List.flatMap_cons, List.flatMap_map]
    unfold tpr
    have e1 : row (x :: r) ts 0 (r.length + 1) = r.filterMap (fp ts x) := by
      show ((r.drop 0).take (r.length + 1)).filterMap (fp ts x) = _
      rw [List.drop_zero, List.take_of_length_le (Nat.le_succ _)]
    rw [e1, ← ih]
    congr 1
    have : (fun k => row (x :: r) ts (k + 1) (r.length + 1)) = fun k => row r ts k r.length := by
      funext k
      show ((r.drop (k + 1)).take (r.length + 1)).filterMap (fp ts (r.getD k 0)) = ((r.drop (k + 1)).take r.length).filterMap (fp ts (r.getD k 0))
      rw [List.take_of_length_le (by rw [List.length_drop]; omega), List.take_of_length_le (by rw [List.length_drop]; omega)]
    exact congrArg (fun f => (List.range r.length).flatMap f) this
def Asc (c : List Int) : Prop := c.Pairwise (· < ·)
def Dis (ts : List Ts) : Prop := (ts.map (·.w)).Nodup
def lpo (x y : Int) (t : Ts) : Option Pr := if x < y ∧ y - x = t.w then some ⟨x, y, t.lo, t.hi⟩ else none
theorem lpo_up {x y : Int} (h : x < y) : ∀ ts : List Ts, Dis ts → ts.filterMap (lpo x y) = (fp ts x y).toList
  | [], _ => rfl
  | t :: ts, hd => by
    have hd' : t.w ∉ ts.map (·.w) ∧ Dis ts := by
      have := List.nodup_cons.mp hd
      exact this
    have ih := lpo_up h ts hd'.2
    by_cases e : y - x = t.w
    · have e1 : lpo x y t = some ⟨x, y, t.lo, t.hi⟩ := by
        unfold lpo
        exact if_pos ⟨h, e⟩
      have e2 : fr (t :: ts) (y - x) = some t := by
        unfold fr
        exact List.find?_cons_of_pos (decide_eq_true e.symm)
      have e3 : fr ts (y - x) = none := by
        unfold fr
        refine List.find?_eq_none.mpr fun u hu hw => hd'.1 ?_
        rw [← e, ← of_decide_eq_true hw]
        exact List.mem_map.mpr ⟨u, hu, rfl⟩
      have e4 : ts.filterMap (lpo x y) = [] := by
        rw [ih]
        unfold fp
        rw [e3]
        rfl
      rw [List.filterMap_cons_some e1, e4]
      unfold fp
      rw [e2]
      rfl
    · have e1 : lpo x y t = none := by
        unfold lpo
        exact if_neg (fun z => e z.2)
      have e2 : fr (t :: ts) (y - x) = fr ts (y - x) := by
        unfold fr
        exact List.find?_cons_of_neg (by rw [decide_eq_false (fun z => e z.symm)]; decide)
      rw [List.filterMap_cons_none e1, ih]
      unfold fp
      rw [e2]
theorem lpo_no {x y : Int} (h : ¬ x < y) (ts : List Ts) : ts.filterMap (lpo x y) = [] := by
  rw [List.filterMap_eq_nil_iff]
  intro t _
  unfold lpo
  exact if_neg (fun z => h z.1)
theorem lpo_row {x : Int} (ts : List Ts) (hd : Dis ts) : ∀ r : List Int, (∀ y ∈ r, x < y) → (r.flatMap fun y => ts.filterMap (lpo x y)) = r.filterMap (fp ts x)
  | [], _ => rfl
  | y :: r, h => by
    rw [List.flatMap_cons, lpo_row ts hd r (fun z hz => h z (List.mem_cons_of_mem _ hz)), lpo_up (h y List.mem_cons_self) ts hd, List.filterMap_cons]
    cases fp ts x y <;> rfl
def lp (c : List Int) (ts : List Ts) : List Pr := c.flatMap fun x => c.flatMap fun y => ts.filterMap (lpo x y)
theorem lp_from (ts : List Ts) (hd : Dis ts) : ∀ (s q : List Int), Asc (q ++ s) → (s.flatMap fun x => (q ++ s).flatMap fun y => ts.filterMap (lpo x y)) = tpr ts s
  | [], _, _ => rfl
  | x :: r, q, h => by
    have ih := lp_from ts hd r (q ++ [x]) (by rw [List.append_assoc]; exact h)
    rw [List.append_assoc] at ih
    have hp := List.pairwise_append.mp h
    rw [List.flatMap_cons]
    have e1 : ((q ++ x :: r).flatMap fun y => ts.filterMap (lpo x y)) = r.filterMap (fp ts x) := by
      rw [List.flatMap_append, List.flatMap_cons, lpo_no (Int.lt_irrefl x), List.nil_append, lpo_row ts hd r (fun y hy => (List.pairwise_cons.mp hp.2.1).1 y hy)]
      have : (q.flatMap fun y => ts.filterMap (lpo x y)) = [] := by
        rw [List.flatMap_eq_nil_iff]
        intro y hy
        have := hp.2.2 y hy x List.mem_cons_self
        exact lpo_no (by omega) ts
      rw [this, List.nil_append]
    rw [e1]
    unfold tpr
    congr 1
theorem lp_tp {c : List Int} {ts : List Ts} (h : Asc c) (hd : Dis ts) : lp c ts = tp c ts := by
  rw [tp_tpr]
  exact lp_from ts hd c [] h
end RD

set_option Elab.async false
set_option linter.all false
set_option maxRecDepth 100000
/-! MP3: what the program and the law say of a piece. -/
namespace RD
open PySem DL
open En (en)
theorem flatMap_len {α β : Type} (f : α → List β) (n : Nat) : ∀ xs : List α, (∀ x ∈ xs, (f x).length ≤ n) → (xs.flatMap f).length ≤ xs.length * n
  | [], _ => by simp
  | x :: xs, h => by
    rw [List.flatMap_cons, List.length_append, List.length_cons, Nat.succ_mul]
    have h1 := h x List.mem_cons_self
    have h2 := flatMap_len f n xs fun y hy => h y (List.mem_cons_of_mem _ hy)
    omega
theorem take_flat {α β : Type} (f : α → List β) {xs : List α} {i : Nat} (h : i < xs.length) : (xs.take (i + 1)).flatMap f = (xs.take i).flatMap f ++ f xs[i] := by
  rw [List.take_succ_eq_append_getElem h, List.flatMap_append, List.flatMap_cons, List.flatMap_nil, List.append_nil]
theorem take_fmap {α β : Type} (f : α → Option β) {xs : List α} {i : Nat} (h : i < xs.length) : (xs.take (i + 1)).filterMap f = (xs.take i).filterMap f ++ (f xs[i]).toList := by
  rw [List.take_succ_eq_append_getElem h, List.filterMap_append]
  cases e : f xs[i] <;> simp [List.filterMap_cons, e]
def S__law_pairs : DSp := fun ds Q => ∃ (c : List Int) (ts : List Ts), ds = [eI c, .list (ts.map en)] ∧ c.length ≤ 100 ∧ ts.length ≤ 100 ∧ Asc c ∧ Dis ts ∧ Q .new (en (tp c ts))
theorem ms__law_pairs : MonoS S__law_pairs := fun ds Q Q' h ⟨c, ts, e, h1, h2, h3, h4, q⟩ => ⟨c, ts, e, h1, h2, h3, h4, h _ _ q⟩
theorem kp__law_pairs : Keeps 8 rd__law_pairs S__law_pairs := by
  rintro ds Q ⟨c, ts, rfl, hc, ht, ha, hd, q⟩
  rw [← lp_tp ha hd] at q
  have L1 : ∀ x y, (ts.filterMap (lpo x y)).length ≤ 100 := fun x y => Nat.le_trans (List.length_filterMap_le _ _) ht
  have L2 : ∀ x, (c.flatMap fun y => ts.filterMap (lpo x y)).length ≤ 10000 := fun x => Nat.le_trans (flatMap_len _ 100 c fun y _ => L1 x y) (by omega)
  refine ⟨by simp, for_inv PyData.int c (fun i σ => ∃ s3 s4 s5 s6 s7, σ = [.val false (eI c), .val false (.list (ts.map en)), .own false (((c.take i).flatMap fun x => c.flatMap fun y => ts.filterMap (lpo x y)).map (en (α := Pr))), s3, s4, s5, s6, s7]) ⟨.non, .non, .non, .non, .non, rfl⟩ (fun i hi σ K h k => ?_) (fun σ h => ?_)⟩
  · obtain ⟨s3, s4, s5, s6, s7, rfl⟩ := h
    have hA := flatMap_len (fun x => c.flatMap fun y => ts.filterMap (lpo x y)) 10000 (c.take i) (fun x _ => L2 x)
    rw [List.length_take] at hA
    generalize hacc : ((c.take i).flatMap fun x => c.flatMap fun y => ts.filterMap (lpo x y)) = acc at *
    refine for_inv PyData.int c (fun j σ => ∃ s4 s5 s6 s7, σ = [.val false (eI c), .val false (.list (ts.map en)), .own false ((acc ++ (c.take j).flatMap fun y => ts.filterMap (lpo c[i] y)).map (en (α := Pr))), .val false (.int c[i]), s4, s5, s6, s7]) ⟨s4, s5, s6, s7, by rw [List.take_zero, List.flatMap_nil, List.append_nil]; rfl⟩ (fun j hj σ K2 h k2 => ?_) (fun σ h => ?_)
    · obtain ⟨s4, s5, s6, s7, rfl⟩ := h
      have hB := flatMap_len (fun y => ts.filterMap (lpo c[i] y)) 100 (c.take j) (fun y _ => L1 c[i] y)
      rw [List.length_take] at hB
      generalize hacb : ((c.take j).flatMap fun y => ts.filterMap (lpo c[i] y)) = acb at *
      refine for_inv en ts (fun m σ => ∃ s5 s6 s7, σ = [.val false (eI c), .val false (.list (ts.map en)), .own false ((acc ++ acb ++ (ts.take m).filterMap (lpo c[i] c[j])).map (en (α := Pr))), .val false (.int c[i]), .val false (.int c[j]), s5, s6, s7]) ⟨s5, s6, s7, by rw [List.take_zero, List.filterMap_nil, List.append_nil]; rfl⟩ (fun m hm σ K3 h k3 => ?_) (fun σ h => ?_)
      · obtain ⟨s5, s6, s7, rfl⟩ := h
        have hC := List.length_filterMap_le (lpo c[i] c[j]) (ts.take m)
        rw [List.length_take] at hC
        have no : ¬ (c[i] < c[j] ∧ c[j] - c[i] = ts[m].w) → K3 [.val false (eI c), .val false (.list (ts.map en)), .own false ((acc ++ acb ++ (ts.take m).filterMap (lpo c[i] c[j])).map (en (α := Pr))), .val false (.int c[i]), .val false (.int c[j]), .val false (.int ts[m].w), .val false (en ts[m].lo), .val false (en ts[m].hi)] := fun z => by
          refine k3 _ ⟨.val false (.int ts[m].w), .val false (en ts[m].lo), .val false (en ts[m].hi), ?_⟩
          have e1 : lpo c[i] c[j] ts[m] = none := by
            unfold lpo
            exact if_neg z
          rw [take_fmap _ hm, e1]
          simp only [Option.toList, List.append_nil]
        refine ⟨rfl, br.dec (fun h1 => br.dec (fun h2 => ?_) (fun h2 => no fun z => h2 z.2)) (fun h1 => no fun z => h1 z.1)⟩
        refine ⟨by simp, szlt (by rw [List.length_map, List.length_append, List.length_append]; omega), k3 _ ⟨.val false (.int ts[m].w), .val false (en ts[m].lo), .val false (en ts[m].hi), ?_⟩⟩
        have e1 : lpo c[i] c[j] ts[m] = some ⟨c[i], c[j], ts[m].lo, ts[m].hi⟩ := by
          unfold lpo
          exact if_pos ⟨h1, h2⟩
        rw [take_fmap _ hm, e1, ← List.append_assoc, List.map_append (l₂ := Option.toList _)]
        rfl
      · obtain ⟨s5, s6, s7, rfl⟩ := h
        refine k2 _ ⟨.val false (.int c[j]), s5, s6, s7, ?_⟩
        rw [take_flat _ hj, hacb, List.take_length, List.append_assoc]
    · obtain ⟨s4, s5, s6, s7, rfl⟩ := h
      refine k _ ⟨.val false (.int c[i]), s4, s5, s6, s7, ?_⟩
      rw [take_flat _ hi, hacc, List.take_length]
  · obtain ⟨s3, s4, s5, s6, s7, rfl⟩ := h
    rw [List.take_length]
    exact q
/-! breaches -/
structure Bh where
  k : Nat
  a : Int
  b : Int
  w : Int
  deriving DecidableEq
instance : En Bh where
  en := fun t => .tuple [.int (t.k : Int), .int t.a, .int t.b, .int t.w]
  dp := 1
  lay := fun t => by simp only [PyData.canLay0, PyData.canLayAll0, Bool.and_self]
  dep := fun t => by simp [PyData.depth, PyData.depthAll]
  eqv := fun a b => by
    obtain ⟨a1, a2, a3, a4⟩ := a
    obtain ⟨b1, b2, b3, b4⟩ := b
    simp [PyData.eqv, PyData.eqvAll, Int.natCast_inj]
def flN (ts : List Ts) (piece : List (List Int)) (i : Nat) : List (Nat × Pr) := (List.range i).flatMap fun k => (tp (piece.getD k []) ts).map fun p => (k, p)
theorem flN_succ (ts : List Ts) {piece : List (List Int)} {i : Nat} (h : i < piece.length) : flN ts piece (i + 1) = flN ts piece i ++ (tp piece[i] ts).map fun p => (i, p) := by
  unfold flN
  rw [List.range_succ, List.flatMap_append, List.flatMap_cons, List.flatMap_nil, List.append_nil, gD h]
def Few (piece : List (List Int)) : Prop := piece.length ≤ 100 ∧ ∀ c ∈ piece, c.length ≤ 100
theorem flN_len (ts : List Ts) {piece : List (List Int)} (h : Few piece) : ∀ i, i ≤ piece.length → (flN ts piece i).length ≤ 10000 * i
  | 0, _ => by simp [flN]
  | i + 1, hi => by
    rw [flN_succ ts (show i < piece.length by omega), List.length_append, List.length_map]
    have := flN_len ts h i (by omega)
    have := tp_len ts (h.2 piece[i] (List.getElem_mem (by omega)))
    omega
def bad (t : List Int) (p : Int) (x : Nat × Pr) : Bool := !wi (pt t p x.2.b - pt t p x.2.a) x.2.lo x.2.hi
def mkB (t : List Int) (p : Int) (x : Nat × Pr) : Bh := ⟨x.1, x.2.a, x.2.b, pt t p x.2.b - pt t p x.2.a⟩
def brs (t : List Int) (p : Int) (fl : List (Nat × Pr)) : List Bh := (fl.filter (bad t p)).map (mkB t p)
theorem brs_app (t : List Int) (p : Int) (a b : List (Nat × Pr)) : brs t p (a ++ b) = brs t p a ++ brs t p b := by
  unfold brs
  rw [List.filter_append, List.map_append]
theorem brs_len (t : List Int) (p : Int) (a : List (Nat × Pr)) : (brs t p a).length ≤ a.length := by
  unfold brs
  rw [List.length_map]
  exact List.length_filter_le _ _
theorem brs_one (t : List Int) (p : Int) (x : Nat × Pr) (h : bad t p x = true) : brs t p [x] = [mkB t p x] := by
  unfold brs
  rw [List.filter_cons_of_pos h, List.filter_nil]
  rfl
theorem brs_non (t : List Int) (p : Int) (x : Nat × Pr) (h : bad t p x = false) : brs t p [x] = [] := by
  unfold brs
  rw [List.filter_cons_of_neg (by rw [h]; decide), List.filter_nil]
  rfl
def S_breaches : DSp := fun ds Q => ∃ (t : List Int) (p : Int) (piece : List (List Int)) (ts : List Ts), ds = [.int (t.length : Int), .int p, eI t, .list (piece.map en), .list (ts.map en)] ∧ 0 < t.length ∧ t.length ≤ 1000 ∧ Pb p ∧ Few piece ∧ Q .new (en (brs t p (flN ts piece piece.length)))
theorem ms_breaches : MonoS S_breaches := fun ds Q Q' h ⟨t, p, piece, ts, e, h1, h2, h3, h4, q⟩ => ⟨t, p, piece, ts, e, h1, h2, h3, h4, h _ _ q⟩
theorem kp_breaches : Keeps 12 (rd_breaches S_tasted_pairs S_distance S_within) S_breaches := by
  rintro ds Q ⟨t, p, piece, ts, rfl, h1, h2, hp, hf, q⟩
  have hf1 := hf.1
  refine ⟨by simp, sm (by simp) (by simp; omega), for_upTo (fun i σ => ∃ s6 s7 s8 s9 s10 s11, σ = [.val false (.int (t.length : Int)), .val false (.int p), .val false (eI t), .val false (.list (piece.map en)), .val false (.list (ts.map en)), .own false ((brs t p (flN ts piece i)).map en), s6, s7, s8, s9, s10, s11]) ⟨.non, .non, .non, .non, .non, .non, rfl⟩ (fun i σ K hi h k => ?_) (fun σ h => ?_)⟩
  · obtain ⟨s6, s7, s8, s9, s10, s11, rfl⟩ := h
    have hi' : i < piece.length := by simpa using hi
    have e0 : (0 : Int) + (i : Int) = (i : Int) := by omega
    have hc := hf.2 piece[i] (List.getElem_mem hi')
    have hN := flN_len ts hf i (by omega)
    have hT := tp_len ts hc
    rw [e0]
    refine ⟨_, at_map hi', piece[i], ts, rfl, hc, ?_⟩
    refine for_inv en (tp piece[i] ts) (fun j σ => ∃ s7 s8 s9 s10 s11, σ = [.val false (.int (t.length : Int)), .val false (.int p), .val false (eI t), .val false (.list (piece.map en)), .val false (.list (ts.map en)), .own false ((brs t p (flN ts piece i ++ ((tp piece[i] ts).take j).map fun p => (i, p))).map en), .val false (.int (i : Int)), s7, s8, s9, s10, s11]) ⟨s7, s8, s9, s10, s11, by rw [List.take_zero, List.map_nil, List.append_nil]; rfl⟩ (fun j hj σ K2 h k2 => ?_) (fun σ h => ?_)
    · obtain ⟨s7, s8, s9, s10, s11, rfl⟩ := h
      refine ⟨rfl, ?_⟩
      generalize hx : (tp piece[i] ts)[j] = x at *
      refine ⟨t, p, x.a, x.b, rfl, h1, h2, hp, ?_⟩
      refine ⟨_, x.lo, x.hi, rfl, ?_⟩
      have es : brs t p (flN ts piece i ++ ((tp piece[i] ts).take (j + 1)).map fun p => (i, p)) = brs t p (flN ts piece i ++ ((tp piece[i] ts).take j).map fun p => (i, p)) ++ brs t p [(i, x)] := by
        rw [List.take_succ_eq_append_getElem hj, hx, List.map_append, ← List.append_assoc, brs_app]
        rfl
      cases hb : wi (pt t p x.b - pt t p x.a) x.lo x.hi with
      | true =>
        refine k2 _ ⟨.val false (.int x.a), .val false (.int x.b), .val false (en x.lo), .val false (en x.hi), .val false (.int (pt t p x.b - pt t p x.a)), ?_⟩
        rw [es, brs_non t p (i, x) (by unfold bad; rw [hb]; rfl), List.append_nil]
        rfl
      | false =>
        refine ⟨by simp, szlt ?_, k2 _ ⟨.val false (.int x.a), .val false (.int x.b), .val false (en x.lo), .val false (en x.hi), .val false (.int (pt t p x.b - pt t p x.a)), ?_⟩⟩
        · rw [List.length_map]
          refine Nat.lt_of_le_of_lt (brs_len t p _) ?_
          rw [List.length_append, List.length_map, List.length_take]
          omega
        · rw [es, brs_one t p (i, x) (by unfold bad; rw [hb]; rfl), List.map_append]
          rfl
    · obtain ⟨s7, s8, s9, s10, s11, rfl⟩ := h
      refine k _ ⟨.val false (.int (i : Int)), s7, s8, s9, s10, s11, ?_⟩
      rw [List.take_length, flN_succ ts hi']
  · obtain ⟨s6, s7, s8, s9, s10, s11, rfl⟩ := h
    have en1 : ((((piece.map (en (α := List Int))).length : Nat) : Int)).toNat = piece.length := by simp
    rw [en1]
    exact q
end RD

set_option Elab.async false
set_option linter.all false
set_option maxRecDepth 100000
/-! MP4: the law's breaches; demands of a piece. -/
namespace RD
open PySem DL
open En (en)
def FewT (ts : List Ts) : Prop := ts.length ≤ 100 ∧ Dis ts
def AllAsc (piece : List (List Int)) : Prop := ∀ c ∈ piece, Asc c
theorem out_test {lo hi : Option Int} {x : Int} {s0 s1 s2 s3 s4 s5 s6 s7 : Sl} {A N : Prop} (hp : wi x lo hi = false → A) (hn : wi x lo hi = true → N) :
    (dOr (dAnd (dCmp rIsNot (dVar 8) (dC .none)) (dCmp rLt (dVar 10) (dVar 8))) (dAnd (dCmp rIsNot (dVar 9) (dC .none)) (dCmp rGt (dVar 10) (dVar 9)))) [s0, s1, s2, s3, s4, s5, s6, s7, .val false (en lo), .val false (en hi), .val false (.int x)] fun b => br b A N := by
  have up : (wi x none hi = false → A) → (wi x none hi = true → N) → (dAnd (dCmp rIsNot (dVar 9) (dC .none)) (dCmp rGt (dVar 10) (dVar 9))) [s0, s1, s2, s3, s4, s5, s6, s7, .val false (en lo), .val false (en hi), .val false (.int x)] fun b => br b A N := fun hp hn => by
    cases hi with
    | none => exact hn rfl
    | some h =>
      refine br.dec (fun z => hp ?_) (fun z => hn ?_)
      · show (true && decide (x ≤ h)) = false
        rw [decide_eq_false (by omega)]
        rfl
      · show (true && decide (x ≤ h)) = true
        rw [decide_eq_true (by omega)]
        rfl
  cases lo with
  | none => exact up hp hn
  | some l =>
    refine br.dec (fun h => ?_) (fun h => ?_)
    · refine hp ?_
      unfold wi
      simp only [decide_eq_false (show ¬ l ≤ x by omega), Bool.false_and]
    · have e : wi x (some l) hi = wi x none hi := by
        unfold wi
        simp only [decide_eq_true (show l ≤ x by omega)]
      rw [e] at hp hn
      exact up hp hn
def S__law_breaches : DSp := fun ds Q => ∃ (t : List Int) (p : Int) (piece : List (List Int)) (ts : List Ts), ds = [.int p, eI t, .list (piece.map en), .list (ts.map en)] ∧ 0 < t.length ∧ t.length ≤ 1000 ∧ Pb p ∧ Few piece ∧ FewT ts ∧ AllAsc piece ∧ Q .new (en (brs t p (flN ts piece piece.length)))
theorem ms__law_breaches : MonoS S__law_breaches := fun ds Q Q' h ⟨t, p, piece, ts, e, h1, h2, h3, h4, h5, h6, q⟩ => ⟨t, p, piece, ts, e, h1, h2, h3, h4, h5, h6, h _ _ q⟩
theorem kp__law_breaches : Keeps 11 (rd__law_breaches S__law_pairs S__law_note_pitch) S__law_breaches := by
  rintro ds Q ⟨t, p, piece, ts, rfl, h1, h2, hp, hf, ht, ha, q⟩
  have hf1 := hf.1
  refine ⟨by simp, sm (by simp) (by simp; omega), for_upTo (fun i σ => ∃ s5 s6 s7 s8 s9 s10, σ = [.val false (.int p), .val false (eI t), .val false (.list (piece.map en)), .val false (.list (ts.map en)), .own false ((brs t p (flN ts piece i)).map en), s5, s6, s7, s8, s9, s10]) ⟨.non, .non, .non, .non, .non, .non, rfl⟩ (fun i σ K hi h k => ?_) (fun σ h => ?_)⟩
  · obtain ⟨s5, s6, s7, s8, s9, s10, rfl⟩ := h
    have hi' : i < piece.length := by simpa using hi
    have e0 : (0 : Int) + (i : Int) = (i : Int) := by omega
    have hc := hf.2 piece[i] (List.getElem_mem hi')
    have hN := flN_len ts hf i (by omega)
    have hT := tp_len ts hc
    rw [e0]
    refine ⟨_, at_map hi', piece[i], ts, rfl, hc, ht.1, ha _ (List.getElem_mem hi'), ht.2, ?_⟩
    refine for_inv en (tp piece[i] ts) (fun j σ => ∃ s6 s7 s8 s9 s10, σ = [.val false (.int p), .val false (eI t), .val false (.list (piece.map en)), .val false (.list (ts.map en)), .own false ((brs t p (flN ts piece i ++ ((tp piece[i] ts).take j).map fun p => (i, p))).map en), .val false (.int (i : Int)), s6, s7, s8, s9, s10]) ⟨s6, s7, s8, s9, s10, by rw [List.take_zero, List.map_nil, List.append_nil]; rfl⟩ (fun j hj σ K2 h k2 => ?_) (fun σ h => ?_)
    · obtain ⟨s6, s7, s8, s9, s10, rfl⟩ := h
      refine ⟨rfl, ?_⟩
      generalize hx : (tp piece[i] ts)[j] = x
      refine ⟨t, p, x.b, rfl, h1, h2, hp, ?_⟩
      refine ⟨t, p, x.a, rfl, h1, h2, hp, ?_⟩
      have es : brs t p (flN ts piece i ++ ((tp piece[i] ts).take (j + 1)).map fun p => (i, p)) = brs t p (flN ts piece i ++ ((tp piece[i] ts).take j).map fun p => (i, p)) ++ brs t p [(i, x)] := by
        rw [List.take_succ_eq_append_getElem hj, hx, List.map_append, ← List.append_assoc, brs_app]
        rfl
      refine out_test (lo := x.lo) (hi := x.hi) (x := pt t p x.b - pt t p x.a) (fun hb => ?_) (fun hb => ?_)
      · refine ⟨by simp, szlt ?_, k2 _ ⟨.val false (.int x.a), .val false (.int x.b), .val false (en x.lo), .val false (en x.hi), .val false (.int (pt t p x.b - pt t p x.a)), ?_⟩⟩
        · rw [List.length_map]
          refine Nat.lt_of_le_of_lt (brs_len t p _) ?_
          rw [List.length_append, List.length_map, List.length_take]
          omega
        · rw [es, brs_one t p (i, x) (by unfold bad; rw [hb]; rfl), List.map_append]
          rfl
      · refine k2 _ ⟨.val false (.int x.a), .val false (.int x.b), .val false (en x.lo), .val false (en x.hi), .val false (.int (pt t p x.b - pt t p x.a)), ?_⟩
        rw [es, brs_non t p (i, x) (by unfold bad; rw [hb]; rfl), List.append_nil]
        rfl
    · obtain ⟨s6, s7, s8, s9, s10, rfl⟩ := h
      refine k _ ⟨.val false (.int (i : Int)), s6, s7, s8, s9, s10, ?_⟩
      rw [List.take_length, flN_succ ts hi']
  · obtain ⟨s5, s6, s7, s8, s9, s10, rfl⟩ := h
    have en1 : ((((piece.map (en (α := List Int))).length : Nat) : Int)).toNat = piece.length := by simp
    rw [en1]
    exact q
/-! all pairs -/
structure P3 where
  k : Nat
  a : Int
  b : Int
  deriving DecidableEq
instance : En P3 where
  en := fun t => .tuple [.int (t.k : Int), .int t.a, .int t.b]
  dp := 1
  lay := fun t => by simp only [PyData.canLay0, PyData.canLayAll0, Bool.and_self]
  dep := fun t => by simp [PyData.depth, PyData.depthAll]
  eqv := fun a b => by
    obtain ⟨a1, a2, a3⟩ := a
    obtain ⟨b1, b2, b3⟩ := b
    simp [PyData.eqv, PyData.eqvAll, Int.natCast_inj]
def m3 (x : Nat × Pr) : P3 := ⟨x.1, x.2.a, x.2.b⟩
def S__law_all_pairs : DSp := fun ds Q => ∃ (piece : List (List Int)) (ts : List Ts), ds = [.list (piece.map en), .list (ts.map en)] ∧ Few piece ∧ FewT ts ∧ AllAsc piece ∧ Q .new (en ((flN ts piece piece.length).map m3))
theorem ms__law_all_pairs : MonoS S__law_all_pairs := fun ds Q Q' h ⟨piece, ts, e, h4, h5, h6, q⟩ => ⟨piece, ts, e, h4, h5, h6, h _ _ q⟩
theorem kp__law_all_pairs : Keeps 8 (rd__law_all_pairs S__law_pairs) S__law_all_pairs := by
  rintro ds Q ⟨piece, ts, rfl, hf, ht, ha, q⟩
  have hf1 := hf.1
  refine ⟨by simp, sm (by simp) (by simp; omega), for_upTo (fun i σ => ∃ s3 s4 s5 s6 s7, σ = [.val false (.list (piece.map en)), .val false (.list (ts.map en)), .own false (((flN ts piece i).map m3).map en), s3, s4, s5, s6, s7]) ⟨.non, .non, .non, .non, .non, rfl⟩ (fun i σ K hi h k => ?_) (fun σ h => ?_)⟩
  · obtain ⟨s3, s4, s5, s6, s7, rfl⟩ := h
    have hi' : i < piece.length := by simpa using hi
    have e0 : (0 : Int) + (i : Int) = (i : Int) := by omega
    have hc := hf.2 piece[i] (List.getElem_mem hi')
    have hN := flN_len ts hf i (by omega)
    have hT := tp_len ts hc
    rw [e0]
    refine ⟨_, at_map hi', piece[i], ts, rfl, hc, ht.1, ha _ (List.getElem_mem hi'), ht.2, ?_⟩
    refine for_inv en (tp piece[i] ts) (fun j σ => ∃ s4 s5 s6 s7, σ = [.val false (.list (piece.map en)), .val false (.list (ts.map en)), .own false (((flN ts piece i ++ ((tp piece[i] ts).take j).map fun p => (i, p)).map m3).map en), .val false (.int (i : Int)), s4, s5, s6, s7]) ⟨s4, s5, s6, s7, by rw [List.take_zero, List.map_nil, List.append_nil]; rfl⟩ (fun j hj σ K2 h k2 => ?_) (fun σ h => ?_)
    · obtain ⟨s4, s5, s6, s7, rfl⟩ := h
      refine ⟨rfl, by simp, szlt ?_, k2 _ ⟨.val false (.int (tp piece[i] ts)[j].a), .val false (.int (tp piece[i] ts)[j].b), .val false (en (tp piece[i] ts)[j].lo), .val false (en (tp piece[i] ts)[j].hi), ?_⟩⟩
      · rw [List.length_map, List.length_map, List.length_append, List.length_map, List.length_take]
        omega
      · rw [List.take_succ_eq_append_getElem hj, List.map_append (l₂ := [_]), ← List.append_assoc, List.map_append (l₂ := List.map _ [_]), List.map_append (l₂ := List.map _ (List.map _ [_]))]
        rfl
    · obtain ⟨s4, s5, s6, s7, rfl⟩ := h
      refine k _ ⟨.val false (.int (i : Int)), s4, s5, s6, s7, ?_⟩
      rw [List.take_length, flN_succ ts hi']
  · obtain ⟨s3, s4, s5, s6, s7, rfl⟩ := h
    have en1 : ((((piece.map (en (α := List Int))).length : Nat) : Int)).toNat = piece.length := by simp
    rw [en1]
    exact q
/-! the piece as demands -/
def ePl (n : Nat) (p : Pr) : PyData := .tuple [.tuple [.int (p.a % n), .int (p.a / n)], .tuple [.int (p.b % n), .int (p.b / n)], en p.lo, en p.hi]
def S_piece_placed : DSp := fun ds Q => ∃ (n : Nat) (piece : List (List Int)) (ts : List Ts), ds = [.int (n : Int), .list (piece.map en), .list (ts.map en)] ∧ 0 < n ∧ n ≤ 1000 ∧ Few piece ∧ Q .new (.list ((flN ts piece piece.length).map fun x => ePl n x.2))
theorem ms_piece_placed : MonoS S_piece_placed := fun ds Q Q' h ⟨n, piece, ts, e, h4, h5, h6, q⟩ => ⟨n, piece, ts, e, h4, h5, h6, h _ _ q⟩
theorem kp_piece_placed : Keeps 9 (rd_piece_placed S_tasted_pairs S_place) S_piece_placed := by
  rintro ds Q ⟨n, piece, ts, rfl, h1, h2, hf, q⟩
  have hf1 := hf.1
  refine ⟨by simp, for_inv en piece (fun i σ => ∃ s4 s5 s6 s7 s8, σ = [.val false (.int (n : Int)), .val false (.list (piece.map en)), .val false (.list (ts.map en)), .own false ((flN ts piece i).map fun x => ePl n x.2), s4, s5, s6, s7, s8]) ⟨.non, .non, .non, .non, .non, rfl⟩ (fun i hi' σ K h k => ?_) (fun σ h => ?_)⟩
  · obtain ⟨s4, s5, s6, s7, s8, rfl⟩ := h
    have hc := hf.2 piece[i] (List.getElem_mem hi')
    have hN := flN_len ts hf i (by omega)
    have hT := tp_len ts hc
    refine ⟨piece[i], ts, rfl, hc, ?_⟩
    refine for_inv en (tp piece[i] ts) (fun j σ => ∃ s5 s6 s7 s8, σ = [.val false (.int (n : Int)), .val false (.list (piece.map en)), .val false (.list (ts.map en)), .own false ((flN ts piece i ++ ((tp piece[i] ts).take j).map fun p => (i, p)).map fun x => ePl n x.2), .val false (en piece[i]), s5, s6, s7, s8]) ⟨s5, s6, s7, s8, by rw [List.take_zero, List.map_nil, List.append_nil]; rfl⟩ (fun j hj σ K2 h k2 => ?_) (fun σ h => ?_)
    · obtain ⟨s5, s6, s7, s8, rfl⟩ := h
      refine ⟨rfl, ?_⟩
      refine ⟨(tp piece[i] ts)[j].a, n, rfl, h1, h2, ?_⟩
      refine ⟨(tp piece[i] ts)[j].b, n, rfl, h1, h2, ?_⟩
      refine ⟨by simp, szlt ?_, k2 _ ⟨.val false (.int (tp piece[i] ts)[j].a), .val false (.int (tp piece[i] ts)[j].b), .val false (en (tp piece[i] ts)[j].lo), .val false (en (tp piece[i] ts)[j].hi), ?_⟩⟩
      · rw [List.length_map, List.length_append, List.length_map, List.length_take]
        omega
      · rw [List.take_succ_eq_append_getElem hj, List.map_append (l₂ := [_]), ← List.append_assoc, List.map_append (l₂ := List.map _ [_])]
        rfl
    · obtain ⟨s5, s6, s7, s8, rfl⟩ := h
      refine k _ ⟨.val false (en piece[i]), s5, s6, s7, s8, ?_⟩
      rw [List.take_length, flN_succ ts hi']
  · obtain ⟨s4, s5, s6, s7, s8, rfl⟩ := h
    exact q
def eMo (n : Nat) (p : Pr) : PyData := .tuple [.int (p.a % n), .int (p.b % n), en p.lo, .int (-(p.b / n - p.a / n)), en p.hi, .int (-(p.b / n - p.a / n))]
def S_moving_octave : DSp := fun ds Q => ∃ (n : Nat) (p : Pr), ds = [ePl n p] ∧ Q .av (eMo n p)
theorem ms_moving_octave : MonoS S_moving_octave := fun ds Q Q' h ⟨n, p, e, q⟩ => ⟨n, p, e, h _ _ q⟩
theorem kp_moving_octave : Keeps 6 rd_moving_octave S_moving_octave := by
  rintro ds Q ⟨n, p, rfl, q⟩
  exact ⟨rfl, _, rfl, _, rfl, _, rfl, _, rfl, by simp, q⟩
def S_moving_octaves : DSp := fun ds Q => ∃ (n : Nat) (ps : List (Nat × Pr)), ds = [.list (ps.map fun x => ePl n x.2)] ∧ ps.length ≤ 10000000 ∧ Q .new (.list (ps.map fun x => eMo n x.2))
theorem ms_moving_octaves : MonoS S_moving_octaves := fun ds Q Q' h ⟨n, p, e, h1, q⟩ => ⟨n, p, e, h1, h _ _ q⟩
theorem kp_moving_octaves : Keeps 2 (rd_moving_octaves S_moving_octave) S_moving_octaves := by
  rintro ds Q ⟨n, ps, rfl, h1, q⟩
  exact lc_map (fun x : Nat × Pr => ePl n x.2) ps (fun x => eMo n x.2) h1 (fun x hx P N p => ⟨n, x.2, rfl, p⟩) q
def S_bound_at : DSp := fun ds Q => ∃ (o : Option Int) (r x : Int), ds = [en o, .int r, .int x] ∧ Pb x ∧ Q .av (en (o.map fun b => b + x * r))
theorem ms_bound_at : MonoS S_bound_at := fun ds Q Q' h ⟨o, r, x, e, h1, q⟩ => ⟨o, r, x, e, h1, h _ _ q⟩
theorem kp_bound_at : Keeps 3 rd_bound_at S_bound_at := by
  rintro ds Q ⟨o, r, x, rfl, h1, q⟩
  cases o with
  | none => exact q
  | some b => exact ⟨mul_l h1, q⟩
def dmOf (n : Nat) (x : Int) (p : Pr) : Dm := ⟨(p.a % n).toNat, (p.b % n).toNat, p.lo.map fun b => b + x * -(p.b / n - p.a / n), p.hi.map fun b => b + x * -(p.b / n - p.a / n)⟩
def S_demand_at : DSp := fun ds Q => ∃ (n : Nat) (p : Pr) (x : Int), ds = [eMo n p, .int x] ∧ 0 < n ∧ Pb x ∧ Q .av (en (dmOf n x p))
theorem ms_demand_at : MonoS S_demand_at := fun ds Q Q' h ⟨n, p, x, e, h1, h2, q⟩ => ⟨n, p, x, e, h1, h2, h _ _ q⟩
theorem kp_demand_at : Keeps 8 (rd_demand_at S_bound_at) S_demand_at := by
  rintro ds Q ⟨n, p, x, rfl, h1, h2, q⟩
  refine ⟨rfl, ?_⟩
  refine ⟨p.lo, -(p.b / n - p.a / n), x, rfl, h2, ?_⟩
  refine ⟨p.hi, -(p.b / n - p.a / n), x, rfl, h2, ?_⟩
  have ea : (((p.a % n).toNat : Nat) : Int) = p.a % n := by
    have := Int.emod_nonneg p.a (b := (n : Int)) (by omega)
    omega
  have eb : (((p.b % n).toNat : Nat) : Int) = p.b % n := by
    have := Int.emod_nonneg p.b (b := (n : Int)) (by omega)
    omega
  have q : Q .av (.tuple [.int (((p.a % n).toNat : Nat) : Int), .int (((p.b % n).toNat : Nat) : Int), en (p.lo.map fun b => b + x * -(p.b / n - p.a / n)), en (p.hi.map fun b => b + x * -(p.b / n - p.a / n))]) := q
  rw [ea, eb] at q
  exact ⟨by simp, q⟩
def S_demands_at : DSp := fun ds Q => ∃ (n : Nat) (ps : List (Nat × Pr)) (x : Int), ds = [.list (ps.map fun x => eMo n x.2), .int x] ∧ 0 < n ∧ Pb x ∧ ps.length ≤ 10000000 ∧ Q .new (.list (ps.map fun y => en (dmOf n x y.2)))
theorem ms_demands_at : MonoS S_demands_at := fun ds Q Q' h ⟨n, p, x, e, h1, h2, h3, q⟩ => ⟨n, p, x, e, h1, h2, h3, h _ _ q⟩
theorem kp_demands_at : Keeps 3 (rd_demands_at S_demand_at) S_demands_at := by
  rintro ds Q ⟨n, ps, x, rfl, h1, h2, h3, q⟩
  exact lc_map (fun x : Nat × Pr => eMo n x.2) ps (fun y => en (dmOf n x y.2)) h3 (fun y hx P N p => ⟨n, y.2, x, rfl, h1, h2, p⟩) q
def S_placed_at : DSp := fun ds Q => ∃ (n : Nat) (ps : List (Nat × Pr)) (x : Int), ds = [.list (ps.map fun x => ePl n x.2), .int x] ∧ 0 < n ∧ Pb x ∧ ps.length ≤ 10000000 ∧ Q .new (.list (ps.map fun y => en (dmOf n x y.2)))
theorem ms_placed_at : MonoS S_placed_at := fun ds Q Q' h ⟨n, p, x, e, h1, h2, h3, q⟩ => ⟨n, p, x, e, h1, h2, h3, h _ _ q⟩
theorem kp_placed_at : Keeps 2 (rd_placed_at S_demands_at S_moving_octaves) S_placed_at := by
  rintro ds Q ⟨n, ps, x, rfl, h1, h2, h3, q⟩
  refine ⟨n, ps, rfl, h3, ?_⟩
  exact ⟨n, ps, x, rfl, h1, h2, h3, q⟩
end RD

set_option Elab.async false
set_option linter.all false
set_option maxRecDepth 100000
/-! MP5: the world of pieces. -/
namespace RD
open PySem DL
open En (en)
theorem seq_join {a rest : DS} {D : Ed} {σ : Ds} (P : Ds → Prop) (h : ∀ K : Ds → Prop, (∀ σ', P σ' → K σ') → a { D with nx := K } σ) (h2 : ∀ σ', P σ' → rest D σ') : dSeq a rest D σ := h _ h2
/-! rows alike -/
def eT (xs : List Int) : PyData := .tuple (xs.map PyData.int)
def S__law_same_row : DSp := fun ds Q => ∃ xs : List Int, ds = [eT xs, eT xs] ∧ xs.length ≤ 1000 ∧ Q .av (.bool true)
theorem ms__law_same_row : MonoS S__law_same_row := fun ds Q Q' h ⟨xs, e, h1, q⟩ => ⟨xs, e, h1, h _ _ q⟩
theorem kp__law_same_row : Keeps 3 (rd__law_same_row S__law_is_number) S__law_same_row := by
  rintro ds Q ⟨xs, rfl, hl, q⟩
  refine br.nd (fun h => absurd rfl h) (fun _ => ?_)
  refine ⟨sm (by simp) (by simp; omega), for_upTo (fun i σ => ∃ s2, σ = [.val false (eT xs), .val false (eT xs), s2]) ⟨.non, rfl⟩ (fun i σ K hi h k => ?_) (fun σ h => ?_)⟩
  · obtain ⟨s2, rfl⟩ := h
    have hi' : i < xs.length := by simpa using hi
    have e0 : (0 : Int) + (i : Int) = (i : Int) := by omega
    rw [e0]
    refine ⟨_, at_map hi', ?_⟩
    refine ⟨_, at_map hi', _, rfl, ?_⟩
    exact ⟨_, at_map hi', _, at_map hi', br.nd (fun h => absurd rfl h) (fun _ => k _ ⟨_, rfl⟩)⟩
  · obtain ⟨s2, rfl⟩ := h
    exact q
def S__law_same_rows : DSp := fun ds Q => ∃ rows : List (List Int), ds = [.list (rows.map eT), .list (rows.map eT)] ∧ rows.length ≤ 10000000 ∧ (∀ x ∈ rows, x.length ≤ 1000) ∧ Q .av (.bool true)
theorem ms__law_same_rows : MonoS S__law_same_rows := fun ds Q Q' h ⟨xs, e, h1, h2, q⟩ => ⟨xs, e, h1, h2, h _ _ q⟩
theorem kp__law_same_rows : Keeps 3 (rd__law_same_rows S__law_same_row) S__law_same_rows := by
  rintro ds Q ⟨xs, rfl, hl, hr, q⟩
  refine br.nd (fun h => absurd rfl h) (fun _ => ?_)
  refine ⟨sm (by simp) (by simp; omega), for_upTo (fun i σ => ∃ s2, σ = [.val false (.list (xs.map eT)), .val false (.list (xs.map eT)), s2]) ⟨.non, rfl⟩ (fun i σ K hi h k => ?_) (fun σ h => ?_)⟩
  · obtain ⟨s2, rfl⟩ := h
    have hi' : i < xs.length := by simpa using hi
    have e0 : (0 : Int) + (i : Int) = (i : Int) := by omega
    rw [e0]
    refine ⟨_, at_map hi', _, at_map hi', ?_⟩
    exact ⟨xs[i], rfl, hr _ (List.getElem_mem hi'), k _ ⟨_, rfl⟩⟩
  · obtain ⟨s2, rfl⟩ := h
    exact q
def S__law_same_numbers : DSp := fun ds Q => ∃ xs : List Int, ds = [eI xs, eI xs] ∧ xs.length ≤ 10000000 ∧ Q .av (.bool true)
theorem ms__law_same_numbers : MonoS S__law_same_numbers := fun ds Q Q' h ⟨xs, e, h1, q⟩ => ⟨xs, e, h1, h _ _ q⟩
/-! numbers, each once, in order -/
def S__law_unlike : DSp := fun ds Q => ∃ ns : List Int, ds = [eI ns] ∧ ns.length ≤ 1000 ∧ ∀ c : List Int, Asc c → c.length ≤ ns.length → Q .new (eI c)
theorem ms__law_unlike : MonoS S__law_unlike := fun ds Q Q' h ⟨xs, e, h1, q⟩ => ⟨xs, e, h1, fun c a b => h _ _ (q c a b)⟩
theorem asc_add {c : List Int} {y : Int} (h : Asc c) (hy : ∀ x ∈ c, x < y) : Asc (c ++ [y]) := by
  refine List.pairwise_append.mpr ⟨h, List.pairwise_singleton _ _, fun a ha b hb => ?_⟩
  rw [List.mem_singleton.mp hb]
  exact hy a ha
theorem kp__law_unlike : Keeps 3 rd__law_unlike S__law_unlike := by
  rintro ds Q ⟨ns, rfl, hl, q⟩
  refine ⟨by simp, ns, rfl, fun us hp hs => ?_⟩
  have hul : us.length = ns.length := hp.length_eq
  refine for_inv PyData.int us (fun i σ => ∃ (c : List Int) (s2 : Sl), σ = [.val false (eI ns), .own false (c.map .int), s2] ∧ Asc c ∧ c.length ≤ i ∧ ∀ x ∈ c, ∀ j (h : j < us.length), i ≤ j → x ≤ us[j]) ⟨[], .non, rfl, List.Pairwise.nil, by simp, fun x h => nomatch h⟩ (fun i hi σ K h k => ?_) (fun σ h => ?_)
  · obtain ⟨c, s2, rfl, ha, hc, hx⟩ := h
    have hup : ∀ j (h : j < us.length), i ≤ j → us[i] ≤ us[j] := fun j hj hij => by
      rcases Nat.lt_or_eq_of_le hij with z | z
      · exact List.pairwise_iff_getElem.mp hs i j hi hj z
      · subst z
        exact Int.le_refl _
    have app : (∀ x ∈ c, x < us[i]) → (((c.map PyData.int).length < sizeLine) ∧ K [.val false (eI ns), .own false (c.map .int ++ [.int us[i]]), .val false (.int us[i])]) := fun hlt => by
      refine ⟨szlt (by rw [List.length_map]; omega), k _ ⟨c ++ [us[i]], .val false (.int us[i]), by rw [List.map_append]; rfl, asc_add ha hlt, by rw [List.length_append]; simp; omega, fun x h j hj hij => ?_⟩⟩
      rcases List.mem_append.mp h with h | h
      · exact hx x h j hj (by omega)
      · rw [List.mem_singleton.mp h]
        exact hup j hj (by omega)
    have stay : K [.val false (eI ns), .own false (c.map .int), .val false (.int us[i])] := k _ ⟨c, .val false (.int us[i]), rfl, ha, by omega, fun x h j hj hij => hx x h j hj (by omega)⟩
    refine br.dec (fun h0 => ?_) (fun h0 => ?_)
    · have h0 : ((((c.map PyData.int).length : Nat) : Int)) = 0 := h0
      have : c = [] := by
        rw [List.length_map] at h0
        exact List.eq_nil_of_length_eq_zero (by omega)
      subst this
      exact app fun x h => nomatch h
    · have h0 : ¬ ((((c.map PyData.int).length : Nat) : Int)) = 0 := h0
      rcases List.eq_nil_or_concat c with e | ⟨c', l, e⟩
      · subst e
        exact absurd rfl h0
      · rw [List.concat_eq_append] at e
        have al : L2.atI (c.map PyData.int) (-1) = some (.int l) := by
          rw [e, List.map_append]
          exact L2.atI_last _ _
        refine ⟨_, al, br.nd (fun h => app fun x hxc => ?_) (fun h => stay)⟩
        have hlu : l ≤ us[i] := hx l (by rw [e]; simp) i hi (Nat.le_refl _)
        rw [e] at hxc
        rcases List.mem_append.mp hxc with z | z
        · rw [e] at ha
          have := (List.pairwise_append.mp ha).2.2 x z l (by simp)
          omega
        · rw [List.mem_singleton.mp z]
          have h : ¬ l = us[i] := h
          omega
  · obtain ⟨c, s2, rfl, ha, hc, hx⟩ := h
    exact q c ha (by omega)
/-! draws -/
theorem at_d {r : List Int} {i : Int} (h0 : 0 ≤ i) (h : i < (r.length : Int)) : L2.atI (r.map PyData.int) i = some (.int (r.getD i.toNat 0)) := by
  rw [gD (show i.toNat < r.length by omega)]
  exact at_int h0 (by omega)
theorem gd_good {r : List Int} (hg : Good r) (i : Nat) : 0 ≤ r.getD i 0 ∧ r.getD i 0 < 1000003 := by
  by_cases h : i < r.length
  · rw [gD h]
    exact hg _ (List.getElem_mem h)
  · unfold List.getD
    rw [List.getElem?_eq_none (by omega)]
    decide
end RD

set_option Elab.async false
set_option linter.all false
set_option maxRecDepth 100000
/-! MP6: the world of pieces. -/
namespace RD
open PySem DL
open En (en)
theorem seq_join2 {a b rest : DS} {D : Ed} {σ : Ds} (P : Ds → Prop) (h : ∀ K : Ds → Prop, (∀ σ', P σ' → K σ') → dSeq a b { D with nx := K } σ) (h2 : ∀ σ', P σ' → rest D σ') : dSeq a (dSeq b rest) D σ := h _ h2
theorem seq_join3 {a b c rest : DS} {D : Ed} {σ : Ds} (P : Ds → Prop) (h : ∀ K : Ds → Prop, (∀ σ', P σ' → K σ') → dSeq a (dSeq b c) { D with nx := K } σ) (h2 : ∀ σ', P σ' → rest D σ') : dSeq a (dSeq b (dSeq c rest)) D σ := h _ h2
theorem seq_join4 {a b c d rest : DS} {D : Ed} {σ : Ds} (P : Ds → Prop) (h : ∀ K : Ds → Prop, (∀ σ', P σ' → K σ') → dSeq a (dSeq b (dSeq c d)) { D with nx := K } σ) (h2 : ∀ σ', P σ' → rest D σ') : dSeq a (dSeq b (dSeq c (dSeq d rest))) D σ := h _ h2
theorem seq_join5 {a b c d e rest : DS} {D : Ed} {σ : Ds} (P : Ds → Prop) (h : ∀ K : Ds → Prop, (∀ σ', P σ' → K σ') → dSeq a (dSeq b (dSeq c (dSeq d e))) { D with nx := K } σ) (h2 : ∀ σ', P σ' → rest D σ') : dSeq a (dSeq b (dSeq c (dSeq d (dSeq e rest)))) D σ := h _ h2
/-- what the law knows of its world -/
structure World0 (n : Nat) (p : Int) (t : List Int) (piece : List (List Int)) (ts : List Ts) : Prop where
  len : t.length = n
  pos : 0 < n
  top : n ≤ 60
  per : 6 ≤ p ∧ p ≤ 20001000000
  few : piece.length ≤ 4
  five : ∀ c ∈ piece, c.length ≤ 5
  asc : AllAsc piece
  tas : ts.length ≤ 4
  dis : Dis ts
def S__law_piece_world : DSp := fun ds Q => ∃ r : List Int, ds = [eI r] ∧ Good r ∧ 90 ≤ r.length ∧ ∀ (n : Nat) (p : Int) (t : List Int) (piece : List (List Int)) (ts : List Ts), World0 n p t piece ts → Q .av (.tuple [.int (n : Int), .int p, eI t, .list (piece.map en), .list (ts.map en)])
theorem ms__law_piece_world : MonoS S__law_piece_world := fun ds Q Q' h ⟨r, e, h1, h2, q⟩ => ⟨r, e, h1, h2, fun n p t c s w => h _ _ (q n p t c s w)⟩
theorem dis_add {ts : List Ts} {t : Ts} (h : Dis ts) (hn : t.w ∉ ts.map (·.w)) : Dis (ts ++ [t]) := by
  unfold Dis at h ⊢
  rw [List.map_append]
  refine List.nodup_append.mpr ⟨h, by simp, fun a ha b hb => ?_⟩
  have e : b = t.w := by simpa using hb
  rw [e]
  intro z
  rw [z] at ha
  exact hn ha
theorem em {a b : Int} (h : 0 < b) : 0 ≤ a % b ∧ a % b < b := ⟨Int.emod_nonneg _ (by omega), Int.emod_lt_of_pos _ h⟩
theorem kp__law_piece_world : Keeps 16 (rd__law_piece_world S__law_note_pitch S__law_unlike) S__law_piece_world := by
  rintro ds Q ⟨r, rfl, hg, hr, q⟩
  have G := gd_good hg
  have A : ∀ i : Int, 0 ≤ i → i < 90 → L2.atI (r.map PyData.int) i = some (.int (r.getD i.toNat 0)) := fun i h0 h1 => at_d h0 (by omega)
  have N : ∀ j : Nat, (.non : Sl) = .non := fun _ => rfl
  have e3 := em (a := r.getD (Int.toNat 2) 0 / 3) (b := 30) (by decide)
  have e0 := em (a := r.getD (Int.toNat 0) 0) (b := 7) (by decide)
  have e53 := em (a := r.getD (Int.toNat 0) 0) (b := 53) (by decide)
  have g3 := G (Int.toNat 3)
  have g37 := G (Int.toNat 37)
  -- the unit and the period
  refine seq_join4 (fun σ => ∃ (u p : Int), σ = [.val false (eI r), .val false (.int (1 + r.getD (Int.toNat 0) 0 % 7)), .val false (.int u), .val false (.int p), .non, .non, .non, .non, .non, .non, .non, .non, .non, .non, .non, .non] ∧ (1 ≤ u ∧ u ≤ 1001000003) ∧ 6 ≤ p ∧ p ≤ 20001000000) (fun K k => ?_) (fun σ h => ?_)
  · refine ⟨_, A 0 (by decide) (by decide), md (by decide), _, A 2 (by decide) (by decide), div_s (by decide), md (by decide), ?_⟩
    refine ⟨_, A 1 (by decide) (by decide), md (by decide), br.dec (fun h => ?_) (fun h => ?_)⟩
    · refine ⟨⟨by decide, by decide, by decide⟩, _, A 3 (by decide) (by decide), ⟨by decide, by decide, by decide⟩, _, A 3 (by decide) (by decide), ⟨by decide, by decide, by decide⟩, mul_l (by omega), ?_⟩
      exact k _ ⟨(10 : Int) ^ 9 + r.getD (Int.toNat 3) 0, (10 : Int) ^ 10 + r.getD (Int.toNat 3) 0 * (10 : Int) ^ 4, rfl, by omega, by omega⟩
    · exact k _ ⟨1, _, rfl, by omega, by omega⟩
  obtain ⟨u, p, rfl, hu, hp⟩ := h
  have hpb : Pb p := ⟨by omega, by omega⟩
  -- the number of strings
  refine seq_join (fun σ => ∃ n : Nat, σ = [.val false (eI r), .val false (.int (n : Int)), .val false (.int u), .val false (.int p), .non, .non, .non, .non, .non, .non, .non, .non, .non, .non, .non, .non] ∧ 0 < n ∧ n ≤ 60) (fun K k => ?_) (fun σ h => ?_)
  · refine ⟨_, A 1 (by decide) (by decide), md (by decide), br.dec (fun h => ?_) (fun h => ?_)⟩
    · refine ⟨_, A 0 (by decide) (by decide), md (by decide), k _ ⟨(8 + r.getD (Int.toNat 0) 0 % 53).toNat, ?_, by omega, by omega⟩⟩
      rw [show (((8 + r.getD (Int.toNat 0) 0 % 53).toNat : Nat) : Int) = 8 + r.getD (Int.toNat 0) 0 % 53 by omega]
      rfl
    · refine k _ ⟨(1 + r.getD (Int.toNat 0) 0 % 7).toNat, ?_, by omega, by omega⟩
      rw [show (((1 + r.getD (Int.toNat 0) 0 % 7).toNat : Nat) : Int) = 1 + r.getD (Int.toNat 0) 0 % 7 by omega]
  obtain ⟨n, rfl, hn0, hn⟩ := h
  -- the hidden tuning
  refine ⟨sm (by omega) (by omega), lc_upToR (β := Int) PyData.int (fun _ _ => True) (by omega) (fun k hk P N' pk => ?_) (fun t ht => ?_)⟩
  · have ek := em (a := 0 + (k : Int)) (b := 12) (by decide)
    have eg := em (a := r.getD (4 + (0 + (k : Int)) % 12).toNat 0) (b := 41) (by decide)
    refine ⟨md (by decide), _, A _ (by omega) (by omega), md (by decide), div_s (by decide), mul_r (by omega), pk _ trivial⟩
  obtain ⟨htl, -⟩ := ht.upTo
  have htl : t.length = n := by omega
  have ht0 : 0 < t.length := by omega
  refine ⟨by simp, _, A 16 (by decide) (by decide), md (by decide), ?_⟩
  have e16 := em (a := r.getD (Int.toNat 16) 0) (b := 5) (by decide)
  -- the tastes
  refine ⟨sm (by omega) (by omega), for_upTo (fun i σ => ∃ (ts : List Ts) (s5 s7 s8 s9 s10 s11 s12 : Sl), σ = [.val false (eI r), .val false (.int (n : Int)), .val false (.int u), .val false (.int p), .val false (eI t), s5, .own false (ts.map en), s7, s8, s9, s10, s11, s12, .non, .non, .non] ∧ ts.length ≤ i ∧ Dis ts) ⟨[], _, _, _, _, _, _, _, rfl, by simp, List.nodup_nil⟩ (fun i σ K hi h k => ?_) (fun σ h => ?_)⟩
  · obtain ⟨ts, s5, s7, s8, s9, s10, s11, s12, rfl, hl, hd⟩ := h
    refine seq_join (fun σ => ∃ (w : Int), σ = [.val false (eI r), .val false (.int (n : Int)), .val false (.int u), .val false (.int p), .val false (eI t), .val false (.int (0 + (i : Int))), .own false (ts.map en), .val false (.int w), s8, s9, s10, s11, s12, .non, .non, .non]) (fun K2 k2 => ?_) (fun σ h => ?_)
    · exact ⟨_, A _ (by omega) (by omega), md (by decide), k2 _ ⟨_, rfl⟩⟩
    obtain ⟨w, rfl⟩ := h
    refine lc_map en ts (fun t => PyData.int t.w) (by omega) (fun x hx P N' pk => ⟨_, rfl, pk⟩) ?_
    have e : ts.map (fun t => PyData.int t.w) = (ts.map (·.w)).map (en (α := Int)) := by
      rw [List.map_map]
      rfl
    rw [e]
    refine in_go (α := Int) w (ts.map (·.w)) (Q := fun c => br (!c) _ _) (br.nd (fun h => ?_) (fun h => ?_))
    · -- a new width
      refine seq_join5 (fun σ => ∃ (lo hi : Option Int) (s8 s9 s10 : Sl), σ = [.val false (eI r), .val false (.int (n : Int)), .val false (.int u), .val false (.int p), .val false (eI t), .val false (.int (0 + (i : Int))), .own false (ts.map en), .val false (.int w), s8, s9, s10, .val false (en lo), .val false (en hi), .non, .non, .non]) (fun K2 k2 => ?_) (fun σ h => ?_)
      · refine ⟨_, A _ (by omega) (by omega), md (by decide), ?_⟩
        refine ⟨t, p, _, rfl, ht0, by omega, hpb, ?_⟩
        refine ⟨t, p, _, rfl, ht0, by omega, hpb, ?_⟩
        generalize pt t p (r.getD (21 + (0 + (i : Int))).toNat 0 % 30 + w) - pt t p (r.getD (21 + (0 + (i : Int))).toNat 0 % 30) = ap
        have u6 : 0 < 6 * u := by omega
        refine ⟨_, A _ (by omega) (by omega), mul_l (by decide), md u6, ?_⟩
        refine ⟨_, A _ (by omega) (by omega), mul_l (by decide), md u6, ?_⟩
        refine ⟨_, A 2 (by decide) (by decide), md (by decide), br.dec (fun h => ?_) (fun h => ?_)⟩
        · refine ⟨_, A _ (by omega) (by omega), md (by decide), _, A _ (by omega) (by omega), md (by decide), ?_⟩
          exact k2 _ ⟨some _, some _, _, _, _, rfl⟩
        · exact k2 _ ⟨some _, some _, _, _, _, rfl⟩
      obtain ⟨lo, hi', s8, s9, s10, rfl⟩ := h
      refine seq_join (fun σ => ∃ (lo hi : Option Int), σ = [.val false (eI r), .val false (.int (n : Int)), .val false (.int u), .val false (.int p), .val false (eI t), .val false (.int (0 + (i : Int))), .own false (ts.map en), .val false (.int w), s8, s9, s10, .val false (en lo), .val false (en hi), .non, .non, .non]) (fun K2 k2 => ?_) (fun σ h => ?_)
      · refine ⟨_, A _ (by omega) (by omega), md (by decide), br.dec (fun h => ?_) (fun h => ?_)⟩
        · exact k2 _ ⟨none, hi', rfl⟩
        · exact k2 _ ⟨lo, hi', rfl⟩
      obtain ⟨lo2, hi2, rfl⟩ := h
      refine seq_join (fun σ => ∃ (lo hi : Option Int), σ = [.val false (eI r), .val false (.int (n : Int)), .val false (.int u), .val false (.int p), .val false (eI t), .val false (.int (0 + (i : Int))), .own false (ts.map en), .val false (.int w), s8, s9, s10, .val false (en lo), .val false (en hi), .non, .non, .non]) (fun K2 k2 => ?_) (fun σ h => ?_)
      · refine ⟨_, A _ (by omega) (by omega), md (by decide), br.dec (fun h => ?_) (fun h => ?_)⟩
        · exact k2 _ ⟨lo2, none, rfl⟩
        · exact k2 _ ⟨lo2, hi2, rfl⟩
      obtain ⟨lo3, hi3, rfl⟩ := h
      refine ⟨by simp, szlt (by rw [List.length_map]; omega), k _ ⟨ts ++ [⟨w, lo3, hi3⟩], _, _, _, _, _, _, _, by rw [List.map_append]; rfl, by rw [List.length_append]; simp; omega, dis_add hd ?_⟩⟩
      exact h
    · exact k _ ⟨ts, _, _, _, _, _, _, _, rfl, by omega, hd⟩
  obtain ⟨ts, s5, s7, s8, s9, s10, s11, s12, rfl, hl, hd⟩ := h
  -- the base
  dsimp only
  refine seq_join2 (fun σ => ∃ (b : Int), σ = [.val false (eI r), .val false (.int (n : Int)), .val false (.int u), .val false (.int p), .val false (eI t), s5, .own false (ts.map en), s7, s8, s9, s10, s11, s12, .val false (.int b), .non, .non]) (fun K2 k2 => ?_) (fun σ h => ?_)
  · refine ⟨_, A 1 (by decide) (by decide), div_s (by decide), md (by decide), br.dec (fun h => ?_) (fun h => ?_)⟩
    · refine ⟨_, A 37 (by decide) (by decide), k2 _ ⟨_, rfl⟩⟩
    · exact k2 _ ⟨0, rfl⟩
  obtain ⟨b, rfl⟩ := h
  refine ⟨by simp, _, A 38 (by decide) (by decide), md (by decide), ?_⟩
  have e38 := em (a := r.getD (Int.toNat 38) 0) (b := 5) (by decide)
  refine ⟨sm (by omega) (by omega), for_upTo (fun i σ => ∃ (piece : List (List Int)) (s5 s15 : Sl), σ = [.val false (eI r), .val false (.int (n : Int)), .val false (.int u), .val false (.int p), .val false (eI t), s5, .own false (ts.map en), s7, s8, s9, s10, s11, s12, .val false (.int b), .own false (piece.map en), s15] ∧ piece.length ≤ i ∧ (∀ c ∈ piece, c.length ≤ 5) ∧ AllAsc piece) ⟨[], _, _, rfl, by simp, (fun x h => nomatch h), (fun x h => nomatch h)⟩ (fun i σ K hi h k => ?_) (fun σ h => ?_)⟩
  · obtain ⟨piece, s5, s15, rfl, hpl, h5, ha⟩ := h
    have e6 := em (a := r.getD (59 + (0 + (i : Int))).toNat 0) (b := 6) (by decide)
    refine ⟨_, A _ (by omega) (by omega), md (by decide), sm (by omega) (by omega), lc_upToR (β := Int) PyData.int (fun _ _ => True) (by omega) (fun j hj P N' pk => ?_) (fun ns hns => ?_)⟩
    · exact ⟨mul_l (by decide), _, A _ (by omega) (by omega), md (by decide), pk _ trivial⟩
    · obtain ⟨hnl, -⟩ := hns.upTo
      refine ⟨ns, rfl, by omega, fun c hc hcl => ?_⟩
      refine ⟨szlt (by rw [List.length_map]; omega), k _ ⟨piece ++ [c], _, s15, by rw [List.map_append]; rfl, by rw [List.length_append]; simp; omega, fun x hx => ?_, fun x hx => ?_⟩⟩
      · rcases List.mem_append.mp hx with z | z
        · exact h5 x z
        · rw [List.mem_singleton.mp z]
          omega
      · rcases List.mem_append.mp hx with z | z
        · exact ha x z
        · rw [List.mem_singleton.mp z]
          exact hc
  obtain ⟨piece, s5', s15, rfl, hpl, h5, ha⟩ := h
  exact ⟨by simp, q n p t piece ts ⟨htl, hn0, hn, hp, by omega, h5, ha, by omega, hd⟩⟩
end RD

set_option Elab.async false
set_option linter.all false
set_option maxRecDepth 100000
set_option maxHeartbeats 2000000
/-! MP7: the world of pieces, with bounds on its tastes. -/
namespace RD
open PySem DL
open En (en)
/-- a bound that is not far out -/
def Bo (o : Option Int) : Prop := ∀ b, o = some b → -100000000000000 ≤ b ∧ b ≤ 100000000000000
theorem bo_none : Bo none := fun b h => nomatch h
theorem bo_some {b : Int} (h1 : -100000000000000 ≤ b) (h2 : b ≤ 100000000000000) : Bo (some b) := fun c h => by
  cases h
  exact ⟨h1, h2⟩
def TsB (ts : List Ts) : Prop := ∀ t ∈ ts, 1 ≤ t.w ∧ t.w ≤ 9 ∧ Bo t.lo ∧ Bo t.hi
theorem tsb_add {ts : List Ts} {t : Ts} (h : TsB ts) (ht : 1 ≤ t.w ∧ t.w ≤ 9 ∧ Bo t.lo ∧ Bo t.hi) : TsB (ts ++ [t]) := fun x hx => by
  rcases List.mem_append.mp hx with z | z
  · exact h x z
  · rw [List.mem_singleton.mp z]
    exact ht
theorem mul_b {a b A B : Int} (ha : -A ≤ a ∧ a ≤ A) (hb : -B ≤ b ∧ b ≤ B) : -(A * B) ≤ a * b ∧ a * b ≤ A * B := by
  have h0 : 0 ≤ A := by omega
  have h1 : (a * b).natAbs ≤ A.natAbs * B.natAbs := by
    rw [Int.natAbs_mul]
    exact Nat.mul_le_mul (by omega) (by omega)
  have h2 : ((A.natAbs * B.natAbs : Nat) : Int) = A * B := by
    rw [Int.natCast_mul, Int.natAbs_of_nonneg h0, Int.natAbs_of_nonneg (by omega)]
  generalize A.natAbs * B.natAbs = z at *
  generalize a * b = y at *
  omega
theorem hid_b {u x : Int} (hu : 1 ≤ u ∧ u ≤ 1001000003) (h1 : -40 ≤ x) (h2 : x ≤ 40) : -100000000000 ≤ x * u ∧ x * u ≤ 100000000000 := by
  have := mul_b (A := 40) (B := 1001000003) ⟨h1, h2⟩ ⟨by omega, hu.2⟩
  omega
theorem pt_b {t : List Int} {p x : Int} (h : ∀ y ∈ t, -100000000000 ≤ y ∧ y ≤ 100000000000) (p1 : 6 ≤ p) (p2 : p ≤ 20001000000) (x1 : 0 ≤ x) (x2 : x ≤ 38) : -1000000000000 ≤ pt t p x ∧ pt t p x ≤ 1000000000000 := by
  have g : -100000000000 ≤ t.getD (x % (t.length : Int)).toNat 0 ∧ t.getD (x % (t.length : Int)).toNat 0 ≤ 100000000000 := by
    by_cases hi : (x % (t.length : Int)).toNat < t.length
    · rw [gD hi]
      exact h _ (List.getElem_mem hi)
    · unfold List.getD
      rw [List.getElem?_eq_none (by omega)]
      exact ⟨by decide, by decide⟩
  have d0 : 0 ≤ x / (t.length : Int) := Int.ediv_nonneg x1 (by omega)
  have d1 : x / (t.length : Int) ≤ x := Int.ediv_le_self _ x1
  have := mul_b (a := p) (A := 20001000000) (b := x / (t.length : Int)) (B := 38) ⟨by omega, p2⟩ ⟨by omega, by omega⟩
  unfold pt
  omega
def S_piece_world1 : DSp := fun ds Q => ∃ r : List Int, ds = [eI r] ∧ Good r ∧ 90 ≤ r.length ∧ ∀ (n : Nat) (p : Int) (t : List Int) (piece : List (List Int)) (ts : List Ts), World0 n p t piece ts → TsB ts → Q .av (.tuple [.int (n : Int), .int p, eI t, .list (piece.map en), .list (ts.map en)])
theorem ms_piece_world1 : MonoS S_piece_world1 := fun ds Q Q' h ⟨r, e, h1, h2, q⟩ => ⟨r, e, h1, h2, fun n p t c s w b => h _ _ (q n p t c s w b)⟩
theorem kp_piece_world1 : Keeps 16 (rd__law_piece_world S__law_note_pitch S__law_unlike) S_piece_world1 := by
  rintro ds Q ⟨r, rfl, hg, hr, q⟩
  have G := gd_good hg
  have A : ∀ i : Int, 0 ≤ i → i < 90 → L2.atI (r.map PyData.int) i = some (.int (r.getD i.toNat 0)) := fun i h0 h1 => at_d h0 (by omega)
  have N : ∀ j : Nat, (.non : Sl) = .non := fun _ => rfl
  have e3 := em (a := r.getD (Int.toNat 2) 0 / 3) (b := 30) (by decide)
  have e0 := em (a := r.getD (Int.toNat 0) 0) (b := 7) (by decide)
  have e53 := em (a := r.getD (Int.toNat 0) 0) (b := 53) (by decide)
  have g3 := G (Int.toNat 3)
  have g37 := G (Int.toNat 37)
  -- the unit and the period
  refine seq_join4 (fun σ => ∃ (u p : Int), σ = [.val false (eI r), .val false (.int (1 + r.getD (Int.toNat 0) 0 % 7)), .val false (.int u), .val false (.int p), .non, .non, .non, .non, .non, .non, .non, .non, .non, .non, .non, .non] ∧ (1 ≤ u ∧ u ≤ 1001000003) ∧ 6 ≤ p ∧ p ≤ 20001000000) (fun K k => ?_) (fun σ h => ?_)
  · refine ⟨_, A 0 (by decide) (by decide), md (by decide), _, A 2 (by decide) (by decide), div_s (by decide), md (by decide), ?_⟩
    refine ⟨_, A 1 (by decide) (by decide), md (by decide), br.dec (fun h => ?_) (fun h => ?_)⟩
    · refine ⟨⟨by decide, by decide, by decide⟩, _, A 3 (by decide) (by decide), ⟨by decide, by decide, by decide⟩, _, A 3 (by decide) (by decide), ⟨by decide, by decide, by decide⟩, mul_l (by omega), ?_⟩
      exact k _ ⟨(10 : Int) ^ 9 + r.getD (Int.toNat 3) 0, (10 : Int) ^ 10 + r.getD (Int.toNat 3) 0 * (10 : Int) ^ 4, rfl, by omega, by omega⟩
    · exact k _ ⟨1, _, rfl, by omega, by omega⟩
  obtain ⟨u, p, rfl, hu, hp⟩ := h
  have hpb : Pb p := ⟨by omega, by omega⟩
  -- the number of strings
  refine seq_join (fun σ => ∃ n : Nat, σ = [.val false (eI r), .val false (.int (n : Int)), .val false (.int u), .val false (.int p), .non, .non, .non, .non, .non, .non, .non, .non, .non, .non, .non, .non] ∧ 0 < n ∧ n ≤ 60) (fun K k => ?_) (fun σ h => ?_)
  · refine ⟨_, A 1 (by decide) (by decide), md (by decide), br.dec (fun h => ?_) (fun h => ?_)⟩
    · refine ⟨_, A 0 (by decide) (by decide), md (by decide), k _ ⟨(8 + r.getD (Int.toNat 0) 0 % 53).toNat, ?_, by omega, by omega⟩⟩
      rw [show (((8 + r.getD (Int.toNat 0) 0 % 53).toNat : Nat) : Int) = 8 + r.getD (Int.toNat 0) 0 % 53 by omega]
      rfl
    · refine k _ ⟨(1 + r.getD (Int.toNat 0) 0 % 7).toNat, ?_, by omega, by omega⟩
      rw [show (((1 + r.getD (Int.toNat 0) 0 % 7).toNat : Nat) : Int) = 1 + r.getD (Int.toNat 0) 0 % 7 by omega]
  obtain ⟨n, rfl, hn0, hn⟩ := h
  -- the hidden tuning
  refine ⟨sm (by omega) (by omega), lc_upToR (β := Int) PyData.int (fun _ x => -100000000000 ≤ x ∧ x ≤ 100000000000) (by omega) (fun k hk P N' pk => ?_) (fun t ht => ?_)⟩
  · have ek := em (a := 0 + (k : Int)) (b := 12) (by decide)
    have eg := em (a := r.getD (4 + (0 + (k : Int)) % 12).toNat 0) (b := 41) (by decide)
    refine ⟨md (by decide), _, A _ (by omega) (by omega), md (by decide), div_s (by decide), mul_r (by omega), pk _ (hid_b hu (by omega) (by omega))⟩
  obtain ⟨htl, htb⟩ := ht.upTo
  have htl : t.length = n := by omega
  have ht0 : 0 < t.length := by omega
  have htb : ∀ x ∈ t, -100000000000 ≤ x ∧ x ≤ 100000000000 := fun x hx => by
    obtain ⟨i, hi, rfl⟩ := List.mem_iff_getElem.mp hx
    exact htb i hi
  refine ⟨by simp, _, A 16 (by decide) (by decide), md (by decide), ?_⟩
  have e16 := em (a := r.getD (Int.toNat 16) 0) (b := 5) (by decide)
  -- the tastes
  refine ⟨sm (by omega) (by omega), for_upTo (fun i σ => ∃ (ts : List Ts) (s5 s7 s8 s9 s10 s11 s12 : Sl), σ = [.val false (eI r), .val false (.int (n : Int)), .val false (.int u), .val false (.int p), .val false (eI t), s5, .own false (ts.map en), s7, s8, s9, s10, s11, s12, .non, .non, .non] ∧ ts.length ≤ i ∧ Dis ts ∧ TsB ts) ⟨[], _, _, _, _, _, _, _, rfl, by simp, List.nodup_nil, (fun x h => nomatch h)⟩ (fun i σ K hi h k => ?_) (fun σ h => ?_)⟩
  · obtain ⟨ts, s5, s7, s8, s9, s10, s11, s12, rfl, hl, hd, hb⟩ := h
    refine seq_join (fun σ => ∃ (w : Int), σ = [.val false (eI r), .val false (.int (n : Int)), .val false (.int u), .val false (.int p), .val false (eI t), .val false (.int (0 + (i : Int))), .own false (ts.map en), .val false (.int w), s8, s9, s10, s11, s12, .non, .non, .non] ∧ 1 ≤ w ∧ w ≤ 9) (fun K2 k2 => ?_) (fun σ h => ?_)
    · have ew := em (a := r.getD (17 + (0 + (i : Int))).toNat 0) (b := 9) (by decide)
      exact ⟨_, A _ (by omega) (by omega), md (by decide), k2 _ ⟨_, rfl, by omega, by omega⟩⟩
    obtain ⟨w, rfl, hw1, hw9⟩ := h
    refine lc_map en ts (fun t => PyData.int t.w) (by omega) (fun x hx P N' pk => ⟨_, rfl, pk⟩) ?_
    have e : ts.map (fun t => PyData.int t.w) = (ts.map (·.w)).map (en (α := Int)) := by
      rw [List.map_map]
      rfl
    rw [e]
    refine in_go (α := Int) w (ts.map (·.w)) (Q := fun c => br (!c) _ _) (br.nd (fun h => ?_) (fun h => ?_))
    · -- a new width
      refine seq_join5 (fun σ => ∃ (lo hi : Option Int) (s8 s9 s10 : Sl), σ = [.val false (eI r), .val false (.int (n : Int)), .val false (.int u), .val false (.int p), .val false (eI t), .val false (.int (0 + (i : Int))), .own false (ts.map en), .val false (.int w), s8, s9, s10, .val false (en lo), .val false (en hi), .non, .non, .non] ∧ Bo lo ∧ Bo hi) (fun K2 k2 => ?_) (fun σ h => ?_)
      · refine ⟨_, A _ (by omega) (by omega), md (by decide), ?_⟩
        refine ⟨t, p, _, rfl, ht0, by omega, hpb, ?_⟩
        refine ⟨t, p, _, rfl, ht0, by omega, hpb, ?_⟩
        have hA := pt_b htb hp.1 hp.2 (x := r.getD (21 + (0 + (i : Int))).toNat 0 % 30 + w) (by have := em (a := r.getD (21 + (0 + (i : Int))).toNat 0) (b := 30) (by decide); omega) (by have := em (a := r.getD (21 + (0 + (i : Int))).toNat 0) (b := 30) (by decide); omega)
        have hB := pt_b htb hp.1 hp.2 (x := r.getD (21 + (0 + (i : Int))).toNat 0 % 30) (by have := em (a := r.getD (21 + (0 + (i : Int))).toNat 0) (b := 30) (by decide); omega) (by have := em (a := r.getD (21 + (0 + (i : Int))).toNat 0) (b := 30) (by decide); omega)
        have hap : -3000000000000 ≤ pt t p (r.getD (21 + (0 + (i : Int))).toNat 0 % 30 + w) - pt t p (r.getD (21 + (0 + (i : Int))).toNat 0 % 30) ∧ pt t p (r.getD (21 + (0 + (i : Int))).toNat 0 % 30 + w) - pt t p (r.getD (21 + (0 + (i : Int))).toNat 0 % 30) ≤ 3000000000000 := by omega
        clear hA hB
        generalize hq : pt t p (r.getD (21 + (0 + (i : Int))).toNat 0 % 30 + w) - pt t p (r.getD (21 + (0 + (i : Int))).toNat 0 % 30) = ap
        have hap2 := hap
        rw [hq] at hap2
        have u6 : 0 < 6 * u := by omega
        have m25 := em (a := r.getD (25 + (0 + (i : Int))).toNat 0) (b := 6 * u) u6
        have m29 := em (a := r.getD (29 + (0 + (i : Int))).toNat 0) (b := 6 * u) u6
        have m21 := em (a := r.getD (25 + (0 + (i : Int))).toNat 0) (b := 21) (by decide)
        have m6 := em (a := r.getD (29 + (0 + (i : Int))).toNat 0) (b := 6) (by decide)
        refine ⟨_, A _ (by omega) (by omega), mul_l (by decide), md u6, ?_⟩
        refine ⟨_, A _ (by omega) (by omega), mul_l (by decide), md u6, ?_⟩
        refine ⟨_, A 2 (by decide) (by decide), md (by decide), br.dec (fun h => ?_) (fun h => ?_)⟩
        · refine ⟨_, A _ (by omega) (by omega), md (by decide), _, A _ (by omega) (by omega), md (by decide), ?_⟩
          exact k2 _ ⟨some _, some _, _, _, _, rfl, bo_some (by omega) (by omega), bo_some (by omega) (by omega)⟩
        · exact k2 _ ⟨some _, some _, _, _, _, rfl, bo_some (by omega) (by omega), bo_some (by omega) (by omega)⟩
      obtain ⟨lo, hi', s8, s9, s10, rfl, b1, b2⟩ := h
      refine seq_join (fun σ => ∃ (lo hi : Option Int), σ = [.val false (eI r), .val false (.int (n : Int)), .val false (.int u), .val false (.int p), .val false (eI t), .val false (.int (0 + (i : Int))), .own false (ts.map en), .val false (.int w), s8, s9, s10, .val false (en lo), .val false (en hi), .non, .non, .non] ∧ Bo lo ∧ Bo hi) (fun K2 k2 => ?_) (fun σ h => ?_)
      · refine ⟨_, A _ (by omega) (by omega), md (by decide), br.dec (fun h => ?_) (fun h => ?_)⟩
        · exact k2 _ ⟨none, hi', rfl, bo_none, b2⟩
        · exact k2 _ ⟨lo, hi', rfl, b1, b2⟩
      obtain ⟨lo2, hi2, rfl, b3, b4⟩ := h
      refine seq_join (fun σ => ∃ (lo hi : Option Int), σ = [.val false (eI r), .val false (.int (n : Int)), .val false (.int u), .val false (.int p), .val false (eI t), .val false (.int (0 + (i : Int))), .own false (ts.map en), .val false (.int w), s8, s9, s10, .val false (en lo), .val false (en hi), .non, .non, .non] ∧ Bo lo ∧ Bo hi) (fun K2 k2 => ?_) (fun σ h => ?_)
      · refine ⟨_, A _ (by omega) (by omega), md (by decide), br.dec (fun h => ?_) (fun h => ?_)⟩
        · exact k2 _ ⟨lo2, none, rfl, b3, bo_none⟩
        · exact k2 _ ⟨lo2, hi2, rfl, b3, b4⟩
      obtain ⟨lo3, hi3, rfl, b5, b6⟩ := h
      refine ⟨by simp, szlt (by rw [List.length_map]; omega), k _ ⟨ts ++ [⟨w, lo3, hi3⟩], _, _, _, _, _, _, _, by rw [List.map_append]; rfl, by rw [List.length_append]; simp; omega, dis_add hd ?_, tsb_add hb ⟨hw1, hw9, b5, b6⟩⟩⟩
      exact h
    · exact k _ ⟨ts, _, _, _, _, _, _, _, rfl, by omega, hd, hb⟩
  obtain ⟨ts, s5, s7, s8, s9, s10, s11, s12, rfl, hl, hd, hb⟩ := h
  -- the base
  dsimp only
  refine seq_join2 (fun σ => ∃ (b : Int), σ = [.val false (eI r), .val false (.int (n : Int)), .val false (.int u), .val false (.int p), .val false (eI t), s5, .own false (ts.map en), s7, s8, s9, s10, s11, s12, .val false (.int b), .non, .non]) (fun K2 k2 => ?_) (fun σ h => ?_)
  · refine ⟨_, A 1 (by decide) (by decide), div_s (by decide), md (by decide), br.dec (fun h => ?_) (fun h => ?_)⟩
    · refine ⟨_, A 37 (by decide) (by decide), k2 _ ⟨_, rfl⟩⟩
    · exact k2 _ ⟨0, rfl⟩
  obtain ⟨b, rfl⟩ := h
  refine ⟨by simp, _, A 38 (by decide) (by decide), md (by decide), ?_⟩
  have e38 := em (a := r.getD (Int.toNat 38) 0) (b := 5) (by decide)
  refine ⟨sm (by omega) (by omega), for_upTo (fun i σ => ∃ (piece : List (List Int)) (s5 s15 : Sl), σ = [.val false (eI r), .val false (.int (n : Int)), .val false (.int u), .val false (.int p), .val false (eI t), s5, .own false (ts.map en), s7, s8, s9, s10, s11, s12, .val false (.int b), .own false (piece.map en), s15] ∧ piece.length ≤ i ∧ (∀ c ∈ piece, c.length ≤ 5) ∧ AllAsc piece) ⟨[], _, _, rfl, by simp, (fun x h => nomatch h), (fun x h => nomatch h)⟩ (fun i σ K hi h k => ?_) (fun σ h => ?_)⟩
  · obtain ⟨piece, s5, s15, rfl, hpl, h5, ha⟩ := h
    have e6 := em (a := r.getD (59 + (0 + (i : Int))).toNat 0) (b := 6) (by decide)
    refine ⟨_, A _ (by omega) (by omega), md (by decide), sm (by omega) (by omega), lc_upToR (β := Int) PyData.int (fun _ _ => True) (by omega) (fun j hj P N' pk => ?_) (fun ns hns => ?_)⟩
    · exact ⟨mul_l (by decide), _, A _ (by omega) (by omega), md (by decide), pk _ trivial⟩
    · obtain ⟨hnl, -⟩ := hns.upTo
      refine ⟨ns, rfl, by omega, fun c hc hcl => ?_⟩
      refine ⟨szlt (by rw [List.length_map]; omega), k _ ⟨piece ++ [c], _, s15, by rw [List.map_append]; rfl, by rw [List.length_append]; simp; omega, fun x hx => ?_, fun x hx => ?_⟩⟩
      · rcases List.mem_append.mp hx with z | z
        · exact h5 x z
        · rw [List.mem_singleton.mp z]
          omega
      · rcases List.mem_append.mp hx with z | z
        · exact ha x z
        · rw [List.mem_singleton.mp z]
          exact hc
  obtain ⟨piece, s5', s15, rfl, hpl, h5, ha⟩ := h
  exact ⟨by simp, q n p t piece ts ⟨htl, hn0, hn, hp, by omega, h5, ha, by omega, hd⟩ hb⟩
end RD

set_option Elab.async false
set_option linter.all false
set_option maxRecDepth 100000
set_option maxHeartbeats 2000000
/-! MS: the solver: steps. -/
namespace RD
open PySem DL
open En (en)
def isNum (d : PyData) : Bool := isInt d && !isBool d
def S_is_number : DSp := fun ds Q => ∃ d, ds = [d] ∧ Q .av (.bool (isNum d))
theorem ms_is_number : MonoS S_is_number := fun ds Q Q' h ⟨d, e, q⟩ => ⟨d, e, h _ _ q⟩
theorem kp_is_number : Keeps 1 rd_is_number S_is_number := by
  rintro ds Q ⟨d, rfl, q⟩
  unfold isNum at q
  cases h : isInt d with
  | true =>
    refine br.t h ?_
    rw [h] at q
    exact q
  | false =>
    refine br.f h ?_
    rw [h] at q
    exact q
def isIx (d : PyData) (n : Int) : Bool := match d with
  | .int i => decide (0 ≤ i) && decide (i < n)
  | _ => false
def S_is_index : DSp := fun ds Q => ∃ d n, ds = [d, .int n] ∧ Q .av (.bool (isIx d n))
theorem ms_is_index : MonoS S_is_index := fun ds Q Q' h ⟨d, n, e, q⟩ => ⟨d, n, e, h _ _ q⟩
theorem kp_is_index : Keeps 2 (rd_is_index S_is_number) S_is_index := by
  rintro ds Q ⟨d, n, rfl, q⟩
  refine ⟨d, rfl, ?_⟩
  cases d with
  | int i =>
    have q : Q .av (.bool (decide (0 ≤ i) && decide (i < n))) := q
    refine br.dec (fun h => ?_) (fun h => ?_)
    · have h : 0 ≤ i := h
      rw [decide_eq_true h] at q
      exact q
    · have h : ¬ 0 ≤ i := h
      rw [decide_eq_false h] at q
      exact q
  | _ => exact q
/-- a step: the number of its demand, its side, where it leads, what it costs -/
structure Stp where
  k : Nat
  m : Bool
  s : Nat
  e : Nat
  c : Int
  deriving DecidableEq
def sd (m : Bool) : PyData := match m with
  | true => .str (PySem.Str.ofString "most")
  | false => .str (PySem.Str.ofString "least")
theorem ne_ml : (PySem.Str.ofString "most") ≠ (PySem.Str.ofString "least") := by decide
theorem ne_lm : (PySem.Str.ofString "least") ≠ (PySem.Str.ofString "most") := by decide
def eS (k : Nat) (m : Bool) : PyData := .tuple [.int (k : Int), sd m]
def eStp (x : Stp) : PyData := eS x.k x.m
def eRow (x : Stp) : PyData := .tuple [eStp x, .int (x.s : Int), .int (x.e : Int), .int x.c]
def bnd (d : Dm) (m : Bool) : Option Int := match m with
  | true => d.hi
  | false => d.lo
def hasB (d : Dm) (m : Bool) : Bool := (bnd d m).isSome
def S_is_step : DSp := fun ds Q => ∃ (dms : List Dm) (k : Nat) (m : Bool) (h : k < dms.length), ds = [.list (dms.map en), eS k m] ∧ Q .av (.bool (hasB dms[k] m))
theorem ms_is_step : MonoS S_is_step := fun ds Q Q' h ⟨d, k, m, hk, e, q⟩ => ⟨d, k, m, hk, e, h _ _ q⟩
theorem isIx_nat {k n : Nat} (h : k < n) : isIx (.int (k : Int)) (n : Int) = true := by
  show (decide ((0 : Int) ≤ (k : Int)) && decide ((k : Int) < (n : Int))) = true
  rw [decide_eq_true (show (0 : Int) ≤ (k : Int) by omega), decide_eq_true (show (k : Int) < (n : Int) by omega)]
  rfl
theorem kp_is_step : Keeps 2 (rd_is_step S_is_index) S_is_step := by
  rintro ds Q ⟨dms, k, m, hk, rfl, q⟩
  have a := at_map (en := En.en (α := Dm)) hk
  generalize hd : dms[k] = d at *
  obtain ⟨lw, hg, lo, hi⟩ := d
  unfold rd_is_step
  refine seq_join (fun σ => σ = [.val false (.list (dms.map en)), .val false (eS k m)]) (fun K kk => ?_) (fun σ h => ?_)
  · cases m <;> exact kk _ rfl
  subst h
  refine seq_join (fun σ => σ = [.val false (.list (dms.map en)), .val false (eS k m)]) (fun K kk => ?_) (fun σ h => ?_)
  · refine ⟨_, rfl, ?_⟩
    refine ⟨.int (k : Int), _, rfl, ?_⟩
    rw [List.length_map, isIx_nat hk]
    refine ⟨_, rfl, ?_⟩
    cases m <;> exact kk _ rfl
  subst h
  cases m with
  | true =>
    refine ⟨_, rfl, ?_⟩
    refine ⟨_, rfl, _, a, _, rfl, ?_⟩
    cases hi <;> exact q
  | false =>
    refine ⟨_, rfl, ?_⟩
    refine ⟨_, rfl, ?_⟩
    refine ⟨_, rfl, _, a, _, rfl, ?_⟩
    cases lo <;> exact q
/-- the step of a demand -/
def mkS (k : Nat) (d : Dm) (m : Bool) (b : Int) : Stp := match m with
  | true => ⟨k, true, d.lw, d.hg, b⟩
  | false => ⟨k, false, d.hg, d.lw, -b⟩
def S_step_of : DSp := fun ds Q => ∃ (dms : List Dm) (k : Nat) (m : Bool) (b : Int) (h : k < dms.length), ds = [.list (dms.map en), eS k m] ∧ bnd dms[k] m = some b ∧ Q .av (.tuple [.int ((mkS k dms[k] m b).s : Int), .int ((mkS k dms[k] m b).e : Int), .int (mkS k dms[k] m b).c])
theorem ms_step_of : MonoS S_step_of := fun ds Q Q' h ⟨d, k, m, b, hk, e, e2, q⟩ => ⟨d, k, m, b, hk, e, e2, h _ _ q⟩
theorem kp_step_of : Keeps 6 (rd_step_of S_is_step) S_step_of := by
  rintro ds Q ⟨dms, k, m, b, hk, rfl, hb, q⟩
  have a := at_map (en := En.en (α := Dm)) hk
  unfold rd_step_of
  refine seq_join (fun σ => σ = [.val false (.list (dms.map en)), .val false (eS k m), .non, .non, .non, .non]) (fun K kk => ?_) (fun σ h => ?_)
  · refine ⟨dms, k, m, hk, rfl, ?_⟩
    have : hasB dms[k] m = true := by
      unfold hasB
      rw [hb]
      rfl
    rw [this]
    exact kk _ rfl
  subst h
  generalize hd : dms[k] = d at *
  obtain ⟨lw, hg, lo, hi⟩ := d
  refine ⟨_, rfl, _, a, rfl, ?_⟩
  cases m with
  | true =>
    have hb : hi = some b := hb
    subst hb
    refine ⟨_, rfl, ?_⟩
    exact ⟨by simp, q⟩
  | false =>
    have hb : lo = some b := hb
    subst hb
    refine ⟨_, rfl, ?_⟩
    exact ⟨by simp, q⟩
/-! all steps -/
def stp1 (k : Nat) (d : Dm) (m : Bool) : List Stp := (bnd d m).toList.map (mkS k d m)
def stepsN (dms : List Dm) (n : Nat) : List Stp := (List.range n).flatMap fun k => stp1 k (dms.getD k ⟨0, 0, none, none⟩) true ++ stp1 k (dms.getD k ⟨0, 0, none, none⟩) false
def stepsOf (dms : List Dm) : List Stp := stepsN dms dms.length
theorem stepsN_succ (dms : List Dm) (n : Nat) : stepsN dms (n + 1) = stepsN dms n ++ (stp1 n (dms.getD n ⟨0, 0, none, none⟩) true ++ stp1 n (dms.getD n ⟨0, 0, none, none⟩) false) := by
  unfold stepsN
  rw [List.range_succ, List.flatMap_append]
  simp
theorem stp1_len (k : Nat) (d : Dm) (m : Bool) : (stp1 k d m).length ≤ 1 := by
  unfold stp1
  rw [List.length_map]
  cases bnd d m <;> simp
theorem stepsN_len (dms : List Dm) : ∀ n, (stepsN dms n).length ≤ 2 * n
  | 0 => by simp [stepsN]
  | n + 1 => by
    rw [stepsN_succ, List.length_append, List.length_append]
    have := stepsN_len dms n
    have := stp1_len n (dms.getD n ⟨0, 0, none, none⟩) true
    have := stp1_len n (dms.getD n ⟨0, 0, none, none⟩) false
    omega
def S_all_steps : DSp := fun ds Q => ∃ (dms : List Dm), ds = [.list (dms.map en)] ∧ dms.length ≤ 1000000 ∧ Q .new (.list ((stepsOf dms).map eRow))
theorem ms_all_steps : MonoS S_all_steps := fun ds Q Q' h ⟨d, e, h1, q⟩ => ⟨d, e, h1, h _ _ q⟩
theorem kp_all_steps : Keeps 8 (rd_all_steps S_step_of) S_all_steps := by
  rintro ds Q ⟨dms, rfl, hl, q⟩
  refine ⟨by simp, sm (by omega) (by rw [List.length_map]; omega), for_upTo (fun i σ => ∃ s2 s3 s4 s5 s6 s7 : Sl, σ = [.val false (.list (dms.map en)), .own false ((stepsN dms i).map eRow), s2, s3, s4, s5, s6, s7]) ⟨.non, .non, .non, .non, .non, .non, rfl⟩ (fun i σ K hi h k => ?_) (fun σ h => ?_)⟩
  · obtain ⟨s2, s3, s4, s5, s6, s7, rfl⟩ := h
    have hi' : i < dms.length := by simpa using hi
    have e0 : (0 : Int) + (i : Int) = (i : Int) := by omega
    rw [e0]
    have a := at_map (en := En.en (α := Dm)) hi'
    have hL := stepsN_len dms i
    have one : ∀ (m : Bool) (xs : List Stp) (K2 B2 : Ds → Prop) (s4 s5 s6 s7 : Sl) (rt : Rt → PyData → Prop), xs.length ≤ 2 * i + 1 → (∀ s4 s5 s6 s7, K2 [.val false (.list (dms.map en)), .own false ((xs ++ stp1 i dms[i] m).map eRow), .val false (.int (i)), .val false (sd m), s4, s5, s6, s7]) →
        (dSeq (dSet 4 (dOp rIx (dOp rIx (dVar 0) (dVar 2)) (dC (.int 3)))) (dSeq (dIf (dCmp rEq (dVar 3) (dC (.str (PySem.Str.ofString "least")))) (dSet 4 (dOp rIx (dOp rIx (dVar 0) (dVar 2)) (dC (.int 2)))) dNext) (dIf (dCmp rIsNot (dVar 4) (dC .none)) (dSeq (dAsg (dCall S_step_of (dCons (dVar 0) (dCons (dTup (dCons (dVar 2) (dCons (dVar 3) dNil))) dNil))) (gTup 3 (gCons (gName 5) (gCons (gName 6) (gCons (gName 7) gNil))))) (dApp 1 (dTup (dCons (dTup (dCons (dVar 2) (dCons (dVar 3) dNil))) (dCons (dVar 5) (dCons (dVar 6) (dCons (dVar 7) dNil))))))) dNext))) { nx := K2, rt := rt, ct := K2, bk := B2 } [.val false (.list (dms.map en)), .own false (xs.map eRow), .val false (.int (i)), .val false (sd m), s4, s5, s6, s7] := fun m xs K2 B2 s4 s5 s6 s7 rt hx k2 => by
      refine seq_join2 (fun σ => σ = [.val false (.list (dms.map en)), .own false (xs.map eRow), .val false (.int (i)), .val false (sd m), .val false (en (bnd dms[i] m)), s5, s6, s7]) (fun K3 k3 => ?_) (fun σ h => ?_)
      · refine ⟨_, a, ?_⟩
        generalize hd : dms[i] = d at *
        obtain ⟨lw, hg, lo, hi2⟩ := d
        refine ⟨_, rfl, ?_⟩
        cases m with
        | true => exact k3 _ rfl
        | false => exact ⟨_, a, _, rfl, k3 _ rfl⟩
      subst h
      have e1 : stp1 i dms[i] m = (bnd dms[i] m).toList.map (mkS i dms[i] m) := rfl
      cases hb : bnd dms[i] m with
      | none =>
        rw [hb] at e1
        have := k2 (.val false (en (none : Option Int))) s5 s6 s7
        rw [e1] at this
        simp only [Option.toList, List.map_nil, List.append_nil] at this
        exact this
      | some b =>
        rw [hb] at e1
        refine ⟨by simp, dms, i, m, b, hi', rfl, hb, rfl, ?_⟩
        refine ⟨by simp, by simp, szlt (by rw [List.length_map]; omega), ?_⟩
        have := k2 (.val false (en (some b))) (.val false (.int ((mkS i dms[i] m b).s))) (.val false (.int ((mkS i dms[i] m b).e))) (.val false (.int ((mkS i dms[i] m b).c)))
        rw [e1, List.map_append] at this
        have e3 : ((some b).toList.map (mkS i dms[i] m)).map eRow = [.tuple [eS i m, .int ((mkS i dms[i] m b).s : Int), .int ((mkS i dms[i] m b).e : Int), .int (mkS i dms[i] m b).c]] := by
          cases m <;> rfl
        rw [e3] at this
        exact this
    refine ⟨by simp, ?_⟩
    refine one true (stepsN dms i) _ K s4 s5 s6 s7 _ (by omega) (fun s4 s5 s6 s7 => ?_)
    refine one false (stepsN dms i ++ stp1 i dms[i] true) _ K s4 s5 s6 s7 _ (by rw [List.length_append]; have := stp1_len i dms[i] true; omega) (fun s4 s5 s6 s7 => ?_)
    refine k _ ⟨.val false (.int (i)), .val false (sd false), s4, s5, s6, s7, ?_⟩
    rw [stepsN_succ, gD hi', List.append_assoc]
  · obtain ⟨s2, s3, s4, s5, s6, s7, rfl⟩ := h
    rw [List.length_map, Int.toNat_natCast]
    exact q
end RD

set_option Elab.async false
set_option linter.all false
set_option maxRecDepth 100000
set_option maxHeartbeats 2000000
/-! MS2: the solver: relaxing. -/
namespace RD
open PySem DL
open En (en)
def eL (o : Option Stp) : PyData := match o with
  | none => .none
  | some x => .tuple [eStp x, .int (x.s : Int)]
def enN (o : Option Nat) : PyData := match o with
  | none => .none
  | some k => .int (k : Int)
structure RS where
  S : List (Option Int)
  L : List (Option Stp)
  ch : Option Nat
def rel1 (r : RS) (x : Stp) : RS := match r.S.getD x.s none with
  | none => r
  | some v => match r.S.getD x.e none with
    | none => ⟨r.S.set x.e (some (v + x.c)), r.L.set x.e (some x), some x.e⟩
    | some w => if v + x.c < w then ⟨r.S.set x.e (some (v + x.c)), r.L.set x.e (some x), some x.e⟩ else r
def relOnce (xs : List Stp) (S : List (Option Int)) (L : List (Option Stp)) : RS := xs.foldl rel1 ⟨S, L, none⟩
theorem rel1_len (r : RS) (x : Stp) : (rel1 r x).S.length = r.S.length ∧ (rel1 r x).L.length = r.L.length := by
  unfold rel1
  split
  · exact ⟨rfl, rfl⟩
  · split
    · exact ⟨List.length_set, List.length_set⟩
    · split
      · exact ⟨List.length_set, List.length_set⟩
      · exact ⟨rfl, rfl⟩
theorem rels_len (xs : List Stp) : ∀ r : RS, (xs.foldl rel1 r).S.length = r.S.length ∧ (xs.foldl rel1 r).L.length = r.L.length := by
  induction xs with
  | nil => exact fun r => ⟨rfl, rfl⟩
  | cons x xs ih =>
    intro r
    obtain ⟨a, b⟩ := ih (rel1 r x)
    obtain ⟨c, d⟩ := rel1_len r x
    exact ⟨a.trans c, b.trans d⟩
def InB (n : Nat) (xs : List Stp) : Prop := ∀ x ∈ xs, x.s < n ∧ x.e < n
def S_relax_once : DSM := fun ds Q => ∃ (xs : List Stp) (S : List (Option Int)) (L : List (Option Stp)), ds = [.list (xs.map eRow), .list (S.map en), .list (L.map eL)] ∧ L.length = S.length ∧ InB S.length xs ∧ Q (enN (relOnce xs S L).ch) [(relOnce xs S L).S.map en, (relOnce xs S L).L.map eL]
theorem ms_relax_once : MonoM S_relax_once := fun ds Q Q' h ⟨xs, S, L, e, h1, h2, q⟩ => ⟨xs, S, L, e, h1, h2, h _ _ q⟩
theorem gd_take {α β : Type} (f : β → α → β) (b : β) {xs : List α} {i : Nat} (h : i < xs.length) : (xs.take (i + 1)).foldl f b = f ((xs.take i).foldl f b) xs[i] := by
  rw [List.take_succ_eq_append_getElem h, List.foldl_append]
  rfl
theorem kp_relax_once : KeepsM 9 [1, 2] rd_relax_once S_relax_once := by
  rintro ds Q ⟨xs, S, L, rfl, hl, hb, q⟩
  refine for_inv eRow xs (fun i σ => ∃ (r : RS) (s4 s5 s6 s7 s8 : Sl), r = (xs.take i).foldl rel1 ⟨S, L, none⟩ ∧ σ = [.val false (.list (xs.map eRow)), .par 0 ((r).S.map en), .par 1 ((r).L.map eL), .val false (enN (r).ch), s4, s5, s6, s7, s8]) ⟨_, .non, .non, .non, .non, .non, rfl, rfl⟩ (fun i hi σ K h k => ?_) (fun σ h => ?_)
  · obtain ⟨r, s4, s5, s6, s7, s8, hr, rfl⟩ := h
    obtain ⟨l1, l2⟩ := rels_len (xs.take i) ⟨S, L, none⟩
    rw [← hr] at l1 l2
    have l1 : r.S.length = S.length := l1
    have l2 : r.L.length = L.length := l2
    obtain ⟨b1, b2⟩ := hb xs[i] (List.getElem_mem hi)
    have hn : rel1 r xs[i] = (xs.take (i + 1)).foldl rel1 ⟨S, L, none⟩ := by
      rw [gd_take _ _ hi, ← hr]
    have kk : ∀ s8, K [.val false (.list (xs.map eRow)), .par 0 ((rel1 r xs[i]).S.map en), .par 1 ((rel1 r xs[i]).L.map eL), .val false (enN (rel1 r xs[i]).ch), .val false (eStp xs[i]), .val false (.int (xs[i].s)), .val false (.int (xs[i].e)), .val false (.int (xs[i].c)), s8] := fun s8 => k _ ⟨_, _, _, _, _, s8, hn, rfl⟩
    generalize xs[i] = x at *
    have h1 : x.s < r.S.length := by omega
    have h2 : x.e < r.S.length := by omega
    have h3 : x.e < r.L.length := by omega
    have a1 : L2.atI (r.S.map (en (α := Option Int))) (x.s : Int) = some (en r.S[x.s]) := at_map h1
    have a2 : L2.atI (r.S.map (en (α := Option Int))) (x.e : Int) = some (en r.S[x.e]) := at_map h2
    have g1 : r.S.getD x.s none = r.S[x.s] := gD h1
    have g2 : r.S.getD x.e none = r.S[x.e] := gD h2
    refine ⟨rfl, _, a1, ?_⟩
    cases e1 : r.S[x.s] with
    | none =>
      have hu : rel1 r x = r := by
        unfold rel1
        rw [g1, e1]
      rw [hu] at kk
      exact kk s8
    | some v =>
      rw [e1] at a1
      have upd : rel1 r x = ⟨r.S.set x.e (some (v + x.c)), r.L.set x.e (some x), some x.e⟩ → ∀ K2 : Ds → Prop, (∀ s8, K2 [.val false (.list (xs.map eRow)), .par 0 ((rel1 r x).S.map en), .par 1 ((rel1 r x).L.map eL), .val false (enN (rel1 r x).ch), .val false (eStp x), .val false (.int (x.s)), .val false (.int (x.e)), .val false (.int (x.c)), s8]) → (dSeq (dSetIx 1 (dVar 8) (dVar 6)) (dSeq (dSetIx 2 (dTup (dCons (dVar 4) (dCons (dVar 5) dNil))) (dVar 6)) (dSet 3 (dVar 6)))) { nx := K2, rt := fun _ _ => False } [.val false (.list (xs.map eRow)), .par 0 ((r).S.map en), .par 1 ((r).L.map eL), .val false (enN (r).ch), .val false (eStp x), .val false (.int (x.s)), .val false (.int (x.e)), .val false (.int (x.c)), .val false (.int (v + x.c))] := fun hu K2 k2 => by
        refine ⟨_, ixN_nat (j := x.e) (by rw [List.length_map]; exact h2), by simp, _, ixN_nat (j := x.e) (by rw [List.length_map]; exact h3), ?_⟩
        have := k2 (.val false (.int (v + x.c)))
        rw [hu, ← set_map, ← set_map] at this
        exact this
      refine ⟨_, a1, _, a2, ?_⟩
      cases e2 : r.S[x.e] with
      | none =>
        have hu : rel1 r x = ⟨r.S.set x.e (some (v + x.c)), r.L.set x.e (some x), some x.e⟩ := by
          unfold rel1
          rw [g1, e1]
          simp only
          rw [g2, e2]
        exact upd hu K kk
      | some w =>
        rw [e2] at a2
        refine ⟨_, a2, br.dec (fun hc => ?_) (fun hc => ?_)⟩
        · have hu : rel1 r x = ⟨r.S.set x.e (some (v + x.c)), r.L.set x.e (some x), some x.e⟩ := by
            unfold rel1
            rw [g1, e1]
            simp only
            rw [g2, e2]
            exact if_pos hc
          exact upd hu K kk
        · have hu : rel1 r x = r := by
            unfold rel1
            rw [g1, e1]
            simp only
            rw [g2, e2]
            exact if_neg hc
          rw [hu] at kk
          exact kk _
  · obtain ⟨r, s4, s5, s6, s7, s8, hr, rfl⟩ := h
    rw [List.take_length] at hr
    subst hr
    exact ⟨rfl, rfl, q⟩
/-- rounds -/
def relaxR (xs : List Stp) : Nat → RS → RS
  | 0, r => r
  | f + 1, r => match (relOnce xs r.S r.L).ch with
    | none => relOnce xs r.S r.L
    | some _ => relaxR xs f (relOnce xs r.S r.L)
def S_relax : DSM := fun ds Q => ∃ (n : Nat) (xs : List Stp) (S : List (Option Int)) (L : List (Option Stp)), ds = [.int (n : Int), .list (xs.map eRow), .list (S.map en), .list (L.map eL)] ∧ n ≤ 1000000 ∧ L.length = S.length ∧ InB S.length xs ∧ Q (enN (relaxR xs (n + 1) ⟨S, L, none⟩).ch) [(relaxR xs (n + 1) ⟨S, L, none⟩).S.map en, (relaxR xs (n + 1) ⟨S, L, none⟩).L.map eL]
theorem ms_relax : MonoM S_relax := fun ds Q Q' h ⟨n, xs, S, L, e, h1, h2, h3, q⟩ => ⟨n, xs, S, L, e, h1, h2, h3, h _ _ q⟩
theorem kp_relax : KeepsM 6 [2, 3] (rd_relax S_relax_once) S_relax := by
  rintro ds Q ⟨n, xs, S, L, rfl, hn, hl, hb, q⟩
  refine ⟨sm (by omega) (by omega), for_upTo (fun i σ => ∃ (r : RS) (s4 s5 : Sl), r.S.length = S.length ∧ r.L.length = S.length ∧ relaxR xs (n + 1) ⟨S, L, none⟩ = relaxR xs (n + 1 - i) r ∧ (i = 0 ∨ s5 = .val false (enN r.ch)) ∧ σ = [.val false (.int (n)), .val false (.list (xs.map eRow)), .par 0 ((r).S.map en), .par 1 ((r).L.map eL), s4, s5]) ⟨⟨S, L, none⟩, .non, .non, rfl, hl, rfl, .inl rfl, rfl⟩ (fun i σ K hi h k => ?_) (fun σ h => ?_)⟩
  · obtain ⟨r, s4, s5, l1, l2, hr, _, rfl⟩ := h
    have hi' : i < n + 1 := by omega
    refine ⟨xs, r.S, r.L, rfl, by omega, by rw [l1]; exact hb, ?_⟩
    obtain ⟨m1, m2⟩ := rels_len xs ⟨r.S, r.L, none⟩
    have m1 : (relOnce xs r.S r.L).S.length = S.length := m1.trans l1
    have m2 : (relOnce xs r.S r.L).L.length = S.length := m2.trans l2
    have e1 : n + 1 - i = (n + 1 - (i + 1)) + 1 := by omega
    rw [e1] at hr
    conv at hr => rhs; unfold relaxR
    cases hc : (relOnce xs r.S r.L).ch with
    | none =>
      rw [hc] at hr
      simp only at hr
      rw [hr, hc] at q
      exact ⟨rfl, rfl, q⟩
    | some z =>
      rw [hc] at hr
      simp only at hr
      exact k _ ⟨relOnce xs r.S r.L, _, _, m1, m2, hr, .inr rfl, by rw [hc]; rfl⟩
  · obtain ⟨r, s4, s5, l1, l2, hr, h5, rfl⟩ := h
    have e1 : ((n : Int) + 1).toNat = n + 1 := by omega
    rw [e1] at hr h5
    rcases h5 with h5 | h5
    · omega
    · subst h5
      rw [Nat.sub_self] at hr
      have hr : relaxR xs (n + 1) ⟨S, L, none⟩ = r := hr
      rw [hr] at q
      exact ⟨rfl, rfl, q⟩
/-! going back -/
def prd (L : List (Option Stp)) (v : Nat) : Nat := match L.getD v none with
  | some x => x.s
  | none => v
def itr (L : List (Option Stp)) : Nat → Nat → Nat
  | 0, v => v
  | t + 1, v => itr L t (prd L v)
theorem itr_succ (L : List (Option Stp)) : ∀ (t v : Nat), itr L (t + 1) v = prd L (itr L t v)
  | 0, v => rfl
  | t + 1, v => itr_succ L t (prd L v)
theorem itr_add (L : List (Option Stp)) (a : Nat) : ∀ (t v : Nat), itr L (a + t) v = itr L a (itr L t v)
  | 0, v => rfl
  | t + 1, v => itr_add L a t (prd L v)
theorem nl_sd (m : Bool) : NL (sd m) := by cases m <;> exact .str _
theorem nl_eS (k : Nat) (m : Bool) : NL (eS k m) := .tup fun d hd => by
  simp only [List.mem_cons, List.not_mem_nil, or_false] at hd
  rcases hd with rfl | rfl
  · exact .int _
  · exact nl_sd m
def coll (L : List (Option Stp)) (at' : Nat) : Nat → Nat → List Stp
  | 0, _ => []
  | f + 1, b => if b = at' then [] else match L.getD b none with
    | some x => x :: coll L at' f x.s
    | none => []
def ringF (n : Nat) (L : List (Option Stp)) (v : Nat) : List Stp := match L.getD (itr L n v) none with
  | some x => (x :: coll L (itr L n v) n x.s).reverse
  | none => []
/-- all that is met going back: a listed step; after n steps: a ring -/
structure Back (n : Nat) (L : List (Option Stp)) (v : Nat) : Prop where
  num : L.length = n
  all : ∀ t, itr L t v < n ∧ ∃ x, L.getD (itr L t v) none = some x
  rng : ∃ p, 1 ≤ p ∧ p ≤ n ∧ itr L p (itr L n v) = itr L n v
theorem coll_len (L : List (Option Stp)) (a : Nat) : ∀ f b, (coll L a f b).length ≤ f
  | 0, _ => Nat.le_refl _
  | f + 1, b => by
    unfold coll
    split
    · exact Nat.zero_le _
    · split
      · exact Nat.succ_le_succ (coll_len L a f _)
      · exact Nat.zero_le _
def S_ring_behind : DSp := fun ds Q => ∃ (n v : Nat) (L : List (Option Stp)), ds = [.int (n : Int), .list (L.map eL), .int (v : Int)] ∧ n ≤ 1000000 ∧ Back n L v ∧ Q .newF (.list ((ringF n L v).map eStp))
theorem ms_ring_behind : MonoS S_ring_behind := fun ds Q Q' h ⟨n, v, L, e, h1, h2, q⟩ => ⟨n, v, L, e, h1, h2, h _ _ q⟩
theorem kp_ring_behind : Keeps 7 rd_ring_behind S_ring_behind := by
  rintro ds Q ⟨n, v, L, rfl, hn, ⟨b1, b2, p, p1, p2, p3⟩, q⟩
  have look : ∀ t, ∃ x, L.getD (itr L t v) none = some x ∧ L2.atI (L.map eL) (itr L t v : Int) = some (.tuple [eStp x, .int (x.s : Int)]) ∧ itr L (t + 1) v = x.s := fun t => by
    obtain ⟨h1, x, h2⟩ := b2 t
    refine ⟨x, h2, ?_, ?_⟩
    · have := at_map (en := eL) (i := itr L t v) (xs := L) (by omega)
      rw [gD (by omega)] at h2
      rw [h2] at this
      exact this
    · rw [itr_succ]
      unfold prd
      rw [h2]
  unfold rd_ring_behind
  refine seq_join2 (fun σ => ∃ s4 : Sl, σ = [.val false (.int (n)), .val false (.list (L.map eL)), .val false (.int (v)), .val false (.int (itr L n v)), s4, .non, .non]) (fun K k => ?_) (fun σ h => ?_)
  · refine ⟨sm (by omega) (by omega), for_upTo (fun i σ => ∃ s4 : Sl, σ = [.val false (.int (n)), .val false (.list (L.map eL)), .val false (.int (v)), .val false (.int (itr L i v)), s4, .non, .non]) ⟨.non, rfl⟩ (fun i σ K2 hi h k2 => ?_) (fun σ h => ?_)⟩
    · obtain ⟨s4, rfl⟩ := h
      obtain ⟨x, h1, h2, h3⟩ := look i
      exact ⟨_, h2, _, rfl, k2 _ ⟨_, by rw [h3]; rfl⟩⟩
    · obtain ⟨s4, rfl⟩ := h
      exact k _ ⟨s4, by rw [Int.toNat_natCast]⟩
  obtain ⟨s4, rfl⟩ := h
  obtain ⟨x, h1, h2, h3⟩ := look n
  have eq : ringF n L v = (x :: coll L (itr L n v) n x.s).reverse := by
    unfold ringF
    rw [h1]
  rw [eq] at q
  generalize ha : itr L n v = a at *
  have reach : ∃ t, t ≤ n ∧ itr L t x.s = a := by
    refine ⟨p - 1, by omega, ?_⟩
    have e : itr L p a = itr L (p - 1) (prd L a) := by
      have : p = (p - 1) + 1 := by omega
      rw [this]
      rfl
    have e2 : prd L a = x.s := by
      unfold prd
      rw [h1]
    rw [e, e2] at p3
    exact p3
  have b3 : ∀ t, itr L t a < n ∧ ∃ x, L.getD (itr L t a) none = some x := fun t => by
    have := b2 (t + n)
    rw [itr_add, ha] at this
    exact this
  refine seq_join2 (fun σ => σ = [.val false (.int (n)), .val false (.list (L.map eL)), .val false (.int (v)), .val false (.int (a)), s4, .own false ([x].map eStp), .val false (.int (x.s))]) (fun K k => ?_) (fun σ h => ?_)
  · exact ⟨_, h2, _, rfl, by simp, _, h2, _, rfl, k _ rfl⟩
  subst h
  refine seq_join (fun σ => ∃ s6 : Sl, σ = [.val false (.int (n)), .val false (.list (L.map eL)), .val false (.int (v)), .val false (.int (a)), s4, .own false ((x :: coll L a n x.s).map eStp), s6]) (fun K k => ?_) (fun σ h => ?_)
  · refine ⟨fun m σ => ∃ (acc : List Stp) (b u : Nat), b = itr L u a ∧ acc.length + m ≤ n + 1 ∧ acc ++ coll L a m b = x :: coll L a n x.s ∧ (∃ t, t ≤ m ∧ itr L t b = a) ∧ σ = [.val false (.int (n)), .val false (.list (L.map eL)), .val false (.int (v)), .val false (.int (a)), s4, .own false (acc.map eStp), .val false (.int (b))], ⟨n, [x], x.s, 1, ?_, by simp; omega, rfl, reach, rfl⟩, ?_⟩
    · show x.s = prd L a
      unfold prd
      rw [h1]
    · rintro m σ ⟨acc, b, u, hu, hm, hacc, ⟨t, t1, t2⟩, rfl⟩
      refine br.nd (fun hc => ?_) (fun hc => ?_)
      · have hc' : b ≠ a := fun z => hc (by rw [z])
        have ht : 1 ≤ t := by
          cases t with
          | zero => exact absurd t2 hc'
          | succ t => omega
        obtain ⟨c1, y, c2⟩ := b3 u
        rw [← hu] at c1 c2
        have hat : L2.atI (L.map eL) (b : Int) = some (.tuple [eStp y, .int (y.s : Int)]) := by
          have := at_map (en := eL) (i := b) (xs := L) (by omega)
          rw [gD (by omega)] at c2
          rw [c2] at this
          exact this
        have hp : prd L b = y.s := by
          unfold prd
          rw [c2]
        obtain ⟨m', rfl⟩ : ∃ m', m = m' + 1 := ⟨m - 1, by omega⟩
        have hco : coll L a (m' + 1) b = y :: coll L a m' y.s := by
          conv => lhs; unfold coll
          rw [if_neg hc', c2]
        refine ⟨fun σ => ∃ (acc : List Stp) (b u : Nat), b = itr L u a ∧ acc.length + m' ≤ n + 1 ∧ acc ++ coll L a m' b = x :: coll L a n x.s ∧ (∃ t, t ≤ m' ∧ itr L t b = a) ∧ σ = [.val false (.int (n)), .val false (.list (L.map eL)), .val false (.int (v)), .val false (.int (a)), s4, .own false (acc.map eStp), .val false (.int (b))], fun σ' h => ⟨m', by omega, h⟩, ?_⟩
        refine ⟨_, hat, _, rfl, szlt (by rw [List.length_map]; omega), _, hat, _, rfl, acc ++ [y], y.s, u + 1, ?_, by rw [List.length_append, List.length_singleton]; omega, by rw [List.append_assoc, ← hacc, hco]; rfl, ⟨t - 1, by omega, ?_⟩, ?_⟩
        · rw [itr_succ, ← hu, hp]
        · have e : t = (t - 1) + 1 := by omega
          rw [e] at t2
          have t2 : itr L (t - 1) (prd L b) = a := t2
          rw [hp] at t2
          exact t2
        · rw [List.map_append]
          rfl
      · have hc' : b = a := by omega
        have e0 : coll L a m b = [] := by
          cases m with
          | zero => rfl
          | succ m =>
            unfold coll
            rw [if_pos hc']
        rw [e0, List.append_nil] at hacc
        rw [← hacc] at k
        exact k _ ⟨_, rfl⟩
  obtain ⟨s6, rfl⟩ := h
  have := q
  rw [List.map_reverse] at this
  refine ⟨fun y hy => ?_, this⟩
  obtain ⟨z, _, rfl⟩ := List.mem_map.mp (List.mem_reverse.mp hy)
  exact nl_eS _ _
end RD

set_option Elab.async false
set_option linter.all false
set_option maxRecDepth 100000
set_option maxHeartbeats 2000000
/-! MS3: the solver: what relaxing leaves. -/
namespace RD
open PySem DL
open En (en)
theorem nodup_le : ∀ (n : Nat) (l : List Nat), l.Nodup → (∀ x ∈ l, x < n) → l.length ≤ n
  | 0, [], _, _ => Nat.le_refl _
  | 0, x :: _, _, h => absurd (h x List.mem_cons_self) (Nat.not_lt_zero x)
  | n + 1, l, hd, h => by
    have ih := nodup_le n (l.erase n) (hd.erase n) (fun x hx => by
      have h1 := h x (List.mem_of_mem_erase hx)
      have h2 : x ≠ n := (List.Nodup.mem_erase_iff hd).mp hx |>.1
      omega)
    by_cases hm : n ∈ l
    · rw [List.length_erase_of_mem hm] at ih
      omega
    · rw [List.erase_of_not_mem hm] at ih
      omega
theorem pigeon {n : Nat} {f : Nat → Nat} (h : ∀ j, j ≤ n → f j < n) : ∃ i j, i < j ∧ j ≤ n ∧ f i = f j := by
  refine Classical.byContradiction fun hn => ?_
  have hd : ((List.range (n + 1)).map f).Nodup := by
    refine List.pairwise_iff_getElem.mpr fun i j hi hj hij e => ?_
    simp only [List.getElem_map, List.getElem_range] at e
    rw [List.length_map, List.length_range] at hj
    exact hn ⟨i, j, hij, by omega, e⟩
  have := nodup_le n _ hd (fun x hx => by
    obtain ⟨j, hj, rfl⟩ := List.mem_map.mp hx
    exact h j (by have := List.mem_range.mp hj; omega))
  rw [List.length_map, List.length_range] at this
  omega
/-- a step holds -/
def sat (S : List (Option Int)) (x : Stp) : Prop := ∀ a b, S.getD x.e none = some a → S.getD x.s none = some b → a ≤ b + x.c
/-- the state within a round: r its number, i steps done; T when a string was last moved, τ now; R in which round -/
structure Gs (n : Nat) (xs : List Stp) (st : RS) (r i τ : Nat) (T R : Nat → Nat) : Prop where
  lenS : st.S.length = n
  lenL : st.L.length = n
  all : ∀ v, v < n → ∃ z, st.S.getD v none = some z
  src : ∀ v, v < n → ∀ x, st.L.getD v none = some x → x ∈ xs ∧ x.e = v
  pot : ∀ v, v < n → ∀ x, st.L.getD v none = some x → ∀ a b, st.S.getD v none = some a → st.S.getD x.s none = some b → b + x.c < a ∨ (b + x.c = a ∧ T x.s < T v)
  tm : ∀ v, T v < τ
  rd : ∀ v, R v ≤ r
  lr : ∀ v, v < n → 1 ≤ R v → ∃ x, st.L.getD v none = some x
  rs : ∀ v, v < n → ∀ x, st.L.getD v none = some x → R v ≤ R x.s + 1
  old : ∀ x ∈ xs, R x.s + 1 < r → sat st.S x
  now : ∀ x ∈ xs.take i, R x.s < r → sat st.S x
  chY : ∀ v, st.ch = some v → v < n ∧ R v = r
  chN : st.ch = none → ∀ x ∈ xs.take i, sat st.S x
theorem set_gd {α : Type} {l : List α} {i j : Nat} {a d : α} (hi : i < l.length) : (l.set i a).getD j d = if j = i then a else l.getD j d := by
  unfold List.getD
  rw [List.getElem?_set]
  by_cases h : i = j
  · subst h
    rw [if_pos rfl, if_pos hi, if_pos rfl]
    rfl
  · rw [if_neg h, if_neg (fun z => h z.symm)]
theorem Gs.step {n : Nat} {xs : List Stp} {st : RS} {r i τ : Nat} {T R : Nat → Nat} (g : Gs n xs st r i τ T R) (hb : InB n xs) (hr : 1 ≤ r) (hi : i < xs.length) : ∃ τ' T' R', Gs n xs (rel1 st xs[i]) r (i + 1) τ' T' R' := by
  have hx := List.getElem_mem hi
  obtain ⟨b1, b2⟩ := hb _ hx
  have ht : xs.take (i + 1) = xs.take i ++ [xs[i]] := List.take_succ_eq_append_getElem hi
  generalize xs[i] = x at *
  obtain ⟨v, hv⟩ := g.all x.s b1
  obtain ⟨w, hw⟩ := g.all x.e b2
  by_cases hc : v + x.c < w
  · have hu : rel1 st x = ⟨st.S.set x.e (some (v + x.c)), st.L.set x.e (some x), some x.e⟩ := by
      unfold rel1
      rw [hv]
      simp only
      rw [hw]
      exact if_pos hc
    have hRs : r ≤ R x.s + 1 := by
      refine Nat.le_of_not_lt fun z => ?_
      have := g.old x hx z w v hw hv
      omega
    rw [hu]
    have gS : ∀ j, (st.S.set x.e (some (v + x.c))).getD j none = if j = x.e then some (v + x.c) else st.S.getD j none := fun j => set_gd (by rw [g.lenS]; exact b2)
    have gL : ∀ j, (st.L.set x.e (some x)).getD j none = if j = x.e then some x else st.L.getD j none := fun j => set_gd (by rw [g.lenL]; exact b2)
    have down : ∀ j a b, (st.S.set x.e (some (v + x.c))).getD j none = some a → st.S.getD j none = some b → a ≤ b := fun j a b h1 h2 => by
      rw [gS] at h1
      by_cases hj : j = x.e
      · rw [if_pos hj] at h1
        cases h1
        rw [hj, hw] at h2
        cases h2
        omega
      · rw [if_neg hj, h2] at h1
        cases h1
        exact Int.le_refl _
    have keep : ∀ y, y.s ≠ x.e → y.e < n → sat st.S y → sat (st.S.set x.e (some (v + x.c))) y := fun y hy he hs a b h1 h2 => by
      rw [gS, if_neg hy] at h2
      obtain ⟨a', ha'⟩ := g.all y.e he
      have := down y.e a a' h1 ha'
      have := hs a' b ha' h2
      omega
    refine ⟨τ + 1, (fun j => if j = x.e then τ else T j), (fun j => if j = x.e then r else R j), ?_⟩
    constructor
    · exact List.length_set.trans g.lenS
    · exact List.length_set.trans g.lenL
    · intro j hj
      rw [gS]
      by_cases h : j = x.e
      · exact ⟨_, if_pos h⟩
      · rw [if_neg h]
        exact g.all j hj
    · intro j hj y hy
      rw [gL] at hy
      by_cases h : j = x.e
      · rw [if_pos h] at hy
        cases hy
        exact ⟨hx, h.symm⟩
      · rw [if_neg h] at hy
        exact g.src j hj y hy
    · intro j hj y hy a b ha hbb
      rw [gL] at hy
      rw [gS] at ha
      by_cases h : j = x.e
      · rw [if_pos h] at hy ha
        cases hy
        cases ha
        by_cases h2 : x.s = x.e
        · have e : (st.S.set x.e (some (v + x.c))).getD x.s none = some (v + x.c) := by rw [gS, if_pos h2]
          have hbb : (st.S.set x.e (some (v + x.c))).getD x.s none = some b := hbb
          rw [e] at hbb
          cases hbb
          have : v = w := by
            rw [← h2, hv] at hw
            exact Option.some.inj hw
          left
          omega
        · have e : (st.S.set x.e (some (v + x.c))).getD x.s none = some v := by rw [gS, if_neg h2, hv]
          have hbb : (st.S.set x.e (some (v + x.c))).getD x.s none = some b := hbb
          rw [e] at hbb
          cases hbb
          right
          refine ⟨rfl, ?_⟩
          show (if x.s = x.e then τ else T x.s) < (if j = x.e then τ else T j)
          rw [if_neg h2, if_pos h]
          exact g.tm _
      · rw [if_neg h] at hy ha
        have hbb : (st.S.set x.e (some (v + x.c))).getD y.s none = some b := hbb
        by_cases h2 : y.s = x.e
        · rw [gS, if_pos h2] at hbb
          cases hbb
          have := g.pot j hj y hy a w ha (by rw [h2]; exact hw)
          left
          omega
        · rw [gS, if_neg h2] at hbb
          rcases g.pot j hj y hy a b ha hbb with z | ⟨z1, z2⟩
          · exact .inl z
          · right
            refine ⟨z1, ?_⟩
            show (if y.s = x.e then τ else T y.s) < (if j = x.e then τ else T j)
            rw [if_neg h2, if_neg h]
            exact z2
    · intro j
      show (if j = x.e then τ else T j) < τ + 1
      by_cases h : j = x.e
      · rw [if_pos h]
        omega
      · rw [if_neg h]
        have := g.tm j
        omega
    · intro j
      show (if j = x.e then r else R j) ≤ r
      by_cases h : j = x.e
      · rw [if_pos h]
        exact Nat.le_refl _
      · rw [if_neg h]
        exact g.rd j
    · intro j hj h1
      rw [gL]
      by_cases h : j = x.e
      · exact ⟨x, if_pos h⟩
      · rw [if_neg h]
        have h1 : 1 ≤ (if j = x.e then r else R j) := h1
        rw [if_neg h] at h1
        exact g.lr j hj h1
    · intro j hj y hy
      rw [gL] at hy
      show (if j = x.e then r else R j) ≤ (if y.s = x.e then r else R y.s) + 1
      have m : R y.s ≤ (if y.s = x.e then r else R y.s) := by
        by_cases h2 : y.s = x.e
        · rw [if_pos h2]
          exact g.rd _
        · rw [if_neg h2]
          exact Nat.le_refl _
      by_cases h : j = x.e
      · rw [if_pos h] at hy ⊢
        cases hy
        omega
      · rw [if_neg h] at hy ⊢
        have := g.rs j hj y hy
        omega
    · intro y hy h1
      have h1 : (if y.s = x.e then r else R y.s) + 1 < r := h1
      have h2 : y.s ≠ x.e := fun z => by
        rw [if_pos z] at h1
        omega
      rw [if_neg h2] at h1
      exact keep y h2 (hb y hy).2 (g.old y hy h1)
    · intro y hy h1
      have h1 : (if y.s = x.e then r else R y.s) < r := h1
      have h2 : y.s ≠ x.e := fun z => by
        rw [if_pos z] at h1
        omega
      rw [if_neg h2] at h1
      rw [ht] at hy
      rcases List.mem_append.mp hy with z | z
      · exact keep y h2 (hb y (List.mem_of_mem_take z)).2 (g.now y z h1)
      · have e : y = x := List.mem_singleton.mp z
        subst e
        intro a b ha hbb
        rw [gS, if_pos rfl] at ha
        rw [gS, if_neg h2, hv] at hbb
        cases ha
        cases hbb
        exact Int.le_refl _
    · intro v' hv'
      cases hv'
      exact ⟨b2, if_pos rfl⟩
    · intro h
      cases h
  · have hu : rel1 st x = st := by
      unfold rel1
      rw [hv]
      simp only
      rw [hw]
      exact if_neg hc
    rw [hu]
    have hs : sat st.S x := fun a b ha hbb => by
      rw [hw] at ha
      rw [hv] at hbb
      cases ha
      cases hbb
      omega
    refine ⟨τ, T, R, g.lenS, g.lenL, g.all, g.src, g.pot, g.tm, g.rd, g.lr, g.rs, g.old, fun y hy h1 => ?_, g.chY, fun hn y hy => ?_⟩
    · rw [ht] at hy
      rcases List.mem_append.mp hy with z | z
      · exact g.now y z h1
      · rw [List.mem_singleton.mp z]
        exact hs
    · rw [ht] at hy
      rcases List.mem_append.mp hy with z | z
      · exact g.chN hn y z
      · rw [List.mem_singleton.mp z]
        exact hs
theorem Gs.steps {n : Nat} {xs : List Stp} {r : Nat} (hb : InB n xs) (hr : 1 ≤ r) : ∀ (i : Nat) (st : RS) (τ : Nat) (T R : Nat → Nat), i ≤ xs.length → Gs n xs st r 0 τ T R → ∃ τ' T' R', Gs n xs ((xs.take i).foldl rel1 st) r i τ' T' R'
  | 0, st, τ, T, R, _, g => ⟨τ, T, R, g⟩
  | i + 1, st, τ, T, R, hi, g => by
    obtain ⟨τ1, T1, R1, g1⟩ := Gs.steps hb hr i st τ T R (by omega) g
    obtain ⟨τ2, T2, R2, g2⟩ := g1.step hb hr (by omega)
    exact ⟨τ2, T2, R2, by rw [gd_take _ _ (by omega)]; exact g2⟩
theorem Gs.once {n : Nat} {xs : List Stp} {st : RS} {r τ : Nat} {T R : Nat → Nat} (hb : InB n xs) (hr : 1 ≤ r) (g : Gs n xs ⟨st.S, st.L, none⟩ r 0 τ T R) : ∃ τ' T' R', Gs n xs (relOnce xs st.S st.L) r xs.length τ' T' R' := by
  obtain ⟨τ', T', R', g'⟩ := Gs.steps hb hr xs.length _ τ T R (Nat.le_refl _) g
  rw [List.take_length] at g'
  exact ⟨τ', T', R', g'⟩
theorem Gs.next {n : Nat} {xs : List Stp} {st : RS} {r τ : Nat} {T R : Nat → Nat} (g : Gs n xs st r xs.length τ T R) : Gs n xs ⟨st.S, st.L, none⟩ (r + 1) 0 τ T R :=
  ⟨g.lenS, g.lenL, g.all, g.src, g.pot, g.tm, fun v => Nat.le_succ_of_le (g.rd v), g.lr, g.rs, fun x hx h => g.now x (by rw [List.take_length]; exact hx) (by omega), (fun x hx => by simp at hx), (fun v h => nomatch h), (fun _ x hx => by simp at hx)⟩
/-- after f rounds more: either all hold, or a string was moved in the last round -/
theorem relaxR_ok {n : Nat} {xs : List Stp} (hb : InB n xs) : ∀ (f : Nat) (st : RS) (r τ : Nat) (T R : Nat → Nat), 1 ≤ r → Gs n xs ⟨st.S, st.L, none⟩ r 0 τ T R → 1 ≤ f →
    ((relaxR xs f st).ch = none → ∀ x ∈ xs, sat (relaxR xs f st).S x) ∧ (relaxR xs f st).S.length = n ∧ (∀ v, v < n → ∃ z, (relaxR xs f st).S.getD v none = some z) ∧ ∀ v, (relaxR xs f st).ch = some v → ∃ τ' T' R', Gs n xs (relaxR xs f st) (r + f - 1) xs.length τ' T' R' ∧ v < n ∧ R' v = r + f - 1
  | 0, st, r, τ, T, R, _, _, hf => absurd hf (by omega)
  | f + 1, st, r, τ, T, R, hr, g, _ => by
    obtain ⟨τ1, T1, R1, g1⟩ := g.once hb hr
    unfold relaxR
    cases hc : (relOnce xs st.S st.L).ch with
    | none =>
      simp only
      refine ⟨fun _ x hx => g1.chN hc x (by rw [List.take_length]; exact hx), g1.lenS, g1.all, fun v hv => ?_⟩
      rw [hc] at hv
      cases hv
    | some z =>
      simp only
      cases f with
      | zero =>
        have e : relaxR xs 0 (relOnce xs st.S st.L) = relOnce xs st.S st.L := rfl
        rw [e]
        refine ⟨fun h => ?_, g1.lenS, g1.all, fun v hv => ?_⟩
        · rw [hc] at h
          cases h
        · obtain ⟨a1, a2⟩ := g1.chY v hv
          exact ⟨τ1, T1, R1, by simpa using g1, a1, by simpa using a2⟩
      | succ f =>
        have := relaxR_ok hb (f + 1) (relOnce xs st.S st.L) (r + 1) τ1 T1 R1 (by omega) g1.next (by omega)
        have e : r + 1 + (f + 1) - 1 = r + (f + 1 + 1) - 1 := by omega
        rw [e] at this
        exact this
theorem Gs.start (n : Nat) (xs : List Stp) : Gs n xs ⟨List.replicate n (some 0), List.replicate n none, none⟩ 1 0 1 (fun _ => 0) (fun _ => 0) := by
  have gl : ∀ v, (List.replicate n (none : Option Stp)).getD v none = none := fun v => by
    unfold List.getD
    rw [List.getElem?_replicate]
    split <;> rfl
  refine ⟨List.length_replicate, List.length_replicate, fun v hv => ⟨0, ?_⟩, fun v _ x h => ?_, fun v _ x h => ?_, fun _ => Nat.one_pos, fun _ => Nat.zero_le _, fun v _ h => absurd h (by omega), fun v _ x h => ?_, fun x _ h => absurd h (by omega), (fun x h => by simp at h), (fun v h => nomatch h), (fun _ x h => by simp at h)⟩
  · unfold List.getD
    rw [List.getElem?_replicate, if_pos hv]
    rfl
  · rw [gl] at h
    cases h
  · rw [gl] at h
    cases h
  · rw [gl] at h
    cases h
/-! walks -/
def walkP : Nat → List Stp → Nat → Prop
  | u, [], v => u = v
  | u, x :: xs, v => x.s = u ∧ walkP x.e xs v
theorem walkP_app : ∀ {xs ys : List Stp} {u v w : Nat}, walkP u xs v → walkP v ys w → walkP u (xs ++ ys) w
  | [], ys, u, v, w, h, k => by
    have h : u = v := h
    subst h
    exact k
  | x :: xs, ys, u, v, w, h, k => ⟨h.1, walkP_app h.2 k⟩
def chainP (L : List (Option Stp)) : Nat → List Stp → Nat → Prop
  | v, [], u => v = u
  | v, x :: xs, u => L.getD v none = some x ∧ chainP L x.s xs u
def csum (xs : List Stp) : Int := (xs.map (·.c)).sum
theorem csum_cons (x : Stp) (xs : List Stp) : csum (x :: xs) = x.c + csum xs := by
  unfold csum
  rw [List.map_cons, List.sum_cons]
theorem csum_rev (xs : List Stp) : csum xs.reverse = csum xs := by
  unfold csum
  rw [List.map_reverse, List.sum_reverse]
theorem chain_walk {n : Nat} {xs : List Stp} {st : RS} {r i τ : Nat} {T R : Nat → Nat} (g : Gs n xs st r i τ T R) (hb : InB n xs) : ∀ {ys : List Stp} {v u : Nat}, v < n → chainP st.L v ys u → walkP u ys.reverse v ∧ (∀ y ∈ ys, y ∈ xs) ∧ u < n ∧ ∀ a b, st.S.getD v none = some a → st.S.getD u none = some b → b + csum ys < a ∨ (b + csum ys = a ∧ (ys = [] ∨ T u < T v))
  | [], v, u, hv, h => by
    have h : v = u := h
    subst h
    refine ⟨rfl, (fun y h => nomatch h), hv, fun a b ha hbb => ?_⟩
    rw [ha] at hbb
    cases hbb
    right
    exact ⟨by simp [csum], .inl rfl⟩
  | y :: ys, v, u, hv, ⟨h1, h2⟩ => by
    obtain ⟨m1, m2⟩ := g.src v hv y h1
    obtain ⟨k1, k2⟩ := hb y m1
    obtain ⟨w1, w2, w3, w4⟩ := chain_walk g hb k1 h2
    refine ⟨?_, fun z hz => ?_, w3, fun a b ha hbb => ?_⟩
    · rw [List.reverse_cons]
      exact walkP_app w1 ⟨rfl, m2⟩
    · rcases List.mem_cons.mp hz with e | e
      · rw [e]
        exact m1
      · exact w2 z e
    · obtain ⟨c, hc⟩ := g.all y.s k1
      rw [csum_cons]
      rcases g.pot v hv y h1 a c ha hc with p | ⟨p1, p2⟩
      · rcases w4 c b hc hbb with q | ⟨q1, q2⟩
        · left
          omega
        · left
          omega
      · rcases w4 c b hc hbb with q | ⟨q1, q2⟩
        · left
          omega
        · right
          refine ⟨by omega, .inr ?_⟩
          rcases q2 with q2 | q2
          · subst q2
            have h2 : y.s = u := h2
            rw [← h2]
            exact p2
          · omega
theorem coll_chain {L : List (Option Stp)} {a : Nat} : ∀ (f b t : Nat), t ≤ f → itr L t b = a → (∀ t, ∃ x, L.getD (itr L t b) none = some x) → chainP L b (coll L a f b) a
  | 0, b, t, ht, h, _ => by
    have : t = 0 := by omega
    subst this
    exact h
  | f + 1, b, t, ht, h, hall => by
    unfold coll
    by_cases hb : b = a
    · rw [if_pos hb]
      exact hb
    · rw [if_neg hb]
      obtain ⟨x, hx⟩ := hall 0
      have hx : L.getD b none = some x := hx
      rw [hx]
      have hp : prd L b = x.s := by
        unfold prd
        rw [hx]
      refine ⟨hx, ?_⟩
      cases t with
      | zero => exact absurd h hb
      | succ t =>
        have h : itr L t (prd L b) = a := h
        rw [hp] at h
        refine coll_chain f x.s t (by omega) h fun t' => ?_
        have := hall (t' + 1)
        have e : itr L (t' + 1) b = itr L t' x.s := by
          show itr L t' (prd L b) = _
          rw [hp]
        rw [e] at this
        exact this
/-- going back from a string that was moved in the last of n + 1 rounds -/
theorem Gs.back {n : Nat} {xs : List Stp} {st : RS} {τ : Nat} {T R : Nat → Nat} (g : Gs n xs st (n + 1) xs.length τ T R) (hb : InB n xs) {v : Nat} (hv : v < n) (hR : R v = n + 1) : Back n st.L v := by
  have lo : ∀ t, t ≤ n → itr st.L t v < n ∧ n + 1 ≤ R (itr st.L t v) + t := by
    intro t
    induction t with
    | zero =>
      intro _
      refine ⟨hv, ?_⟩
      show n + 1 ≤ R v + 0
      omega
    | succ t ih =>
      intro ht
      obtain ⟨i1, i2⟩ := ih (by omega)
      obtain ⟨x, hx⟩ := g.lr _ i1 (by omega)
      have e : itr st.L (t + 1) v = x.s := by
        rw [itr_succ]
        unfold prd
        rw [hx]
      have := g.rs _ i1 x hx
      have := hb x (g.src _ i1 x hx).1
      rw [e]
      exact ⟨this.1, by omega⟩
  obtain ⟨i, j, hij, hj, e⟩ := pigeon (n := n) (f := fun t => itr st.L t v) (fun t ht => (lo t ht).1)
  have e : itr st.L i v = itr st.L j v := e
  have cyc : ∀ t, ∃ k, k ≤ n ∧ itr st.L t v = itr st.L k v := by
    intro t
    induction t with
    | zero => exact ⟨0, Nat.zero_le _, rfl⟩
    | succ t ih =>
      obtain ⟨k, hk, ek⟩ := ih
      by_cases hkn : k < n
      · exact ⟨k + 1, hkn, by rw [itr_succ, itr_succ, ek]⟩
      · have : k = n := by omega
        subst this
        refine ⟨k + 1 - j + i, by omega, ?_⟩
        have e1 : itr st.L (t + 1) v = itr st.L (k + 1) v := by rw [itr_succ, itr_succ, ek]
        have e2 : k + 1 = (k + 1 - j) + j := by omega
        rw [e1]
        conv => lhs; rw [e2]
        rw [itr_add, itr_add, e]
  refine ⟨g.lenL, fun t => ?_, j - i, by omega, by omega, ?_⟩
  · obtain ⟨k, hk, ek⟩ := cyc t
    obtain ⟨l1, l2⟩ := lo k hk
    rw [ek]
    exact ⟨l1, g.lr _ l1 (by omega)⟩
  · have e1 : n = (n - i) + i := by omega
    have e2 : (j - i) + ((n - i) + i) = (n - i) + j := by omega
    conv => lhs; rw [e1]
    rw [← itr_add, e2, itr_add, ← e, ← itr_add, ← e1]
structure ShortRing (xs ring : List Stp) : Prop where
  ne : ring ≠ []
  mem : ∀ x ∈ ring, x ∈ xs
  walk : ∃ s, walkP s ring s
  neg : csum ring < 0
theorem ring_short {n : Nat} {xs : List Stp} {st : RS} {τ : Nat} {T R : Nat → Nat} (g : Gs n xs st (n + 1) xs.length τ T R) (hb : InB n xs) {v : Nat} (b : Back n st.L v) : ShortRing xs (ringF n st.L v) := by
  obtain ⟨_, b2, p, p1, p2, p3⟩ := b
  obtain ⟨h0, x, hx⟩ := b2 n
  have eq : ringF n st.L v = (x :: coll st.L (itr st.L n v) n x.s).reverse := by
    unfold ringF
    rw [hx]
  have b3 : ∀ t, ∃ y, st.L.getD (itr st.L t (itr st.L n v)) none = some y := fun t => by
    have := b2 (t + n)
    rw [itr_add] at this
    exact this.2
  have hp : prd st.L (itr st.L n v) = x.s := by
    unfold prd
    rw [hx]
  have ch : chainP st.L (itr st.L n v) (x :: coll st.L (itr st.L n v) n x.s) (itr st.L n v) := by
    refine ⟨hx, coll_chain n x.s (p - 1) (by omega) ?_ fun t => ?_⟩
    · have e : p = (p - 1) + 1 := by omega
      rw [e] at p3
      have p3 : itr st.L (p - 1) (prd st.L (itr st.L n v)) = itr st.L n v := p3
      rw [hp] at p3
      exact p3
    · have := b3 (t + 1)
      have e : itr st.L (t + 1) (itr st.L n v) = itr st.L t x.s := by
        show itr st.L t (prd st.L (itr st.L n v)) = _
        rw [hp]
      rw [e] at this
      exact this
  obtain ⟨w1, w2, w3, w4⟩ := chain_walk g hb h0 ch
  rw [eq]
  refine ⟨by simp, fun y hy => w2 y (List.mem_reverse.mp hy), ⟨_, w1⟩, ?_⟩
  rw [csum_rev]
  obtain ⟨a, ha⟩ := g.all _ h0
  rcases w4 a a ha ha with z | ⟨z1, z2⟩
  · omega
  · rcases z2 with z2 | z2
    · cases z2
    · omega
end RD

set_option Elab.async false
set_option linter.all false
set_option maxRecDepth 100000
set_option maxHeartbeats 2000000
/-! MS4: the solver. -/
namespace RD
open PySem DL
open En (en)
theorem mem_steps {dms : List Dm} {x : Stp} : x ∈ stepsOf dms ↔ ∃ (k : Nat) (h : k < dms.length) (m : Bool) (b : Int), bnd dms[k] m = some b ∧ x = mkS k dms[k] m b := by
  have one : ∀ (k : Nat) (d : Dm) (m : Bool), x ∈ stp1 k d m ↔ ∃ b, bnd d m = some b ∧ x = mkS k d m b := fun k d m => by
    unfold stp1
    cases h : bnd d m with
    | none => simp
    | some b =>
      simp
  unfold stepsOf stepsN
  rw [List.mem_flatMap]
  constructor
  · rintro ⟨k, hk, hx⟩
    have hk' := List.mem_range.mp hk
    rw [gD hk', List.mem_append, one, one] at hx
    rcases hx with ⟨b, h1, h2⟩ | ⟨b, h1, h2⟩
    · exact ⟨k, hk', true, b, h1, h2⟩
    · exact ⟨k, hk', false, b, h1, h2⟩
  · rintro ⟨k, hk, m, b, h1, h2⟩
    refine ⟨k, List.mem_range.mpr hk, ?_⟩
    rw [gD hk, List.mem_append, one, one]
    cases m with
    | true => exact .inl ⟨b, h1, h2⟩
    | false => exact .inr ⟨b, h1, h2⟩
theorem steps_in {n : Nat} {dms : List Dm} (h : Ok n dms) : InB n (stepsOf dms) := fun x hx => by
  obtain ⟨k, hk, m, b, h1, rfl⟩ := mem_steps.mp hx
  obtain ⟨o1, o2⟩ := h dms[k] (List.getElem_mem hk)
  cases m with
  | true => exact ⟨o1, o2⟩
  | false => exact ⟨o2, o1⟩
/-- a tuning meets the demands: no step is broken -/
theorem mt_iff {t : List Int} {dms : List Dm} : dms.all (mt t) = true ↔ ∀ x ∈ stepsOf dms, t.getD x.e 0 ≤ t.getD x.s 0 + x.c := by
  rw [List.all_eq_true]
  have wiI : ∀ (x : Int) (lo hi : Option Int), wi x lo hi = true ↔ (∀ l, lo = some l → l ≤ x) ∧ (∀ h, hi = some h → x ≤ h) := fun x lo hi => by
    unfold wi
    cases lo <;> cases hi <;> simp
  constructor
  · intro h x hx
    obtain ⟨k, hk, m, b, h1, rfl⟩ := mem_steps.mp hx
    have := h dms[k] (List.getElem_mem hk)
    unfold mt at this
    rw [wiI] at this
    cases m with
    | true =>
      have := this.2 b h1
      show t.getD dms[k].hg 0 ≤ t.getD dms[k].lw 0 + b
      omega
    | false =>
      have := this.1 b h1
      show t.getD dms[k].lw 0 ≤ t.getD dms[k].hg 0 + -b
      omega
  · intro h d hd
    obtain ⟨k, hk, rfl⟩ := List.mem_iff_getElem.mp hd
    unfold mt
    rw [wiI]
    refine ⟨fun l hl => ?_, fun u hu => ?_⟩
    · have := h _ (mem_steps.mpr ⟨k, hk, false, l, hl, rfl⟩)
      have : t.getD dms[k].lw 0 ≤ t.getD dms[k].hg 0 + -l := this
      omega
    · have := h _ (mem_steps.mpr ⟨k, hk, true, u, hu, rfl⟩)
      have : t.getD dms[k].hg 0 ≤ t.getD dms[k].lw 0 + u := this
      omega
theorem walk_le {t : List Int} {xs : List Stp} (h : ∀ x ∈ xs, t.getD x.e 0 ≤ t.getD x.s 0 + x.c) : ∀ {ys : List Stp} {u v : Nat}, (∀ y ∈ ys, y ∈ xs) → walkP u ys v → t.getD v 0 ≤ t.getD u 0 + csum ys
  | [], u, v, _, w => by
    have w : u = v := w
    subst w
    simp [csum]
  | y :: ys, u, v, hm, w => by
    obtain ⟨w1, w2⟩ := w
    have a := h y (hm y List.mem_cons_self)
    have b := walk_le h (fun z hz => hm z (List.mem_cons_of_mem _ hz)) w2
    rw [csum_cons, ← w1]
    omega
/-- a short ring: no tuning -/
theorem short_none {dms : List Dm} {ring : List Stp} (h : ShortRing (stepsOf dms) ring) (t : List Int) : dms.all (mt t) = false := by
  cases e : dms.all (mt t) with
  | false => rfl
  | true =>
    obtain ⟨s, w⟩ := h.walk
    have := walk_le (mt_iff.mp e) h.mem w
    have := h.neg
    omega
/-! what solve gives -/
def sR (n : Nat) (dms : List Dm) : RS := relaxR (stepsOf dms) (n + 1) ⟨List.replicate n (some 0), List.replicate n none, none⟩
inductive Sol where
  | tun (t : List Int)
  | ring (r : List Stp)
def sol (n : Nat) (dms : List Dm) : Sol := match (sR n dms).ch with
  | none => .tun ((sR n dms).S.map fun o => o.getD 0)
  | some v => .ring (ringF n (sR n dms).L v)
def eSol (s : Sol) : PyData := match s with
  | .tun t => .tuple [.str (PySem.Str.ofString "tuning"), eI t]
  | .ring r => .tuple [.str (PySem.Str.ofString "ring"), .list (r.map eStp)]
def SolOk (n : Nat) (dms : List Dm) (s : Sol) : Prop := match s with
  | .tun t => t.length = n ∧ dms.all (mt t) = true
  | .ring r => ShortRing (stepsOf dms) r ∧ r.length ≤ n + 1
theorem sR_ok {n : Nat} {dms : List Dm} (h : Ok n dms) : ((sR n dms).ch = none → ∀ x ∈ stepsOf dms, sat (sR n dms).S x) ∧ (sR n dms).S.length = n ∧ (∀ v, v < n → ∃ z, (sR n dms).S.getD v none = some z) ∧ ∀ v, (sR n dms).ch = some v → ∃ τ' T' R', Gs n (stepsOf dms) (sR n dms) (1 + (n + 1) - 1) (stepsOf dms).length τ' T' R' ∧ v < n ∧ R' v = 1 + (n + 1) - 1 := relaxR_ok (steps_in h) (n + 1) ⟨List.replicate n (some 0), List.replicate n none, none⟩ 1 1 (fun _ => 0) (fun _ => 0) (Nat.le_refl _) (Gs.start n (stepsOf dms)) (by omega)
theorem sR_back {n : Nat} {dms : List Dm} (h : Ok n dms) {v : Nat} (hv : (sR n dms).ch = some v) : Back n (sR n dms).L v ∧ ShortRing (stepsOf dms) (ringF n (sR n dms).L v) ∧ v < n := by
  obtain ⟨_, _, _, h4⟩ := sR_ok h
  obtain ⟨τ, T, R, g, hvn, hR⟩ := h4 v hv
  have e : 1 + (n + 1) - 1 = n + 1 := by omega
  rw [e] at g hR
  have b := g.back (steps_in h) hvn hR
  exact ⟨b, ring_short g (steps_in h) b, hvn⟩
theorem sR_tun {n : Nat} {dms : List Dm} (h : Ok n dms) : (sR n dms).S.map (en (α := Option Int)) = ((sR n dms).S.map fun o => o.getD 0).map PyData.int := by
  obtain ⟨_, h2, h3, _⟩ := sR_ok h
  rw [List.map_map]
  refine List.map_congr_left fun o ho => ?_
  obtain ⟨i, hi, rfl⟩ := List.mem_iff_getElem.mp ho
  obtain ⟨z, hz⟩ := h3 i (by
    have h2 : (sR n dms).S.length = n := h2
    omega)
  have hz : (sR n dms).S.getD i none = some z := hz
  rw [gD hi] at hz
  rw [hz]
  rfl
theorem sol_ok {n : Nat} {dms : List Dm} (h : Ok n dms) : SolOk n dms (sol n dms) := by
  obtain ⟨h1, h2, h3, h4⟩ := sR_ok h
  unfold sol
  cases hc : (sR n dms).ch with
  | none =>
    refine ⟨by rw [List.length_map]; exact h2, ?_⟩
    rw [mt_iff]
    intro x hx
    obtain ⟨b1, b2⟩ := steps_in h x hx
    have s := h1 hc x hx
    obtain ⟨a, ha⟩ := h3 x.e b2
    obtain ⟨b, hb⟩ := h3 x.s b1
    have hs := s a b ha hb
    have gd : ∀ v z, v < n → (sR n dms).S.getD v none = some z → ((sR n dms).S.map fun o => o.getD 0).getD v 0 = z := fun v z hv hz => by
      have hl : v < (sR n dms).S.length := by
        have h2 : (sR n dms).S.length = n := h2
        omega
      rw [gD (by rw [List.length_map]; exact hl), List.getElem_map]
      rw [gD hl] at hz
      rw [hz]
      rfl
    rw [gd x.e a b2 ha, gd x.s b b1 hb]
    exact hs
  | some v =>
    obtain ⟨b, r, _⟩ := sR_back h hc
    refine ⟨r, ?_⟩
    unfold ringF
    split
    · rw [List.length_reverse, List.length_cons]
      exact Nat.succ_le_succ (coll_len _ _ _ _)
    · exact Nat.zero_le _
def S_solve : DSp := fun ds Q => ∃ (n : Nat) (dms : List Dm), ds = [.int (n : Int), .list (dms.map en)] ∧ n ≤ 1000 ∧ dms.length ≤ 1000000 ∧ Ok n dms ∧ Q .avF (eSol (sol n dms))
theorem ms_solve : MonoS S_solve := fun ds Q Q' h ⟨n, dms, e, h1, h2, h3, q⟩ => ⟨n, dms, e, h1, h2, h3, h _ _ q⟩
theorem kp_solve : Keeps 5 (rd_solve S_relax S_all_steps S_ring_behind) S_solve := by
  rintro ds Q ⟨n, dms, rfl, hn, hd, ho, q⟩
  obtain ⟨_, h2, h3, _⟩ := sR_ok ho
  have h2 : (sR n dms).S.length = n := h2
  have r0 : ∀ (x : PyData), (List.replicate (n : Int).toNat [x]).flatten = List.replicate n x := fun x => by rw [flat_rep, Int.toNat_natCast]
  unfold rd_solve
  refine seq_join2 (fun σ => σ = [.val false (.int (n)), .val false (.list (dms.map en)), .own false ((List.replicate n (some (0 : Int))).map en), .own false ((List.replicate n (none : Option Stp)).map eL), .non]) (fun K k => ?_) (fun σ h => ?_)
  · refine ⟨by simp, by omega, by omega, sz (by simp; omega), by simp, by omega, by omega, sz (by simp; omega), k _ ?_⟩
    rw [List.map_replicate, List.map_replicate, ← r0, ← r0]
    rfl
  subst h
  refine seq_join (fun σ => σ = [.val false (.int (n)), .val false (.list (dms.map en)), .own false ((sR n dms).S.map en), .own false ((sR n dms).L.map eL), .val false (enN (sR n dms).ch)]) (fun K k => ?_) (fun σ h => ?_)
  · refine ⟨dms, rfl, hd, ?_⟩
    exact ⟨n, stepsOf dms, List.replicate n (some 0), List.replicate n none, rfl, by omega, by rw [List.length_replicate, List.length_replicate], by rw [List.length_replicate]; exact steps_in ho, k _ rfl⟩
  subst h
  have hsol : sol n dms = match (sR n dms).ch with
    | none => .tun ((sR n dms).S.map fun o => o.getD 0)
    | some v => .ring (ringF n (sR n dms).L v) := rfl
  cases hc : (sR n dms).ch with
  | none =>
    rw [hc] at hsol
    simp only at hsol
    rw [hsol] at q
    refine ⟨fun x hx => ?_, ?_⟩
    · rw [sR_tun ho] at hx
      exact nl_ints _ x hx
    refine ⟨by simp, ?_⟩
    rw [sR_tun ho]
    exact q
  | some v =>
    rw [hc] at hsol
    simp only at hsol
    rw [hsol] at q
    obtain ⟨b, _, _⟩ := sR_back ho hc
    refine ⟨fun x hx => ?_, ?_⟩
    · rw [sR_tun ho] at hx
      exact nl_ints _ x hx
    refine ⟨fun x hx => ?_, ?_⟩
    · obtain ⟨o, _, rfl⟩ := List.mem_map.mp hx
      cases o with
      | none => exact .non
      | some y =>
        refine .tup fun d hd => ?_
        simp only [List.mem_cons, List.not_mem_nil, or_false] at hd
        rcases hd with rfl | rfl
        · exact nl_eS _ _
        · exact .int _
    refine ⟨n, v, _, rfl, by omega, b, ?_⟩
    exact ⟨by simp, q⟩
end RD

set_option Elab.async false
set_option linter.all false
set_option maxRecDepth 100000
set_option maxHeartbeats 2000000
/-! MS5: what a law reckons of steps, walks and rings. -/
namespace RD
open PySem DL
open En (en)
theorem mkS_k (k : Nat) (d : Dm) (m : Bool) (b : Int) : (mkS k d m b).k = k ∧ (mkS k d m b).m = m := by cases m <;> exact ⟨rfl, rfl⟩
/-- what a step tells -/
def eTold (x : Stp) : PyData := .tuple [.int (x.s : Int), .int (x.e : Int), .int x.c]
def S__law_step_be11 : DSp := fun ds Q => ∃ (dms : List Dm) (x : Stp), ds = [.list (dms.map en), eStp x] ∧ x ∈ stepsOf dms ∧ Q .av (eTold x)
theorem ms__law_step_be11 : MonoS S__law_step_be11 := fun ds Q Q' h ⟨d, x, e, h1, q⟩ => ⟨d, x, e, h1, h _ _ q⟩
theorem kp__law_step_be11 : Keeps 6 (rd__law_step_be11 S__law_is_number) S__law_step_be11 := by
  rintro ds Q ⟨dms, x, rfl, hx, q⟩
  obtain ⟨k, hk, m, b, hb, rfl⟩ := mem_steps.mp hx
  have a := at_map (en := En.en (α := Dm)) hk
  have e0 : eStp (mkS k dms[k] m b) = eS k m := by
    unfold eStp
    rw [(mkS_k k dms[k] m b).1, (mkS_k k dms[k] m b).2]
  rw [e0]
  unfold rd__law_step_be11
  refine seq_join (fun σ => σ = [.val false (.list (dms.map en)), .val false (eS k m), .non, .non, .non, .non]) (fun K kk => ?_) (fun σ h => ?_)
  · refine ⟨_, rfl, ?_⟩
    refine ⟨.int (k : Int), rfl, ?_⟩
    refine ⟨_, rfl, ?_⟩
    cases m <;> exact kk _ rfl
  subst h
  refine seq_join (fun σ => σ = [.val false (.list (dms.map en)), .val false (eS k m), .non, .non, .non, .non]) (fun K kk => ?_) (fun σ h => ?_)
  · refine ⟨_, rfl, ?_⟩
    · refine ⟨_, rfl, br.dec (fun h => ?_) (fun _ => kk _ rfl)⟩
      have h : ((dms.map (en (α := Dm))).length : Int) ≤ (k : Int) := h
      rw [List.length_map] at h
      omega
  subst h
  generalize hd : dms[k] = d at *
  obtain ⟨lw, hg, lo, hi⟩ := d
  refine ⟨_, rfl, _, a, rfl, ?_⟩
  cases m with
  | true =>
    have hb : hi = some b := hb
    subst hb
    refine ⟨_, rfl, ?_⟩
    exact ⟨by simp, q⟩
  | false =>
    have hb : lo = some b := hb
    subst hb
    refine ⟨_, rfl, ?_⟩
    refine ⟨_, rfl, ?_⟩
    exact ⟨by simp, q⟩
theorem walk_last : ∀ {xs : List Stp} {u v : Nat} (h : walkP u xs v) (hn : xs ≠ []), (xs.getLast hn).e = v ∧ (xs.head hn).s = u
  | [x], u, v, h, _ => ⟨h.2, h.1⟩
  | x :: y :: xs, u, v, h, _ => ⟨(walk_last (xs := y :: xs) h.2 (by simp)).1, h.1⟩
theorem walk_at : ∀ {xs : List Stp} {u v : Nat} (h : walkP u xs v) (i : Nat) (hi : i + 1 < xs.length), (xs[i + 1]).s = (xs[i]'(by omega)).e
  | [x], _, _, _, i, hi => by simp at hi
  | x :: y :: xs, u, v, h, 0, _ => h.2.1
  | x :: y :: xs, u, v, h, i + 1, hi => walk_at (xs := y :: xs) h.2 i (by simpa using hi)
theorem csum_take {xs : List Stp} {i : Nat} (h : i < xs.length) : csum (xs.take (i + 1)) = csum (xs.take i) + (xs[i]).c := by
  unfold csum
  rw [List.take_succ_eq_append_getElem h, List.map_append, List.sum_append]
  simp
def S__law_walk : DSp := fun ds Q => ∃ (dms : List Dm) (ring : List Stp) (s : Nat), ds = [.list (dms.map en), .list (ring.map eStp)] ∧ ring ≠ [] ∧ ring.length ≤ 1000000 ∧ (∀ x ∈ ring, x ∈ stepsOf dms) ∧ walkP s ring s ∧ Q .av (.tuple [.int (s : Int), .int (s : Int), .int (csum ring)])
theorem ms__law_walk : MonoS S__law_walk := fun ds Q Q' h ⟨d, x, s, e, h1, h2, h3, h4, q⟩ => ⟨d, x, s, e, h1, h2, h3, h4, h _ _ q⟩
theorem kp__law_walk : Keeps 7 (rd__law_walk S__law_step_be11) S__law_walk := by
  rintro ds Q ⟨dms, ring, s, rfl, hn, hl, hm, hw, q⟩
  have hpos : 0 < ring.length := List.length_pos_iff.mpr hn
  have h0 : (ring[0]).s = s := by
    have := (walk_last hw hn).2
    rw [List.head_eq_getElem] at this
    exact this
  unfold rd__law_walk
  refine seq_join4 (fun σ => σ = [.val false (.list (dms.map en)), .val false (.list (ring.map eStp)), .val false (.int ((-1 : Int))), .val false (.int ((-1 : Int))), .val false (.int (0)), .non, .non]) (fun K k => ?_) (fun σ h => ?_)
  · refine br.dec (fun h => ?_) (fun _ => k _ rfl)
    have h : ((ring.map eStp).length : Int) = 0 := h
    rw [List.length_map] at h
    omega
  subst h
  refine ⟨sm (by omega) (by rw [List.length_map]; omega), for_upTo (fun i σ => ∃ (a b : Int) (s5 s6 : Sl), (0 < i → a = (s : Int)) ∧ (∀ j, i = j + 1 → ∀ hj : j < ring.length, b = ((ring[j]).e : Int)) ∧ σ = [.val false (.list (dms.map en)), .val false (.list (ring.map eStp)), .val false (.int (a)), .val false (.int (b)), .val false (.int (csum (ring.take i))), s5, s6]) ⟨-1, -1, .non, .non, fun h => by omega, fun j h => by omega, rfl⟩ (fun i σ K hi h k => ?_) (fun σ h => ?_)⟩
  · obtain ⟨a, b, s5, s6, ha, hb, rfl⟩ := h
    have hi' : i < ring.length := by simpa using hi
    have e0 : (0 : Int) + (i : Int) = (i : Int) := by omega
    rw [e0]
    refine seq_join (fun σ => σ = [.val false (.list (dms.map en)), .val false (.list (ring.map eStp)), .val false (.int (a)), .val false (.int (b)), .val false (.int (csum (ring.take i))), .val false (.int (i)), .val false (eTold ring[i])]) (fun K2 k2 => ?_) (fun σ h => ?_)
    · exact ⟨_, at_map hi', dms, ring[i], rfl, hm _ (List.getElem_mem hi'), k2 _ rfl⟩
    subst h
    refine seq_join (fun σ => σ = [.val false (.list (dms.map en)), .val false (.list (ring.map eStp)), .val false (.int (a)), .val false (.int (b)), .val false (.int (csum (ring.take i))), .val false (.int (i)), .val false (eTold ring[i])]) (fun K2 k2 => ?_) (fun σ h => ?_)
    · refine br.dec (fun h => ?_) (fun _ => k2 _ rfl)
      have h : (0 : Int) < (i : Int) := h
      obtain ⟨j, rfl⟩ : ∃ j, i = j + 1 := ⟨i - 1, by omega⟩
      refine ⟨_, rfl, br.nd (fun z => ?_) (fun _ => k2 _ rfl)⟩
      have z : ¬ ((ring[j + 1]).s : Int) = b := z
      rw [hb j rfl (by omega), walk_at hw j hi'] at z
      exact absurd rfl z
    subst h
    refine seq_join (fun σ => ∃ a2 : Int, a2 = (s : Int) ∧ σ = [.val false (.list (dms.map en)), .val false (.list (ring.map eStp)), .val false (.int (a2)), .val false (.int (b)), .val false (.int (csum (ring.take i))), .val false (.int (i)), .val false (eTold ring[i])]) (fun K2 k2 => ?_) (fun σ h => ?_)
    · refine br.dec (fun h => ?_) (fun h => k2 _ ⟨a, ha ?_, rfl⟩)
      · have h : (i : Int) = 0 := h
        have h : i = 0 := by omega
        subst h
        exact ⟨_, rfl, k2 _ ⟨_, by rw [h0], rfl⟩⟩
      · have h : ¬ (i : Int) = 0 := h
        omega
    obtain ⟨a2, rfl, rfl⟩ := h
    refine ⟨_, rfl, _, rfl, k _ ⟨(s : Int), (((ring[i]).e : Nat) : Int), .val false (.int (i)), .val false (eTold ring[i]), fun _ => rfl, fun j hj hjl => ?_, ?_⟩⟩
    · have : i = j := by omega
      subst this
      rfl
    · rw [csum_take hi']
      rfl
  · obtain ⟨a, b, s5, s6, ha, hb, rfl⟩ := h
    have e : (((ring.map eStp).length : Nat) : Int).toNat = ring.length := by simp
    rw [e] at ha hb ⊢
    rw [List.take_length]
    have e1 := ha hpos
    have e2 := hb (ring.length - 1) (by omega) (by omega)
    have e3 : (ring[ring.length - 1]).e = s := by
      have := (walk_last hw hn).1
      rw [List.getLast_eq_getElem] at this
      exact this
    rw [e3] at e2
    subst e1 e2
    exact ⟨by simp, q⟩
def S__law_is_short_ring : DSp := fun ds Q => ∃ (dms : List Dm) (ring : List Stp), ds = [.list (dms.map en), .list (ring.map eStp)] ∧ ring.length ≤ 1000000 ∧ ShortRing (stepsOf dms) ring ∧ Q .av (.bool true)
theorem ms__law_is_short_ring : MonoS S__law_is_short_ring := fun ds Q Q' h ⟨d, x, e, h1, h2, q⟩ => ⟨d, x, e, h1, h2, h _ _ q⟩
theorem kp__law_is_short_ring : Keeps 3 (rd__law_is_short_ring S__law_walk) S__law_is_short_ring := by
  rintro ds Q ⟨dms, ring, rfl, hl, ⟨r1, r2, ⟨s, r3⟩, r4⟩, q⟩
  refine ⟨dms, ring, s, rfl, r1, hl, r2, r3, ?_⟩
  refine ⟨_, rfl, _, rfl, br.dec (fun _ => ?_) (fun h => absurd rfl h)⟩
  refine ⟨_, rfl, ?_⟩
  show Q .av (.bool (decide (csum ring < 0)))
  rw [decide_eq_true r4]
  exact q
theorem at_zero {α : Type} (x : α) (xs : List α) : L2.atI (x :: xs) 0 = some x := L2.atI_nat (xs := x :: xs) (j := 0) rfl
def S__law_tagged : DSp := fun ds Q => ∃ (a b : Str) (rest : List PyData) (n : Int), ds = [.tuple (.str a :: rest), .str b, .int n] ∧ Q .av (.bool (decide ((((PyData.str a :: rest).length : Nat) : Int) = n) && decide (a = b)))
theorem ms__law_tagged : MonoS S__law_tagged := fun ds Q Q' h ⟨a, b, c, n, e, q⟩ => ⟨a, b, c, n, e, h _ _ q⟩
theorem kp__law_tagged : Keeps 3 rd__law_tagged S__law_tagged := by
  rintro ds Q ⟨a, b, rest, n, rfl, q⟩
  refine br.dec (fun h => ?_) (fun h => ?_)
  · have h : (((PyData.str a :: rest).length : Nat) : Int) = n := h
    rw [decide_eq_true h] at q
    exact ⟨_, at_zero _ _, _, at_zero _ _, q⟩
  · have h : ¬ (((PyData.str a :: rest).length : Nat) : Int) = n := h
    rw [decide_eq_false h] at q
    exact q
def S__law_is_answer : DSp := fun ds Q => ∃ (n : Nat) (dms : List Dm) (s : Sol), ds = [.int (n : Int), .list (dms.map en), eSol s] ∧ n ≤ 1000 ∧ Ok n dms ∧ SolOk n dms s ∧ Q .av (.bool true)
theorem ms__law_is_answer : MonoS S__law_is_answer := fun ds Q Q' h ⟨n, d, s, e, h1, h2, h3, q⟩ => ⟨n, d, s, e, h1, h2, h3, h _ _ q⟩
theorem kp__law_is_answer : Keeps 3 (rd__law_is_answer S__law_is_numbers S_meets S__law_is_short_ring) S__law_is_answer := by
  rintro ds Q ⟨n, dms, s, rfl, hn, ho, hs, q⟩
  unfold rd__law_is_answer
  refine seq_join (fun σ => σ = [.val false (.int (n)), .val false (.list (dms.map en)), .val false (eSol s)]) (fun K k => ?_) (fun σ h => ?_)
  · cases s with
    | tun t => exact ⟨_, rfl, k _ rfl⟩
    | ring r => exact ⟨_, rfl, k _ rfl⟩
  subst h
  cases s with
  | tun t =>
    obtain ⟨h1, h2⟩ := hs
    refine ⟨_, rfl, ?_⟩
    refine ⟨_, rfl, ?_⟩
    refine ⟨t, (n : Int), rfl, ?_⟩
    rw [decide_eq_true (show (t.length : Int) = (n : Int) by omega)]
    refine ⟨_, rfl, ?_⟩
    refine ⟨dms, t, rfl, by rw [h1]; exact ho, ?_⟩
    rw [h2]
    exact q
  | ring r =>
    obtain ⟨h1, h2⟩ := hs
    refine ⟨_, rfl, ?_⟩
    refine ⟨_, rfl, ?_⟩
    refine ⟨_, rfl, ?_⟩
    exact ⟨dms, r, rfl, by omega, h1, q⟩
end RD

set_option Elab.async false
set_option linter.all false
set_option maxRecDepth 100000
/-! M_K78: players who tune in turn: the mathematics. -/
namespace RD
open PySem DL
open En (en)
/-- a turn -/
structure Tn where
  pl : Nat
  md : Nat
  sl : Int
  deriving DecidableEq
instance : En Tn where
  en := fun t => .tuple [.int (t.pl : Int), .int (t.md : Int), .int t.sl]
  dp := 1
  lay := fun t => by simp only [PyData.canLay0, PyData.canLayAll0, Bool.and_self]
  dep := fun t => by simp [PyData.depth, PyData.depthAll]
  eqv := fun a b => by
    obtain ⟨a1, a2, a3⟩ := a
    obtain ⟨b1, b2, b3⟩ := b
    simp [PyData.eqv, PyData.eqvAll, Int.natCast_inj]
def offStep (o : List Int) (t : Tn) : List Int := o.set t.pl (o.getD t.md 0 + t.sl)
def offs (n : Nat) (ts : List Tn) : List Int := ts.foldl offStep (List.replicate n 0)
def Val (n : Nat) (ts : List Tn) : Prop := ∀ t ∈ ts, t.pl < n ∧ t.md < n
def S_offs : DSp := fun ds Q => ∃ (n : Nat) (ts : List Tn), ds = [.int n, .list (ts.map en)] ∧ n ≤ 1000 ∧ Val n ts ∧ Q .new (eI (offs n ts))
theorem ms_offs : MonoS S_offs := fun ds Q Q' h ⟨n, ts, e, h1, h2, q⟩ => ⟨n, ts, e, h1, h2, h _ _ q⟩
theorem offs_take (n : Nat) (ts : List Tn) (i : Nat) (h : i < ts.length) : offs n (ts.take (i + 1)) = offStep (offs n (ts.take i)) ts[i] := by
  unfold offs
  rw [List.take_succ_eq_append_getElem h, List.foldl_append]
  rfl
theorem foldl_len (ts : List Tn) : ∀ o, (ts.foldl offStep o).length = o.length := by
  induction ts with
  | nil => intro o; rfl
  | cons t ts ih => intro o; rw [List.foldl_cons, ih]; exact List.length_set
theorem offs_len (n : Nat) (ts : List Tn) : (offs n ts).length = n := by
  unfold offs
  rw [foldl_len, List.length_replicate]
theorem rep0 (n : Nat) : (List.replicate (n : Int).toNat [PyData.int 0]).flatten = (List.replicate n (0 : Int)).map PyData.int := by
  rw [flat_rep, List.map_replicate]
  simp
theorem kp_offs : Keeps 6 rd_offsets_after S_offs := by
  rintro ds Q ⟨n, ts, rfl, hn, hv, q⟩
  refine ⟨by decide, by omega, by omega, sz (by simp; omega), ?_⟩
  refine for_inv en ts (fun i σ => ∃ s3 s4 s5, σ = [.val false (.int n), .val false (.list (ts.map en)), .own false ((offs n (ts.take i)).map .int), s3, s4, s5]) ⟨.non, .non, .non, ?_⟩ (fun i hi σ K h k => ?_) (fun σ h => ?_)
  · show [_, _, Sl.own false (List.replicate (n : Int).toNat [PyData.int 0]).flatten, _, _, _] = [_, _, Sl.own false ((List.replicate n (0 : Int)).map .int), _, _, _]
    rw [rep0]
  · obtain ⟨s3, s4, s5, rfl⟩ := h
    obtain ⟨h1, h2⟩ := hv ts[i] (List.getElem_mem hi)
    have hm : ts[i].md < (offs n (ts.take i)).length := by rw [offs_len]; exact h2
    have e : ((offs n (ts.take i)).map PyData.int).set ts[i].pl (.int ((offs n (ts.take i))[ts[i].md] + ts[i].sl)) = (offs n (ts.take (i + 1))).map PyData.int := by
      rw [offs_take n ts i hi, set_map]
      unfold offStep
      rw [gD hm]
    exact ⟨rfl, _, at_map hm, _, ixN_nat (j := ts[i].pl) (by rw [List.length_map, offs_len]; exact h1), k _ ⟨_, _, _, by rw [← e]; rfl⟩⟩
  · obtain ⟨s3, s4, s5, rfl⟩ := h
    rw [List.take_length]
    exact q
theorem kp_loffs : Keeps 6 rd__law_offsets S_offs := kp_offs
/-! ### what is heard -/
def heardAll (n : Nat) (ts : List Tn) : Nat → List (List Nat)
  | 0 => List.replicate n []
  | i + 1 => match ts[i]? with
    | some t => (heardAll n ts i).set t.pl ((heardAll n ts i).getD t.md [] ++ [i])
    | none => heardAll n ts i
theorem heardAll_len (n : Nat) (ts : List Tn) : ∀ i, (heardAll n ts i).length = n
  | 0 => List.length_replicate
  | i + 1 => by
    unfold heardAll
    split
    · rw [List.length_set, heardAll_len n ts i]
    · exact heardAll_len n ts i
/-- the turns that player p heard among the first i -/
def heard (ts : List Tn) : Nat → Nat → List Nat
  | 0, _ => []
  | i + 1, p => match ts[i]? with
    | some t => if p = t.pl then heard ts i t.md ++ [i] else heard ts i p
    | none => heard ts i p
theorem heardAll_get (n : Nat) (ts : List Tn) (hv : Val n ts) : ∀ (i p : Nat), p < n → (heardAll n ts i).getD p [] = heard ts i p
  | 0, p, h => by
    unfold heardAll heard
    rw [gD (by rw [List.length_replicate]; exact h), List.getElem_replicate]
  | i + 1, p, h => by
    unfold heardAll heard
    cases e : ts[i]? with
    | none => exact heardAll_get n ts hv i p h
    | some t =>
      have ht := hv t (List.mem_of_getElem? e)
      show ((heardAll n ts i).set t.pl ((heardAll n ts i).getD t.md [] ++ [i])).getD p [] = if p = t.pl then heard ts i t.md ++ [i] else heard ts i p
      rw [heardAll_get n ts hv i t.md ht.2]
      have hl := heardAll_len n ts i
      by_cases hp : p = t.pl
      · rw [if_pos hp, hp, gD (by rw [List.length_set, hl]; exact ht.1), List.getElem_set_self]
      · rw [if_neg hp, gD (by rw [List.length_set, hl]; exact h), List.getElem_set_ne (Ne.symm hp), ← gD (d := []) (by rw [hl]; exact h)]
        exact heardAll_get n ts hv i p h
def S_all_heard : DSp := fun ds Q => ∃ (n : Nat) (ts : List Tn), ds = [.int n, .list (ts.map en)] ∧ n ≤ 1000 ∧ ts.length ≤ 1000 ∧ Val n ts ∧ Q .newF (en (heardAll n ts ts.length))
theorem ms_all_heard : MonoS S_all_heard := fun ds Q Q' h ⟨n, ts, e, h1, h2, h3, q⟩ => ⟨n, ts, e, h1, h2, h3, h _ _ q⟩
theorem heard_len (ts : List Tn) : ∀ (i p : Nat), (heard ts i p).length ≤ i
  | 0, p => Nat.le_refl _
  | i + 1, p => by
    unfold heard
    split
    · split
      · rw [List.length_append]
        have := heard_len ts i
        simp only [List.length_singleton]
        have h2 := this (by rename Tn => t; exact t.md)
        omega
      · have := heard_len ts i p; omega
    · have := heard_len ts i p; omega
theorem kp_all_heard : Keeps 7 rd_all_heard S_all_heard := by
  rintro ds Q ⟨n, ts, rfl, hn, ht, hv, q⟩
  refine ⟨sm (by omega) (by omega), lc_upTo (fun _ => PyData.list []) (by omega) (fun k hk P N p => ⟨by decide, p⟩) ?_⟩
  have e0 : (List.range (n : Int).toNat).map (fun _ => PyData.list []) = (heardAll n ts 0).map en := by
    unfold heardAll
    rw [List.map_replicate, List.map_const', List.length_range, Int.toNat_natCast]
    rfl
  refine ⟨sm (by simp) (by simp; omega), for_upTo (fun i σ => ∃ s3 s4 s5 s6, σ = [.val false (.int n), .val false (.list (ts.map en)), .own true ((heardAll n ts i).map en), s3, s4, s5, s6]) ⟨.non, .non, .non, .non, ?_⟩ (fun i σ K hi h k => ?_) (fun σ h => ?_)⟩
  · rw [← e0]
    rfl
  · obtain ⟨s3, s4, s5, s6, rfl⟩ := h
    have hi' : i < ts.length := by
      simp at hi
      exact hi
    obtain ⟨h1, h2⟩ := hv ts[i] (List.getElem_mem hi')
    have hl := heardAll_len n ts i
    have hm : ts[i].md < (heardAll n ts i).length := by rw [hl]; exact h2
    have e1 : (0 : Int) + (i : Int) = (i : Int) := by omega
    rw [e1]
    have hs : ((heardAll n ts i)[ts[i].md].map (en (α := Nat))).length + [PyData.int (i : Int)].length ≤ 16000000 := by
      have := heard_len ts i ts[i].md
      rw [← heardAll_get n ts hv i _ h2, gD hm] at this
      simp
      omega
    have e3 : ((heardAll n ts i).map (en (α := List Nat))).set ts[i].pl (.list ((heardAll n ts i)[ts[i].md].map en ++ [.int (i : Int)])) = (heardAll n ts (i + 1)).map en := by
      have e2 : heardAll n ts (i + 1) = (heardAll n ts i).set ts[i].pl ((heardAll n ts i).getD ts[i].md [] ++ [i]) := by
        conv => lhs; unfold heardAll
        rw [List.getElem?_eq_getElem hi']
      rw [e2, gD hm, ← set_map]
      show _ = ((heardAll n ts i).map en).set ts[i].pl (.list (((heardAll n ts i)[ts[i].md] ++ [i]).map en))
      rw [List.map_append]
      rfl
    exact ⟨_, at_map hi', rfl, _, at_map hm, .int _, by simp, sz hs, _, ixN_nat (j := ts[i].pl) (by rw [List.length_map, hl]; exact h1), k _ ⟨_, _, _, _, by rw [← e3]; rfl⟩⟩
  · obtain ⟨s3, s4, s5, s6, rfl⟩ := h
    have el : (((ts.map en).length : Nat) : Int).toNat = ts.length := by simp
    rw [el]
    exact q
/-! ### the defs over them -/
def S_slips_heard : DSp := fun ds Q => ∃ (n p : Nat) (ts : List Tn), ds = [.int n, .list (ts.map en), .int p] ∧ n ≤ 1000 ∧ ts.length ≤ 1000 ∧ Val n ts ∧ p < n ∧ Q .avF (en (heard ts ts.length p))
theorem ms_slips_heard : MonoS S_slips_heard := fun ds Q Q' h ⟨n, p, ts, e, h1, h2, h3, h4, q⟩ => ⟨n, p, ts, e, h1, h2, h3, h4, h _ _ q⟩
theorem kp_slips_heard : Keeps 3 (rd_slips_heard S_all_heard) S_slips_heard := by
  rintro ds Q ⟨n, p, ts, rfl, hn, ht, hv, hp, q⟩
  have hl : p < (heardAll n ts ts.length).length := by rw [heardAll_len]; exact hp
  refine ⟨n, ts, rfl, hn, ht, hv, _, at_map hl, ?_⟩
  rw [← gD (d := []) hl, heardAll_get n ts hv _ p hp]
  exact q
def part (a b : List Nat) : List Nat := (a.filter fun k => !decide (k ∈ b)) ++ b.filter fun k => !decide (k ∈ a)
def S_parting : DSp := fun ds Q => ∃ a b : List Nat, ds = [en a, en b] ∧ a.length ≤ 1000000 ∧ b.length ≤ 1000000 ∧ Q .new (en (part a b))
theorem ms_parting : MonoS S_parting := fun ds Q Q' h ⟨a, b, e, h1, h2, q⟩ => ⟨a, b, e, h1, h2, h _ _ q⟩
theorem kp_parting : Keeps 3 rd_parting S_parting := by
  rintro ds Q ⟨a, b, rfl, ha, hb, q⟩
  refine lc_filt en a (fun k => !decide (k ∈ b)) en (by omega) (fun x hx P N hp hn => in_go x b (Q := fun c => br (!c) (P (en x)) N) (br.mk hp hn)) ?_
  refine lc_filt en b (fun k => !decide (k ∈ a)) en (by omega) (fun x hx P N hp hn => in_go x a (Q := fun c => br (!c) (P (en x)) N) (br.mk hp hn)) ?_
  refine ⟨sz ?_, ?_⟩
  · have h1 := List.length_filter_le (fun k => !decide (k ∈ b)) a
    have h2 := List.length_filter_le (fun k => !decide (k ∈ a)) b
    rw [List.length_map, List.length_map]
    omega
  · rw [← List.map_append]
    exact q
def apart (ts : List Tn) (es : List Int) (f s : Nat) : Int := ((part (heard ts ts.length f) (heard ts ts.length s)).map fun k => es.getD k 0).sum
def S_greatest_apart : DSp := fun ds Q => ∃ (n f s : Nat) (ts : List Tn) (es : List Int), ds = [.int n, .list (ts.map en), eI es, .int f, .int s] ∧ n ≤ 1000 ∧ ts.length ≤ 1000 ∧ Val n ts ∧ f < n ∧ s < n ∧ es.length = ts.length ∧ Q .av (.int (apart ts es f s))
theorem ms_greatest_apart : MonoS S_greatest_apart := fun ds Q Q' h ⟨n, f, s, ts, es, e, h1, h2, h3, h4, h5, h6, q⟩ => ⟨n, f, s, ts, es, e, h1, h2, h3, h4, h5, h6, h _ _ q⟩
theorem heard_lt (ts : List Tn) : ∀ (i p k : Nat), k ∈ heard ts i p → k < i
  | 0, p, k, h => by
    unfold heard at h
    cases h
  | i + 1, p, k, h => by
    unfold heard at h
    split at h
    · split at h
      · rcases List.mem_append.mp h with h | h
        · exact Nat.lt_succ_of_lt (heard_lt ts i _ k h)
        · rw [List.mem_singleton.mp h]
          exact Nat.lt_succ_self _
      · exact Nat.lt_succ_of_lt (heard_lt ts i _ k h)
    · exact Nat.lt_succ_of_lt (heard_lt ts i _ k h)
theorem kp_greatest_apart : Keeps 7 (rd_greatest_apart S_all_heard S_parting) S_greatest_apart := by
  rintro ds Q ⟨n, f, s, ts, es, rfl, hn, ht, hv, hf, hs, he, q⟩
  have hl := heardAll_len n ts ts.length
  have e1 : ∀ p (h : p < (heardAll n ts ts.length).length), (heardAll n ts ts.length)[p] = heard ts ts.length p := fun p h => by
    rw [← gD (d := []) h, heardAll_get n ts hv _ p (by rw [hl] at h; exact h)]
  have hl1 := heard_len ts ts.length f
  have hl2 := heard_len ts ts.length s
  refine ⟨n, ts, rfl, hn, ht, hv, ?_⟩
  refine ⟨_, at_map (i := f) (by rw [hl]; exact hf), _, at_map (i := s) (by rw [hl]; exact hs), ?_⟩
  rw [e1 f, e1 s]
  refine ⟨_, _, rfl, by omega, by omega, ?_⟩
  have hp : ∀ k ∈ part (heard ts ts.length f) (heard ts ts.length s), k < es.length := fun k hk => by
    rw [he]
    rcases List.mem_append.mp hk with h | h
    · exact heard_lt ts _ _ k (List.mem_filter.mp h).1
    · exact heard_lt ts _ _ k (List.mem_filter.mp h).1
  refine lc_map en _ (fun k => PyData.int (es.getD k 0)) ?_ (fun x hx P N h => ?_) ?_
  · have h1 := List.length_filter_le (fun k => !decide (k ∈ heard ts ts.length s)) (heard ts ts.length f)
    have h2 := List.length_filter_le (fun k => !decide (k ∈ heard ts ts.length f)) (heard ts ts.length s)
    unfold part
    rw [List.length_append]
    omega
  · refine ⟨_, at_map (i := x) (hp x hx), ?_⟩
    rw [gD (hp x hx)] at h
    exact h
  · exact ⟨(part (heard ts ts.length f) (heard ts ts.length s)).map fun k => es.getD k 0, by rw [List.map_map]; rfl, q⟩
end RD

set_option Elab.async false
set_option linter.all false
set_option maxRecDepth 100000
/-! M2_K78: players who tune in turn: the law. -/
namespace RD
open PySem DL
open En (en)
instance : Inhabited Tn := ⟨⟨0, 0, 0⟩⟩
theorem heard_sum (ts : List Tn) (f : Nat → Int) : ∀ i p, ((heard ts i p).map f).sum = sm0 i fun k => if k ∈ heard ts i p then f k else 0
  | 0, p => by
    unfold heard
    rfl
  | i + 1, p => by
    rw [sm0_succ]
    cases e : ts[i]? with
    | none =>
      have eh : heard ts (i + 1) p = heard ts i p := by
        conv => lhs; unfold heard
        rw [e]
      rw [eh, heard_sum ts f i p, if_neg (fun h => absurd (heard_lt ts i p i h) (Nat.lt_irrefl _))]
      omega
    | some t =>
      by_cases hp : p = t.pl
      · have eh : heard ts (i + 1) p = heard ts i t.md ++ [i] := by
          conv => lhs; unfold heard
          rw [e]
          exact if_pos hp
        rw [eh, if_pos (List.mem_append_right _ List.mem_cons_self), List.map_append, List.sum_append, heard_sum ts f i t.md]
        have : sm0 i (fun k => if k ∈ heard ts i t.md ++ [i] then f k else 0) = sm0 i fun k => if k ∈ heard ts i t.md then f k else 0 := by
          refine sm0_congr fun k hk => ?_
          have : k ∈ heard ts i t.md ++ [i] ↔ k ∈ heard ts i t.md := by
            rw [List.mem_append, List.mem_singleton]
            constructor
            · rintro (h | h)
              · exact h
              · omega
            · exact .inl
          simp only [this]
        rw [this]
        simp
      · have eh : heard ts (i + 1) p = heard ts i p := by
          conv => lhs; unfold heard
          rw [e]
          exact if_neg hp
        rw [eh, heard_sum ts f i p, if_neg (fun h => absurd (heard_lt ts i p i h) (Nat.lt_irrefl _))]
        omega
theorem offs_sum (n : Nat) (ts : List Tn) (hv : Val n ts) : ∀ (i p : Nat), i ≤ ts.length → p < n → (offs n (ts.take i)).getD p 0 = ((heard ts i p).map fun k => (ts.getD k default).sl).sum
  | 0, p, _, hp => by
    unfold heard offs
    rw [List.take_zero, List.foldl_nil, gD (by rw [List.length_replicate]; exact hp), List.getElem_replicate]
    rfl
  | i + 1, p, hi, hp => by
    have hi' : i < ts.length := by omega
    obtain ⟨h1, h2⟩ := hv ts[i] (List.getElem_mem hi')
    rw [offs_take n ts i hi']
    unfold offStep
    rw [offs_sum n ts hv i _ (by omega) h2]
    have hl := offs_len n (ts.take i)
    by_cases h : p = ts[i].pl
    · have eh : heard ts (i + 1) p = heard ts i ts[i].md ++ [i] := by
        conv => lhs; unfold heard
        rw [List.getElem?_eq_getElem hi']
        exact if_pos h
      rw [eh, gD (by rw [List.length_set, hl]; exact hp)]
      simp only [h]
      rw [List.getElem_set_self, List.map_append, List.sum_append]
      simp only [List.map_cons, List.map_nil, List.sum_cons, List.sum_nil]
      rw [gD hi']
      omega
    · have eh : heard ts (i + 1) p = heard ts i p := by
        conv => lhs; unfold heard
        rw [List.getElem?_eq_getElem hi']
        exact if_neg h
      rw [eh, ← offs_sum n ts hv i p (by omega) hp, gD (by rw [List.length_set, hl]; exact hp), List.getElem_set_ne (Ne.symm h), gD (by rw [hl]; exact hp)]
/-- the turns with other slips -/
def withSl (ts : List Tn) (s : Nat → Int) : List Tn := (List.range ts.length).map fun k => ⟨(ts.getD k default).pl, (ts.getD k default).md, s k⟩
theorem withSl_len (ts : List Tn) (s : Nat → Int) : (withSl ts s).length = ts.length := by
  unfold withSl
  rw [List.length_map, List.length_range]
theorem withSl_at (ts : List Tn) (s : Nat → Int) (k : Nat) (h : k < ts.length) : (withSl ts s)[k]? = some ⟨ts[k].pl, ts[k].md, s k⟩ := by
  unfold withSl
  rw [List.getElem?_map, List.getElem?_range h]
  show some (⟨(ts.getD k default).pl, (ts.getD k default).md, s k⟩ : Tn) = _
  rw [gD h]
theorem withSl_val {n : Nat} {ts : List Tn} (hv : Val n ts) (s : Nat → Int) : Val n (withSl ts s) := fun t ht => by
  unfold withSl at ht
  obtain ⟨k, hk, rfl⟩ := List.mem_map.mp ht
  have hk' := List.mem_range.mp hk
  rw [gD hk']
  have := hv ts[k] (List.getElem_mem hk')
  exact this
theorem heard_with (ts : List Tn) (s : Nat → Int) : ∀ i p, i ≤ ts.length → heard (withSl ts s) i p = heard ts i p
  | 0, p, _ => rfl
  | i + 1, p, h => by
    have hi : i < ts.length := by omega
    unfold heard
    rw [withSl_at ts s i hi, List.getElem?_eq_getElem hi]
    show (if p = ts[i].pl then _ else _) = if p = ts[i].pl then _ else _
    rw [heard_with ts s i _ (by omega), heard_with ts s i p (by omega)]
theorem offs_with (n : Nat) (ts : List Tn) (hv : Val n ts) (s : Nat → Int) (p : Nat) (hp : p < n) : (offs n (withSl ts s)).getD p 0 = sm0 ts.length fun k => if k ∈ heard ts ts.length p then s k else 0 := by
  have h1 := offs_sum n (withSl ts s) (withSl_val hv s) ts.length p (by rw [withSl_len]; exact Nat.le_refl _) hp
  rw [List.take_of_length_le (by rw [withSl_len]; exact Nat.le_refl _), heard_with ts s _ p (Nat.le_refl _)] at h1
  rw [h1, heard_sum]
  refine sm0_congr fun k hk => ?_
  by_cases h : k ∈ heard ts ts.length p
  · rw [if_pos h, if_pos h, List.getD_eq_getElem?_getD, withSl_at ts s k hk]
    rfl
  · rw [if_neg h, if_neg h]
/-- what one of the two heard alone -/
def due (ts : List Tn) (es : Nat → Int) (f s : Nat) (i : Nat) : Int := sm0 i fun k => if decide (k ∈ heard ts ts.length f) ≠ decide (k ∈ heard ts ts.length s) then es k else 0
theorem apart_due (ts : List Tn) (es : List Int) (f s : Nat) : apart ts es f s = due ts (fun k => es.getD k 0) f s ts.length := by
  unfold apart part due
  rw [List.map_append, List.sum_append, sum_filter, sum_filter, heard_sum, heard_sum, sm0_add]
  refine sm0_congr fun k hk => ?_
  by_cases h1 : k ∈ heard ts ts.length f <;> by_cases h2 : k ∈ heard ts ts.length s <;> simp [h1, h2]
def ups (ts : List Tn) (es : Nat → Int) (f s : Nat) (k : Nat) : Int := if decide (k ∈ heard ts ts.length f) ≠ decide (k ∈ heard ts ts.length s) then (if k ∈ heard ts ts.length f then 0 - es k else es k) else 0
theorem diff_up (n : Nat) (ts : List Tn) (hv : Val n ts) (es : Nat → Int) (f s : Nat) (hf : f < n) (hs : s < n) : (offs n (withSl ts (ups ts es f s))).getD s 0 - (offs n (withSl ts (ups ts es f s))).getD f 0 = due ts es f s ts.length := by
  rw [offs_with n ts hv _ s hs, offs_with n ts hv _ f hf, sm0_sub]
  refine sm0_congr fun k hk => ?_
  unfold ups
  by_cases h1 : k ∈ heard ts ts.length f <;> by_cases h2 : k ∈ heard ts ts.length s <;> simp [h1, h2]
theorem diff_down (n : Nat) (ts : List Tn) (hv : Val n ts) (es : Nat → Int) (f s : Nat) (hf : f < n) (hs : s < n) : (offs n (withSl ts fun k => 0 - ups ts es f s k)).getD f 0 - (offs n (withSl ts fun k => 0 - ups ts es f s k)).getD s 0 = due ts es f s ts.length := by
  rw [offs_with n ts hv _ s hs, offs_with n ts hv _ f hf, sm0_sub]
  refine sm0_congr fun k hk => ?_
  unfold ups
  by_cases h1 : k ∈ heard ts ts.length f <;> by_cases h2 : k ∈ heard ts ts.length s <;> simp [h1, h2]
theorem diff_any (n : Nat) (ts : List Tn) (hv : Val n ts) (es d : Nat → Int) (hd : ∀ k, k < ts.length → -es k ≤ d k ∧ d k ≤ es k) (f s : Nat) (hf : f < n) (hs : s < n) :
    -(due ts es f s ts.length) ≤ (offs n (withSl ts d)).getD s 0 - (offs n (withSl ts d)).getD f 0 ∧ (offs n (withSl ts d)).getD s 0 - (offs n (withSl ts d)).getD f 0 ≤ due ts es f s ts.length := by
  rw [offs_with n ts hv _ s hs, offs_with n ts hv _ f hf, sm0_sub]
  constructor
  · have e : -(due ts es f s ts.length) = sm0 ts.length fun k => -(if decide (k ∈ heard ts ts.length f) ≠ decide (k ∈ heard ts ts.length s) then es k else 0) := by
      unfold due
      have := sm0_sub ts.length (fun _ => 0) (fun k => if decide (k ∈ heard ts ts.length f) ≠ decide (k ∈ heard ts ts.length s) then es k else 0)
      have z : sm0 ts.length (fun _ => 0) = 0 := by
        have : ∀ m, sm0 m (fun _ => 0) = 0 := fun m => by
          induction m with
          | zero => rfl
          | succ m ih => rw [sm0_succ, ih]; rfl
        exact this _
      rw [z] at this
      have e2 : ∀ x : Int, -x = 0 - x := fun x => by omega
      rw [e2, this]
      refine sm0_congr fun k _ => by rw [e2]
    rw [e]
    refine sm0_le fun k hk => ?_
    have := hd k hk
    by_cases h1 : k ∈ heard ts ts.length f <;> by_cases h2 : k ∈ heard ts ts.length s <;> simp [h1, h2] <;> omega
  · unfold due
    refine sm0_le fun k hk => ?_
    have := hd k hk
    by_cases h1 : k ∈ heard ts ts.length f <;> by_cases h2 : k ∈ heard ts ts.length s <;> simp [h1, h2] <;> omega
/-! ### the law's own defs -/
def S__law_world : DSp := fun ds Q => ∃ r : List Int, ds = [eI r] ∧ Good r ∧ r.length = 120 ∧ ∀ (n : Nat) (ts : List Tn), 2 ≤ n → n ≤ 60 → Val n ts → ts.length ≤ 150 → Q .av (.tuple [.int (n : Int), .list (ts.map en)])
theorem ms__law_world : MonoS S__law_world := fun ds Q Q' h ⟨r, e, h1, h2, q⟩ => ⟨r, e, h1, h2, fun n ts a b c d => h _ _ (q n ts a b c d)⟩
theorem at_good {r : List Int} (k : Nat) (hk : k < r.length) : L2.atI (r.map PyData.int) (k : Int) = some (.int (r.getD k 0)) := by
  rw [gD hk]
  exact at_map hk
/-- the second half of the world: from a size, a number and a scale on -/
def wTail (S__law_cell : DSp) : DS := (dSeq (dOwn 4 (dLst dNil)) (dSeq (dForR1 (dVar 2) (gName 5) (dSeq (dSet 6 (dOp rMod (dCall S__law_cell (dCons (dVar 0) (dCons (dOp rAdd (dC (.int 3)) (dOp rMul (dC (.int 3)) (dVar 5))) dNil))) (dVar 1))) (dSeq (dSet 7 (dOp rMod (dOp rAdd (dOp rAdd (dVar 6) (dC (.int 1))) (dOp rMod (dCall S__law_cell (dCons (dVar 0) (dCons (dOp rAdd (dC (.int 4)) (dOp rMul (dC (.int 3)) (dVar 5))) dNil))) (dOp rSub (dVar 1) (dC (.int 1))))) (dVar 1))) (dApp 4 (dTup (dCons (dVar 6) (dCons (dVar 7) (dCons (dOp rMul (dOp rSub (dOp rMod (dCall S__law_cell (dCons (dVar 0) (dCons (dOp rAdd (dC (.int 5)) (dOp rMul (dC (.int 3)) (dVar 5))) dNil))) (dC (.int 41))) (dC (.int 20))) (dVar 3)) dNil)))))))) (dFrz 4 (dRet (dTup (dCons (dVar 1) (dCons (dVar 4) dNil)))))))
theorem kp_wTail {Q : Rt → PyData → Prop} {r : List Int} (hg : Good r) (hl : r.length = 120) (q : ∀ (n : Nat) (ts : List Tn), 2 ≤ n → n ≤ 60 → Val n ts → ts.length ≤ 150 → Q .av (.tuple [.int (n : Int), .list (ts.map en)])) (n : Nat) (many scale : Int) (h2 : 2 ≤ n) (h60 : n ≤ 60) (hm0 : 0 ≤ many) (hm : many ≤ 150) (hsc : -10000000000 ≤ scale ∧ scale ≤ 10000000000) :
    wTail S__law_cell { nx := fun _ => Q .av .none, rt := Q } [.val false (eI r), .val false (.int (n : Int)), .val false (.int many), .val false (.int scale), .non, .non, .non, .non] := by
  refine ⟨by simp, ?_⟩
  refine ⟨sm (by omega) (by omega), for_upTo (fun i σ => ∃ ts s5 s6 s7, σ = [.val false (eI r), .val false (.int (n : Int)), .val false (.int many), .val false (.int scale), .own false ((ts : List Tn).map en), s5, s6, s7] ∧ Val n ts ∧ ts.length = i) ⟨[], _, _, _, rfl, (fun x h => nomatch h), rfl⟩ (fun i σ K hi h k => ?_) (fun σ h => ?_)⟩
  · obtain ⟨ts, s5, s6, s7, rfl, hv, ht⟩ := h
    refine ⟨mul_l (by decide), r, _, rfl, hg, by omega, by omega, fun c1 a1 b1 => ?_⟩
    refine ⟨md (by omega), mul_l (by decide), r, _, rfl, hg, by omega, by omega, fun c2 a2 b2 => ?_⟩
    refine ⟨md (by omega), md (by omega), ?_⟩
    have p0 : 0 ≤ c1 % (n : Int) := Int.emod_nonneg _ (by omega)
    have p1 : c1 % (n : Int) < n := Int.emod_lt_of_pos _ (by omega)
    have m0 : 0 ≤ (c1 % (n : Int) + 1 + c2 % ((n : Int) - 1)) % (n : Int) := Int.emod_nonneg _ (by omega)
    have m1 : (c1 % (n : Int) + 1 + c2 % ((n : Int) - 1)) % (n : Int) < n := Int.emod_lt_of_pos _ (by omega)
    refine ⟨mul_l (by decide), r, _, rfl, hg, by omega, by omega, fun c3 a3 b3 => ?_⟩
    have s0 : 0 ≤ c3 % 41 := Int.emod_nonneg _ (by decide)
    have s1 : c3 % 41 < 41 := Int.emod_lt_of_pos _ (by decide)
    refine ⟨md (by decide), mul_r (by omega), by simp, szlt (by rw [List.length_map]; omega), ?_⟩
    have hp : (((c1 % (n : Int)).toNat : Nat) : Int) = c1 % (n : Int) := by omega
    have hq : ((((c1 % (n : Int) + 1 + c2 % ((n : Int) - 1)) % (n : Int)).toNat : Nat) : Int) = (c1 % (n : Int) + 1 + c2 % ((n : Int) - 1)) % (n : Int) := by omega
    have e : en (⟨(c1 % (n : Int)).toNat, ((c1 % (n : Int) + 1 + c2 % ((n : Int) - 1)) % (n : Int)).toNat, (c3 % 41 - 20) * scale⟩ : Tn) = .tuple [.int (c1 % (n : Int)), .int ((c1 % (n : Int) + 1 + c2 % ((n : Int) - 1)) % (n : Int)), .int ((c3 % 41 - 20) * scale)] := by
      show PyData.tuple [.int ((c1 % (n : Int)).toNat : Nat), .int (((c1 % (n : Int) + 1 + c2 % ((n : Int) - 1)) % (n : Int)).toNat : Nat), _] = _
      rw [hp, hq]
    refine k _ ⟨ts ++ [_], _, _, _, by rw [List.map_append, List.map_singleton, e]; rfl, fun t h => ?_, by rw [List.length_append, ht]; rfl⟩
    rcases List.mem_append.mp h with h | h
    · exact hv t h
    · rw [List.mem_singleton.mp h]
      exact ⟨by show (c1 % (n : Int)).toNat < n; omega, by show ((c1 % (n : Int) + 1 + c2 % ((n : Int) - 1)) % (n : Int)).toNat < n; omega⟩
  · obtain ⟨ts, s5, s6, s7, rfl, hv, ht⟩ := h
    exact ⟨by simp, q n ts h2 h60 hv (by omega)⟩
theorem kp__law_world : Keeps 8 (rd__law_world_02d4 S__law_cell) S__law_world := by
  rintro ds Q ⟨r, rfl, hg, hl, q⟩
  have g0 := hg _ (List.getElem_mem (show 0 < r.length by omega))
  have g1 := hg _ (List.getElem_mem (show 1 < r.length by omega))
  have g2 := hg _ (List.getElem_mem (show 2 < r.length by omega))
  generalize hd0 : r[0] = d0 at *
  generalize hd1 : r[1] = d1 at *
  generalize hd2 : r[2] = d2 at *
  have a0 : L2.atI (r.map PyData.int) 0 = some (.int d0) := by rw [← hd0]; exact at_map (i := 0) (by omega)
  have a1 : L2.atI (r.map PyData.int) 1 = some (.int d1) := by rw [← hd1]; exact at_map (i := 1) (by omega)
  have a2 : L2.atI (r.map PyData.int) 2 = some (.int d2) := by rw [← hd2]; exact at_map (i := 2) (by omega)
  -- the scale
  have mid : ∀ (n : Nat) (many : Int), 2 ≤ n → n ≤ 60 → 0 ≤ many → many ≤ 150 →
      (dSeq (dSet 3 (dC (.int 1))) (dSeq (dIf (dCmp rEq (dOp rMod (dOp rIx (dVar 0) (dC (.int 1))) (dC (.int 8))) (dC (.int 4))) (dSet 3 (dOp rAdd (dOp rPow (dC (.int 10)) (dC (.int 9))) (dOp rIx (dVar 0) (dC (.int 2))))) dNext) (wTail S__law_cell)))
        { nx := fun _ => Q .av .none, rt := Q } [.val false (eI r), .val false (.int (n : Int)), .val false (.int many), .non, .non, .non, .non, .non] := by
    intro n many h2 h60 hm0 hm
    refine ⟨_, a1, md (by decide), br.dec (fun h => ?_) (fun h => ?_)⟩
    · refine ⟨⟨by decide, by decide, by decide⟩, _, a2, ?_⟩
      exact kp_wTail hg hl q n many ((10 : Int) ^ 9 + d2) h2 h60 hm0 hm (by omega)
    · exact kp_wTail hg hl q n many 1 h2 h60 hm0 hm (by decide)
  have e0 : 0 ≤ d0 % 6 ∧ d0 % 6 < 6 := ⟨Int.emod_nonneg _ (by decide), Int.emod_lt_of_pos _ (by decide)⟩
  have e1 : 0 ≤ d1 / 8 % 25 ∧ d1 / 8 % 25 < 25 := ⟨Int.emod_nonneg _ (by decide), Int.emod_lt_of_pos _ (by decide)⟩
  have e2 : 0 ≤ d1 / 8 % 151 ∧ d1 / 8 % 151 < 151 := ⟨Int.emod_nonneg _ (by decide), Int.emod_lt_of_pos _ (by decide)⟩
  have e3 : 0 ≤ d0 / 6 % 53 ∧ d0 / 6 % 53 < 53 := ⟨Int.emod_nonneg _ (by decide), Int.emod_lt_of_pos _ (by decide)⟩
  refine ⟨_, a0, md (by decide), _, a1, div_s (by decide), md (by decide), _, a1, md (by decide), br.dec (fun h => ?_) (fun h => ?_)⟩
  · refine ⟨_, a0, div_s (by decide), md (by decide), _, a1, div_s (by decide), md (by decide), ?_⟩
    have := mid (8 + d0 / 6 % 53).toNat (d1 / 8 % 151) (by omega) (by omega) e2.1 (by omega)
    rw [show (((8 + d0 / 6 % 53).toNat : Nat) : Int) = 8 + d0 / 6 % 53 by omega] at this
    exact this
  · have := mid (2 + d0 % 6).toNat (d1 / 8 % 25) (by omega) (by omega) e1.1 (by omega)
    rw [show (((2 + d0 % 6).toNat : Nat) : Int) = 2 + d0 % 6 by omega] at this
    exact this
end RD

set_option Elab.async false
set_option linter.all false
set_option maxRecDepth 100000
/-! M_K77: safe targets: the program's defs. A plan is a list of turns (string, source, number of a listening). -/
namespace RD
open PySem DL
open En (en)
structure Ls where
  a : Nat
  b : Nat
  e : Int
  deriving DecidableEq
instance : En Ls where
  en := fun t => .tuple [.int (t.a : Int), .int (t.b : Int), .int t.e]
  dp := 1
  lay := fun t => by simp only [PyData.canLay0, PyData.canLayAll0, Bool.and_self]
  dep := fun t => by simp [PyData.depth, PyData.depthAll]
  eqv := fun a b => by
    obtain ⟨a1, a2, a3⟩ := a
    obtain ⟨b1, b2, b3⟩ := b
    simp [PyData.eqv, PyData.eqvAll, Int.natCast_inj]
/-- the plan's numbers are numbers of listenings -/
def Pix (ls : List Ls) (pl : List Tn) : Prop := ∀ t ∈ pl, 0 ≤ t.sl ∧ t.sl.toNat < ls.length
/-- the errors along a plan -/
def errs (ls : List Ls) (pl : List Tn) : List Int := pl.map fun t => (ls.getD t.sl.toNat ⟨0, 0, 0⟩).e
theorem errs_len (ls : List Ls) (pl : List Tn) : (errs ls pl).length = pl.length := List.length_map ..
def S_ways_of : DSp := fun ds Q => ∃ (n : Nat) (ts : List Tn), ds = [.int n, .list (ts.map en)] ∧ n ≤ 1000 ∧ ts.length ≤ 1000 ∧ Val n ts ∧ Q .new (en (heardAll n ts ts.length))
theorem ms_ways_of : MonoS S_ways_of := fun ds Q Q' h ⟨n, ts, e, h1, h2, h3, q⟩ => ⟨n, ts, e, h1, h2, h3, h _ _ q⟩
theorem kp_ways_of : Keeps 7 rd_ways_of S_ways_of := by
  rintro ds Q ⟨n, ts, rfl, hn, ht, hv, q⟩
  refine ⟨sm (by omega) (by omega), lc_upTo (fun _ => PyData.list []) (by omega) (fun k hk P N p => ⟨by decide, p⟩) ?_⟩
  have e0 : (List.range (n : Int).toNat).map (fun _ => PyData.list []) = (heardAll n ts 0).map en := by
    unfold heardAll
    rw [List.map_replicate, List.map_const', List.length_range, Int.toNat_natCast]
    rfl
  refine ⟨sm (by simp) (by simp; omega), for_upTo (fun i σ => ∃ s3 s4 s5 s6, σ = [.val false (.int n), .val false (.list (ts.map en)), .own false ((heardAll n ts i).map en), s3, s4, s5, s6]) ⟨.non, .non, .non, .non, ?_⟩ (fun i σ K hi h k => ?_) (fun σ h => ?_)⟩
  · rw [← e0]
    rfl
  · obtain ⟨s3, s4, s5, s6, rfl⟩ := h
    have hi' : i < ts.length := by
      simp at hi
      exact hi
    obtain ⟨h1, h2⟩ := hv ts[i] (List.getElem_mem hi')
    have hl := heardAll_len n ts i
    have hm : ts[i].md < (heardAll n ts i).length := by rw [hl]; exact h2
    have e1 : (0 : Int) + (i : Int) = (i : Int) := by omega
    rw [e1]
    have hs : ((heardAll n ts i)[ts[i].md].map (en (α := Nat))).length + [PyData.int (i : Int)].length ≤ 16000000 := by
      have := heard_len ts i ts[i].md
      rw [← heardAll_get n ts hv i _ h2, gD hm] at this
      simp
      omega
    have e3 : ((heardAll n ts i).map (en (α := List Nat))).set ts[i].pl (.list ((heardAll n ts i)[ts[i].md].map en ++ [.int (i : Int)])) = (heardAll n ts (i + 1)).map en := by
      have e2 : heardAll n ts (i + 1) = (heardAll n ts i).set ts[i].pl ((heardAll n ts i).getD ts[i].md [] ++ [i]) := by
        conv => lhs; unfold heardAll
        rw [List.getElem?_eq_getElem hi']
      rw [e2, gD hm, ← set_map]
      show _ = ((heardAll n ts i).map en).set ts[i].pl (.list (((heardAll n ts i)[ts[i].md] ++ [i]).map en))
      rw [List.map_append]
      rfl
    exact ⟨_, at_map hi', rfl, _, at_map hm, by simp, sz hs, _, ixN_nat (j := ts[i].pl) (by rw [List.length_map, hl]; exact h1), k _ ⟨_, _, _, _, by rw [← e3]; rfl⟩⟩
  · obtain ⟨s3, s4, s5, s6, rfl⟩ := h
    have el : (((ts.map en).length : Nat) : Int).toNat = ts.length := by simp
    rw [el]
    exact q
theorem sum_take {xs : List Int} {i : Nat} (h : i < xs.length) : (xs.take (i + 1)).sum = (xs.take i).sum + xs[i] := by
  rw [List.take_succ_eq_append_getElem h, List.sum_append]
  simp
def S_pair_error : DSp := fun ds Q => ∃ (n f s : Nat) (r : Int) (ls : List Ls) (pl : List Tn), ds = [.int n, .int r, .list (ls.map en), .list (pl.map en), .int f, .int s] ∧ n ≤ 1000 ∧ pl.length ≤ 1000 ∧ Val n pl ∧ Pix ls pl ∧ f < n ∧ s < n ∧ Q .av (.int (apart pl (errs ls pl) f s))
theorem ms_pair_error : MonoS S_pair_error := fun ds Q Q' h ⟨n, f, s, r, ls, pl, e, h1, h2, h3, h4, h5, h6, q⟩ => ⟨n, f, s, r, ls, pl, e, h1, h2, h3, h4, h5, h6, h _ _ q⟩
theorem kp_pair_error : Keeps 9 (rd_pair_error S_ways_of S_parting) S_pair_error := by
  rintro ds Q ⟨n, f, s, r, ls, pl, rfl, hn, ht, hv, hx, hf, hs, q⟩
  have hl := heardAll_len n pl pl.length
  have e1 : ∀ p (h : p < (heardAll n pl pl.length).length), (heardAll n pl pl.length)[p] = heard pl pl.length p := fun p h => by
    rw [← gD (d := []) h, heardAll_get n pl hv _ p (by rw [hl] at h; exact h)]
  have hl1 := heard_len pl pl.length f
  have hl2 := heard_len pl pl.length s
  have hp : ∀ k ∈ part (heard pl pl.length f) (heard pl pl.length s), k < pl.length := fun k hk => by
    rcases List.mem_append.mp hk with h | h
    · exact heard_lt pl _ _ k (List.mem_filter.mp h).1
    · exact heard_lt pl _ _ k (List.mem_filter.mp h).1
  unfold rd_pair_error
  refine seq_join2 (fun σ => σ = [.val false (.int n), .val false (.int r), .val false (.list (ls.map en)), .val false (.list (pl.map en)), .val false (.int f), .val false (.int s), .val false (en (heardAll n pl pl.length)), .val false (.int 0), .non]) (fun K k => ?_) (fun σ h => ?_)
  · exact ⟨n, pl, rfl, hn, ht, hv, k _ rfl⟩
  subst h
  have af : L2.atI ((heardAll n pl pl.length).map (en (α := List Nat))) (f : Int) = some (en (heard pl pl.length f)) := by
    rw [← e1 f (by rw [hl]; exact hf)]
    exact at_map (by rw [hl]; exact hf)
  have as : L2.atI ((heardAll n pl pl.length).map (en (α := List Nat))) (s : Int) = some (en (heard pl pl.length s)) := by
    rw [← e1 s (by rw [hl]; exact hs)]
    exact at_map (by rw [hl]; exact hs)
  refine ⟨_, af, _, as, ?_⟩
  refine ⟨_, _, rfl, by omega, by omega, ?_⟩
  unfold apart at q
  generalize hpt : part (heard pl pl.length f) (heard pl pl.length s) = pt at *
  refine for_inv en pt (fun i σ => ∃ s8, σ = [.val false (.int n), .val false (.int r), .val false (.list (ls.map en)), .val false (.list (pl.map en)), .val false (.int f), .val false (.int s), .val false (en (heardAll n pl pl.length)), .val false (.int ((pt.map fun k => (errs ls pl).getD k 0).take i).sum), s8]) ⟨.non, rfl⟩ (fun i hi σ K h k => ?_) (fun σ h => ?_)
  · obtain ⟨s8, rfl⟩ := h
    have hk := hp pt[i] (List.getElem_mem hi)
    obtain ⟨x0, x1⟩ := hx pl[pt[i]] (List.getElem_mem hk)
    refine ⟨_, at_map (en := En.en (α := Tn)) (i := pt[i]) hk, _, rfl, _, at_int (en := En.en (α := Ls)) x0 x1, _, rfl, k _ ⟨.val false (.int (pt[i] : Nat)), ?_⟩⟩
    have e2 : (errs ls pl).getD pt[i] 0 = ls[pl[pt[i]].sl.toNat].e := by
      unfold errs
      rw [gD (by rw [List.length_map]; exact hk), List.getElem_map, gD x1]
    rw [sum_take (by rw [List.length_map]; exact hi), List.getElem_map, e2]
    rfl
  · obtain ⟨s8, rfl⟩ := h
    rw [List.take_of_length_le (by rw [List.length_map]; exact Nat.le_refl _)]
    exact q
def nar (e : Int) (d : Dm) : Dm := ⟨d.lw, d.hg, d.lo.map fun x => x + e, d.hi.map fun x => x - e⟩
def S_narrowed : DSp := fun ds Q => ∃ (d : Dm) (e : Int), ds = [en d, .int e] ∧ Q .av (en (nar e d))
theorem ms_narrowed : MonoS S_narrowed := fun ds Q Q' h ⟨d, e, z, q⟩ => ⟨d, e, z, h _ _ q⟩
theorem kp_narrowed : Keeps 6 rd_narrowed S_narrowed := by
  rintro ds Q ⟨d, e, rfl, q⟩
  obtain ⟨lw, hg, lo, hi⟩ := d
  cases lo with
  | none =>
    cases hi with
    | none => exact ⟨rfl, by simp, q⟩
    | some h => exact ⟨rfl, by simp, q⟩
  | some l =>
    cases hi with
    | none => exact ⟨rfl, by simp, q⟩
    | some h => exact ⟨rfl, by simp, q⟩
/-- the safe demands -/
def safe (ls : List Ls) (pl : List Tn) (d : Dm) : Dm := nar (apart pl (errs ls pl) d.lw d.hg) d
def S_safe_demands : DSp := fun ds Q => ∃ (n : Nat) (r : Int) (ls : List Ls) (pl : List Tn) (dms : List Dm), ds = [.int n, .list (dms.map en), .int r, .list (ls.map en), .list (pl.map en)] ∧ n ≤ 1000 ∧ pl.length ≤ 1000 ∧ Val n pl ∧ Pix ls pl ∧ dms.length ≤ 1000 ∧ Ok n dms ∧ Q .new (en (dms.map (safe ls pl)))
theorem ms_safe_demands : MonoS S_safe_demands := fun ds Q Q' h ⟨n, r, ls, pl, dms, e, h1, h2, h3, h4, h5, h6, q⟩ => ⟨n, r, ls, pl, dms, e, h1, h2, h3, h4, h5, h6, h _ _ q⟩
theorem kp_safe_demands : Keeps 8 (rd_safe_demands S_pair_error S_narrowed) S_safe_demands := by
  rintro ds Q ⟨n, r, ls, pl, dms, rfl, hn, ht, hv, hx, hd, ho, q⟩
  refine ⟨by simp, for_inv en dms (fun i σ => ∃ s6 s7, σ = [.val false (.int n), .val false (.list (dms.map en)), .val false (.int r), .val false (.list (ls.map en)), .val false (.list (pl.map en)), .own false (((dms.take i).map (safe ls pl)).map en), s6, s7]) ⟨.non, .non, rfl⟩ (fun i hi σ K h k => ?_) (fun σ h => ?_)⟩
  · obtain ⟨s6, s7, rfl⟩ := h
    obtain ⟨o1, o2⟩ := ho dms[i] (List.getElem_mem hi)
    refine ⟨_, rfl, _, rfl, ?_⟩
    refine ⟨n, dms[i].lw, dms[i].hg, r, ls, pl, rfl, hn, ht, hv, hx, o1, o2, ?_⟩
    refine ⟨dms[i], _, rfl, szlt (by rw [List.length_map, List.length_map, List.length_take]; omega), k _ ⟨.val false (en dms[i]), .val false (.int (apart pl (errs ls pl) dms[i].lw dms[i].hg)), ?_⟩⟩
    rw [List.take_succ_eq_append_getElem hi, List.map_append, List.map_append (l₂ := List.map _ [_])]
    rfl
  · obtain ⟨s6, s7, rfl⟩ := h
    rw [List.take_length]
    exact q
end RD

set_option Elab.async false
set_option linter.all false
set_option maxRecDepth 100000
/-! M2_K77: safe targets: slips along a plan. -/
namespace RD
open PySem DL
open En (en)
def slV (sg : Int) (es : List Int) (lo hi : List Nat) (k : Nat) : Int := if k ∈ hi ∧ k ∉ lo then sg * es.getD k 0 else if k ∈ lo ∧ k ∉ hi then -sg * es.getD k 0 else 0
def slA (sg : Int) (es : List Int) (lo hi : List Nat) (n i : Nat) : List Int := (List.range n).map fun k => if k < i then slV sg es lo hi k else 0
theorem slA_len (sg : Int) (es : List Int) (lo hi : List Nat) (n i : Nat) : (slA sg es lo hi n i).length = n := by
  unfold slA
  rw [List.length_map, List.length_range]
theorem slA_zero (sg : Int) (es : List Int) (lo hi : List Nat) (n : Nat) : slA sg es lo hi n 0 = List.replicate n 0 := by
  unfold slA
  have : (fun k => if k < 0 then slV sg es lo hi k else (0 : Int)) = fun _ => 0 := funext fun k => if_neg (Nat.not_lt_zero k)
  rw [this, List.map_const', List.length_range]
theorem slA_succ (sg : Int) (es : List Int) (lo hi : List Nat) (n i : Nat) : slA sg es lo hi n (i + 1) = (slA sg es lo hi n i).set i (slV sg es lo hi i) := by
  unfold slA
  rw [set_range]
  refine List.map_congr_left fun k hk => ?_
  by_cases h : k = i
  · subst h
    rw [if_pos rfl, if_pos (by omega)]
  · rw [if_neg h]
    by_cases h2 : k < i
    · rw [if_pos h2, if_pos (by omega)]
    · rw [if_neg h2, if_neg (by omega)]
theorem slA_same (sg : Int) (es : List Int) (lo hi : List Nat) (n i : Nat) (h : slV sg es lo hi i = 0) : slA sg es lo hi n (i + 1) = slA sg es lo hi n i := by
  unfold slA
  refine List.map_congr_left fun k hk => ?_
  by_cases h1 : k = i
  · subst h1
    rw [h, if_pos (by omega), if_neg (by omega)]
  · by_cases h2 : k < i
    · rw [if_pos h2, if_pos (by omega)]
    · rw [if_neg h2, if_neg (by omega)]
def S_slips_apart : DSp := fun ds Q => ∃ (ls : List Ls) (pl : List Tn) (lo hi : List Nat) (sg : Int), ds = [.list (ls.map en), .list (pl.map en), en lo, en hi, .int sg] ∧ pl.length ≤ 1000 ∧ Pix ls pl ∧ (sg = 1 ∨ sg = -1) ∧ Q .new (eI (slA sg (errs ls pl) lo hi pl.length pl.length))
theorem ms_slips_apart : MonoS S_slips_apart := fun ds Q Q' h ⟨ls, pl, lo, hi, sg, e, h1, h2, h3, q⟩ => ⟨ls, pl, lo, hi, sg, e, h1, h2, h3, h _ _ q⟩
theorem kp_slips_apart : Keeps 8 rd_slips_apart S_slips_apart := by
  rintro ds Q ⟨ls, pl, lo, hi, sg, rfl, ht, hx, hsg, q⟩
  refine ⟨by simp, by rw [List.length_map]; omega, by rw [List.length_map]; omega, sz (by simp; omega), ?_⟩
  have e00 : (List.replicate ((((pl.map (en (α := Tn))).length : Nat) : Int)).toNat [PyData.int 0]).flatten = (slA sg (errs ls pl) lo hi pl.length 0).map PyData.int := by
    rw [slA_zero, ← rep0, List.length_map]
  refine ⟨sm (by omega) (by rw [List.length_map]; omega), for_upTo (fun i σ => ∃ s6 s7, σ = [.val false (.list (ls.map en)), .val false (.list (pl.map en)), .val false (en lo), .val false (en hi), .val false (.int sg), .own false ((slA sg (errs ls pl) lo hi pl.length i).map .int), s6, s7]) ⟨.non, .non, by rw [← e00]; rfl⟩ (fun i σ K hi' h k => ?_) (fun σ h => ?_)⟩
  · obtain ⟨s6, s7, rfl⟩ := h
    have hil : i < pl.length := by simpa using hi'
    have e0 : (0 : Int) + (i : Int) = (i : Int) := by omega
    obtain ⟨x0, x1⟩ := hx pl[i] (List.getElem_mem hil)
    have e2 : (errs ls pl).getD i 0 = ls[pl[i].sl.toNat].e := by
      unfold errs
      rw [gD (by rw [List.length_map]; exact hil), List.getElem_map, gD x1]
    have hln := slA_len sg (errs ls pl) lo hi pl.length i
    have vdef : slV sg (errs ls pl) lo hi i = if i ∈ hi ∧ i ∉ lo then sg * ls[pl[i].sl.toNat].e else if i ∈ lo ∧ i ∉ hi then -sg * ls[pl[i].sl.toNat].e else 0 := by
      unfold slV
      rw [e2]
    rw [e0]
    generalize hE : ls[pl[i].sl.toNat].e = E at *
    have stE : (dSet 7 (dOp rIx (dOp rIx (dVar 0) (dOp rIx (dOp rIx (dVar 1) (dVar 6)) (dC (.int 2)))) (dC (.int 2)))) = (dSet 7 (dOp rIx (dOp rIx (dVar 0) (dOp rIx (dOp rIx (dVar 1) (dVar 6)) (dC (.int 2)))) (dC (.int 2)))) := rfl
    refine ⟨_, at_map (en := En.en (α := Tn)) hil, _, rfl, _, at_int (en := En.en (α := Ls)) x0 x1, _, rfl, ?_⟩
    rw [hE]
    have aft : ∀ (b : Prop) [Decidable b] (L : List Int), L = (if b then (slA sg (errs ls pl) lo hi pl.length i).set i (sg * E) else slA sg (errs ls pl) lo hi pl.length i) → L.length = pl.length := fun b _ L e => by
      rw [e]
      split
      · rw [List.length_set]; exact hln
      · exact hln
    refine in_go (α := Nat) i hi (Q := fun c => br c _ _) (br.dec (fun a => ?_) (fun a => ?_))
    · refine in_go (α := Nat) i lo (Q := fun c => br (!c) _ _) (br.nd (fun b => ?_) (fun b => ?_))
      · refine ⟨mul_l (by omega), _, ixN_nat (by rw [List.length_map, hln]; exact hil), ?_⟩
        refine in_go (α := Nat) i lo (Q := fun c => br c _ _) (br.dec (fun c => absurd c b) (fun _ => k _ ⟨.val false (.int (i : Int)), .val false (.int E), ?_⟩))
        rw [slA_succ, vdef, if_pos ⟨a, b⟩, ← set_map]
        rfl
      · refine in_go (α := Nat) i lo (Q := fun c => br c _ _) (br.dec (fun _ => ?_) (fun c => absurd b c))
        refine in_go (α := Nat) i hi (Q := fun c => br (!c) _ _) (br.nd (fun c => absurd a c) (fun _ => k _ ⟨.val false (.int (i : Int)), .val false (.int E), ?_⟩))
        rw [slA_same _ _ _ _ _ _ (by rw [vdef, if_neg (fun z => z.2 b), if_neg (fun z => z.2 a)])]
        rfl
    · refine in_go (α := Nat) i lo (Q := fun c => br c _ _) (br.dec (fun b => ?_) (fun b => k _ ⟨.val false (.int (i : Int)), .val false (.int E), ?_⟩))
      · refine in_go (α := Nat) i hi (Q := fun c => br (!c) _ _) (br.nd (fun _ => ?_) (fun c => absurd c a))
        refine ⟨mul_l (by omega), _, ixN_nat (by rw [List.length_map, hln]; exact hil), k _ ⟨.val false (.int (i : Int)), .val false (.int E), ?_⟩⟩
        rw [slA_succ, vdef, if_neg (fun z => a z.1), if_pos ⟨b, a⟩, ← set_map]
        rfl
      · rw [slA_same _ _ _ _ _ _ (by rw [vdef, if_neg (fun z => a z.1), if_neg (fun z => b z.1)])]
        rfl
  · obtain ⟨s6, s7, rfl⟩ := h
    rw [List.length_map, Int.toNat_natCast]
    exact q
/-- the pitches of a target, moved -/
def pch (t o : List Int) : List Int := (List.range t.length).map fun k => t.getD k 0 + o.getD k 0
theorem pch_len (t o : List Int) : (pch t o).length = t.length := by
  unfold pch
  rw [List.length_map, List.length_range]
theorem pch_at {t o : List Int} {k : Nat} (h : k < t.length) : (pch t o).getD k 0 = t.getD k 0 + o.getD k 0 := by
  unfold pch
  rw [gD_range h]
theorem pch_zero (t : List Int) : pch t (List.replicate t.length 0) = t := by
  refine List.ext_getElem (by rw [pch_len]) fun i h1 h2 => ?_
  rw [← gD (d := 0) h1, pch_at h2, gD h2, gD (by rw [List.length_replicate]; exact h2), List.getElem_replicate, Int.add_zero]
theorem pch_set {t o : List Int} (hl : o.length = t.length) {j : Nat} (hj : j < t.length) (x : Int) : pch t (o.set j x) = (pch t o).set j (t.getD j 0 + x) := by
  unfold pch
  rw [set_range]
  refine List.map_congr_left fun k hk => ?_
  have hk' := List.mem_range.mp hk
  by_cases h : k = j
  · subst h
    rw [if_pos rfl, gD (show k < (o.set k x).length by rw [List.length_set, hl]; exact hk'), List.getElem_set_self]
  · rw [if_neg h, gD (show k < (o.set j x).length by rw [List.length_set, hl]; exact hk'), List.getElem_set_ne (Ne.symm h), gD (show k < o.length by rw [hl]; exact hk')]
/-- heard with slips -/
def tun (t : List Int) (pl : List Tn) (sl : List Int) : List Int := pch t (offs t.length (withSl pl fun k => sl.getD k 0))
def S_tuned_by_ear : DSp := fun ds Q => ∃ (t : List Int) (r : Int) (ls : List Ls) (pl : List Tn) (sl : List Int), ds = [eI t, .int r, .list (ls.map en), .list (pl.map en), eI sl] ∧ t.length ≤ 1000 ∧ pl.length ≤ 1000 ∧ Val t.length pl ∧ sl.length = pl.length ∧ Q .new (eI (tun t pl sl))
theorem ms_tuned_by_ear : MonoS S_tuned_by_ear := fun ds Q Q' h ⟨t, r, ls, pl, sl, e, h1, h2, h3, h4, q⟩ => ⟨t, r, ls, pl, sl, e, h1, h2, h3, h4, h _ _ q⟩
theorem kp_tuned_by_ear : Keeps 10 rd_tuned_by_ear S_tuned_by_ear := by
  rintro ds Q ⟨t, r, ls, pl, sl, rfl, hn, ht, hv, hs, q⟩
  generalize hw : withSl pl (fun k => sl.getD k 0) = ws
  have hwl : ws.length = pl.length := by rw [← hw, withSl_len]
  have hwv : Val t.length ws := by rw [← hw]; exact withSl_val hv _
  refine ⟨sm (by omega) (by rw [List.length_map]; omega), for_upTo (fun i σ => ∃ s6 s7 s8 s9, σ = [.val false (eI t), .val false (.int r), .val false (.list (ls.map en)), .val false (.list (pl.map en)), .val false (eI sl), .own false ((pch t (offs t.length (ws.take i))).map .int), s6, s7, s8, s9]) ⟨.non, .non, .non, .non, ?_⟩ (fun i σ K hi' h k => ?_) (fun σ h => ?_)⟩
  · have : pch t (offs t.length (ws.take 0)) = t := pch_zero t
    rw [this]
    rfl
  · obtain ⟨s6, s7, s8, s9, rfl⟩ := h
    have hil : i < pl.length := by simpa using hi'
    have e0 : (0 : Int) + (i : Int) = (i : Int) := by omega
    obtain ⟨h1, h2⟩ := hv pl[i] (List.getElem_mem hil)
    have hol := offs_len t.length (ws.take i)
    have hw1 : i < ws.length := by omega
    have ew : ws[i] = ⟨pl[i].pl, pl[i].md, sl.getD i 0⟩ := by
      have := withSl_at pl (fun k => sl.getD k 0) i hil
      rw [hw, List.getElem?_eq_getElem hw1] at this
      exact Option.some.inj this
    have hpl := pch_len t (offs t.length (ws.take i))
    have eP : (pch t (offs t.length (ws.take i)))[pl[i].md]'(by rw [hpl]; exact h2) = t[pl[i].md] + (offs t.length (ws.take i)).getD pl[i].md 0 := by
      rw [← gD (d := 0) (by rw [hpl]; exact h2), pch_at h2, gD h2]
    rw [e0]
    refine ⟨_, at_map (en := En.en (α := Tn)) hil, rfl, _, at_map (i := pl[i].md) (by rw [hpl]; exact h2), _, at_map (i := pl[i].pl) h1, _, at_map (i := pl[i].md) h2, _, at_map (i := i) (by omega), _, ixN_nat (j := pl[i].pl) (by rw [List.length_map, hpl]; exact h1), k _ ⟨.val false (.int (i : Int)), .val false (.int (pl[i].pl : Int)), .val false (.int (pl[i].md : Int)), .val false (.int pl[i].sl), ?_⟩⟩
    have e3 : pch t (offs t.length (ws.take (i + 1))) = (pch t (offs t.length (ws.take i))).set pl[i].pl ((pch t (offs t.length (ws.take i)))[pl[i].md]'(by rw [hpl]; exact h2) + t[pl[i].pl] - t[pl[i].md] + sl[i]) := by
      rw [offs_take _ _ _ hw1]
      unfold offStep
      rw [ew]
      dsimp only
      rw [pch_set hol h1, eP, gD h1, gD (show i < sl.length by omega)]
      congr 1
      omega
    rw [e3, ← set_map]
    rfl
  · obtain ⟨s6, s7, s8, s9, rfl⟩ := h
    rw [List.length_map, Int.toNat_natCast, ← hwl, List.take_length]
    unfold tun at q
    rw [hw] at q
    exact q
end RD

set_option Elab.async false
set_option linter.all false
set_option maxRecDepth 100000
/-! M3_K77: safe targets: breaking errors. -/
namespace RD
open PySem DL
open En (en)
def Nn (ls : List Ls) : Prop := ∀ l ∈ ls, 0 ≤ l.e
theorem errs_nn {ls : List Ls} (h : Nn ls) (pl : List Tn) (k : Nat) : 0 ≤ (errs ls pl).getD k 0 := by
  by_cases hk : k < (errs ls pl).length
  · rw [gD hk]
    have e : (errs ls pl)[k] = (ls.getD (pl[k]'(by rw [errs_len] at hk; exact hk)).sl.toNat ⟨0, 0, 0⟩).e := by simp only [errs, List.getElem_map]
    rw [e]
    by_cases hx : (pl[k]'(by rw [errs_len] at hk; exact hk)).sl.toNat < ls.length
    · rw [gD hx]
      exact h _ (List.getElem_mem hx)
    · unfold List.getD
      rw [List.getElem?_eq_none (by omega)]
      decide
  · unfold List.getD
    rw [List.getElem?_eq_none (by omega)]
    decide
theorem sm0_zero (n : Nat) : sm0 n (fun _ => 0) = 0 := by
  induction n with
  | zero => rfl
  | succ n ih => rw [sm0_succ, ih]; rfl
theorem apart_nn {ls : List Ls} (h : Nn ls) (pl : List Tn) (f s : Nat) : 0 ≤ apart pl (errs ls pl) f s := by
  rw [apart_due]
  unfold due
  have := sm0_le (n := pl.length) (f := fun _ => 0) (g := fun k => if decide (k ∈ heard pl pl.length f) ≠ decide (k ∈ heard pl pl.length s) then (errs ls pl).getD k 0 else 0) (fun k _ => by
    show (0 : Int) ≤ _
    split
    · exact errs_nn h pl k
    · exact Int.le_refl _)
  rw [sm0_zero] at this
  exact this
theorem wsl_congr {ts : List Tn} {s s' : Nat → Int} (h : ∀ k, k < ts.length → s k = s' k) : withSl ts s = withSl ts s' := by
  unfold withSl
  refine List.map_congr_left fun k hk => ?_
  rw [h k (List.mem_range.mp hk)]
theorem slA_at {sg : Int} {es : List Int} {lo hi : List Nat} {n k : Nat} (h : k < n) : (slA sg es lo hi n n).getD k 0 = slV sg es lo hi k := by
  unfold slA
  rw [gD_range h, if_pos h]
theorem slA_bnd {sg : Int} (hs : sg = 1 ∨ sg = -1) {es : List Int} (he : ∀ k, 0 ≤ es.getD k 0) {lo hi : List Nat} {n k : Nat} (h : k < n) : -(es.getD k 0) ≤ (slA sg es lo hi n n).getD k 0 ∧ (slA sg es lo hi n n).getD k 0 ≤ es.getD k 0 := by
  rw [slA_at h]
  have := he k
  unfold slV
  rcases hs with e | e
  · subst e
    split
    · omega
    · split <;> omega
  · subst e
    split
    · omega
    · split <;> omega
theorem slV_up (es : List Int) (pl : List Tn) (f s k : Nat) : slV 1 es (heard pl pl.length f) (heard pl pl.length s) k = ups pl (fun k => es.getD k 0) f s k := by
  unfold slV ups
  by_cases a : k ∈ heard pl pl.length f
  · by_cases b : k ∈ heard pl pl.length s
    · simp [a, b]
    · simp [a, b]
  · by_cases b : k ∈ heard pl pl.length s
    · simp [a, b]
    · simp [a, b]
theorem slV_down (es : List Int) (pl : List Tn) (f s k : Nat) : slV (-1) es (heard pl pl.length f) (heard pl pl.length s) k = 0 - ups pl (fun k => es.getD k 0) f s k := by
  unfold slV ups
  by_cases a : k ∈ heard pl pl.length f
  · by_cases b : k ∈ heard pl pl.length s
    · simp [a, b]
    · simp [a, b]
  · by_cases b : k ∈ heard pl pl.length s
    · simp [a, b]
    · simp [a, b]
/-- slips for a demand -/
def dsl (ls : List Ls) (pl : List Tn) (d : Dm) (sg : Int) : List Int := slA sg (errs ls pl) (heard pl pl.length d.lw) (heard pl pl.length d.hg) pl.length pl.length
theorem mt_tun {t : List Int} {pl : List Tn} {sl : List Int} {d : Dm} (h1 : d.lw < t.length) (h2 : d.hg < t.length) {z : Int} (hz : (offs t.length (withSl pl fun k => sl.getD k 0)).getD d.hg 0 - (offs t.length (withSl pl fun k => sl.getD k 0)).getD d.lw 0 = z) : mt (tun t pl sl) d = wi (t.getD d.hg 0 - t.getD d.lw 0 + z) d.lo d.hi := by
  unfold mt tun
  rw [pch_at h1, pch_at h2]
  congr 1
  omega
theorem mt_up {t : List Int} {ls : List Ls} {pl : List Tn} {d : Dm} (hv : Val t.length pl) (h1 : d.lw < t.length) (h2 : d.hg < t.length) : mt (tun t pl (dsl ls pl d 1)) d = wi (t.getD d.hg 0 - t.getD d.lw 0 + apart pl (errs ls pl) d.lw d.hg) d.lo d.hi := by
  refine mt_tun h1 h2 ?_
  have e : withSl pl (fun k => (dsl ls pl d 1).getD k 0) = withSl pl (ups pl (fun k => (errs ls pl).getD k 0) d.lw d.hg) := wsl_congr fun k hk => by
    unfold dsl
    rw [slA_at hk, slV_up]
  rw [e, diff_up t.length pl hv _ _ _ h1 h2, apart_due]
theorem mt_down {t : List Int} {ls : List Ls} {pl : List Tn} {d : Dm} (hv : Val t.length pl) (h1 : d.lw < t.length) (h2 : d.hg < t.length) : mt (tun t pl (dsl ls pl d (-1))) d = wi (t.getD d.hg 0 - t.getD d.lw 0 + -apart pl (errs ls pl) d.lw d.hg) d.lo d.hi := by
  refine mt_tun h1 h2 ?_
  have e : withSl pl (fun k => (dsl ls pl d (-1)).getD k 0) = withSl pl (fun k => 0 - ups pl (fun k => (errs ls pl).getD k 0) d.lw d.hg k) := wsl_congr fun k hk => by
    unfold dsl
    rw [slA_at hk, slV_down]
  have := diff_down t.length pl hv (fun k => (errs ls pl).getD k 0) _ _ h1 h2
  rw [e, apart_due]
  omega
theorem wi_safe {x e : Int} (he : 0 ≤ e) (lo hi : Option Int) : wi x (lo.map fun l => l + e) (hi.map fun h => h - e) = (wi (x + e) lo hi && wi (x + -e) lo hi) := by
  rw [Bool.eq_iff_iff]
  cases lo with
  | none =>
    cases hi with
    | none => simp [wi]
    | some h =>
      simp [wi]
      omega
  | some l =>
    cases hi with
    | none =>
      simp [wi]
      omega
    | some h =>
      simp [wi]
      omega
theorem mt_safe {t : List Int} {ls : List Ls} {pl : List Tn} {d : Dm} (hn : Nn ls) (hv : Val t.length pl) (h1 : d.lw < t.length) (h2 : d.hg < t.length) : mt t (safe ls pl d) = (mt (tun t pl (dsl ls pl d 1)) d && mt (tun t pl (dsl ls pl d (-1))) d) := by
  rw [mt_up hv h1 h2, mt_down hv h1 h2, ← wi_safe (apart_nn hn pl d.lw d.hg)]
  rfl
def S_breaking_errors : DSp := fun ds Q => ∃ (r : Int) (ls : List Ls) (pl : List Tn) (dms : List Dm) (t : List Int), ds = [.int (t.length : Int), .list (dms.map en), .int r, .list (ls.map en), .list (pl.map en), eI t] ∧ t.length ≤ 1000 ∧ pl.length ≤ 1000 ∧ Val t.length pl ∧ Pix ls pl ∧ Nn ls ∧ Ok t.length dms ∧
  ((∀ d ∈ dms, mt t (safe ls pl d) = true) → Q .av .none) ∧ (∀ (sl : List Int) (d : Dm), d ∈ dms → mt t (safe ls pl d) = false → sl.length = pl.length → (∀ k, k < pl.length → -((errs ls pl).getD k 0) ≤ sl.getD k 0 ∧ sl.getD k 0 ≤ (errs ls pl).getD k 0) → mt (tun t pl sl) d = false → Q .av (eI sl))
theorem ms_breaking_errors : MonoS S_breaking_errors := fun ds Q Q' h ⟨r, ls, pl, dms, t, e, h1, h2, h3, h4, h5, h6, q1, q2⟩ => ⟨r, ls, pl, dms, t, e, h1, h2, h3, h4, h5, h6, fun a => h _ _ (q1 a), fun sl d a b c e f => h _ _ (q2 sl d a b c e f)⟩
def brkBody (S_slips_apart S_meets S_tuned_by_ear : DSp) : DS := (dSeq (dSet 9 (dCall S_slips_apart (dCons (dVar 3) (dCons (dVar 4) (dCons (dOp rIx (dVar 6) (dOp rIx (dVar 7) (dC (.int 0)))) (dCons (dOp rIx (dVar 6) (dOp rIx (dVar 7) (dC (.int 1)))) (dCons (dVar 8) dNil))))))) (dIf (dNot (dTest (dCall S_meets (dCons (dLst (dCons (dVar 7) dNil)) (dCons (dCall S_tuned_by_ear (dCons (dVar 5) (dCons (dVar 2) (dCons (dVar 3) (dCons (dVar 4) (dCons (dVar 9) dNil)))))) dNil))))) (dRet (dVar 9)) dNext))
def bk (r : Int) (ls : List Ls) (pl : List Tn) (dms : List Dm) (t : List Int) (s7 s8 s9 : Sl) : Ds := [.val false (.int (t.length : Int)), .val false (.list (dms.map en)), .val false (.int r), .val false (.list (ls.map en)), .val false (.list (pl.map en)), .val false (eI t), .val false (en (heardAll t.length pl pl.length)), s7, s8, s9]
theorem dsl_len (ls : List Ls) (pl : List Tn) (d : Dm) (sg : Int) : (dsl ls pl d sg).length = pl.length := slA_len _ _ _ _ _ _
theorem kp_brkBody {D : Ed} {r : Int} {ls : List Ls} {pl : List Tn} {dms : List Dm} {t : List Int} {d : Dm} {sg : Int} (hsg : sg = 1 ∨ sg = -1) (hn : t.length ≤ 1000) (ht : pl.length ≤ 1000) (hv : Val t.length pl) (hx : Pix ls pl) (o1 : d.lw < t.length) (o2 : d.hg < t.length)
    (hF : mt (tun t pl (dsl ls pl d sg)) d = false → D.rt .av (eI (dsl ls pl d sg))) (hT : mt (tun t pl (dsl ls pl d sg)) d = true → D.nx (bk r ls pl dms t (.val false (en d)) (.val false (.int sg)) (.val false (eI (dsl ls pl d sg))))) (s9 : Sl) :
    brkBody S_slips_apart S_meets S_tuned_by_ear D (bk r ls pl dms t (.val false (en d)) (.val false (.int sg)) s9) := by
  have hl := heardAll_len t.length pl pl.length
  have aw : ∀ p, p < t.length → L2.atI ((heardAll t.length pl pl.length).map (en (α := List Nat))) (p : Int) = some (en (heard pl pl.length p)) := fun p h => by
    have e : (heardAll t.length pl pl.length)[p]'(by rw [hl]; exact h) = heard pl pl.length p := by
      rw [← gD (d := []) (by rw [hl]; exact h), heardAll_get t.length pl hv _ p h]
    rw [← e]
    exact at_map (by rw [hl]; exact h)
  have hok1 : Ok t.length [d] := fun x h => by
    rw [List.mem_singleton.mp h]
    exact ⟨o1, o2⟩
  unfold brkBody
  refine seq_join (fun σ => σ = bk r ls pl dms t (.val false (en d)) (.val false (.int sg)) (.val false (eI (dsl ls pl d sg)))) (fun K2 k2 => ?_) (fun σ h => ?_)
  · refine ⟨_, rfl, _, aw d.lw o1, _, rfl, _, aw d.hg o2, ?_⟩
    exact ⟨ls, pl, _, _, sg, rfl, ht, hx, hsg, k2 _ rfl⟩
  subst h
  refine ⟨by simp, ?_⟩
  refine ⟨t, r, ls, pl, dsl ls pl d sg, rfl, hn, ht, hv, dsl_len ls pl d sg, ?_⟩
  refine ⟨[d], tun t pl (dsl ls pl d sg), rfl, by unfold tun; rw [pch_len]; exact hok1, ?_⟩
  have e1 : [d].all (mt (tun t pl (dsl ls pl d sg))) = mt (tun t pl (dsl ls pl d sg)) d := by simp
  rw [e1]
  cases hm1 : mt (tun t pl (dsl ls pl d sg)) d with
  | false => exact hF hm1
  | true => exact hT hm1
theorem kp_breaking_errors : Keeps 10 (rd_breaking_errors S_ways_of S_slips_apart S_meets S_tuned_by_ear) S_breaking_errors := by
  rintro ds Q ⟨r, ls, pl, dms, t, rfl, hn, ht, hv, hx, hnn, ho, q1, q2⟩
  unfold rd_breaking_errors
  refine seq_join (fun σ => σ = bk r ls pl dms t .non .non .non) (fun K k => ?_) (fun σ h => ?_)
  · exact ⟨t.length, pl, rfl, hn, ht, hv, k _ rfl⟩
  subst h
  refine for_inv en dms (fun i σ => ∃ s7 s8 s9, σ = bk r ls pl dms t s7 s8 s9 ∧ ∀ d ∈ dms.take i, mt t (safe ls pl d) = true) ⟨.non, .non, .non, rfl, fun d h => nomatch h⟩ (fun i hi σ K h k => ?_) (fun σ h => ?_)
  · obtain ⟨s7, s8, s9, rfl, ha⟩ := h
    have hdm : dms[i] ∈ dms := List.getElem_mem hi
    obtain ⟨o1, o2⟩ := ho dms[i] hdm
    have hsafe := mt_safe hnn hv o1 o2 (ls := ls)
    refine ⟨by simp, ?_⟩
    refine kp_brkBody (r := r) (ls := ls) (pl := pl) (dms := dms) (t := t) (d := dms[i]) (sg := 1) (.inl rfl) hn ht hv hx o1 o2 (fun hm1 => ?_) (fun hm1 => ?_) s9
    · exact q2 (dsl ls pl dms[i] 1) dms[i] hdm (by rw [hsafe, hm1]; rfl) (dsl_len ls pl _ 1) (fun k hk => slA_bnd (.inl rfl) (errs_nn hnn pl) hk) hm1
    refine kp_brkBody (r := r) (ls := ls) (pl := pl) (dms := dms) (t := t) (d := dms[i]) (sg := -1) (.inr rfl) hn ht hv hx o1 o2 (fun hm2 => ?_) (fun hm2 => ?_) _
    · exact q2 (dsl ls pl dms[i] (-1)) dms[i] hdm (by rw [hsafe, hm1, hm2]; rfl) (dsl_len ls pl _ (-1)) (fun k hk => slA_bnd (.inr rfl) (errs_nn hnn pl) hk) hm2
    refine k _ ⟨.val false (en dms[i]), .val false (.int (-1)), .val false (eI (dsl ls pl dms[i] (-1))), rfl, fun x hxm => ?_⟩
    rw [List.take_succ_eq_append_getElem hi] at hxm
    rcases List.mem_append.mp hxm with z | z
    · exact ha x z
    · rw [List.mem_singleton.mp z, hsafe, hm1, hm2]
      rfl
  · obtain ⟨s7, s8, s9, rfl, ha⟩ := h
    rw [List.take_length] at ha
    exact q1 ha
end RD

set_option Elab.async false
set_option linter.all false
set_option maxRecDepth 100000
/-! M4_K77: safe targets: the law's reckoning. -/
namespace RD
open PySem DL
open En (en)
theorem all_false {dms : List Dm} {t : List Int} {d : Dm} (h : d ∈ dms) (hm : mt t d = false) : dms.all (mt t) = false := by
  rw [List.all_eq_false]
  exact ⟨d, h, by rw [hm]; decide⟩
theorem kp__law_meets_d118 : Keeps 7 rd__law_meets_d118 S_meets := by
  rintro ds Q ⟨dms, t, rfl, hk, q⟩
  unfold rd__law_meets_d118
  refine seq_join (fun σ => dms.all (mt t) = true) (fun K k => ?_) (fun σ h => ?_)
  · refine for_inv en dms (fun i σ => ∃ s2 s3 s4 s5 s6, σ = [.val false (.list (dms.map en)), .val false (eI t), s2, s3, s4, s5, s6] ∧ (dms.take i).all (mt t) = true) ⟨.non, .non, .non, .non, .non, rfl, rfl⟩ (fun i hi σ K h k => ?_) (fun σ h => ?_)
    · obtain ⟨s2, s3, s4, s5, s6, rfl, ha⟩ := h
      obtain ⟨h1, h2⟩ := hk dms[i] (List.getElem_mem hi)
      have kk : mt t dms[i] = true → ∀ s2 s3 s4 s5 s6, K [.val false (.list (dms.map en)), .val false (eI t), s2, s3, s4, s5, s6] := fun hm s2 s3 s4 s5 s6 => by
        refine k _ ⟨_, _, _, _, _, rfl, ?_⟩
        rw [List.take_succ_eq_append_getElem hi, List.all_append, ha]
        simp [hm]
      have out : mt t dms[i] = false → Q .av (.bool false) := fun hm => by
        rw [all_false (List.getElem_mem hi) hm] at q
        exact q
      have e : mt t dms[i] = wi (t[dms[i].hg] - t[dms[i].lw]) dms[i].lo dms[i].hi := by
        unfold mt
        rw [gD h2, gD h1]
      generalize hdd : dms[i] = d at *
      obtain ⟨lw, hg, lo, hi2⟩ := d
      have h1 : lw < t.length := h1
      have h2 : hg < t.length := h2
      have e : mt t ⟨lw, hg, lo, hi2⟩ = wi (t[hg] - t[lw]) lo hi2 := e
      refine ⟨rfl, _, at_map (i := hg) h2, _, at_map (i := lw) h1, ?_⟩
      cases lo with
      | none =>
        cases hi2 with
        | none => exact kk (by rw [e]; rfl) _ _ _ _ _
        | some h =>
          refine br.dec (fun z => ?_) (fun z => kk ?_ _ _ _ _ _)
          · refine out ?_
            rw [e]
            have z : h < t[hg] - t[lw] := z
            show (true && decide (t[hg] - t[lw] ≤ h)) = false
            rw [decide_eq_false (by omega)]
            rfl
          · rw [e]
            have z : ¬ h < t[hg] - t[lw] := z
            show (true && decide (t[hg] - t[lw] ≤ h)) = true
            rw [decide_eq_true (by omega)]
            rfl
      | some l =>
        refine br.dec (fun y => ?_) (fun y => ?_)
        · refine out ?_
          rw [e]
          have y : t[hg] - t[lw] < l := y
          unfold wi
          simp only [decide_eq_false (show ¬ l ≤ t[hg] - t[lw] by omega), Bool.false_and]
        · have y : ¬ t[hg] - t[lw] < l := y
          cases hi2 with
          | none =>
            refine kk ?_ _ _ _ _ _
            rw [e]
            unfold wi
            simp only [decide_eq_true (show l ≤ t[hg] - t[lw] by omega), Bool.and_self]
          | some h =>
            refine br.dec (fun z => ?_) (fun z => kk ?_ _ _ _ _ _)
            · refine out ?_
              rw [e]
              have z : h < t[hg] - t[lw] := z
              unfold wi
              simp only [decide_eq_false (show ¬ t[hg] - t[lw] ≤ h by omega), Bool.and_false]
            · rw [e]
              have z : ¬ h < t[hg] - t[lw] := z
              unfold wi
              simp only [decide_eq_true (show l ≤ t[hg] - t[lw] by omega), decide_eq_true (show t[hg] - t[lw] ≤ h by omega), Bool.and_self]
    · obtain ⟨s2, s3, s4, s5, s6, rfl, ha⟩ := h
      rw [List.take_length] at ha
      exact k _ ha
  · rw [h] at q
    exact q
/-- the safe demands, by a table of errors -/
def sfe (er : List (List Int)) (d : Dm) : Dm := nar ((er.getD d.lw []).getD d.hg 0) d
def S__law_safe : DSp := fun ds Q => ∃ (dms : List Dm) (er : List (List Int)) (n : Nat), ds = [.list (dms.map en), .list (er.map en)] ∧ dms.length ≤ 1000 ∧ Ok n dms ∧ er.length = n ∧ (∀ x ∈ er, x.length = n) ∧ Q .new (en (dms.map (sfe er)))
theorem ms__law_safe : MonoS S__law_safe := fun ds Q Q' h ⟨dms, er, n, e, h1, h2, h3, h4, q⟩ => ⟨dms, er, n, e, h1, h2, h3, h4, h _ _ q⟩
theorem kp__law_safe : Keeps 7 rd__law_safe S__law_safe := by
  rintro ds Q ⟨dms, er, n, rfl, hd, ho, hl, hr, q⟩
  refine ⟨by simp, for_inv en dms (fun i σ => ∃ s3 s4 s5 s6, σ = [.val false (.list (dms.map en)), .val false (.list (er.map en)), .own false (((dms.take i).map (sfe er)).map en), s3, s4, s5, s6]) ⟨.non, .non, .non, .non, rfl⟩ (fun i hi σ K h k => ?_) (fun σ h => ?_)⟩
  · obtain ⟨s3, s4, s5, s6, rfl⟩ := h
    obtain ⟨o1, o2⟩ := ho dms[i] (List.getElem_mem hi)
    have l1 : dms[i].lw < er.length := by omega
    have l2 : dms[i].hg < (er[dms[i].lw]).length := by rw [hr _ (List.getElem_mem l1)]; exact o2
    have a1 : L2.atI (er.map (en (α := List Int))) (dms[i].lw : Int) = some (eI er[dms[i].lw]) := at_map l1
    have a2 : L2.atI ((er[dms[i].lw]).map PyData.int) (dms[i].hg : Int) = some (.int ((er.getD dms[i].lw []).getD dms[i].hg 0)) := by
      rw [gD l1, gD l2]
      exact at_map l2
    have e3 : ((dms.take (i + 1)).map (sfe er)).map (en (α := Dm)) = ((dms.take i).map (sfe er)).map en ++ [en (sfe er dms[i])] := by
      rw [List.take_succ_eq_append_getElem hi, List.map_append, List.map_append]
      rfl
    have fin : ∀ s5 s6 : Sl, K [.val false (.list (dms.map en)), .val false (.list (er.map en)), .own false (((dms.take i).map (sfe er)).map en ++ [en (sfe er dms[i])]), .val false (.int (dms[i].lw : Int)), .val false (.int (dms[i].hg : Int)), s5, s6] := fun s5 s6 => k _ ⟨_, _, _, _, by rw [e3]⟩
    have hlen : (((dms.take i).map (sfe er)).map (en (α := Dm))).length < sizeLine := szlt (by rw [List.length_map, List.length_map, List.length_take]; omega)
    generalize hdd : dms[i] = d at *
    obtain ⟨lw, hg, lo, hi2⟩ := d
    cases lo with
    | none =>
      cases hi2 with
      | none => exact ⟨rfl, by simp, hlen, fin _ _⟩
      | some h => exact ⟨rfl, _, a1, _, a2, by simp, hlen, fin _ _⟩
    | some l =>
      cases hi2 with
      | none => exact ⟨rfl, _, a1, _, a2, by simp, hlen, fin _ _⟩
      | some h => exact ⟨rfl, _, a1, _, a2, _, a1, _, a2, by simp, hlen, fin _ _⟩
  · obtain ⟨s3, s4, s5, s6, rfl⟩ := h
    rw [List.take_length]
    exact q
end RD

set_option Elab.async false
set_option linter.all false
set_option maxRecDepth 100000
set_option maxHeartbeats 4000000
/-! M_K83: breaches and demands. -/
namespace RD
open PySem DL
open En (en)
theorem mt_dm {t : List Int} (h : 0 < t.length) (p : Int) (x : Nat × Pr) : mt t (dmOf t.length p x.2) = !bad t p x := by
  unfold mt bad dmOf pt
  rw [Bool.not_not]
  show wi (t.getD (x.2.b % (t.length : Int)).toNat 0 - t.getD (x.2.a % (t.length : Int)).toNat 0) _ _ = _
  generalize t.getD (x.2.b % (t.length : Int)).toNat 0 = tb
  generalize t.getD (x.2.a % (t.length : Int)).toNat 0 = ta
  generalize x.2.b / (t.length : Int) = ob
  generalize x.2.a / (t.length : Int) = oa
  have e1 : p * -(ob - oa) = p * oa - p * ob := by
    rw [Int.mul_neg, Int.mul_sub]
    omega
  unfold wi
  cases hl : x.2.lo with
  | none =>
    cases hh : x.2.hi with
    | none => rfl
    | some u =>
      show (true && decide (_ ≤ u + p * -(ob - oa))) = (true && decide (_ ≤ u))
      rw [e1]
      congr 1
      exact decide_eq_decide.mpr (by omega)
  | some l =>
    cases hh : x.2.hi with
    | none =>
      show (decide (l + p * -(ob - oa) ≤ _) && true) = (decide (l ≤ _) && true)
      rw [e1]
      congr 1
      exact decide_eq_decide.mpr (by omega)
    | some u =>
      show (decide (l + p * -(ob - oa) ≤ _) && decide (_ ≤ u + p * -(ob - oa))) = (decide (l ≤ _) && decide (_ ≤ u))
      rw [e1]
      congr 1
      · exact decide_eq_decide.mpr (by omega)
      · exact decide_eq_decide.mpr (by omega)
theorem range_get {α : Type} (xs : List α) (d : α) : (List.range xs.length).map (fun k => xs.getD k d) = xs := by
  refine List.ext_getElem (by simp) fun i h1 h2 => ?_
  rw [List.getElem_map, List.getElem_range, gD h2]
theorem filter_ix {α : Type} (xs : List α) (d : α) (f : α → Bool) : xs.filter f = ((List.range xs.length).filter fun k => f (xs.getD k d)).map fun k => xs.getD k d := by
  have := congrArg (List.filter f) (range_get xs d)
  rw [List.filter_map] at this
  exact this.symm
def S__law_asks_fe4a : DSp := fun ds Q => ∃ (t : List Int) (p : Int) (piece : List (List Int)) (ts : List Ts), ds = [.int (t.length : Int), .int p, eI t, .list (piece.map en), .list (ts.map en)] ∧ 0 < t.length ∧ t.length ≤ 1000 ∧ Pb p ∧ Few piece ∧ FewT ts ∧ AllAsc piece ∧ Q .av (.bool true)
theorem ms__law_asks_fe4a : MonoS S__law_asks_fe4a := fun ds Q Q' h ⟨t, p, piece, ts, e, h1, h2, h3, h4, h5, h6, q⟩ => ⟨t, p, piece, ts, e, h1, h2, h3, h4, h5, h6, h _ _ q⟩
def bRow (b : Bh) : List Int := [(b.k : Int), b.a, b.b, b.w]
theorem rows_of (bs : List Bh) : bs.map (en (α := Bh)) = (bs.map bRow).map eT := by
  rw [List.map_map]
  rfl
def asksLoop : DS := (dForR1 (dUn rLen (dVar 5)) (gName 15) (dSeq (dIf (dOr (dCmp rLt (dOp rIx (dVar 14) (dVar 15)) (dC (.int 0))) (dOr (dCmp rGe (dOp rIx (dVar 14) (dVar 15)) (dUn rLen (dVar 13))) (dCmp rNe (dOp rIx (dVar 13) (dOp rIx (dVar 14) (dVar 15))) (dSl (dOp rIx (dVar 5) (dVar 15)) dNo (dPart (dC (.int 3))))))) (dRet (dC (.bool false))) dNext) (dIf (dAnd (dCmp rGt (dVar 15) (dC (.int 0))) (dCmp rLe (dOp rIx (dVar 14) (dVar 15)) (dOp rIx (dVar 14) (dOp rSub (dVar 15) (dC (.int 1)))))) (dRet (dC (.bool false))) dNext)))
theorem kp_asksLoop {D : Ed} {due : List Bh} {ps : List P3} {B : List Nat} {s0 s1 s2 s3 s4 s6 s7 s8 s9 s10 s11 s12 : Sl} (hl : B.length = due.length) (hm : B.length ≤ 10000000) (hlt : ∀ k ∈ B, k < ps.length) (hs : B.Pairwise (· < ·))
    (he : ∀ (i : Nat) (h : i < B.length) (h2 : i < due.length) (h3 : B[i] < ps.length), ps[B[i]] = ⟨due[i].k, due[i].a, due[i].b⟩) (hk : ∀ s, D.nx [s0, s1, s2, s3, s4, .val false (.list (due.map en)), s6, s7, s8, s9, s10, s11, s12, .val false (.list (ps.map en)), .val false (.list (B.map en)), s]) (s15 : Sl) :
    asksLoop D [s0, s1, s2, s3, s4, .val false (.list (due.map en)), s6, s7, s8, s9, s10, s11, s12, .val false (.list (ps.map en)), .val false (.list (B.map en)), s15] := by
  refine ⟨sm (by omega) (by rw [List.length_map]; omega), for_upTo (fun i σ => ∃ s15, σ = [s0, s1, s2, s3, s4, .val false (.list (due.map en)), s6, s7, s8, s9, s10, s11, s12, .val false (.list (ps.map en)), .val false (.list (B.map en)), s15]) ⟨s15, rfl⟩ (fun i σ K hi h k => ?_) (fun σ h => ?_)⟩
  · obtain ⟨s15, rfl⟩ := h
    have hi' : i < B.length := by
      rw [List.length_map] at hi
      omega
    have hd : i < due.length := by omega
    have e0 : (0 : Int) + (i : Int) = (i : Int) := by omega
    rw [e0]
    have hBi := hlt B[i] (List.getElem_mem hi')
    have aB : L2.atI (B.map (en (α := Nat))) (i : Int) = some (.int ((B[i] : Nat) : Int)) := at_map hi'
    have aP : L2.atI (ps.map (en (α := P3))) ((B[i] : Nat) : Int) = some (en (⟨due[i].k, due[i].a, due[i].b⟩ : P3)) := by
      rw [← he i hi' hd hBi]
      exact at_map hBi
    have aD : L2.atI (due.map (en (α := Bh))) (i : Int) = some (en due[i]) := at_map hd
    refine ⟨_, aB, ?_⟩
    refine ⟨_, aB, br.dec (fun h => absurd h (by rw [List.length_map]; omega)) (fun _ => ?_)⟩
    refine ⟨_, aB, _, aP, _, aD, (fun h => absurd (show HT.sIx 4 4 (some 3) = 4 from h.2) (by decide)), ?_⟩
    refine eq_go (α := P3) ⟨due[i].k, due[i].a, due[i].b⟩ ⟨due[i].k, due[i].a, due[i].b⟩ (Q := fun c => br (!c) _ _) (br.f (by simp) ?_)
    refine br.dec (fun hpos => ?_) (fun _ => ?_)
    · have hpos : (0 : Int) < (i : Int) := hpos
      have e1 : (i : Int) - 1 = ((i - 1 : Nat) : Int) := by omega
      have lt := List.pairwise_iff_getElem.mp hs (i - 1) i (by omega) hi' (by omega)
      have aB1 : L2.atI (B.map (en (α := Nat))) ((i : Int) - 1) = some (.int ((B[i - 1]'(by omega) : Nat) : Int)) := by
        rw [e1]
        exact at_map (en := En.en (α := Nat)) (show i - 1 < B.length by omega)
      refine ⟨_, aB, _, aB1, br.dec (fun h => absurd h (by omega)) (fun _ => k _ ⟨_, rfl⟩)⟩
    · exact k _ ⟨_, rfl⟩
  · obtain ⟨s15, rfl⟩ := h
    exact hk s15
def aq (t : List Int) (p : Int) (piece : List (List Int)) (ts : List Ts) (due : List Bh) (s10 s11 s12 s13 s14 s15 : Sl) : Ds := [.val false (.int (t.length : Int)), .val false (.int p), .val false (eI t), .val false (.list (piece.map en)), .val false (.list (ts.map en)), .val false (.list (due.map en)), .val false (eI t), .val false (.list (piece.map en)), .non, .val false (.list (ts.map en)), s10, s11, s12, s13, s14, s15]
theorem kp__law_asks_fe4a : Keeps 16 (rd__law_asks_fe4a S__law_breaches S_breaches S__law_same_rows S_placed_at S_piece_placed S_meets S__law_all_pairs S_unmet S__law_is_numbers) S__law_asks_fe4a := by
  rintro ds Q ⟨t, p, piece, ts, rfl, h1, h2, hp, hf, ht, ha, q⟩
  have hfl := flN_len ts hf piece.length (Nat.le_refl _)
  have hf1 := hf.1
  generalize hF : flN ts piece piece.length = fl at hfl
  have hbl := brs_len t p fl
  have sl : ((brs t p fl).map bRow).length ≤ 10000000 := by rw [List.length_map]; omega
  have sa : ∀ x ∈ (brs t p fl).map bRow, x.length ≤ 1000 := fun x hx => by
    obtain ⟨b, _, rfl⟩ := List.mem_map.mp hx
    show 4 ≤ 1000
    decide
  unfold rd__law_asks_fe4a
  refine seq_join5 (fun σ => σ = aq t p piece ts (brs t p fl) (.own false ((brs t p fl).map en)) .non .non .non .non .non) (fun K k => ?_) (fun σ h => ?_)
  · refine ⟨t, p, piece, ts, rfl, h1, h2, hp, hf, ht, ha, ?_⟩
    refine lc_map en piece en (by omega) (fun x hx P N p => p) ?_
    exact ⟨t, p, piece, ts, rfl, h1, h2, hp, hf, k _ (by rw [hF]; rfl)⟩
  subst h
  refine seq_join (fun σ => σ = aq t p piece ts (brs t p fl) (.own false ((brs t p fl).map en)) .non .non .non .non .non) (fun K k => ?_) (fun σ h => ?_)
  · refine eq_go (α := List Int) t t (Q := fun c => br (!c) _ _) (br.f (by simp) ?_)
    refine eq_go (α := List (List Int)) piece piece (Q := fun c => br (!c) _ _) (br.f (by simp) ?_)
    refine eq_go (α := List Ts) ts ts (Q := fun c => br (!c) _ _) (br.f (by simp) ?_)
    exact ⟨(brs t p fl).map bRow, by rw [← rows_of], sl, sa, .bool _, k _ rfl⟩
  subst h
  refine seq_join (fun σ => σ = aq t p piece ts (brs t p fl) (.own false ((brs t p fl).map en ++ [.tuple [.int 0, .int 0, .int 0, .int 0]])) .non .non .non .non .non) (fun K k => ?_) (fun σ h => ?_)
  · exact ⟨by simp, szlt (by rw [List.length_map]; omega), k _ rfl⟩
  subst h
  generalize hD : fl.map (fun x => dmOf t.length p x.2) = dms
  have eD : fl.map (fun y => en (dmOf t.length p y.2)) = dms.map en := by
    rw [← hD, List.map_map]
    rfl
  have hdl : dms.length = fl.length := by rw [← hD, List.length_map]
  have hok : Ok t.length dms := fun d hd => by
    rw [← hD] at hd
    obtain ⟨x, _, rfl⟩ := List.mem_map.mp hd
    exact ⟨(pt_lt h1 x.2.a).2, (pt_lt h1 x.2.b).2⟩
  refine seq_join (fun σ => σ = aq t p piece ts (brs t p fl) (.own false ((brs t p fl).map en ++ [.tuple [.int 0, .int 0, .int 0, .int 0]])) (.val false (.list (dms.map en))) .non .non .non .non) (fun K k => ?_) (fun σ h => ?_)
  · refine ⟨t.length, piece, ts, rfl, h1, h2, hf, ?_⟩
    exact ⟨t.length, fl, p, by rw [hF], h1, hp, by omega, k _ (by rw [eD]; rfl)⟩
  subst h
  refine seq_join (fun σ => σ = aq t p piece ts (brs t p fl) (.own false ((brs t p fl).map en ++ [.tuple [.int 0, .int 0, .int 0, .int 0]])) (.val false (.list (dms.map en))) (.val false (.bool (dms.all (mt t)))) .non .non .non) (fun K k => ?_) (fun σ h => ?_)
  · exact ⟨dms, t, rfl, hok, k _ rfl⟩
  subst h
  have hall : dms.all (mt t) = decide (((((brs t p fl).map (en (α := Bh))).length : Nat) : Int) = 0) := by
    rw [← hD, List.all_map, List.length_map]
    unfold brs
    rw [List.length_map]
    have e : (fun x : Nat × Pr => mt t (dmOf t.length p x.2)) = fun x => !bad t p x := funext fun x => mt_dm h1 p x
    show fl.all (fun x => mt t (dmOf t.length p x.2)) = _
    rw [e]
    cases hz : fl.all fun x => !bad t p x with
    | true =>
      have : fl.filter (bad t p) = [] := List.filter_eq_nil_iff.mpr fun x hx hb => by
        have := List.all_eq_true.mp hz x hx
        rw [hb] at this
        cases this
      rw [this]
      rfl
    | false =>
      obtain ⟨x, hx, hb⟩ := List.all_eq_false.mp hz
      have : fl.filter (bad t p) ≠ [] := fun z => List.filter_eq_nil_iff.mp z x hx (by simpa using hb)
      have : 0 < (fl.filter (bad t p)).length := List.length_pos_iff.mpr this
      exact (decide_eq_false (by omega)).symm
  refine seq_join (fun σ => σ = aq t p piece ts (brs t p fl) (.own false ((brs t p fl).map en ++ [.tuple [.int 0, .int 0, .int 0, .int 0]])) (.val false (.list (dms.map en))) (.val false (.bool (dms.all (mt t)))) .non .non .non) (fun K k => ?_) (fun σ h => ?_)
  · exact br.nd (fun h => absurd hall h) (fun _ => k _ rfl)
  subst h
  refine seq_join (fun σ => σ = aq t p piece ts (brs t p fl) (.own false ((brs t p fl).map en ++ [.tuple [.int 0, .int 0, .int 0, .int 0]])) (.val false (.list (dms.map en))) (.val false (.bool (dms.all (mt t)))) (.val false (.list ((fl.map m3).map en))) .non .non) (fun K k => ?_) (fun σ h => ?_)
  · exact ⟨piece, ts, rfl, hf, ht, ha, k _ (by rw [hF]; rfl)⟩
  subst h
  generalize hB : broken t dms = B
  have eB : B = (List.range fl.length).filter fun k => bad t p (fl.getD k (0, ⟨0, 0, none, none⟩)) := by
    rw [← hB]
    unfold broken
    rw [hdl]
    refine List.filter_congr fun k hk => ?_
    have hk' := List.mem_range.mp hk
    rw [gD hk', gD (show k < dms.length by omega)]
    have : dms[k]'(by omega) = dmOf t.length p fl[k].2 := by
      simp only [← hD, List.getElem_map]
    rw [this, mt_dm h1, Bool.not_not]
  have hlt : ∀ k ∈ B, k < fl.length := fun k hk => by
    rw [eB] at hk
    exact List.mem_range.mp (List.mem_filter.mp hk).1
  have hsrt : B.Pairwise (· < ·) := by
    rw [eB]
    exact List.Pairwise.filter _ List.pairwise_lt_range
  have hdue : brs t p fl = B.map fun k => mkB t p (fl.getD k (0, ⟨0, 0, none, none⟩)) := by
    unfold brs
    rw [filter_ix fl (0, ⟨0, 0, none, none⟩) (bad t p), List.map_map, ← eB]
    rfl
  have hdl2 : (brs t p fl).length = B.length := by rw [hdue, List.length_map]
  have eNat : eI (B.map fun (k : Nat) => (k : Int)) = .list (B.map (en (α := Nat))) := nat_ints B
  have eLen : (((B.map fun (k : Nat) => (k : Int)).length : Nat) : Int) = (((brs t p fl).map (en (α := Bh))).length : Nat) := by rw [List.length_map, List.length_map, hdl2]
  refine seq_join (fun σ => σ = aq t p piece ts (brs t p fl) (.own false ((brs t p fl).map en ++ [.tuple [.int 0, .int 0, .int 0, .int 0]])) (.val false (.list (dms.map en))) (.val false (.bool (dms.all (mt t)))) (.val false (.list ((fl.map m3).map en))) (.val false (.list (B.map en))) .non) (fun K k => ?_) (fun σ h => ?_)
  · exact ⟨dms, t, rfl, by omega, hok, k _ (by rw [hB]; rfl)⟩
  subst h
  refine seq_join (fun σ => σ = aq t p piece ts (brs t p fl) (.own false ((brs t p fl).map en ++ [.tuple [.int 0, .int 0, .int 0, .int 0]])) (.val false (.list (dms.map en))) (.val false (.bool (dms.all (mt t)))) (.val false (.list ((fl.map m3).map en))) (.val false (.list (B.map en))) .non) (fun K k => ?_) (fun σ h => ?_)
  · refine ⟨B.map (fun (k : Nat) => (k : Int)), (((brs t p fl).map (en (α := Bh))).length : Nat), by rw [eNat], br.nd (fun h => absurd eLen h) (fun _ => ?_)⟩
    exact br.nd (fun h => absurd (by rw [List.length_map, List.length_map, List.length_map, hdl]) h) (fun _ => k _ rfl)
  subst h
  refine seq_join (fun σ => ∃ s, σ = aq t p piece ts (brs t p fl) (.own false ((brs t p fl).map en ++ [.tuple [.int 0, .int 0, .int 0, .int 0]])) (.val false (.list (dms.map en))) (.val false (.bool (dms.all (mt t)))) (.val false (.list ((fl.map m3).map en))) (.val false (.list (B.map en))) s) (fun K k => ?_) (fun σ h => ?_)
  · refine kp_asksLoop (due := brs t p fl) (ps := fl.map m3) (B := B) hdl2.symm (by omega) (fun k hk => by rw [List.length_map]; exact hlt k hk) hsrt (fun i h1 h2 h3 => ?_) (fun s => k _ ⟨s, rfl⟩) _
    have hBi := hlt B[i] (List.getElem_mem h1)
    have ed : (brs t p fl)[i] = mkB t p fl[B[i]] := by
      simp only [hdue, List.getElem_map]
      rw [gD hBi]
    rw [ed, List.getElem_map]
    rfl
  obtain ⟨s, rfl⟩ := h
  refine ⟨t, p, piece, ts, rfl, h1, h2, hp, hf, ?_⟩
  exact ⟨(brs t p fl).map bRow, by rw [hF, ← rows_of]; rfl, sl, sa, q⟩
end RD

set_option Elab.async false
set_option linter.all false
set_option maxRecDepth 100000
/-! M_K84: moving a piece. -/
namespace RD
open PySem DL
open En (en)
/-! the mathematics -/
def rot (t : List Int) (p b : Int) : List Int := (List.range t.length).map fun (k : Nat) => pt t p ((k : Int) + b)
theorem rot_len (t : List Int) (p b : Int) : (rot t p b).length = t.length := by
  unfold rot
  rw [List.length_map, List.length_range]
theorem pt_rot {t : List Int} (h : 0 < t.length) (p b x : Int) : pt (rot t p b) p x = pt t p (x + b) := by
  obtain ⟨m0, m1⟩ := pt_lt h x
  have e1 : (rot t p b).getD (x % (t.length : Int)).toNat 0 = pt t p (x % (t.length : Int) + b) := by
    unfold rot
    rw [gD_range m1, show (((x % (t.length : Int)).toNat : Nat) : Int) = x % (t.length : Int) by omega]
  have hx := Int.emod_add_mul_ediv x (t.length : Int)
  have e2 : x + b = x % (t.length : Int) + b + (t.length : Int) * (x / (t.length : Int)) := by omega
  have n0 : (t.length : Int) ≠ 0 := by omega
  show (rot t p b).getD (x % ((rot t p b).length : Int)).toNat 0 + p * (x / ((rot t p b).length : Int)) = _
  rw [rot_len, e1]
  unfold pt
  rw [e2, Int.add_mul_emod_self_left, Int.add_mul_ediv_left _ _ n0, Int.mul_add]
  omega
theorem rot_rot {t : List Int} (h : 0 < t.length) (p b c : Int) : rot (rot t p b) p c = rot t p (c + b) := by
  show (List.range (rot t p b).length).map (fun (k : Nat) => pt (rot t p b) p ((k : Int) + c)) = _
  rw [rot_len]
  refine List.map_congr_left fun k _ => ?_
  rw [pt_rot h, Int.add_assoc]
theorem rot_oct {t : List Int} (h : 0 < t.length) (p : Int) : rot t p (t.length : Int) = t.map fun x => x + p := by
  refine List.ext_getElem (by rw [rot_len, List.length_map]) fun i h1 h2 => ?_
  rw [rot_len] at h1
  have n0 : (t.length : Int) ≠ 0 := by omega
  have e0 : (rot t p (t.length : Int))[i]'(by rw [rot_len]; exact h1) = pt t p ((i : Int) + (t.length : Int)) := by
    simp only [rot, List.getElem_map, List.getElem_range]
  rw [e0, List.getElem_map]
  unfold pt
  have e1 : ((i : Int) + (t.length : Int)) % (t.length : Int) = (i : Int) := by
    rw [Int.add_emod_right, Int.emod_eq_of_lt (by omega) (by omega)]
  have e2 : ((i : Int) + (t.length : Int)) / (t.length : Int) = 1 := by
    have := Int.add_mul_ediv_left (i : Int) 1 n0
    have z := Int.ediv_eq_zero_of_lt (show 0 ≤ (i : Int) by omega) (show (i : Int) < (t.length : Int) by omega)
    rw [Int.mul_one] at this
    rw [this, z]
    rfl
  rw [e1, e2, Int.mul_one, show (i : Int).toNat = i by omega, gD h1]
def mvd (b : Int) (piece : List (List Int)) : List (List Int) := piece.map fun c => c.map fun x => x + b
def sh (b : Int) (p : Pr) : Pr := ⟨p.a + b, p.b + b, p.lo, p.hi⟩
theorem fp_sh (ts : List Ts) (x y b : Int) : fp ts (x + b) (y + b) = (fp ts x y).map (sh b) := by
  unfold fp
  rw [show y + b - (x + b) = y - x by omega]
  cases fr ts (y - x) <;> rfl
theorem tpr_sh (ts : List Ts) (b : Int) : ∀ c : List Int, tpr ts (c.map fun x => x + b) = (tpr ts c).map (sh b)
  | [] => rfl
  | x :: r => by
    have ih := tpr_sh ts b r
    show ((r.map fun x => x + b).filterMap (fp ts (x + b))) ++ tpr ts (r.map fun x => x + b) = _
    rw [ih, List.filterMap_map]
    unfold tpr
    rw [List.map_append, List.map_filterMap]
    congr 1
    have : (fp ts (x + b) ∘ fun x => x + b) = fun y => (fp ts x y).map (sh b) := funext fun y => fp_sh ts x y b
    rw [this]
    cases r <;> rfl
theorem tp_sh (ts : List Ts) (b : Int) (c : List Int) : tp (c.map fun x => x + b) ts = (tp c ts).map (sh b) := by
  rw [tp_tpr, tp_tpr, tpr_sh]
theorem mvd_len (b : Int) (piece : List (List Int)) : (mvd b piece).length = piece.length := List.length_map ..
theorem flN_sh (ts : List Ts) (b : Int) (piece : List (List Int)) : ∀ i, i ≤ piece.length → flN ts (mvd b piece) i = (flN ts piece i).map fun x => (x.1, sh b x.2)
  | 0, _ => rfl
  | i + 1, h => by
    have h1 : i < piece.length := by omega
    rw [flN_succ ts h1, flN_succ ts (show i < (mvd b piece).length by rw [mvd_len]; exact h1), flN_sh ts b piece i (by omega), List.map_append]
    have : (mvd b piece)[i]'(by rw [mvd_len]; exact h1) = piece[i].map fun x => x + b := by
      unfold mvd
      rw [List.getElem_map]
    rw [this, tp_sh, List.map_map, List.map_map]
    rfl
def shB (b : Int) (x : Bh) : Bh := ⟨x.k, x.a - b, x.b - b, x.w⟩
theorem brs_sh {t : List Int} (h : 0 < t.length) (p b : Int) (fl : List (Nat × Pr)) : (brs t p (fl.map fun x => (x.1, sh b x.2))).map (shB b) = brs (rot t p b) p fl := by
  unfold brs
  rw [List.filter_map, List.map_map, List.map_map]
  have e1 : (bad t p ∘ fun x : Nat × Pr => (x.1, sh b x.2)) = bad (rot t p b) p := funext fun x => by
    show (!wi (pt t p (x.2.b + b) - pt t p (x.2.a + b)) x.2.lo x.2.hi) = !wi (pt (rot t p b) p x.2.b - pt (rot t p b) p x.2.a) x.2.lo x.2.hi
    rw [pt_rot h, pt_rot h]
  rw [e1]
  refine List.map_congr_left fun x _ => ?_
  show (⟨x.1, x.2.a + b - b, x.2.b + b - b, pt t p (x.2.b + b) - pt t p (x.2.a + b)⟩ : Bh) = ⟨x.1, x.2.a, x.2.b, pt (rot t p b) p x.2.b - pt (rot t p b) p x.2.a⟩
  rw [pt_rot h, pt_rot h, Int.add_sub_cancel, Int.add_sub_cancel]
theorem asc_mvd {b : Int} {piece : List (List Int)} (h : AllAsc piece) : AllAsc (mvd b piece) := fun c hc => by
  obtain ⟨d, hd, rfl⟩ := List.mem_map.mp hc
  refine List.pairwise_map.mpr ((h d hd).imp fun {x y} hxy => ?_)
  omega
theorem few_mvd {b : Int} {piece : List (List Int)} (h : Few piece) : Few (mvd b piece) := ⟨by rw [mvd_len]; exact h.1, fun c hc => by
  obtain ⟨d, hd, rfl⟩ := List.mem_map.mp hc
  rw [List.length_map]
  exact h.2 d hd⟩
/-! the promises -/
theorem mvd_en (b : Int) (piece : List (List Int)) : piece.map (fun c => PyData.list ((c.map fun x => x + b).map PyData.int)) = (mvd b piece).map (en (α := List Int)) := by
  unfold mvd
  rw [List.map_map]
  rfl
def S_moved : DSp := fun ds Q => ∃ (piece : List (List Int)) (b : Int), ds = [.list (piece.map en), .int b] ∧ Few piece ∧ Q .new (en (mvd b piece))
theorem ms_moved : MonoS S_moved := fun ds Q Q' h ⟨x, b, e, h1, q⟩ => ⟨x, b, e, h1, h _ _ q⟩
theorem kp_moved : Keeps 4 rd_moved S_moved := by
  rintro ds Q ⟨piece, b, rfl, hf, q⟩
  have hf1 := hf.1
  refine lc_map en piece (fun c => PyData.list ((c.map fun x => x + b).map PyData.int)) (by omega) (fun c hc P N p => ?_) ?_
  · have := hf.2 c hc
    refine lc_map PyData.int c (fun x => PyData.int (x + b)) (by omega) (fun x hx P N p => p) ?_
    rw [List.map_map] at p
    exact p
  · rw [mvd_en]
    exact q
def S_rotated : DSp := fun ds Q => ∃ (t : List Int) (p b : Int), ds = [eI t, .int p, .int b] ∧ 0 < t.length ∧ t.length ≤ 1000 ∧ Pb p ∧ Q .new (eI (rot t p b))
theorem ms_rotated : MonoS S_rotated := fun ds Q Q' h ⟨t, p, b, e, h1, h2, h3, q⟩ => ⟨t, p, b, e, h1, h2, h3, h _ _ q⟩
theorem rot_en (t : List Int) (p b : Int) : (List.range ((((t.map PyData.int).length : Nat) : Int)).toNat).map (fun (k : Nat) => PyData.int (pt t p (0 + (k : Int) + b))) = (rot t p b).map PyData.int := by
  unfold rot
  rw [List.map_map, List.length_map, Int.toNat_natCast]
  refine List.map_congr_left fun k _ => ?_
  show PyData.int (pt t p (0 + (k : Int) + b)) = PyData.int (pt t p ((k : Int) + b))
  rw [Int.zero_add]
theorem kp_rotated : Keeps 5 (rd_rotated S_sounding S_place) S_rotated := by
  rintro ds Q ⟨t, p, b, rfl, h1, h2, h3, q⟩
  refine ⟨sm (by omega) (by rw [List.length_map]; omega), lc_upTo (fun (k : Nat) => PyData.int (pt t p (0 + (k : Int) + b))) (by rw [List.length_map]; omega) (fun k hk P N pk => ?_) ?_⟩
  · refine ⟨0 + (k : Int) + b, t.length, by rw [List.length_map], h1, h2, ?_⟩
    exact ⟨t, p, _, _, rfl, (pt_lt h1 _).1, (pt_lt h1 _).2, h3, pk⟩
  · rw [rot_en]
    exact q
theorem kp__law_rotated : Keeps 4 (rd__law_rotated S__law_note_pitch) S_rotated := by
  rintro ds Q ⟨t, p, b, rfl, h1, h2, h3, q⟩
  refine ⟨sm (by omega) (by rw [List.length_map]; omega), lc_upTo (fun (k : Nat) => PyData.int (pt t p (0 + (k : Int) + b))) (by rw [List.length_map]; omega) (fun k hk P N pk => ?_) ?_⟩
  · exact ⟨t, p, _, rfl, h1, h2, h3, pk⟩
  · rw [rot_en]
    exact q
theorem kp__law_same_numbers : Keeps 3 (rd__law_same_numbers S__law_is_numbers) S__law_same_numbers := by
  rintro ds Q ⟨xs, rfl, hl, q⟩
  refine ⟨xs, _, rfl, br.nd (fun h => absurd (by rw [List.length_map]) h) (fun _ => ?_)⟩
  refine ⟨sm (by omega) (by rw [List.length_map]; omega), for_upTo (fun i σ => ∃ s2, σ = [.val false (eI xs), .val false (eI xs), s2]) ⟨.non, rfl⟩ (fun i σ K hi h k => ?_) (fun σ h => ?_)⟩
  · obtain ⟨s2, rfl⟩ := h
    have hi' : i < xs.length := by simpa using hi
    have e0 : (0 : Int) + (i : Int) = (i : Int) := by omega
    rw [e0]
    exact ⟨_, at_map hi', _, at_map hi', br.nd (fun h => absurd rfl h) (fun _ => k _ ⟨_, rfl⟩)⟩
  · obtain ⟨s2, rfl⟩ := h
    exact q
def S__law_copied : DSp := fun ds Q => ∃ (piece : List (List Int)), ds = [.list (piece.map en)] ∧ Few piece ∧ Q .new (en piece)
theorem ms__law_copied : MonoS S__law_copied := fun ds Q Q' h ⟨x, e, h1, q⟩ => ⟨x, e, h1, h _ _ q⟩
theorem kp__law_copied : Keeps 2 rd__law_copied S__law_copied := by
  rintro ds Q ⟨piece, rfl, hf, q⟩
  have hf1 := hf.1
  exact lc_map en piece en (by omega) (fun x hx P N p => p) q
/-! good moves -/
def gm (t : List Int) (p : Int) (piece : List (List Int)) (ts : List Ts) (i : Nat) : List Nat := (List.range i).filter fun k => decide ((brs t p (flN ts (mvd (k : Int) piece) piece.length)).length = 0)
theorem gm_len (t : List Int) (p : Int) (piece : List (List Int)) (ts : List Ts) (i : Nat) : (gm t p piece ts i).length ≤ i := by
  have := List.length_filter_le (fun (k : Nat) => decide ((brs t p (flN ts (mvd (k : Int) piece) piece.length)).length = 0)) (List.range i)
  rw [List.length_range] at this
  exact this
theorem gm_yes {t : List Int} {p : Int} {piece : List (List Int)} {ts : List Ts} {i : Nat} (h : (brs t p (flN ts (mvd (i : Int) piece) piece.length)).length = 0) : gm t p piece ts (i + 1) = gm t p piece ts i ++ [i] := by
  unfold gm
  rw [List.range_succ, List.filter_append]
  simp only [List.filter_cons, h, decide_true, if_true, List.filter_nil]
theorem gm_no {t : List Int} {p : Int} {piece : List (List Int)} {ts : List Ts} {i : Nat} (h : ¬ (brs t p (flN ts (mvd (i : Int) piece) piece.length)).length = 0) : gm t p piece ts (i + 1) = gm t p piece ts i := by
  unfold gm
  rw [List.range_succ, List.filter_append]
  simp only [List.filter_cons, decide_eq_false h, Bool.false_eq_true, if_false, List.filter_nil, List.append_nil]
def S_good_moves : DSp := fun ds Q => ∃ (t : List Int) (p : Int) (piece : List (List Int)) (ts : List Ts), ds = [.int (t.length : Int), .int p, eI t, .list (piece.map en), .list (ts.map en)] ∧ 0 < t.length ∧ t.length ≤ 1000 ∧ Pb p ∧ Few piece ∧ Q .new (en (gm t p piece ts t.length))
theorem ms_good_moves : MonoS S_good_moves := fun ds Q Q' h ⟨t, p, piece, ts, e, h1, h2, h3, h4, q⟩ => ⟨t, p, piece, ts, e, h1, h2, h3, h4, h _ _ q⟩
theorem kp_good_moves : Keeps 7 (rd_good_moves S_breaches S_moved) S_good_moves := by
  rintro ds Q ⟨t, p, piece, ts, rfl, h1, h2, hp, hf, q⟩
  refine ⟨by simp, sm (by omega) (by omega), for_upTo (fun i σ => ∃ s6, σ = [.val false (.int (t.length : Int)), .val false (.int p), .val false (eI t), .val false (.list (piece.map en)), .val false (.list (ts.map en)), .own false ((gm t p piece ts i).map (en (α := Nat))), s6]) ⟨.non, rfl⟩ (fun i σ K hi h k => ?_) (fun σ h => ?_)⟩
  · obtain ⟨s6, rfl⟩ := h
    have hi' : i < t.length := by simpa using hi
    have e0 : (0 : Int) + (i : Int) = (i : Int) := by omega
    have hg := gm_len t p piece ts i
    rw [e0]
    refine ⟨piece, (i : Int), rfl, hf, ?_⟩
    refine ⟨t, p, mvd (i : Int) piece, ts, rfl, h1, h2, hp, few_mvd hf, ?_⟩
    rw [mvd_len]
    refine br.dec (fun h => ?_) (fun h => ?_)
    · have h : ((((brs t p (flN ts (mvd (i : Int) piece) piece.length)).map (en (α := Bh))).length : Nat) : Int) = 0 := h
      rw [List.length_map] at h
      refine ⟨szlt (by rw [List.length_map]; omega), k _ ⟨.val false (.int (i : Int)), ?_⟩⟩
      rw [gm_yes (by omega), List.map_append]
      rfl
    · have h : ¬ ((((brs t p (flN ts (mvd (i : Int) piece) piece.length)).map (en (α := Bh))).length : Nat) : Int) = 0 := h
      rw [List.length_map] at h
      refine k _ ⟨.val false (.int (i : Int)), ?_⟩
      rw [gm_no (by omega)]
      rfl
  · obtain ⟨s6, rfl⟩ := h
    rw [Int.toNat_natCast]
    exact q
end RD

set_option Elab.async false
set_option linter.all false
set_option maxRecDepth 100000
set_option maxHeartbeats 2000000
/-! M_K85: the longest moves: pieces that are moved, as demands. -/
namespace RD
open PySem DL
open En (en)
/-- a small piece -/
def Small (piece : List (List Int)) : Prop := piece.length ≤ 4 ∧ ∀ c ∈ piece, c.length ≤ 5
theorem Small.few {piece : List (List Int)} (h : Small piece) : Few piece := ⟨by have := h.1; omega, fun c hc => by have := h.2 c hc; omega⟩
theorem Small.mvd {piece : List (List Int)} (h : Small piece) (b : Int) : Small (mvd b piece) := ⟨by rw [mvd_len]; exact h.1, fun c hc => by
  unfold RD.mvd at hc
  obtain ⟨c', h', rfl⟩ := List.mem_map.mp hc
  rw [List.length_map]
  exact h.2 c' h'⟩
def plc (piece : List (List Int)) (ts : List Ts) (ms : List Int) : List (Nat × Pr) := ms.flatMap fun b => flN ts (mvd b piece) piece.length
theorem plc_app (piece : List (List Int)) (ts : List Ts) (a b : List Int) : plc piece ts (a ++ b) = plc piece ts a ++ plc piece ts b := List.flatMap_append ..
theorem plc_one (piece : List (List Int)) (ts : List Ts) (b : Int) : plc piece ts [b] = flN ts (mvd b piece) piece.length := by
  unfold plc
  simp
theorem fl_len {piece : List (List Int)} (ts : List Ts) (h : Small piece) (b : Int) : (flN ts (mvd b piece) piece.length).length ≤ 40000 := by
  have := flN_len ts (h.mvd b).few piece.length (by rw [mvd_len]; exact Nat.le_refl _)
  have := h.1
  omega
theorem plc_len {piece : List (List Int)} (ts : List Ts) (h : Small piece) (ms : List Int) : (plc piece ts ms).length ≤ ms.length * 40000 := flatMap_len _ 40000 ms fun b _ => fl_len ts h b
def S_moves_placed : DSp := fun ds Q => ∃ (n : Nat) (piece : List (List Int)) (ts : List Ts) (ms : List Int), ds = [.int (n : Int), .list (piece.map en), .list (ts.map en), eI ms] ∧ 0 < n ∧ n ≤ 1000 ∧ Small piece ∧ ms.length ≤ 20 ∧ Q .av (.list ((plc piece ts ms).map fun x => ePl n x.2))
theorem ms_moves_placed : MonoS S_moves_placed := fun ds Q Q' h ⟨n, c, ts, m, e, h1, h2, h3, h4, q⟩ => ⟨n, c, ts, m, e, h1, h2, h3, h4, h _ _ q⟩
theorem kp_moves_placed : Keeps 6 (rd_moves_placed S_piece_placed S_moved) S_moves_placed := by
  rintro ds Q ⟨n, piece, ts, ms, rfl, h1, h2, h3, h4, q⟩
  refine ⟨by simp, for_inv PyData.int ms (fun i σ => ∃ s5 : Sl, σ = [.val false (.int (n)), .val false (.list (piece.map en)), .val false (.list (ts.map en)), .val false (eI ms), .val false (.list ((plc piece ts (ms.take i)).map fun x => ePl n x.2)), s5]) ⟨.non, rfl⟩ (fun i hi σ K h k => ?_) (fun σ h => ?_)⟩
  · obtain ⟨s5, rfl⟩ := h
    refine ⟨piece, ms[i], rfl, h3.few, ?_⟩
    refine ⟨n, mvd ms[i] piece, ts, rfl, h1, h2, (h3.mvd _).few, ?_⟩
    rw [mvd_len]
    have l1 := plc_len ts h3 (ms.take i)
    have l2 := fl_len ts h3 ms[i]
    rw [List.length_take] at l1
    refine ⟨sz (by rw [List.length_map, List.length_map]; omega), k _ ⟨.val false (.int (ms[i])), ?_⟩⟩
    rw [List.take_succ_eq_append_getElem hi, plc_app, plc_one, List.map_append]
    rfl
  · obtain ⟨s5, rfl⟩ := h
    rw [List.take_length]
    exact q
/-- the demands of the first moves -/
def dmsM (n : Nat) (p : Int) (piece : List (List Int)) (ts : List Ts) (ms : List Int) : List Dm := (plc piece ts ms).map fun y => dmOf n p y.2
theorem dms_ok {n : Nat} (h : 0 < n) (p : Int) (piece : List (List Int)) (ts : List Ts) (ms : List Int) : Ok n (dmsM n p piece ts ms) := fun d hd => by
  unfold dmsM at hd
  obtain ⟨y, _, rfl⟩ := List.mem_map.mp hd
  have a := em (a := y.2.a) (b := (n : Int)) (by omega)
  have b := em (a := y.2.b) (b := (n : Int)) (by omega)
  exact ⟨by show (y.2.a % (n : Int)).toNat < n; omega, by show (y.2.b % (n : Int)).toNat < n; omega⟩
theorem dms_en (n : Nat) (p : Int) (piece : List (List Int)) (ts : List Ts) (ms : List Int) : ((plc piece ts ms).map fun y => en (dmOf n p y.2)) = (dmsM n p piece ts ms).map en := by
  unfold dmsM
  rw [List.map_map]
  rfl
inductive Lm where
  | all (t : List Int)
  | stop (k : Nat) (t : List Int) (r : List Stp)
def lmGo (n : Nat) (p : Int) (piece : List (List Int)) (ts : List Ts) (ms : List Int) : Nat → Nat → List Int → Lm
  | 0, _, t => .all t
  | f + 1, i, t => match sol n (dmsM n p piece ts (ms.take (i + 1))) with
    | .ring r => .stop i t r
    | .tun t' => lmGo n p piece ts ms f (i + 1) t'
def lm (n : Nat) (p : Int) (piece : List (List Int)) (ts : List Ts) (ms : List Int) : Lm := lmGo n p piece ts ms ms.length 0 (List.replicate n 0)
def eLm (x : Lm) : PyData := match x with
  | .all t => .tuple [.str (PySem.Str.ofString "all"), eI t]
  | .stop k t r => .tuple [.str (PySem.Str.ofString "stop"), .int (k : Int), eI t, .list (r.map eStp)]
def LmOk (n : Nat) (p : Int) (piece : List (List Int)) (ts : List Ts) (ms : List Int) (x : Lm) : Prop := match x with
  | .all t => t.length = n ∧ (dmsM n p piece ts ms).all (mt t) = true
  | .stop k t r => k < ms.length ∧ t.length = n ∧ (dmsM n p piece ts (ms.take k)).all (mt t) = true ∧ ShortRing (stepsOf (dmsM n p piece ts (ms.take (k + 1)))) r ∧ r.length ≤ n + 1
theorem lmGo_ok {n : Nat} (h : 0 < n) (p : Int) (piece : List (List Int)) (ts : List Ts) (ms : List Int) : ∀ (f i : Nat) (t : List Int), i + f = ms.length → t.length = n → (dmsM n p piece ts (ms.take i)).all (mt t) = true → LmOk n p piece ts ms (lmGo n p piece ts ms f i t)
  | 0, i, t, hf, ht, hm => by
    have e : i = ms.length := by omega
    rw [e, List.take_length] at hm
    exact ⟨ht, hm⟩
  | f + 1, i, t, hf, ht, hm => by
    have s := sol_ok (dms_ok h p piece ts (ms.take (i + 1)))
    unfold lmGo
    cases hs : sol n (dmsM n p piece ts (ms.take (i + 1))) with
    | ring r =>
      rw [hs] at s
      exact ⟨by omega, ht, hm, s.1, s.2⟩
    | tun t' =>
      rw [hs] at s
      exact lmGo_ok h p piece ts ms f (i + 1) t' (by omega) s.1 s.2
theorem lm_ok {n : Nat} (h : 0 < n) (p : Int) (piece : List (List Int)) (ts : List Ts) (ms : List Int) : LmOk n p piece ts ms (lm n p piece ts ms) :=
  lmGo_ok h p piece ts ms ms.length 0 _ (by omega) List.length_replicate (by rw [List.take_zero]; rfl)
def S_longest_moves : DSp := fun ds Q => ∃ (n : Nat) (p : Int) (piece : List (List Int)) (ts : List Ts) (ms : List Int), ds = [.int (n : Int), .int p, .list (piece.map en), .list (ts.map en), eI ms] ∧ 0 < n ∧ n ≤ 1000 ∧ Pb p ∧ Small piece ∧ ms.length ≤ 20 ∧ Q .avF (eLm (lm n p piece ts ms))
theorem ms_longest_moves : MonoS S_longest_moves := fun ds Q Q' h ⟨n, p, c, ts, m, e, h1, h2, h3, h4, h5, q⟩ => ⟨n, p, c, ts, m, e, h1, h2, h3, h4, h5, h _ _ q⟩
theorem kp_longest_moves : Keeps 9 (rd_longest_moves S_moves_placed S_solve S_placed_at) S_longest_moves := by
  rintro ds Q ⟨n, p, piece, ts, ms, rfl, h1, h2, hp, h3, h4, q⟩
  refine ⟨by simp, by omega, by omega, sz (by simp; omega), ?_⟩
  have e00 : (List.replicate ((n : Int)).toNat [PyData.int 0]).flatten = (List.replicate n (0 : Int)).map PyData.int := by
    rw [flat_rep, Int.toNat_natCast, List.map_replicate]
  refine ⟨sm (by omega) (by rw [List.length_map]; omega), for_upTo (fun i σ => ∃ (t : List Int) (s6 s7 s8 : Sl), t.length = n ∧ lm n p piece ts ms = lmGo n p piece ts ms (ms.length - i) i t ∧ σ = [.val false (.int (n)), .val false (.int (p)), .val false (.list (piece.map en)), .val false (.list (ts.map en)), .val false (eI ms), .val true (eI t), s6, s7, s8]) ⟨List.replicate n 0, .non, .non, .non, List.length_replicate, rfl, by rw [e00]; rfl⟩ (fun i σ K hi h k => ?_) (fun σ h => ?_)⟩
  · obtain ⟨t, s6, s7, s8, ht, hl, rfl⟩ := h
    have hi' : i < ms.length := by simpa using hi
    have e0 : (0 : Int) + (i : Int) = (i : Int) := by omega
    rw [e0]
    have ec : cut (ms.map PyData.int) none (some ((i : Int) + 1)) = (ms.take (i + 1)).map PyData.int := by
      have : (i : Int) + 1 = ((i + 1 : Nat) : Int) := by omega
      rw [this, cut_to, List.map_take]
    have lp := plc_len ts h3 (ms.take (i + 1))
    rw [List.length_take] at lp
    simp only [gNameM, young]
    refine seq_join2 (fun σ => ∃ s7 : Sl, σ = [.val false (.int (n)), .val false (.int (p)), .val false (.list (piece.map en)), .val false (.list (ts.map en)), .val false (eI ms), .val true (eI t), .val true (.int (i : Int)), s7, .val true (eSol (sol n (dmsM n p piece ts (ms.take (i + 1)))))]) (fun K2 k2 => ?_) (fun σ h => ?_)
    · refine ⟨n, piece, ts, ms.take (i + 1), by rw [ec], h1, h2, h3, by rw [List.length_take]; omega, ?_⟩
      refine ⟨n, plc piece ts (ms.take (i + 1)), p, rfl, h1, hp, by omega, ?_⟩
      rw [dms_en]
      exact ⟨n, dmsM n p piece ts (ms.take (i + 1)), rfl, by omega, by unfold dmsM; rw [List.length_map]; omega, dms_ok h1 _ _ _ _, k2 _ ⟨_, rfl⟩⟩
    obtain ⟨s7, rfl⟩ := h
    have e1 : ms.length - i = (ms.length - (i + 1)) + 1 := by omega
    rw [e1] at hl
    conv at hl => rhs; unfold lmGo
    have s := sol_ok (dms_ok h1 p piece ts (ms.take (i + 1)))
    cases hs : sol n (dmsM n p piece ts (ms.take (i + 1))) with
    | ring r =>
      rw [hs] at hl
      simp only at hl
      rw [hl] at q
      refine ⟨_, rfl, ?_⟩
      exact ⟨_, rfl, by simp, q⟩
    | tun t' =>
      rw [hs] at hl s
      simp only at hl
      refine ⟨_, rfl, ?_⟩
      exact ⟨_, rfl, k _ ⟨t', _, _, _, s.1, hl, rfl⟩⟩
  · obtain ⟨t, s6, s7, s8, ht, hl, rfl⟩ := h
    have en1 : ((((ms.map PyData.int).length : Nat) : Int)).toNat = ms.length := by simp
    rw [en1, Nat.sub_self] at hl
    have hl : lm n p piece ts ms = .all t := hl
    rw [hl] at q
    exact ⟨by simp, q⟩
/-! the law's own -/
def S__law_bound : DSp := fun ds Q => ∃ (o : Option Int) (r x : Int), ds = [en o, .int r, .int x] ∧ Pb x ∧ Q .av (en (o.map fun b => b + x * r))
theorem ms__law_bound : MonoS S__law_bound := fun ds Q Q' h ⟨o, r, x, e, h1, q⟩ => ⟨o, r, x, e, h1, h _ _ q⟩
theorem kp__law_bound : Keeps 3 rd__law_bound S__law_bound := by
  rintro ds Q ⟨o, r, x, rfl, hx, q⟩
  cases o with
  | none => exact q
  | some b => exact ⟨mul_l hx, q⟩
def S__law_placed : DSp := fun ds Q => ∃ (n : Nat) (piece : List (List Int)) (ts : List Ts), ds = [.int (n : Int), .list (piece.map en), .list (ts.map en)] ∧ 0 < n ∧ n ≤ 1000 ∧ Few piece ∧ FewT ts ∧ AllAsc piece ∧ Q .new (.list ((flN ts piece piece.length).map fun x => ePl n x.2))
theorem ms__law_placed : MonoS S__law_placed := fun ds Q Q' h ⟨n, piece, ts, e, h1, h2, h4, h5, h6, q⟩ => ⟨n, piece, ts, e, h1, h2, h4, h5, h6, h _ _ q⟩
theorem kp__law_placed : Keeps 9 (rd__law_placed S__law_pairs S_place) S__law_placed := by
  rintro ds Q ⟨n, piece, ts, rfl, h1, h2, hf, ht, ha, q⟩
  have hf1 := hf.1
  refine ⟨by simp, for_inv en piece (fun i σ => ∃ s4 s5 s6 s7 s8, σ = [.val false (.int (n)), .val false (.list (piece.map en)), .val false (.list (ts.map en)), .own false ((flN ts piece i).map fun x => ePl n x.2), s4, s5, s6, s7, s8]) ⟨.non, .non, .non, .non, .non, rfl⟩ (fun i hi' σ K h k => ?_) (fun σ h => ?_)⟩
  · obtain ⟨s4, s5, s6, s7, s8, rfl⟩ := h
    have hc := hf.2 piece[i] (List.getElem_mem hi')
    have hN := flN_len ts hf i (by omega)
    have hT := tp_len ts hc
    refine ⟨piece[i], ts, rfl, hc, ht.1, ha _ (List.getElem_mem hi'), ht.2, ?_⟩
    refine for_inv en (tp piece[i] ts) (fun j σ => ∃ s5 s6 s7 s8, σ = [.val false (.int (n)), .val false (.list (piece.map en)), .val false (.list (ts.map en)), .own false ((flN ts piece i ++ ((tp piece[i] ts).take j).map fun p => (i, p)).map fun x => ePl n x.2), .val false (en piece[i]), s5, s6, s7, s8]) ⟨s5, s6, s7, s8, by rw [List.take_zero, List.map_nil, List.append_nil]; rfl⟩ (fun j hj σ K2 h k2 => ?_) (fun σ h => ?_)
    · obtain ⟨s5, s6, s7, s8, rfl⟩ := h
      refine ⟨rfl, ?_⟩
      refine ⟨(tp piece[i] ts)[j].a, n, rfl, h1, h2, ?_⟩
      refine ⟨(tp piece[i] ts)[j].b, n, rfl, h1, h2, ?_⟩
      refine ⟨by simp, szlt ?_, k2 _ ⟨.val false (.int ((tp piece[i] ts)[j].a)), .val false (.int ((tp piece[i] ts)[j].b)), .val false (en (tp piece[i] ts)[j].lo), .val false (en (tp piece[i] ts)[j].hi), ?_⟩⟩
      · rw [List.length_map, List.length_append, List.length_map, List.length_take]
        omega
      · rw [List.take_succ_eq_append_getElem hj, List.map_append (l₂ := [_]), ← List.append_assoc, List.map_append (l₂ := List.map _ [_])]
        rfl
    · obtain ⟨s5, s6, s7, s8, rfl⟩ := h
      refine k _ ⟨.val false (en piece[i]), s5, s6, s7, s8, ?_⟩
      rw [List.take_length, flN_succ ts hi']
  · obtain ⟨s4, s5, s6, s7, s8, rfl⟩ := h
    exact q
/-- rows of numbers and None -/
def eTo (xs : List (Option Int)) : PyData := .tuple (xs.map en)
def S_same_rowo : DSp := fun ds Q => ∃ xs : List (Option Int), ds = [eTo xs, eTo xs] ∧ xs.length ≤ 1000 ∧ Q .av (.bool true)
theorem ms_same_rowo : MonoS S_same_rowo := fun ds Q Q' h ⟨xs, e, h1, q⟩ => ⟨xs, e, h1, h _ _ q⟩
theorem kp_same_rowo : Keeps 3 (rd__law_same_row S__law_is_number) S_same_rowo := by
  rintro ds Q ⟨xs, rfl, hl, q⟩
  refine br.nd (fun h => absurd rfl h) (fun _ => ?_)
  refine ⟨sm (by simp) (by simp; omega), for_upTo (fun i σ => ∃ s2, σ = [.val false (eTo xs), .val false (eTo xs), s2]) ⟨.non, rfl⟩ (fun i σ K hi h k => ?_) (fun σ h => ?_)⟩
  · obtain ⟨s2, rfl⟩ := h
    have hi' : i < xs.length := by simpa using hi
    have e0 : (0 : Int) + (i : Int) = (i : Int) := by omega
    rw [e0]
    have a := at_map (en := En.en (α := Option Int)) hi'
    cases hx : xs[i] with
    | none =>
      rw [hx] at a
      exact ⟨_, a, _, a, k _ ⟨_, rfl⟩⟩
    | some z =>
      rw [hx] at a
      refine ⟨_, a, ?_⟩
      refine ⟨_, a, _, rfl, ?_⟩
      exact ⟨_, a, _, a, br.nd (fun h => absurd rfl h) (fun _ => k _ ⟨_, rfl⟩)⟩
  · obtain ⟨s2, rfl⟩ := h
    exact q
def S__law_same_placed : DSp := fun ds Q => ∃ (n : Nat) (fl : List (Nat × Pr)), ds = [.list (fl.map fun x => ePl n x.2), .list (fl.map fun x => ePl n x.2)] ∧ fl.length ≤ 10000000 ∧ Q .av (.bool true)
theorem ms__law_same_placed : MonoS S__law_same_placed := fun ds Q Q' h ⟨n, fl, e, h1, q⟩ => ⟨n, fl, e, h1, h _ _ q⟩
theorem kp__law_same_placed : Keeps 3 (rd__law_same_placed S_same_rowo) S__law_same_placed := by
  rintro ds Q ⟨n, fl, rfl, hl, q⟩
  refine br.nd (fun h => absurd rfl h) (fun _ => ?_)
  refine ⟨sm (by simp) (by simp; omega), for_upTo (fun i σ => ∃ s2, σ = [.val false (.list (fl.map fun x => ePl n x.2)), .val false (.list (fl.map fun x => ePl n x.2)), s2]) ⟨.non, rfl⟩ (fun i σ K hi h k => ?_) (fun σ h => ?_)⟩
  · obtain ⟨s2, rfl⟩ := h
    have hi' : i < fl.length := by simpa using hi
    have e0 : (0 : Int) + (i : Int) = (i : Int) := by omega
    rw [e0]
    have a := at_map (en := fun x : Nat × Pr => ePl n x.2) hi'
    generalize hx : (fl[i]).2 = x at *
    refine ⟨_, a, ?_⟩
    refine ⟨_, a, _, a, (fun z => nomatch (show (2 : Nat) = 0 from z.1)), _, a, (fun z => nomatch (show (2 : Nat) = 0 from z.1)), ?_⟩
    refine ⟨[x.lo, x.hi], rfl, by simp, ?_⟩
    refine ⟨_, a, _, rfl, _, a, _, rfl, ?_⟩
    refine ⟨[some (x.a % n), some (x.a / n)], rfl, by simp, ?_⟩
    refine ⟨_, a, _, rfl, _, a, _, rfl, ?_⟩
    exact ⟨[some (x.b % n), some (x.b / n)], rfl, by simp, k _ ⟨_, rfl⟩⟩
  · obtain ⟨s2, rfl⟩ := h
    exact q
def S__law_plain : DSp := fun ds Q => ∃ (n : Nat) (fl : List (Nat × Pr)) (p : Int), ds = [.list (fl.map fun x => ePl n x.2), .int p] ∧ 0 < n ∧ Pb p ∧ fl.length ≤ 10000000 ∧ Q .new (.list (fl.map fun y => en (dmOf n p y.2)))
theorem ms__law_plain : MonoS S__law_plain := fun ds Q Q' h ⟨n, fl, p, e, h1, h2, h3, q⟩ => ⟨n, fl, p, e, h1, h2, h3, h _ _ q⟩
theorem kp__law_plain : Keeps 8 (rd__law_plain S__law_bound) S__law_plain := by
  rintro ds Q ⟨n, fl, p, rfl, hn, hp, hl, q⟩
  refine ⟨by simp, for_inv (fun x : Nat × Pr => ePl n x.2) fl (fun i σ => ∃ s3 s4 s5 s6 s7 : Sl, σ = [.val false (.list (fl.map fun x => ePl n x.2)), .val false (.int (p)), .own false ((fl.take i).map fun y => en (dmOf n p y.2)), s3, s4, s5, s6, s7]) ⟨.non, .non, .non, .non, .non, rfl⟩ (fun i hi σ K h k => ?_) (fun σ h => ?_)⟩
  · obtain ⟨s3, s4, s5, s6, s7, rfl⟩ := h
    have e3 : (fl.take (i + 1)).map (fun y => en (dmOf n p y.2)) = (fl.take i).map (fun y => en (dmOf n p y.2)) ++ [en (dmOf n p (fl[i]).2)] := by
      rw [List.take_succ_eq_append_getElem hi, List.map_append]
      rfl
    have hlen : ((fl.take i).map (fun y => en (dmOf n p y.2))).length < sizeLine := szlt (by rw [List.length_map, List.length_take]; omega)
    generalize hx : (fl[i]).2 = x at *
    have ea := em (a := x.a) (b := (n : Int)) (by omega)
    have eb := em (a := x.b) (b := (n : Int)) (by omega)
    refine ⟨rfl, _, rfl, _, rfl, ?_⟩
    refine ⟨_, rfl, _, rfl, x.lo, _, p, rfl, hp, ?_⟩
    refine ⟨x.hi, _, p, rfl, hp, by simp, hlen, k _ ⟨.val false (.tuple [.int (x.a % n), .int (x.a / n)]), .val false (.tuple [.int (x.b % n), .int (x.b / n)]), .val false (en x.lo), .val false (en x.hi), .val false (.int (x.b / n - x.a / n)), ?_⟩⟩
    · rw [e3]
      have e4 : en (dmOf n p x) = .tuple [.int (x.a % n), .int (x.b % n), en (x.lo.map fun b => b + p * -(x.b / n - x.a / n)), en (x.hi.map fun b => b + p * -(x.b / n - x.a / n))] := by
        show PyData.tuple [.int (((x.a % (n : Int)).toNat : Nat) : Int), .int (((x.b % (n : Int)).toNat : Nat) : Int), _, _] = _
        rw [Int.toNat_of_nonneg ea.1, Int.toNat_of_nonneg eb.1]
        rfl
      rw [e4]
      rfl
  · obtain ⟨s3, s4, s5, s6, s7, rfl⟩ := h
    rw [List.take_length]
    exact q
end RD

set_option Elab.async false
set_option linter.all false
set_option maxRecDepth 100000
set_option maxHeartbeats 2000000
/-! M2_K85: the longest moves: the law's judges. -/
namespace RD
open PySem DL
open En (en)
def S__law_moves_placed : DSp := fun ds Q => ∃ (n : Nat) (piece : List (List Int)) (ts : List Ts) (ms : List Int), ds = [.int (n : Int), .list (piece.map en), .list (ts.map en), eI ms] ∧ 0 < n ∧ n ≤ 1000 ∧ Small piece ∧ FewT ts ∧ AllAsc piece ∧ ms.length ≤ 20 ∧ Q .av (.list ((plc piece ts ms).map fun x => ePl n x.2))
theorem ms__law_moves_placed : MonoS S__law_moves_placed := fun ds Q Q' h ⟨n, c, ts, m, e, h1, h2, h3, h4, h5, h6, q⟩ => ⟨n, c, ts, m, e, h1, h2, h3, h4, h5, h6, h _ _ q⟩
theorem lc_mvd {f : Bool} {l : Lv} {σ : Ds} {i j k : Nat} {b : Int} {piece : List (List Int)} {g : Bool} {Q : List PyData → Prop} (h : Small piece) (hQ : Q ((mvd b piece).map (en (α := List Int)))) (hs : ∀ c ∈ piece, ∀ P : PyData → Prop, P (.list ((c.map fun x => x + b).map PyData.int)) → ∀ N : Prop, gName j l (en c) σ fun σ' => dYes σ' fun b => br b ((dLcL g (dVar j) (gName i) dYes (dOp rAdd (dVar i) (dVar k)) [i]) σ' fun fl d => fz fl fun k => okF f k (P d)) N) :
    lcGo f l (gName j) dYes (dLcL g (dVar j) (gName i) dYes (dOp rAdd (dVar i) (dVar k)) [i]) σ (piece.map en) [] Q := by
  refine lc_map en piece (fun c => PyData.list ((c.map fun x => x + b).map PyData.int)) (by have := h.1; omega) (fun c hc P N p => hs c hc P p N) ?_
  rw [mvd_en]
  exact hQ
theorem kp__law_moves_placed : Keeps 8 (rd__law_moves_placed S__law_placed) S__law_moves_placed := by
  rintro ds Q ⟨n, piece, ts, ms, rfl, h1, h2, h3, h5, h6, h4, q⟩
  refine ⟨by simp, for_inv PyData.int ms (fun i σ => ∃ s5 s6 s7 : Sl, σ = [.val false (.int (n)), .val false (.list (piece.map en)), .val false (.list (ts.map en)), .val false (eI ms), .val false (.list ((plc piece ts (ms.take i)).map fun x => ePl n x.2)), s5, s6, s7]) ⟨.non, .non, .non, rfl⟩ (fun i hi σ K h k => ?_) (fun σ h => ?_)⟩
  · obtain ⟨s5, s6, s7, rfl⟩ := h
    have hfew := (h3.mvd ms[i]).few
    refine lc_map en piece (fun c => PyData.list ((c.map fun x => x + ms[i]).map PyData.int)) (by have := h3.1; omega) (fun c hc P N p => ?_) ?_
    · have := h3.2 c hc
      refine lc_map PyData.int c (fun x => PyData.int (x + ms[i])) (by omega) (fun x hx P N p => p) ?_
      rw [List.map_map] at p
      exact p
    rw [mvd_en]
    refine ⟨n, mvd ms[i] piece, ts, rfl, h1, h2, hfew, h5, asc_mvd h6, ?_⟩
    rw [mvd_len]
    have l1 := plc_len ts h3 (ms.take i)
    have l2 := fl_len ts h3 ms[i]
    rw [List.length_take] at l1
    refine ⟨sz (by rw [List.length_map, List.length_map]; omega), k _ ⟨.val false (.int (ms[i])), s6, s7, ?_⟩⟩
    rw [List.take_succ_eq_append_getElem hi, plc_app, plc_one, List.map_append]
    rfl
  · obtain ⟨s5, s6, s7, rfl⟩ := h
    rw [List.take_length]
    exact q
theorem brs_nil {t : List Int} (h : 0 < t.length) {p : Int} {fl : List (Nat × Pr)} (hm : ∀ y ∈ fl, mt t (dmOf t.length p y.2) = true) : brs t p fl = [] := by
  unfold brs
  rw [List.map_eq_nil_iff, List.filter_eq_nil_iff]
  intro y hy
  have := hm y hy
  rw [mt_dm h] at this
  simpa using this
def Well (t : List Int) (p : Int) (piece : List (List Int)) (ts : List Ts) (ms : List Int) : Prop := ∀ b ∈ ms, brs t p (flN ts (mvd b piece) piece.length) = []
theorem well_of {t : List Int} (h : 0 < t.length) {p : Int} {piece : List (List Int)} {ts : List Ts} {ms : List Int} (hm : (dmsM t.length p piece ts ms).all (mt t) = true) : Well t p piece ts ms := fun b hb => by
  refine brs_nil h fun y hy => ?_
  refine List.all_eq_true.mp hm _ ?_
  unfold dmsM plc
  exact List.mem_map.mpr ⟨y, List.mem_flatMap.mpr ⟨b, hb, hy⟩, rfl⟩
def S__law_sounds_well : DSp := fun ds Q => ∃ (t : List Int) (p : Int) (piece : List (List Int)) (ts : List Ts) (ms : List Int), ds = [.int p, eI t, .list (piece.map en), .list (ts.map en), eI ms] ∧ 0 < t.length ∧ t.length ≤ 1000 ∧ Pb p ∧ Small piece ∧ FewT ts ∧ AllAsc piece ∧ Well t p piece ts ms ∧ Q .av (.bool true)
theorem ms__law_sounds_well : MonoS S__law_sounds_well := fun ds Q Q' h ⟨t, p, c, ts, m, e, h1, h2, h3, h4, h5, h6, h7, q⟩ => ⟨t, p, c, ts, m, e, h1, h2, h3, h4, h5, h6, h7, h _ _ q⟩
theorem kp__law_sounds_well : Keeps 8 (rd__law_sounds_well S__law_breaches S_breaches S_moved) S__law_sounds_well := by
  rintro ds Q ⟨t, p, piece, ts, ms, rfl, h1, h2, hp, h3, h5, h6, hw, q⟩
  unfold rd__law_sounds_well
  refine seq_join (fun σ => True) (fun K k => ?_) (fun σ _ => q)
  refine for_inv PyData.int ms (fun i σ => ∃ s5 s6 s7 : Sl, σ = [.val false (.int (p)), .val false (eI t), .val false (.list (piece.map en)), .val false (.list (ts.map en)), .val false (eI ms), s5, s6, s7]) ⟨.non, .non, .non, rfl⟩ (fun i hi σ K h k => ?_) (fun σ h => k _ trivial)
  obtain ⟨s5, s6, s7, rfl⟩ := h
  have hfew := (h3.mvd ms[i]).few
  have hb := hw ms[i] (List.getElem_mem hi)
  refine lc_map en piece (fun c => PyData.list ((c.map fun x => x + ms[i]).map PyData.int)) (by have := h3.1; omega) (fun c hc P N p => ?_) ?_
  · have := h3.2 c hc
    refine lc_map PyData.int c (fun x => PyData.int (x + ms[i])) (by omega) (fun x hx P N p => p) ?_
    rw [List.map_map] at p
    exact p
  rw [mvd_en]
  refine ⟨t, p, mvd ms[i] piece, ts, rfl, h1, h2, hp, hfew, h5, asc_mvd h6, ?_⟩
  rw [mvd_len, hb]
  refine ⟨piece, ms[i], rfl, h3.few, ?_⟩
  refine ⟨t, p, mvd ms[i] piece, ts, by rw [List.length_map]; rfl, h1, h2, hp, hfew, ?_⟩
  rw [mvd_len, hb]
  exact k _ ⟨_, _, _, rfl⟩
def S__law_is_right_5988 : DSp := fun ds Q => ∃ (n : Nat) (p : Int) (piece : List (List Int)) (ts : List Ts) (ms : List Int) (x : Lm), ds = [.int (n : Int), .int p, .list (piece.map en), .list (ts.map en), eI ms, eLm x] ∧ 0 < n ∧ n ≤ 1000 ∧ Pb p ∧ Small piece ∧ FewT ts ∧ AllAsc piece ∧ ms.length ≤ 20 ∧ LmOk n p piece ts ms x ∧ Q .av (.bool true)
theorem ms__law_is_right_5988 : MonoS S__law_is_right_5988 := fun ds Q Q' h ⟨n, p, c, ts, m, x, e, h1, h2, h3, h4, h5, h6, h7, h8, q⟩ => ⟨n, p, c, ts, m, x, e, h1, h2, h3, h4, h5, h6, h7, h8, h _ _ q⟩
theorem kp__law_is_right_5988 : Keeps 8 (rd__law_is_right_5988 S__law_tagged S__law_is_numbers S__law_sounds_well S__law_is_number S__law_plain S__law_moves_placed S__law_is_short_ring) S__law_is_right_5988 := by
  rintro ds Q ⟨n, p, piece, ts, ms, x, rfl, h1, h2, hp, h3, h5, h6, h7, hx, q⟩
  cases x with
  | all t =>
    obtain ⟨t1, t2⟩ := hx
    subst t1
    refine ⟨_, _, _, _, rfl, ?_⟩
    refine ⟨_, rfl, t, _, rfl, ?_⟩
    rw [decide_eq_true rfl]
    refine ⟨_, rfl, t, p, piece, ts, ms, rfl, h1, h2, hp, h3, h5, h6, well_of h1 t2, ?_⟩
    exact q
  | stop k t r =>
    obtain ⟨k1, t1, t2, r1, r2⟩ := hx
    subst t1
    unfold rd__law_is_right_5988
    refine seq_join (fun σ => σ = [.val false (.int (t.length)), .val false (.int (p)), .val false (.list (piece.map en)), .val false (.list (ts.map en)), .val false (eI ms), .val false (eLm (.stop k t r)), .non, .non]) (fun K kk => ?_) (fun σ h => ?_)
    · exact ⟨_, _, _, _, rfl, kk _ rfl⟩
    subst h
    refine seq_join2 (fun σ => σ = [.val false (.int (t.length)), .val false (.int (p)), .val false (.list (piece.map en)), .val false (.list (ts.map en)), .val false (eI ms), .val false (eLm (.stop k t r)), .val false (.int (k)), .non]) (fun K kk => ?_) (fun σ h => ?_)
    · refine ⟨_, _, _, _, rfl, ?_⟩
      refine ⟨_, rfl, _, rfl, ?_⟩
      refine ⟨_, rfl, ?_⟩
      refine ⟨_, rfl, br.dec (fun h => ?_) (fun _ => ⟨_, rfl, kk _ rfl⟩)⟩
      have h : ((ms.map PyData.int).length : Int) ≤ (k : Int) := h
      rw [List.length_map] at h
      omega
    subst h
    have c1 : cut (ms.map PyData.int) none (some (k : Int)) = (ms.take k).map PyData.int := by rw [cut_to, List.map_take]
    have c2 : cut (ms.map PyData.int) none (some ((k : Int) + 1)) = (ms.take (k + 1)).map PyData.int := by
      have : (k : Int) + 1 = ((k + 1 : Nat) : Int) := by omega
      rw [this, cut_to, List.map_take]
    refine seq_join (fun σ => σ = [.val false (.int (t.length)), .val false (.int (p)), .val false (.list (piece.map en)), .val false (.list (ts.map en)), .val false (eI ms), .val false (eLm (.stop k t r)), .val false (.int (k)), .non]) (fun K kk => ?_) (fun σ h => ?_)
    · refine ⟨_, rfl, t, _, rfl, ?_⟩
      rw [decide_eq_true rfl]
      refine ⟨_, rfl, t, p, piece, ts, ms.take k, by rw [c1], h1, h2, hp, h3, h5, h6, well_of h1 t2, ?_⟩
      exact kk _ rfl
    subst h
    have lp := plc_len ts h3 (ms.take (k + 1))
    rw [List.length_take] at lp
    refine ⟨t.length, piece, ts, ms.take (k + 1), by rw [c2], h1, h2, h3, h5, h6, by rw [List.length_take]; omega, ?_⟩
    refine ⟨t.length, plc piece ts (ms.take (k + 1)), p, rfl, h1, hp, by omega, ?_⟩
    rw [dms_en]
    refine ⟨_, rfl, ?_⟩
    exact ⟨dmsM t.length p piece ts (ms.take (k + 1)), r, rfl, by omega, r1, q⟩
def isTun (s : Sol) : Bool := match s with
  | .tun _ => true
  | .ring _ => false
/-- how many moves go together -/
def lmN (ms : List Int) (x : Lm) : Nat := match x with
  | .all _ => ms.length
  | .stop k _ _ => k
theorem plc_mem {piece : List (List Int)} {ts : List Ts} {a b : List Int} (h : ∀ x ∈ a, x ∈ b) {y : Nat × Pr} (hy : y ∈ plc piece ts a) : y ∈ plc piece ts b := by
  unfold plc at hy ⊢
  obtain ⟨m, hm, hy⟩ := List.mem_flatMap.mp hy
  exact List.mem_flatMap.mpr ⟨m, h m hm, hy⟩
theorem dms_mono {n : Nat} {p : Int} {piece : List (List Int)} {ts : List Ts} {a b : List Int} {t : List Int} (h : ∀ x ∈ a, x ∈ b) (hb : (dmsM n p piece ts b).all (mt t) = true) : (dmsM n p piece ts a).all (mt t) = true := by
  rw [List.all_eq_true] at hb ⊢
  intro d hd
  unfold dmsM at hd
  obtain ⟨y, hy, rfl⟩ := List.mem_map.mp hd
  exact hb _ (List.mem_map.mpr ⟨y, plc_mem h hy, rfl⟩)
theorem take_sub {α : Type} {xs : List α} {i j : Nat} (h : i ≤ j) : ∀ x ∈ xs.take i, x ∈ xs.take j := fun x hx => by
  have e : xs.take i = (xs.take j).take i := by rw [List.take_take, Nat.min_eq_left h]
  rw [e] at hx
  exact List.mem_of_mem_take hx
theorem lm_tun {n : Nat} (h : 0 < n) {p : Int} {piece : List (List Int)} {ts : List Ts} {ms : List Int} {x : Lm} (hx : LmOk n p piece ts ms x) (f : Nat) (hf : f ≤ ms.length) : isTun (sol n (dmsM n p piece ts (ms.take f))) = decide (f ≤ lmN ms x) := by
  have s := sol_ok (dms_ok h p piece ts (ms.take f))
  have yes : ∀ t, (dmsM n p piece ts (ms.take f)).all (mt t) = true → isTun (sol n (dmsM n p piece ts (ms.take f))) = true := fun t ht => by
    cases hs : sol n (dmsM n p piece ts (ms.take f)) with
    | tun t' => rfl
    | ring r =>
      rw [hs] at s
      have := short_none s.1 t
      rw [ht] at this
      cases this
  cases x with
  | all t =>
    obtain ⟨_, t2⟩ := hx
    rw [yes t (dms_mono (fun x hx => List.mem_of_mem_take hx) t2)]
    exact (decide_eq_true hf).symm
  | stop k t r =>
    obtain ⟨k1, _, t2, r1, _⟩ := hx
    by_cases hk : f ≤ k
    · rw [yes t (dms_mono (take_sub hk) t2)]
      exact (decide_eq_true hk).symm
    · cases hs : sol n (dmsM n p piece ts (ms.take f)) with
      | ring r' => exact (decide_eq_false hk).symm
      | tun t' =>
        rw [hs] at s
        have := short_none r1 t'
        rw [dms_mono (take_sub (show k + 1 ≤ f by omega)) s.2] at this
        cases this
def S__law_asks_solving : DSp := fun ds Q => ∃ (n m : Nat) (p : Int) (piece : List (List Int)) (ts : List Ts) (ms : List Int), ds = [.int (n : Int), .int p, .list (piece.map en), .list (ts.map en), eI ms, .int (m : Int)] ∧ 0 < n ∧ n ≤ 1000 ∧ Pb p ∧ Small piece ∧ FewT ts ∧ AllAsc piece ∧ ms.length ≤ 20 ∧ (∀ f, f ≤ ms.length → isTun (sol n (dmsM n p piece ts (ms.take f))) = decide (f ≤ m)) ∧ Q .av (.bool true)
theorem ms__law_asks_solving : MonoS S__law_asks_solving := fun ds Q Q' h ⟨n, m, p, c, ts, ms, e, h1, h2, h3, h4, h5, h6, h7, h8, q⟩ => ⟨n, m, p, c, ts, ms, e, h1, h2, h3, h4, h5, h6, h7, h8, h _ _ q⟩
theorem kp__law_asks_solving : Keeps 11 (rd__law_asks_solving S_moves_placed S__law_moves_placed S__law_same_placed S__law_plain S_solve S_placed_at S__law_is_answer) S__law_asks_solving := by
  rintro ds Q ⟨n, m, p, piece, ts, ms, rfl, h1, h2, hp, h3, h5, h6, h7, hm, q⟩
  unfold rd__law_asks_solving
  refine seq_join (fun σ => True) (fun K k => ?_) (fun σ _ => q)
  refine ⟨sm (by omega) (by rw [List.length_map]; omega), for_upTo (fun i σ => ∃ s6 s7 s8 s9 s10 : Sl, σ = [.val false (.int (n)), .val false (.int (p)), .val false (.list (piece.map en)), .val false (.list (ts.map en)), .val false (eI ms), .val false (.int (m)), s6, s7, s8, s9, s10]) ⟨.non, .non, .non, .non, .non, rfl⟩ (fun i σ K hi h k => ?_) (fun σ h => k _ trivial)⟩
  obtain ⟨s6, s7, s8, s9, s10, rfl⟩ := h
  have hi' : i ≤ ms.length := by
    rw [List.length_map] at hi
    omega
  have e0 : (0 : Int) + (i : Int) = (i : Int) := by omega
  rw [e0]
  have c1 : cut (ms.map PyData.int) none (some (i : Int)) = (ms.take i).map PyData.int := by rw [cut_to, List.map_take]
  have lp := plc_len ts h3 (ms.take i)
  rw [List.length_take] at lp
  have lt : (ms.take i).length ≤ 20 := by rw [List.length_take]; omega
  refine seq_join2 (fun σ => σ = [.val false (.int (n)), .val false (.int (p)), .val false (.list (piece.map en)), .val false (.list (ts.map en)), .val false (eI ms), .val false (.int (m)), .val false (.int (i)), .val false (.list ((plc piece ts (ms.take i)).map fun x => ePl n x.2)), .val false (.list ((plc piece ts (ms.take i)).map fun x => ePl n x.2)), s9, s10]) (fun K2 k2 => ?_) (fun σ h => ?_)
  · refine ⟨n, piece, ts, ms.take i, by rw [c1], h1, h2, h3, lt, ?_⟩
    exact ⟨n, piece, ts, ms.take i, by rw [c1], h1, h2, h3, h5, h6, lt, k2 _ rfl⟩
  subst h
  refine seq_join3 (fun σ => σ = [.val false (.int (n)), .val false (.int (p)), .val false (.list (piece.map en)), .val false (.list (ts.map en)), .val false (eI ms), .val false (.int (m)), .val false (.int (i)), .val false (.list ((plc piece ts (ms.take i)).map fun x => ePl n x.2)), .val false (.list ((plc piece ts (ms.take i)).map fun x => ePl n x.2)), .val false (.list ((dmsM n p piece ts (ms.take i)).map en)), .val false (eSol (sol n (dmsM n p piece ts (ms.take i))))]) (fun K2 k2 => ?_) (fun σ h => ?_)
  · refine ⟨n, _, rfl, by omega, ?_⟩
    refine ⟨n, plc piece ts (ms.take i), p, rfl, h1, hp, by omega, ?_⟩
    rw [dms_en]
    refine ⟨n, plc piece ts (ms.take i), p, rfl, h1, hp, by omega, ?_⟩
    rw [dms_en]
    exact ⟨n, _, rfl, by omega, by unfold dmsM; rw [List.length_map]; omega, dms_ok h1 _ _ _ _, k2 _ rfl⟩
  subst h
  have ho := dms_ok h1 p piece ts (ms.take i)
  refine ⟨n, _, _, rfl, by omega, ho, sol_ok ho, ?_⟩
  have hti := hm i hi'
  have hz : decide (i ≤ m) = decide ((i : Int) ≤ (m : Int)) := decide_eq_decide.mpr (by omega)
  rw [hz] at hti
  cases hs : sol n (dmsM n p piece ts (ms.take i)) with
  | tun t =>
    rw [hs] at hti
    refine ⟨_, rfl, br.nd (fun z => ?_) (fun _ => k _ ⟨_, _, _, _, _, rfl⟩)⟩
    exact absurd hti z
  | ring r =>
    rw [hs] at hti
    refine ⟨_, rfl, br.nd (fun z => ?_) (fun _ => k _ ⟨_, _, _, _, _, rfl⟩)⟩
    exact absurd hti z
end RD

set_option Elab.async false
set_option linter.all false
set_option maxRecDepth 100000
set_option maxHeartbeats 2000000
/-! M3_K85: the longest moves: many moves. -/
namespace RD
open PySem DL
open En (en)
def S__law_asks_many : DSp := fun ds Q => ∃ r : List Int, ds = [eI r] ∧ Good r ∧ 90 ≤ r.length ∧ Q .av (.bool true)
theorem ms__law_asks_many : MonoS S__law_asks_many := fun ds Q Q' h ⟨r, e, h1, h2, q⟩ => ⟨r, e, h1, h2, h _ _ q⟩
theorem kp__law_asks_many : Keeps 10 (rd__law_asks_many S_longest_moves S__law_is_right_5988 S_moves_placed S__law_same_placed S__law_moves_placed) S__law_asks_many := by
  rintro ds Q ⟨r, rfl, hg, hr, q⟩
  have G := gd_good hg
  have A : ∀ i : Int, 0 ≤ i → i < 90 → L2.atI (r.map PyData.int) i = some (.int (r.getD i.toNat 0)) := fun i h0 h1 => at_d h0 (by omega)
  have e75 := em (a := r.getD (Int.toNat 75) 0) (b := 10) (by decide)
  have e76 := em (a := r.getD (Int.toNat 76) 0) (b := 4) (by decide)
  have e77 := em (a := r.getD (Int.toNat 77) 0) (b := 5) (by decide)
  unfold rd__law_asks_many
  refine seq_join5 (fun σ => ∃ (n : Nat) (p : Int) (piece : List (List Int)) (ts : List Ts) (ms : List Int), σ = [.val false (eI r), .val false (.int (n)), .val false (.int (p)), .val false (.list (piece.map en)), .val false (.list (ts.map en)), .val false (eI ms), .non, .non, .non, .non] ∧ 0 < n ∧ n ≤ 1000 ∧ Pb p ∧ Small piece ∧ FewT ts ∧ AllAsc piece ∧ ms.length ≤ 20) (fun K k => ?_) (fun σ h => ?_)
  · refine ⟨_, A 75 (by decide) (by decide), md (by decide), ?_⟩
    refine ⟨_, A 76 (by decide) (by decide), md (by decide), ?_⟩
    refine ⟨by simp, _, A 77 (by decide) (by decide), md (by decide), by simp, by simp, ?_⟩
    refine ⟨by simp, by simp, sm (by decide) (by decide), lc_upToR (n := 20) (β := Int) PyData.int (fun _ _ => True) (by decide) (fun k hk P N' pk => ?_) (fun ms hms => ?_)⟩
    · have ek := em (a := 0 + (k : Int)) (b := 6) (by decide)
      refine ⟨md (by decide), _, A _ (by omega) (by omega), div_s (by omega), md (by decide), pk _ trivial⟩
    obtain ⟨hml, -⟩ := hms.upTo
    refine k _ ⟨(8 + r.getD (Int.toNat 75) 0 % 10).toNat, 8 + r.getD (Int.toNat 75) 0 % 10 + r.getD (Int.toNat 76) 0 % 4 - 1, [[0, 1], [3 + r.getD (Int.toNat 77) 0 % 5]], [⟨1, some 1, none⟩], ms, ?_, by omega, by omega, ⟨by omega, by omega⟩, ⟨by simp, fun c hc => ?_⟩, ⟨by decide, ?_⟩, fun c hc => ?_, by omega⟩
    · rw [show (((8 + r.getD (Int.toNat 75) 0 % 10).toNat : Nat) : Int) = 8 + r.getD (Int.toNat 75) 0 % 10 by omega]
      rfl
    · rcases List.mem_cons.mp hc with rfl | hc
      · decide
      · rw [List.mem_singleton.mp hc]
        show 1 ≤ 5
        decide
    · show List.Nodup [1]
      decide
    · rcases List.mem_cons.mp hc with rfl | hc
      · show List.Pairwise (· < ·) [(0 : Int), 1]
        decide
      · rw [List.mem_singleton.mp hc]
        exact List.pairwise_singleton ..
  obtain ⟨n, p, piece, ts, ms, rfl, h1, h2, hp, h3, h5, h6, h7⟩ := h
  have l3 := h3.1
  refine lc_map en piece en (by omega) (fun x hx P N p => p) ?_
  refine ⟨n, p, piece, ts, ms, rfl, h1, h2, hp, h3, h7, ?_⟩
  refine ⟨n, p, piece, ts, ms, _, rfl, h1, h2, hp, h3, h5, h6, h7, lm_ok h1 p piece ts ms, ?_⟩
  refine lc_map en piece en (by omega) (fun x hx P N p => p) ?_
  refine ⟨n, piece, ts, ms, rfl, h1, h2, h3, h7, ?_⟩
  refine ⟨n, piece, ts, ms, rfl, h1, h2, h3, h5, h6, h7, ?_⟩
  have lp := plc_len ts h3 ms
  exact ⟨n, _, rfl, by omega, q⟩
end RD

set_option Elab.async false
set_option linter.all false
set_option maxRecDepth 100000
set_option maxHeartbeats 2000000
/-! MR: how long the text of an answer is; how far out the solver's numbers are. -/
namespace RD
open PySem DL
open En (en)
/-- data that is shown in short -/
def Shy (w k : Nat) (d : PyData) : Prop := d.canLay0 = true ∧ d.depth ≤ k ∧ d.showable = true ∧ d.leavesShort 202 = true ∧ d.bulk ≤ w
def Sht (i : Int) : Prop := -1000000000000000000000000000000000000000000000000000000000000 ≤ i ∧ i ≤ 1000000000000000000000000000000000000000000000000000000000000
theorem shy_int {i : Int} (h : Sht i) : Shy 0 0 (.int i) := by
  have hl : i.natAbs.log2 < 201 := by
    have h1 : i.natAbs ≤ 1000000000000000000000000000000000000000000000000000000000000 := by
      unfold Sht at h
      omega
    by_cases h0 : i.natAbs = 0
    · rw [h0]
      decide
    · exact (Nat.log2_lt h0).mpr (Nat.lt_of_le_of_lt h1 (by decide))
  refine ⟨rfl, Nat.le_refl _, ?_, ?_, Nat.le_refl _⟩
  · simp only [PyData.showable, decide_eq_true_eq]
    omega
  · have := int_text_length_le (k := 201) (by decide) hl
    rw [← ofString_length] at this
    have e : PyData.shown (.int i) = PySem.Str.ofString (toString i) := by simp only [PyData.shown]
    rw [← e] at this
    simp only [PyData.leavesShort, decide_eq_true_eq]
    exact this
theorem shy_none : Shy 0 0 .none := ⟨rfl, Nat.le_refl _, rfl, rfl, Nat.le_refl _⟩
theorem shy_bool (b : Bool) : Shy 0 0 (.bool b) := ⟨rfl, Nat.le_refl _, rfl, rfl, Nat.le_refl _⟩
theorem Shy.le {w k w' k' : Nat} {d : PyData} (h : Shy w k d) (hw : w ≤ w') (hk : k ≤ k') : Shy w' k' d := ⟨h.1, Nat.le_trans h.2.1 hk, h.2.2.1, h.2.2.2.1, Nat.le_trans h.2.2.2.2 hw⟩
theorem shy_all {w k : Nat} : ∀ {ds : List PyData}, (∀ d ∈ ds, Shy w k d) → PyData.canLayAll0 ds = true ∧ PyData.depthAll ds ≤ k ∧ PyData.showableAll ds = true ∧ PyData.leavesShortAll 202 ds = true ∧ PyData.bulkAll ds ≤ (w + 1) * ds.length
  | [], _ => ⟨rfl, Nat.zero_le _, rfl, rfl, Nat.zero_le _⟩
  | d :: ds, h => by
    obtain ⟨a1, a2, a3, a4, a5⟩ := h d List.mem_cons_self
    obtain ⟨b1, b2, b3, b4, b5⟩ := shy_all (ds := ds) fun x hx => h x (List.mem_cons_of_mem _ hx)
    refine ⟨by simp only [PyData.canLayAll0, a1, b1, Bool.and_self], ?_, by simp only [PyData.showableAll, a3, b3, Bool.and_self], by simp only [PyData.leavesShortAll, a4, b4, Bool.and_self], ?_⟩
    · simp only [PyData.depthAll]
      omega
    · simp only [PyData.bulkAll, List.length_cons, Nat.mul_add]
      omega
theorem shy_list {w k : Nat} {ds : List PyData} (h : ∀ d ∈ ds, Shy w k d) : Shy ((w + 1) * ds.length) (k + 1) (.list ds) := by
  obtain ⟨b1, b2, b3, b4, b5⟩ := shy_all h
  exact ⟨by simpa only [PyData.canLay0] using b1, by simp only [PyData.depth]; omega, by simpa only [PyData.showable] using b3, by simpa only [PyData.leavesShort] using b4, by simpa only [PyData.bulk] using b5⟩
theorem shy_tuple {w k : Nat} {ds : List PyData} (h : ∀ d ∈ ds, Shy w k d) : Shy ((w + 1) * ds.length) (k + 1) (.tuple ds) := by
  obtain ⟨b1, b2, b3, b4, b5⟩ := shy_all h
  exact ⟨by simpa only [PyData.canLay0] using b1, by simp only [PyData.depth]; omega, by simpa only [PyData.showable] using b3, by simpa only [PyData.leavesShort] using b4, by simpa only [PyData.bulk] using b5⟩
theorem Shy.fits {w k : Nat} {d : PyData} (h : Shy w k d) (hw : w ≤ 80000) (hk : k ≤ 64) : SeqAt.shaped d = true ∧ d.showable = true ∧ d.hasDict = false ∧ d.shown.length ≤ sizeLine := by
  obtain ⟨h1, h2, h3, h4, h5⟩ := h
  have e := PyData.shown_le_bulk 202 (by decide) d h4
  refine ⟨?_, h3, PyData.hasDict_of_canLay d h1, ?_⟩
  · show (d.canLay0 && decide (d.depth ≤ 64)) = true
    rw [h1, decide_eq_true (show d.depth ≤ 64 by omega)]
    rfl
  · rw [sizeLine_eq]
    omega
theorem shy_ints {t : List Int} (h : ∀ x ∈ t, Sht x) : Shy t.length 1 (eI t) := by
  have := shy_list (w := 0) (k := 0) (ds := t.map PyData.int) fun d hd => by
    obtain ⟨x, hx, rfl⟩ := List.mem_map.mp hd
    exact shy_int (h x hx)
  rw [List.length_map] at this
  exact this.le (by omega) (Nat.le_refl _)
theorem shy_eStp {x : Stp} (h : x.k ≤ 1000000000) : Shy 12 1 (eStp x) := by
  refine (shy_tuple (w := 5) (k := 0) (ds := [.int (x.k : Int), sd x.m]) fun d hd => ?_).le (by simp) (Nat.le_refl _)
  simp only [List.mem_cons, List.not_mem_nil, or_false] at hd
  rcases hd with rfl | rfl
  · exact (shy_int ⟨by omega, by omega⟩).le (by omega) (Nat.le_refl _)
  · cases x.m <;> exact ⟨by decide +kernel, by decide +kernel, by decide +kernel, by decide +kernel, by decide +kernel⟩
theorem shy_ring {r : List Stp} (h : ∀ x ∈ r, x.k ≤ 1000000000) : Shy (13 * r.length) 2 (.list (r.map eStp)) := by
  have := shy_list (w := 12) (k := 1) (ds := r.map eStp) fun d hd => by
    obtain ⟨x, hx, rfl⟩ := List.mem_map.mp hd
    exact shy_eStp (h x hx)
  rw [List.length_map] at this
  exact this
/-! bounds of the relaxing -/
def BdS (M : Int) (S : List (Option Int)) : Prop := ∀ o ∈ S, ∀ z, o = some z → -M ≤ z ∧ z ≤ M
theorem bd_rel1 {M C : Int} {r : RS} {x : Stp} (h : BdS M r.S) (hM : 0 ≤ M) (hC : 0 ≤ C) (hx : -C ≤ x.c ∧ x.c ≤ C) : BdS (M + C) (rel1 r x).S := by
  have up : BdS (M + C) r.S := fun o ho z hz => by
    have := h o ho z hz
    omega
  unfold rel1
  cases hv : r.S.getD x.s none with
  | none => exact up
  | some v =>
    have hvb : -M ≤ v ∧ v ≤ M := by
      by_cases hi : x.s < r.S.length
      · rw [gD hi] at hv
        exact h _ (List.getElem_mem hi) v hv
      · unfold List.getD at hv
        rw [List.getElem?_eq_none (by omega)] at hv
        cases hv
    have st : BdS (M + C) (r.S.set x.e (some (v + x.c))) := fun o ho z hz => by
      rcases List.mem_or_eq_of_mem_set ho with q | q
      · exact up o q z hz
      · rw [hz] at q
        cases q
        omega
    simp only
    cases hw : r.S.getD x.e none with
    | none => exact st
    | some w =>
      simp only
      split
      · exact st
      · exact up
theorem bd_fold {C : Int} (hC : 0 ≤ C) : ∀ (xs : List Stp) (r : RS) (M : Int), 0 ≤ M → BdS M r.S → (∀ x ∈ xs, -C ≤ x.c ∧ x.c ≤ C) → BdS (M + (xs.length : Int) * C) (xs.foldl rel1 r).S
  | [], r, M, _, h, _ => by
    simpa using h
  | x :: xs, r, M, hM, h, hx => by
    have := bd_fold hC xs (rel1 r x) (M + C) (by omega) (bd_rel1 h hM hC (hx x List.mem_cons_self)) fun y hy => hx y (List.mem_cons_of_mem _ hy)
    have e : M + C + (xs.length : Int) * C = M + ((x :: xs).length : Int) * C := by
      rw [List.length_cons, Int.natCast_add, Int.add_mul]
      omega
    rw [e] at this
    exact this
theorem bd_relax {C : Int} (hC : 0 ≤ C) (xs : List Stp) (hx : ∀ x ∈ xs, -C ≤ x.c ∧ x.c ≤ C) : ∀ (f : Nat) (r : RS) (M : Int), 0 ≤ M → BdS M r.S → BdS (M + (f : Int) * ((xs.length : Int) * C)) (relaxR xs f r).S
  | 0, r, M, _, h => by
    show BdS (M + 0 * _) r.S
    rw [Int.zero_mul, Int.add_zero]
    exact h
  | f + 1, r, M, hM, h => by
    have hp : 0 ≤ (xs.length : Int) * C := Int.mul_nonneg (by omega) hC
    have b : BdS (M + (xs.length : Int) * C) (relOnce xs r.S r.L).S := bd_fold hC xs ⟨r.S, r.L, none⟩ M hM h hx
    have e : M + (xs.length : Int) * C + (f : Int) * ((xs.length : Int) * C) = M + ((f + 1 : Nat) : Int) * ((xs.length : Int) * C) := by
      rw [Int.natCast_add, Int.add_mul]
      omega
    unfold relaxR
    cases hc : (relOnce xs r.S r.L).ch with
    | none =>
      have hf : 0 ≤ (f : Int) * ((xs.length : Int) * C) := Int.mul_nonneg (by omega) hp
      rw [← e]
      exact fun o ho z hz => by
        have := b o ho z hz
        omega
    | some v =>
      rw [← e]
      exact bd_relax hC xs hx f _ _ (by omega) b
def CB : Int := 1000000000000000
/-- all demands are near -/
def Near (dms : List Dm) : Prop := ∀ x ∈ stepsOf dms, -CB ≤ x.c ∧ x.c ≤ CB
theorem steps_len (dms : List Dm) : (stepsOf dms).length ≤ 2 * dms.length := stepsN_len dms dms.length
theorem sol_sht {n : Nat} {dms : List Dm} (hn : n ≤ 1000) (hd : dms.length ≤ 1000000) (h : Near dms) {t : List Int} (ht : sol n dms = .tun t) : ∀ x ∈ t, Sht x := by
  have b := bd_relax (C := CB) (by decide) (stepsOf dms) h (n + 1) ⟨List.replicate n (some 0), List.replicate n none, none⟩ 0 (Int.le_refl _) (fun o ho z hz => by
    rw [(List.mem_replicate.mp ho).2] at hz
    cases hz
    exact ⟨by decide, by decide⟩)
  have hl := steps_len dms
  have k1 : ((stepsOf dms).length : Int) * CB ≤ 2000000 * CB := Int.mul_le_mul_of_nonneg_right (by omega) (by decide)
  have k0 : 0 ≤ ((stepsOf dms).length : Int) * CB := Int.mul_nonneg (by omega) (by decide)
  have k2 : ((n + 1 : Nat) : Int) * (((stepsOf dms).length : Int) * CB) ≤ 1001 * (2000000 * CB) := by
    have a1 : ((n + 1 : Nat) : Int) * (((stepsOf dms).length : Int) * CB) ≤ 1001 * (((stepsOf dms).length : Int) * CB) := Int.mul_le_mul_of_nonneg_right (by omega) k0
    have a2 : 1001 * (((stepsOf dms).length : Int) * CB) ≤ 1001 * (2000000 * CB) := Int.mul_le_mul_of_nonneg_left k1 (by decide)
    omega
  unfold sol at ht
  have b : BdS (0 + ((n + 1 : Nat) : Int) * (((stepsOf dms).length : Int) * CB)) (sR n dms).S := b
  cases hc : (sR n dms).ch with
  | some v =>
    rw [hc] at ht
    cases ht
  | none =>
    rw [hc] at ht
    have ht : Sol.tun ((sR n dms).S.map fun o => o.getD 0) = .tun t := ht
    cases ht
    intro x hx
    obtain ⟨o, ho, rfl⟩ := List.mem_map.mp hx
    unfold CB at *
    generalize ((n + 1 : Nat) : Int) * (((stepsOf dms).length : Int) * 1000000000000000) = big at *
    cases o with
    | none => exact ⟨by decide, by decide⟩
    | some z =>
      have := b _ ho z rfl
      show Sht z
      unfold Sht
      omega
theorem fr_mem {ts : List Ts} {w : Int} {t : Ts} (h : fr ts w = some t) : t ∈ ts ∧ t.w = w := by
  unfold fr at h
  refine ⟨List.mem_of_find?_eq_some h, ?_⟩
  have := List.find?_some h
  simpa using this
theorem tp_mem {ts : List Ts} : ∀ {c : List Int} {y : Pr}, y ∈ tp c ts → ∃ t ∈ ts, t.w = y.b - y.a ∧ y.lo = t.lo ∧ y.hi = t.hi := by
  intro c y hy
  rw [tp_tpr] at hy
  induction c with
  | nil => cases hy
  | cons x r ih =>
    have hy : y ∈ r.filterMap (fp ts x) ++ tpr ts r := hy
    rcases List.mem_append.mp hy with q | q
    · obtain ⟨z, hz, e⟩ := List.mem_filterMap.mp q
      unfold fp at e
      cases ht : fr ts (z - x) with
      | none =>
        rw [ht] at e
        cases e
      | some t =>
        rw [ht] at e
        cases e
        obtain ⟨m, w⟩ := fr_mem ht
        exact ⟨t, m, w, rfl, rfl⟩
    · exact ih q
theorem plc_pr {piece : List (List Int)} {ts : List Ts} {ms : List Int} {y : Nat × Pr} (hy : y ∈ plc piece ts ms) : ∃ t ∈ ts, t.w = y.2.b - y.2.a ∧ y.2.lo = t.lo ∧ y.2.hi = t.hi := by
  unfold plc flN at hy
  obtain ⟨b, _, hy⟩ := List.mem_flatMap.mp hy
  obtain ⟨k, _, hy⟩ := List.mem_flatMap.mp hy
  obtain ⟨q, hq, rfl⟩ := List.mem_map.mp hy
  exact tp_mem hq
theorem oct_b {n : Int} (h : 0 < n) {a w : Int} (h1 : 1 ≤ w) (h2 : w ≤ 9) : 0 ≤ (a + w) / n - a / n ∧ (a + w) / n - a / n ≤ 9 := by
  have m1 : a / n ≤ (a + w) / n := Int.ediv_le_ediv h (by omega)
  have m2 : (a + w) / n ≤ (a + w * n) / n := Int.ediv_le_ediv h (by
    have : w * 1 ≤ w * n := Int.mul_le_mul_of_nonneg_left (by omega) (by omega)
    omega)
  rw [Int.add_mul_ediv_right _ _ (by omega)] at m2
  omega
/-- bounds that are not far out, widened ones too -/
def Bo2 (o : Option Int) : Prop := ∀ b, o = some b → -200000000000000 ≤ b ∧ b ≤ 200000000000000
def TsC (ts : List Ts) : Prop := ∀ t ∈ ts, 1 ≤ t.w ∧ t.w ≤ 9 ∧ Bo2 t.lo ∧ Bo2 t.hi
theorem Bo.two {o : Option Int} (h : Bo o) : Bo2 o := fun b hb => by
  have := h b hb
  omega
theorem TsB.two {ts : List Ts} (h : TsB ts) : TsC ts := fun t ht => by
  obtain ⟨a, b, c, d⟩ := h t ht
  exact ⟨a, b, c.two, d.two⟩
theorem Bo.wid {o : Option Int} (h : Bo o) {x : Int} (h1 : -1000 ≤ x) (h2 : x ≤ 1000) : Bo2 (o.map fun b => b + x) := fun b hb => by
  cases o with
  | none => cases hb
  | some z =>
    have hb : z + x = b := Option.some.inj hb
    have := h z rfl
    omega
theorem dmsM_near {n : Nat} (hn : 0 < n) {p : Int} (p1 : 6 ≤ p) (p2 : p ≤ 20001000000) (piece : List (List Int)) {ts : List Ts} (h : TsC ts) (ms : List Int) : Near (dmsM n p piece ts ms) := fun x hx => by
  obtain ⟨k, hk, m, b, hb, rfl⟩ := mem_steps.mp hx
  have hmem := List.getElem_mem hk
  generalize (dmsM n p piece ts ms)[k] = d at *
  unfold dmsM at hmem
  obtain ⟨y, hy, rfl⟩ := List.mem_map.mp hmem
  obtain ⟨t, htm, e1, e2, e3⟩ := plc_pr hy
  obtain ⟨w1, w9, bl, bh⟩ := h t htm
  have hw : y.2.b = y.2.a + t.w := by omega
  have o := oct_b (n := (n : Int)) (by omega) (a := y.2.a) w1 w9
  rw [← hw] at o
  have pb := mul_b (a := p) (A := 20001000000) (b := -(y.2.b / (n : Int) - y.2.a / (n : Int))) (B := 9) ⟨by omega, p2⟩ ⟨by omega, by omega⟩
  have cb : -CB ≤ b ∧ b ≤ CB := by
    unfold CB
    cases m with
    | true =>
      have hb : (y.2.hi.map fun b => b + p * -(y.2.b / (n : Int) - y.2.a / (n : Int))) = some b := hb
      rw [e3] at hb
      cases hh : t.hi with
      | none =>
        rw [hh] at hb
        cases hb
      | some z =>
        rw [hh] at hb
        have hb : z + p * -(y.2.b / (n : Int) - y.2.a / (n : Int)) = b := Option.some.inj hb
        have := bh z hh
        omega
    | false =>
      have hb : (y.2.lo.map fun b => b + p * -(y.2.b / (n : Int) - y.2.a / (n : Int))) = some b := hb
      rw [e2] at hb
      cases hh : t.lo with
      | none =>
        rw [hh] at hb
        cases hb
      | some z =>
        rw [hh] at hb
        have hb : z + p * -(y.2.b / (n : Int) - y.2.a / (n : Int)) = b := Option.some.inj hb
        have := bl z hh
        omega
  cases m with
  | true => exact cb
  | false =>
    show -CB ≤ -b ∧ -b ≤ CB
    omega
theorem dmsM_len {piece : List (List Int)} (ts : List Ts) (h : Small piece) (n : Nat) (p : Int) (ms : List Int) : (dmsM n p piece ts ms).length ≤ ms.length * 40000 := by
  unfold dmsM
  rw [List.length_map]
  exact plc_len ts h ms
end RD

set_option Elab.async false
set_option linter.all false
set_option maxRecDepth 100000
set_option maxHeartbeats 2000000
/-! M4_K85: the longest moves: the text of the answer, the law. -/
namespace RD
open PySem DL
open En (en)
theorem lm_sht {n : Nat} (h0 : 0 < n) (hn : n ≤ 1000) {p : Int} (p1 : 6 ≤ p) (p2 : p ≤ 20001000000) {piece : List (List Int)} (hs : Small piece) {ts : List Ts} (hb : TsC ts) (ms : List Int) (hm : ms.length ≤ 20) : ∀ (f i : Nat) (t : List Int), (∀ x ∈ t, Sht x) → match lmGo n p piece ts ms f i t with
    | .all t => ∀ x ∈ t, Sht x
    | .stop _ t _ => ∀ x ∈ t, Sht x
  | 0, i, t, h => h
  | f + 1, i, t, h => by
    unfold lmGo
    cases hc : sol n (dmsM n p piece ts (ms.take (i + 1))) with
    | ring r => exact h
    | tun t' =>
      have hl := dmsM_len ts hs n p (ms.take (i + 1))
      rw [List.length_take] at hl
      exact lm_sht h0 hn p1 p2 hs hb ms hm f (i + 1) t' (sol_sht hn (by omega) (dmsM_near h0 p1 p2 piece hb _) hc)
theorem ring_k {dms : List Dm} {r : List Stp} (h : ShortRing (stepsOf dms) r) (hd : dms.length ≤ 1000000) : ∀ x ∈ r, x.k ≤ 1000000000 := fun x hx => by
  obtain ⟨k, hk, m, b, hb, e⟩ := mem_steps.mp (h.mem x hx)
  have : x.k = k := by
    rw [e]
    cases m <;> rfl
  omega
theorem eLm_shy {n : Nat} (h0 : 0 < n) (hn : n ≤ 1000) {p : Int} (p1 : 6 ≤ p) (p2 : p ≤ 20001000000) {piece : List (List Int)} (hs : Small piece) {ts : List Ts} (hb : TsC ts) (ms : List Int) (hm : ms.length ≤ 20) : Shy 60000 3 (eLm (lm n p piece ts ms)) := by
  have ok := lm_ok h0 p piece ts ms
  have sh := lm_sht h0 hn p1 p2 hs hb ms hm ms.length 0 (List.replicate n 0) fun x hx => by
    rw [(List.mem_replicate.mp hx).2]
    exact ⟨by decide, by decide⟩
  have e : lmGo n p piece ts ms ms.length 0 (List.replicate n 0) = lm n p piece ts ms := rfl
  rw [e] at sh
  cases hc : lm n p piece ts ms with
  | all t =>
    rw [hc] at ok sh
    obtain ⟨o1, o2⟩ := ok
    refine (shy_tuple (w := 1000) (k := 1) (ds := [.str (PySem.Str.ofString "all"), eI t]) fun d hd => ?_).le (by simp) (by decide)
    simp only [List.mem_cons, List.not_mem_nil, or_false] at hd
    rcases hd with rfl | rfl
    · exact ⟨by decide +kernel, by decide +kernel, by decide +kernel, by decide +kernel, by decide +kernel⟩
    · exact (shy_ints sh).le (by omega) (Nat.le_refl _)
  | stop k t r =>
    rw [hc] at ok sh
    obtain ⟨o1, o2, o3, o4, o5⟩ := ok
    have hl := dmsM_len ts hs n p (ms.take (k + 1))
    rw [List.length_take] at hl
    refine (shy_tuple (w := 14000) (k := 2) (ds := [.str (PySem.Str.ofString "stop"), .int (k : Int), eI t, .list (r.map eStp)]) fun d hd => ?_).le (by simp) (by decide)
    simp only [List.mem_cons, List.not_mem_nil, or_false] at hd
    rcases hd with rfl | rfl | rfl | rfl
    · exact ⟨by decide +kernel, by decide +kernel, by decide +kernel, by decide +kernel, by decide +kernel⟩
    · exact (shy_int ⟨by omega, by omega⟩).le (by omega) (by decide)
    · exact (shy_ints sh).le (by omega) (by decide)
    · exact (shy_ring (ring_k o4 (by omega))).le (by omega) (Nat.le_refl _)
theorem lm_prefix {n : Nat} (h : 0 < n) (p : Int) (piece : List (List Int)) (ts : List Ts) (ms : List Int) : ∃ t, lm n p piece ts (ms.take (lmN ms (lm n p piece ts ms))) = .all t := by
  have ok := lm_ok h p piece ts ms
  have ok2 := lm_ok h p piece ts (ms.take (lmN ms (lm n p piece ts ms)))
  have hm : ∃ t, (dmsM n p piece ts (ms.take (lmN ms (lm n p piece ts ms)))).all (mt t) = true := by
    cases hc : lm n p piece ts ms with
    | all t =>
      rw [hc] at ok
      refine ⟨t, ?_⟩
      show (dmsM n p piece ts (ms.take ms.length)).all (mt t) = true
      rw [List.take_length]
      exact ok.2
    | stop k t r =>
      rw [hc] at ok
      exact ⟨t, ok.2.2.1⟩
  obtain ⟨t, ht⟩ := hm
  generalize ms.take (lmN ms (lm n p piece ts ms)) = m2 at *
  cases hd : lm n p piece ts m2 with
  | all t' => exact ⟨t', rfl⟩
  | stop j t' r =>
    rw [hd] at ok2
    obtain ⟨_, _, _, r1, _⟩ := ok2
    have := short_none r1 t
    rw [dms_mono (fun x hx => List.mem_of_mem_take hx) ht] at this
    cases this
theorem fewt_wid {ts : List Ts} (h : Dis ts) (hl : ts.length ≤ 100) (f : Ts → Ts) (hf : ∀ t, (f t).w = t.w) : FewT (ts.map f) := by
  refine ⟨by rw [List.length_map]; exact hl, ?_⟩
  unfold Dis at h ⊢
  rw [List.map_map]
  have : ((fun x : Ts => x.w) ∘ f) = fun x => x.w := funext hf
  rw [this]
  exact h
theorem lm_n {ms : List Int} {n : Nat} {p : Int} {piece : List (List Int)} {ts : List Ts} {x : Lm} (h : LmOk n p piece ts ms x) : lmN ms x ≤ ms.length := by
  cases x with
  | all t => exact Nat.le_refl _
  | stop k t r => exact Nat.le_of_lt h.1
theorem spoil_join {tl te : DE} {u : DS} {D : Ed} {σ : Ds} (h : ∀ X : Prop, X → tl σ fun fl d => rYoungL fl d fun es => te σ fun fl2 _ => fz fl2 fun _ => es.length < sizeLine ∧ X) (h2 : u { nx := fun _ => False, rt := D.rt } (σ.map spoilS)) : dSpoil tl te u D σ := h _ h2
def S_law_900c : DSp := fun ds Q => ∃ ns : List Int, ds = [scr ns] ∧ ns.length ≤ 63 ∧ Q .av (.bool true)
theorem ms_law_900c : MonoS S_law_900c := fun ds Q Q' h ⟨ns, e, h1, q⟩ => ⟨ns, e, h1, h _ _ q⟩
theorem kp_law_900c : Keeps 20 (rd_law_900c S__law_draws S_piece_world1 S__law_bound S_longest_moves S__law_is_right_5988 S__law_asks_many S__law_asks_solving S__law_tagged) S_law_900c := by
  rintro ds Q ⟨ns, rfl, hns, q⟩
  unfold rd_law_900c
  refine seq_join2 (fun σ => ∃ (r : List Int) (n : Nat) (p : Int) (t0 : List Int) (piece : List (List Int)) (ts : List Ts), σ = [.val false (scr ns), .val false (eI r), .val false (.int (n)), .val false (.int (p)), .val false (eI t0), .val false (.list (piece.map en)), .val false (.list (ts.map en)), .non, .non, .non, .non, .non, .non, .non, .non, .non, .non, .non, .non, .non] ∧ r.length = 90 ∧ Good r ∧ World0 n p t0 piece ts ∧ TsB ts) (fun K k => ?_) (fun σ h => ?_)
  · refine ⟨ns, 90, rfl, hns, by decide, fun r hl hg => ?_⟩
    refine ⟨r, rfl, hg, by omega, fun n p t0 piece ts W hb => ?_⟩
    exact ⟨rfl, k _ ⟨r, n, p, t0, piece, ts, rfl, hl, hg, W, hb⟩⟩
  obtain ⟨r, n, p, t0, piece, ts, rfl, hl, hg, W, hb⟩ := h
  have G := gd_good hg
  have A : ∀ i : Int, 0 ≤ i → i < 90 → L2.atI (r.map PyData.int) i = some (.int (r.getD i.toNat 0)) := fun i h0 h1 => at_d h0 (by omega)
  have hper := W.per
  have hn0 := W.pos
  have hn := W.top
  have hS : Small piece := ⟨W.few, W.five⟩
  have hasc := W.asc
  have htl := W.tas
  have hpb : Pb p := ⟨by omega, by omega⟩
  -- wider tastes
  refine seq_join (fun σ => ∃ (ts : List Ts) (s7 : Sl), σ = [.val false (scr ns), .val false (eI r), .val false (.int (n)), .val false (.int (p)), .val false (eI t0), .val false (.list (piece.map en)), .val false (.list (ts.map en)), s7, .non, .non, .non, .non, .non, .non, .non, .non, .non, .non, .non, .non] ∧ TsC ts ∧ FewT ts) (fun K k => ?_) (fun σ h => ?_)
  · refine ⟨_, A 64 (by decide) (by decide), md (by decide), br.dec (fun h => ?_) (fun h => ?_)⟩
    · have e65 := em (a := r.getD (Int.toNat 65) 0) (b := 18) (by decide)
      refine ⟨_, A 65 (by decide) (by decide), md (by decide), ?_⟩
      refine lc_map en ts (fun x => en (⟨x.w, x.lo.map fun b => b + (3 + r.getD (Int.toNat 65) 0 % 18) * -1, x.hi.map fun b => b + (3 + r.getD (Int.toNat 65) 0 % 18) * 1⟩ : Ts)) (by omega) (fun x hx P N pk => ?_) ?_
      · refine ⟨_, rfl, _, rfl, ?_⟩
        refine ⟨x.lo, -1, 3 + r.getD (Int.toNat 65) 0 % 18, rfl, ⟨by omega, by omega⟩, _, rfl, ?_⟩
        exact ⟨x.hi, 1, 3 + r.getD (Int.toNat 65) 0 % 18, rfl, ⟨by omega, by omega⟩, by simp, pk⟩
      have eT : ts.map (fun x => en (⟨x.w, x.lo.map fun b => b + (3 + r.getD (Int.toNat 65) 0 % 18) * -1, x.hi.map fun b => b + (3 + r.getD (Int.toNat 65) 0 % 18) * 1⟩ : Ts)) = (ts.map fun x => (⟨x.w, x.lo.map fun b => b + (3 + r.getD (Int.toNat 65) 0 % 18) * -1, x.hi.map fun b => b + (3 + r.getD (Int.toNat 65) 0 % 18) * 1⟩ : Ts)).map en := by
        rw [List.map_map]
        rfl
      rw [eT]
      refine k _ ⟨_, .val false (.int (3 + r.getD (Int.toNat 65) 0 % 18)), rfl, fun t ht => ?_, fewt_wid W.dis (by omega) _ fun t => rfl⟩
      obtain ⟨x, hx, rfl⟩ := List.mem_map.mp ht
      obtain ⟨w1, w9, bl, bh⟩ := hb x hx
      exact ⟨w1, w9, bl.wid (by omega) (by omega), bh.wid (by omega) (by omega)⟩
    · exact k _ ⟨ts, .non, rfl, hb.two, ⟨by omega, W.dis⟩⟩
  clear hb htl
  have W1 := W.len
  clear W
  obtain ⟨ts, s7, rfl, hb, hT⟩ := h
  -- the moves
  refine seq_join (fun σ => ∃ (ms : List Int), σ = [.val false (scr ns), .val false (eI r), .val false (.int (n)), .val false (.int (p)), .val false (eI t0), .val false (.list (piece.map en)), .val false (.list (ts.map en)), s7, .non, .own false (ms.map PyData.int), .non, .non, .non, .non, .non, .non, .non, .non, .non, .non] ∧ ms.length ≤ 6) (fun K k => ?_) (fun σ h => ?_)
  · have e72 := em (a := r.getD (Int.toNat 72) 0) (b := 7) (by decide)
    refine ⟨_, A 72 (by decide) (by decide), md (by decide), sm (by omega) (by omega), lc_upToR (β := Int) PyData.int (fun _ _ => True) (by omega) (fun j hj P N' pk => ?_) (fun ms hms => ?_)⟩
    · exact ⟨_, A _ (by omega) (by omega), md (by decide), pk _ trivial⟩
    · obtain ⟨h1, -⟩ := hms.upTo
      exact k _ ⟨ms, rfl, by omega⟩
  obtain ⟨ms, rfl, hm⟩ := h
  refine seq_join (fun σ => ∃ (ms : List Int), σ = [.val false (scr ns), .val false (eI r), .val false (.int (n)), .val false (.int (p)), .val false (eI t0), .val false (.list (piece.map en)), .val false (.list (ts.map en)), s7, .non, .own false (ms.map PyData.int), .non, .non, .non, .non, .non, .non, .non, .non, .non, .non] ∧ ms.length ≤ 6) (fun K k => ?_) (fun σ h => ?_)
  · refine ⟨_, A 73 (by decide) (by decide), md (by decide), br.dec (fun h => ?_) (fun h => ?_)⟩
    · refine lc_map PyData.int ms (fun x => PyData.int (x / 3 * (n : Int))) (by omega) (fun x hx P N pk => ⟨div_s (by decide), mul_r (by omega), pk⟩) ?_
      refine k _ ⟨ms.map fun x => x / 3 * (n : Int), ?_, by rw [List.length_map]; exact hm⟩
      rw [List.map_map]
      rfl
    · exact k _ ⟨ms, rfl, hm⟩
  clear hm
  obtain ⟨ms, rfl, hm⟩ := h
  refine seq_join (fun σ => ∃ (ms : List Int), σ = [.val false (scr ns), .val false (eI r), .val false (.int (n)), .val false (.int (p)), .val false (eI t0), .val false (.list (piece.map en)), .val false (.list (ts.map en)), s7, .non, .own false (ms.map PyData.int), .non, .non, .non, .non, .non, .non, .non, .non, .non, .non] ∧ ms.length ≤ 6) (fun K k => ?_) (fun σ h => ?_)
  · refine ⟨_, A 73 (by decide) (by decide), md (by decide), br.dec (fun h => ?_) (fun h => ?_)⟩
    · refine br.dec (fun h2 => ?_) (fun h2 => k _ ⟨ms, rfl, hm⟩)
      have h2 : ((1 : Int) < ((ms.map PyData.int).length : Int)) := h2
      rw [List.length_map] at h2
      refine ⟨_, at_int (xs := ms) (en := PyData.int) (i := 0) (by decide) (show (0 : Int).toNat < ms.length by omega), ?_⟩
      refine ⟨ms.length - 1, ?_, ?_⟩
      · unfold L2.ixN
        rw [if_neg (by decide), if_pos (by rw [List.length_map]; omega), List.length_map]
        congr 1
        omega
      · refine k _ ⟨ms.set (ms.length - 1) (ms[(0 : Int).toNat]'(show (0 : Int).toNat < ms.length by omega)), ?_, by rw [List.length_set]; exact hm⟩
        rw [← set_map]
        rfl
    · exact k _ ⟨ms, rfl, hm⟩
  clear hm
  obtain ⟨ms, rfl, hm⟩ := h
  have hp4 := hS.1
  refine seq_join3 (fun σ => σ = [.val false (scr ns), .val false (eI r), .val false (.int (n)), .val false (.int (p)), .val false (eI t0), .val false (.list (piece.map en)), .val false (.list (ts.map en)), s7, .non, .own false (ms.map PyData.int), .non, .non, .val false (.list (piece.map en)), .non, .val false (.list (ts.map en)), .val false (eI ms), .non, .non, .non, .non]) (fun K k => ?_) (fun σ h => ?_)
  · exact lc_map en piece en (by omega) (fun x hx P N p => p) (k _ rfl)
  subst h
  -- the answer
  have h20 : ms.length ≤ 20 := by omega
  have ok := lm_ok hn0 p piece ts ms
  have shy := (eLm_shy hn0 (by omega) hper.1 hper.2 hS hb ms h20).fits (by decide) (by decide)
  have hk := lm_n ok
  have pre := lm_prefix hn0 p piece ts ms
  refine seq_join (fun σ => σ = [.old (scr ns), .old (eI r), .old (.int (n : Int)), .old (.int p), .old (eI t0), .old (.list (piece.map en)), .old (.list (ts.map en)), remS s7, .non, .old (eI ms), .non, .non, .old (.list (piece.map en)), .non, .old (.list (ts.map en)), .old (eI ms), .val true (eLm (lm n p piece ts ms)), .non, .non, .non]) (fun K k => ?_) (fun σ h => ?_)
  · exact ⟨n, p, piece, ts, ms, rfl, hn0, by omega, hpb, hS, h20, k _ rfl⟩
  subst h
  refine seq_join (fun σ => σ = [.old (scr ns), .old (eI r), .old (.int (n : Int)), .old (.int p), .old (eI t0), .old (.list (piece.map en)), .old (.list (ts.map en)), remS s7, .non, .old (eI ms), .non, .non, .old (.list (piece.map en)), .non, .old (.list (ts.map en)), .old (eI ms), .val true (eLm (lm n p piece ts ms)), .non, .non, .non]) (fun K k => ?_) (fun σ h => ?_)
  · have f1 : SeqAt.shaped (.list (piece.map en)) = true := shaped_en (α := List (List Int)) (by decide) piece
    have f2 : SeqAt.shaped (.list (ts.map en)) = true := shaped_en (α := List Ts) (by decide) ts
    have f3 : SeqAt.shaped (eI ms) = true := shaped_en (α := List Int) (by decide) ms
    refine ⟨f1, f1, ?_⟩
    rw [eqv_self f1]
    refine ⟨f2, f2, ?_⟩
    rw [eqv_self f2]
    refine ⟨f3, f3, ?_⟩
    have e3 : PyData.eqv (.list (ms.map PyData.int)) (.list (ms.map PyData.int)) = true := eqv_self f3
    rw [e3]
    exact k _ rfl
  subst h
  refine seq_join (fun σ => σ = [.old (scr ns), .old (eI r), .old (.int (n : Int)), .old (.int p), .old (eI t0), .old (.list (piece.map en)), .old (.list (ts.map en)), remS s7, .non, .old (eI ms), .non, .non, .old (.list (piece.map en)), .non, .old (.list (ts.map en)), .old (eI ms), .val true (eLm (lm n p piece ts ms)), .non, .non, .non]) (fun K k => ?_) (fun σ h => ?_)
  · refine ⟨n, p, piece, ts, ms, _, rfl, hn0, by omega, hpb, hS, hT, hasc, h20, ok, ?_⟩
    exact k _ rfl
  subst h
  refine seq_join (fun σ => σ = [.old (scr ns), .old (eI r), .old (.int (n : Int)), .old (.int p), .old (eI t0), .old (.list (piece.map en)), .old (.list (ts.map en)), remS s7, .non, .old (eI ms), .non, .non, .old (.list (piece.map en)), .non, .old (.list (ts.map en)), .old (eI ms), .val true (eLm (lm n p piece ts ms)), .non, .non, .non]) (fun K k => ?_) (fun σ h => ?_)
  · refine ⟨_, A 74 (by decide) (by decide), md (by decide), br.dec (fun h => ?_) (fun h => ?_)⟩
    · exact ⟨r, rfl, hg, by omega, k _ rfl⟩
    · exact k _ rfl
  subst h
  refine seq_join2 (fun σ => σ = [.old (scr ns), .old (eI r), .old (.int (n : Int)), .old (.int p), .old (eI t0), .old (.list (piece.map en)), .old (.list (ts.map en)), remS s7, .non, .old (eI ms), .non, .non, .old (.list (piece.map en)), .non, .old (.list (ts.map en)), .old (eI ms), .val true (eLm (lm n p piece ts ms)), .val false (.int (lmN ms (lm n p piece ts ms))), .non, .non]) (fun K k => ?_) (fun σ h => ?_)
  · clear pre shy ok hk
    cases hx : lm n p piece ts ms with
    | all t =>
      rw [hx] at k
      refine ⟨_, rfl, ?_⟩
      have e : ((ms.map PyData.int).length : Int) = ((lmN ms (.all t) : Nat) : Int) := by
        rw [List.length_map]
        rfl
      exact k _ (by rw [← e]; rfl)
    | stop j t r =>
      rw [hx] at k
      refine ⟨_, rfl, ?_⟩
      exact ⟨_, rfl, k _ rfl⟩
  subst h
  refine seq_join (fun σ => σ = [.old (scr ns), .old (eI r), .old (.int (n : Int)), .old (.int p), .old (eI t0), .old (.list (piece.map en)), .old (.list (ts.map en)), remS s7, .non, .old (eI ms), .non, .non, .old (.list (piece.map en)), .non, .old (.list (ts.map en)), .old (eI ms), .val true (eLm (lm n p piece ts ms)), .val false (.int (lmN ms (lm n p piece ts ms))), .non, .non]) (fun K k => ?_) (fun σ h => ?_)
  · refine ⟨n, lmN ms (lm n p piece ts ms), p, piece, ts, ms, rfl, hn0, by omega, hpb, hS, hT, hasc, h20, fun f hf => lm_tun hn0 ok f hf, ?_⟩
    exact k _ rfl
  subst h
  -- its text
  refine seq_join (fun σ => σ = [.old (scr ns), .old (eI r), .old (.int (n : Int)), .old (.int p), .old (eI t0), .old (.list (piece.map en)), .old (.list (ts.map en)), remS s7, .non, .old (eI ms), .non, .non, .old (.list (piece.map en)), .non, .old (.list (ts.map en)), .old (eI ms), .val true (eLm (lm n p piece ts ms)), .val false (.int (lmN ms (lm n p piece ts ms))), .val false (.str (PyData.shown (eLm (lm n p piece ts ms)))), .non]) (fun K k => ?_) (fun σ h => ?_)
  · cases hx : lm n p piece ts ms with
    | all t =>
      rw [hx] at shy k
      exact ⟨shy.1, shy.2.1, shy.2.2.1, shy.2.2.2, k _ rfl⟩
    | stop j t r =>
      rw [hx] at shy k
      exact ⟨shy.1, shy.2.1, shy.2.2.1, shy.2.2.2, k _ rfl⟩
  subst h
  refine spoil_join (fun X hX => ?_) ?_
  · cases hx : lm n p piece ts ms with
    | all t =>
      rw [hx] at ok
      refine ⟨_, rfl, szlt ?_, hX⟩
      have := ok.1
      rw [List.length_map]
      omega
    | stop j t r =>
      rw [hx] at ok
      refine ⟨_, rfl, szlt ?_, hX⟩
      have := ok.2.2.2.2
      rw [List.length_map]
      omega
  have es : List.map spoilS [.old (scr ns), .old (eI r), .old (.int (n : Int)), .old (.int p), .old (eI t0), .old (.list (piece.map en)), .old (.list (ts.map en)), remS s7, .non, .old (eI ms), .non, .non, .old (.list (piece.map en)), .non, .old (.list (ts.map en)), .old (eI ms), .val true (eLm (lm n p piece ts ms)), .val false (.int (lmN ms (lm n p piece ts ms))), .val false (.str (PyData.shown (eLm (lm n p piece ts ms)))), .non] = [.old (scr ns), .old (eI r), .old (.int (n : Int)), .old (.int p), .old (eI t0), .old (.list (piece.map en)), .old (.list (ts.map en)), spoilS (remS s7), .non, .old (eI ms), .non, .non, .old (.list (piece.map en)), .non, .old (.list (ts.map en)), .old (eI ms), .non, .val false (.int (lmN ms (lm n p piece ts ms))), .val false (.str (PyData.shown (eLm (lm n p piece ts ms)))), .non] := by
    have e0 : spoilS (.val true (eLm (lm n p piece ts ms))) = .non := by
      cases lm n p piece ts ms <;> rfl
    simp only [List.map, e0]
    rfl
  rw [es]
  refine seq_join (fun σ => σ = [.old (scr ns), .old (eI r), .old (.int (n : Int)), .old (.int p), .old (eI t0), .old (.list (piece.map en)), .old (.list (ts.map en)), spoilS (remS s7), .non, .old (eI ms), .non, .non, .old (.list (piece.map en)), .non, .old (.list (ts.map en)), .old (eI ms), .non, .val false (.int (lmN ms (lm n p piece ts ms))), .val false (.str (PyData.shown (eLm (lm n p piece ts ms)))), .non]) (fun K k => ?_) (fun σ h => ?_)
  · refine ⟨n, p, piece, ts, ms, rfl, hn0, by omega, hpb, hS, h20, ?_⟩
    clear pre ok hk
    cases hx : lm n p piece ts ms with
    | all t =>
      rw [hx] at shy k
      refine ⟨shy.1, shy.2.1, shy.2.2.1, shy.2.2.2, ?_⟩
      exact br.nd (fun h => absurd rfl h) (fun _ => k _ rfl)
    | stop j t r =>
      rw [hx] at shy k
      refine ⟨shy.1, shy.2.1, shy.2.2.1, shy.2.2.2, ?_⟩
      exact br.nd (fun h => absurd rfl h) (fun _ => k _ rfl)
  subst h
  clear shy es
  generalize lmN ms (lm n p piece ts ms) = m at *
  have c1 : cut (ms.map PyData.int) none (some (m : Int)) = (ms.take m).map PyData.int := by rw [cut_to, List.map_take]
  have hm20 : (ms.take m).length ≤ 20 := by
    rw [List.length_take]
    omega
  obtain ⟨t, ht⟩ := pre
  have ok2 := lm_ok hn0 p piece ts (ms.take m)
  refine seq_join (fun σ => σ = [.old (scr ns), .old (eI r), .old (.int (n : Int)), .old (.int p), .old (eI t0), .old (.list (piece.map en)), .old (.list (ts.map en)), spoilS (remS s7), .non, .old (eI ms), .non, .non, .old (.list (piece.map en)), .non, .old (.list (ts.map en)), .old (eI ms), .non, .val false (.int (m)), .val false (.str (PyData.shown (eLm (lm n p piece ts ms)))), .val false (eLm (.all t))]) (fun K k => ?_) (fun σ h => ?_)
  · refine ⟨n, p, piece, ts, ms.take m, by rw [c1], hn0, by omega, hpb, hS, hm20, ?_⟩
    rw [ht]
    exact k _ rfl
  subst h
  rw [ht] at ok2
  refine ⟨PySem.Str.ofString "all", PySem.Str.ofString "all", [eI t], 2, rfl, ?_⟩
  refine ⟨n, p, piece, ts, ms.take m, .all t, by rw [c1], hn0, by omega, hpb, hS, hT, hasc, hm20, ok2, ?_⟩
  exact q
end RD

set_option Elab.async false
set_option linter.all false
set_option maxRecDepth 100000
set_option maxHeartbeats 4000000
namespace K85
open PySem PySem.Spec L2 DL RD
abbrev pg : Program := PySem.Challenge.pw_keystuned_k85_whole_longest_moves
def topS (i : Nat) : Stmt := pg.main.body.getD i (.Pass ⟨0, 0, 0, 0⟩)
abbrev st_is_number : Stmt := topS 4
theorem sc_is_number : FnScope ["value"] ["value"] (defScope st_is_number) := ⟨rfl, rfl, rfl, by decide +kernel, rfl, by decide +kernel, by decide +kernel⟩
abbrev st_is_index : Stmt := topS 5
theorem sc_is_index : FnScope ["value", "size"] ["value", "size"] (defScope st_is_index) := ⟨rfl, rfl, rfl, by decide +kernel, rfl, by decide +kernel, by decide +kernel⟩
abbrev st_within : Stmt := topS 7
theorem sc_within : FnScope ["width", "least", "most"] ["width", "least", "most"] (defScope st_within) := ⟨rfl, rfl, rfl, by decide +kernel, rfl, by decide +kernel, by decide +kernel⟩
abbrev st_is_step : Stmt := topS 9
theorem sc_is_step : FnScope ["demands", "step"] ["demands", "step"] (defScope st_is_step) := ⟨rfl, rfl, rfl, by decide +kernel, rfl, by decide +kernel, by decide +kernel⟩
abbrev st_step_of : Stmt := topS 10
theorem sc_step_of : FnScope ["demands", "step", "low", "high", "least", "most"] ["demands", "step"] (defScope st_step_of) := ⟨rfl, rfl, rfl, by decide +kernel, rfl, by decide +kernel, by decide +kernel⟩
abbrev st_all_steps : Stmt := topS 12
theorem sc_all_steps : FnScope ["demands", "steps", "at", "side", "bound", "start", "end", "cost"] ["demands"] (defScope st_all_steps) := ⟨rfl, rfl, rfl, by decide +kernel, rfl, by decide +kernel, by decide +kernel⟩
abbrev st_relax_once : Stmt := topS 13
theorem sc_relax_once : FnScope ["steps", "sums", "last", "changed", "step", "start", "end", "cost", "total"] ["steps", "sums", "last"] (defScope st_relax_once) := ⟨rfl, rfl, rfl, by decide +kernel, rfl, by decide +kernel, by decide +kernel⟩
abbrev st_relax : Stmt := topS 14
theorem sc_relax : FnScope ["size", "steps", "sums", "last", "round_number", "changed"] ["size", "steps", "sums", "last"] (defScope st_relax) := ⟨rfl, rfl, rfl, by decide +kernel, rfl, by decide +kernel, by decide +kernel⟩
abbrev st_ring_behind : Stmt := topS 15
theorem sc_ring_behind : FnScope ["size", "last", "string", "at", "back", "ring", "begin"] ["size", "last", "string"] (defScope st_ring_behind) := ⟨rfl, rfl, rfl, by decide +kernel, rfl, by decide +kernel, by decide +kernel⟩
abbrev st_solve : Stmt := topS 17
theorem sc_solve : FnScope ["size", "demands", "sums", "last", "string"] ["size", "demands"] (defScope st_solve) := ⟨rfl, rfl, rfl, by decide +kernel, rfl, by decide +kernel, by decide +kernel⟩
abbrev st_bound_at : Stmt := topS 19
theorem sc_bound_at : FnScope ["base", "rate", "x"] ["base", "rate", "x"] (defScope st_bound_at) := ⟨rfl, rfl, rfl, by decide +kernel, rfl, by decide +kernel, by decide +kernel⟩
abbrev st_demand_at : Stmt := topS 20
theorem sc_demand_at : FnScope ["demand", "x", "low", "high", "least", "least_rate", "most", "most_rate"] ["demand", "x"] (defScope st_demand_at) := ⟨rfl, rfl, rfl, by decide +kernel, rfl, by decide +kernel, by decide +kernel⟩
abbrev st_demands_at : Stmt := topS 21
theorem sc_demands_at : FnScope ["moving", "x", "demand"] ["moving", "x"] (defScope st_demands_at) := ⟨rfl, rfl, rfl, by decide +kernel, rfl, by decide +kernel, by decide +kernel⟩
abbrev st_sounding : Stmt := topS 23
theorem sc_sounding : FnScope ["tuning", "period", "place", "string", "octave"] ["tuning", "period", "place"] (defScope st_sounding) := ⟨rfl, rfl, rfl, by decide +kernel, rfl, by decide +kernel, by decide +kernel⟩
abbrev st_moving_octave : Stmt := topS 24
theorem sc_moving_octave : FnScope ["demand", "low", "high", "least", "most", "apart"] ["demand"] (defScope st_moving_octave) := ⟨rfl, rfl, rfl, by decide +kernel, rfl, by decide +kernel, by decide +kernel⟩
abbrev st_moving_octaves : Stmt := topS 25
theorem sc_moving_octaves : FnScope ["placed", "demand"] ["placed"] (defScope st_moving_octaves) := ⟨rfl, rfl, rfl, by decide +kernel, rfl, by decide +kernel, by decide +kernel⟩
abbrev st_placed_at : Stmt := topS 26
theorem sc_placed_at : FnScope ["placed", "period"] ["placed", "period"] (defScope st_placed_at) := ⟨rfl, rfl, rfl, by decide +kernel, rfl, by decide +kernel, by decide +kernel⟩
abbrev st_place_of_note : Stmt := topS 28
theorem sc_place_of_note : FnScope ["note", "count"] ["note", "count"] (defScope st_place_of_note) := ⟨rfl, rfl, rfl, by decide +kernel, rfl, by decide +kernel, by decide +kernel⟩
abbrev st_moved : Stmt := topS 29
theorem sc_moved : FnScope ["piece", "by", "note", "chord"] ["piece", "by"] (defScope st_moved) := ⟨rfl, rfl, rfl, by decide +kernel, rfl, by decide +kernel, by decide +kernel⟩
abbrev st_taste_of : Stmt := topS 30
theorem sc_taste_of : FnScope ["tastes", "width", "taste"] ["tastes", "width"] (defScope st_taste_of) := ⟨rfl, rfl, rfl, by decide +kernel, rfl, by decide +kernel, by decide +kernel⟩
abbrev st_tasted_pairs : Stmt := topS 31
theorem sc_tasted_pairs : FnScope ["chord", "tastes", "found", "i", "j", "taste"] ["chord", "tastes"] (defScope st_tasted_pairs) := ⟨rfl, rfl, rfl, by decide +kernel, rfl, by decide +kernel, by decide +kernel⟩
abbrev st_piece_placed : Stmt := topS 32
theorem sc_piece_placed : FnScope ["count", "piece", "tastes", "placed", "chord", "low", "high", "least", "most"] ["count", "piece", "tastes"] (defScope st_piece_placed) := ⟨rfl, rfl, rfl, by decide +kernel, rfl, by decide +kernel, by decide +kernel⟩
abbrev st_distance : Stmt := topS 33
theorem sc_distance : FnScope ["count", "period", "tuning", "low", "high", "top"] ["count", "period", "tuning", "low", "high"] (defScope st_distance) := ⟨rfl, rfl, rfl, by decide +kernel, rfl, by decide +kernel, by decide +kernel⟩
abbrev st_breaches : Stmt := topS 34
theorem sc_breaches : FnScope ["count", "period", "tuning", "piece", "tastes", "found", "at", "low", "high", "least", "most", "width"] ["count", "period", "tuning", "piece", "tastes"] (defScope st_breaches) := ⟨rfl, rfl, rfl, by decide +kernel, rfl, by decide +kernel, by decide +kernel⟩
abbrev st_moves_placed : Stmt := topS 36
theorem sc_moves_placed : FnScope ["count", "piece", "tastes", "moves", "placed", "by"] ["count", "piece", "tastes", "moves"] (defScope st_moves_placed) := ⟨rfl, rfl, rfl, by decide +kernel, rfl, by decide +kernel, by decide +kernel⟩
abbrev st_longest_moves : Stmt := topS 37
theorem sc_longest_moves : FnScope ["count", "period", "piece", "tastes", "moves", "tuning", "many", "placed", "found"] ["count", "period", "piece", "tastes", "moves"] (defScope st_longest_moves) := ⟨rfl, rfl, rfl, by decide +kernel, rfl, by decide +kernel, by decide +kernel⟩
abbrev st__law_draws : Stmt := topS 39
theorem sc__law_draws : FnScope ["script", "many", "found", "cell", "number", "k", "mixed", "base"] ["script", "many"] (defScope st__law_draws) := ⟨rfl, rfl, rfl, by decide +kernel, rfl, by decide +kernel, by decide +kernel⟩
abbrev st__law_is_number : Stmt := topS 40
theorem sc__law_is_number : FnScope ["value"] ["value"] (defScope st__law_is_number) := ⟨rfl, rfl, rfl, by decide +kernel, rfl, by decide +kernel, by decide +kernel⟩
abbrev st__law_is_numbers : Stmt := topS 41
theorem sc__law_is_numbers : FnScope ["value", "size", "item"] ["value", "size"] (defScope st__law_is_numbers) := ⟨rfl, rfl, rfl, by decide +kernel, rfl, by decide +kernel, by decide +kernel⟩
abbrev st__law_same_row : Stmt := topS 42
theorem sc__law_same_row : FnScope ["found", "due", "k"] ["found", "due"] (defScope st__law_same_row) := ⟨rfl, rfl, rfl, by decide +kernel, rfl, by decide +kernel, by decide +kernel⟩
abbrev st__law_meets : Stmt := topS 43
theorem sc__law_meets : FnScope ["demands", "tuning", "low", "high", "least", "most", "width"] ["demands", "tuning"] (defScope st__law_meets) := ⟨rfl, rfl, rfl, by decide +kernel, rfl, by decide +kernel, by decide +kernel⟩
abbrev st__law_step : Stmt := topS 44
theorem sc__law_step : FnScope ["demands", "step", "low", "high", "least", "most"] ["demands", "step"] (defScope st__law_step) := ⟨rfl, rfl, rfl, by decide +kernel, rfl, by decide +kernel, by decide +kernel⟩
abbrev st__law_walk : Stmt := topS 45
theorem sc__law_walk : FnScope ["demands", "steps", "start", "end", "total", "at", "told"] ["demands", "steps"] (defScope st__law_walk) := ⟨rfl, rfl, rfl, by decide +kernel, rfl, by decide +kernel, by decide +kernel⟩
abbrev st__law_is_short_ring : Stmt := topS 46
theorem sc__law_is_short_ring : FnScope ["demands", "ring", "told"] ["demands", "ring"] (defScope st__law_is_short_ring) := ⟨rfl, rfl, rfl, by decide +kernel, rfl, by decide +kernel, by decide +kernel⟩
abbrev st__law_is_answer : Stmt := topS 47
theorem sc__law_is_answer : FnScope ["size", "demands", "paper"] ["size", "demands", "paper"] (defScope st__law_is_answer) := ⟨rfl, rfl, rfl, by decide +kernel, rfl, by decide +kernel, by decide +kernel⟩
abbrev st__law_bound : Stmt := topS 48
theorem sc__law_bound : FnScope ["base", "rate", "x"] ["base", "rate", "x"] (defScope st__law_bound) := ⟨rfl, rfl, rfl, by decide +kernel, rfl, by decide +kernel, by decide +kernel⟩
abbrev st__law_tagged : Stmt := topS 49
theorem sc__law_tagged : FnScope ["paper", "tag", "length"] ["paper", "tag", "length"] (defScope st__law_tagged) := ⟨rfl, rfl, rfl, by decide +kernel, rfl, by decide +kernel, by decide +kernel⟩
abbrev st__law_unlike : Stmt := topS 50
theorem sc__law_unlike : FnScope ["numbers", "result", "number"] ["numbers"] (defScope st__law_unlike) := ⟨rfl, rfl, rfl, by decide +kernel, rfl, by decide +kernel, by decide +kernel⟩
abbrev st__law_place : Stmt := topS 51
theorem sc__law_place : FnScope ["note", "count", "octave"] ["note", "count"] (defScope st__law_place) := ⟨rfl, rfl, rfl, by decide +kernel, rfl, by decide +kernel, by decide +kernel⟩
abbrev st__law_pairs : Stmt := topS 52
theorem sc__law_pairs : FnScope ["chord", "tastes", "result", "low", "high", "width", "least", "most"] ["chord", "tastes"] (defScope st__law_pairs) := ⟨rfl, rfl, rfl, by decide +kernel, rfl, by decide +kernel, by decide +kernel⟩
abbrev st__law_placed : Stmt := topS 53
theorem sc__law_placed : FnScope ["count", "piece", "tastes", "result", "chord", "low", "high", "least", "most"] ["count", "piece", "tastes"] (defScope st__law_placed) := ⟨rfl, rfl, rfl, by decide +kernel, rfl, by decide +kernel, by decide +kernel⟩
abbrev st__law_same_placed : Stmt := topS 54
theorem sc__law_same_placed : FnScope ["found", "due", "at"] ["found", "due"] (defScope st__law_same_placed) := ⟨rfl, rfl, rfl, by decide +kernel, rfl, by decide +kernel, by decide +kernel⟩
abbrev st__law_note_pitch : Stmt := topS 55
theorem sc__law_note_pitch : FnScope ["tuning", "period", "note", "place"] ["tuning", "period", "note"] (defScope st__law_note_pitch) := ⟨rfl, rfl, rfl, by decide +kernel, rfl, by decide +kernel, by decide +kernel⟩
abbrev st__law_piece_world : Stmt := topS 56
theorem sc__law_piece_world : FnScope ["draws", "count", "unit", "period", "hidden", "k", "tastes", "width", "taste", "low", "apart", "least", "most", "base", "piece", "i"] ["draws"] (defScope st__law_piece_world) := ⟨rfl, rfl, rfl, by decide +kernel, rfl, by decide +kernel, by decide +kernel⟩
abbrev st__law_breaches : Stmt := topS 57
theorem sc__law_breaches : FnScope ["period", "tuning", "piece", "tastes", "result", "at", "low", "high", "least", "most", "apart"] ["period", "tuning", "piece", "tastes"] (defScope st__law_breaches) := ⟨rfl, rfl, rfl, by decide +kernel, rfl, by decide +kernel, by decide +kernel⟩
abbrev st__law_plain : Stmt := topS 58
theorem sc__law_plain : FnScope ["placed", "period", "result", "low", "high", "least", "most", "apart"] ["placed", "period"] (defScope st__law_plain) := ⟨rfl, rfl, rfl, by decide +kernel, rfl, by decide +kernel, by decide +kernel⟩
abbrev st__law_moves_placed : Stmt := topS 59
theorem sc__law_moves_placed : FnScope ["count", "piece", "tastes", "moves", "result", "by", "note", "chord"] ["count", "piece", "tastes", "moves"] (defScope st__law_moves_placed) := ⟨rfl, rfl, rfl, by decide +kernel, rfl, by decide +kernel, by decide +kernel⟩
abbrev st__law_sounds_well : Stmt := topS 60
theorem sc__law_sounds_well : FnScope ["period", "tuning", "piece", "tastes", "moves", "by", "note", "chord"] ["period", "tuning", "piece", "tastes", "moves"] (defScope st__law_sounds_well) := ⟨rfl, rfl, rfl, by decide +kernel, rfl, by decide +kernel, by decide +kernel⟩
abbrev st__law_is_right : Stmt := topS 61
theorem sc__law_is_right : FnScope ["count", "period", "piece", "tastes", "moves", "paper", "many", "demands"] ["count", "period", "piece", "tastes", "moves", "paper"] (defScope st__law_is_right) := ⟨rfl, rfl, rfl, by decide +kernel, rfl, by decide +kernel, by decide +kernel⟩
abbrev st__law_asks_solving : Stmt := topS 62
theorem sc__law_asks_solving : FnScope ["count", "period", "piece", "tastes", "moves", "many", "first", "placed", "due", "demands", "answer"] ["count", "period", "piece", "tastes", "moves", "many"] (defScope st__law_asks_solving) := ⟨rfl, rfl, rfl, by decide +kernel, rfl, by decide +kernel, by decide +kernel⟩
abbrev st__law_asks_many : Stmt := topS 63
theorem sc__law_asks_many : FnScope ["draws", "count", "period", "piece", "tastes", "moves", "k", "paper", "chord", "placed"] ["draws"] (defScope st__law_asks_many) := ⟨rfl, rfl, rfl, by decide +kernel, rfl, by decide +kernel, by decide +kernel⟩
abbrev st_law : Stmt := topS 64
theorem sc_law : FnScope ["script", "draws", "count", "period", "hidden", "piece", "tastes", "more", "row", "moves", "k", "by", "passed", "chord", "wishes", "asked", "paper", "many", "told", "shorter"] ["script"] (defScope st_law) := ⟨rfl, rfl, rfl, by decide +kernel, rfl, by decide +kernel, by decide +kernel⟩
structure Txt (K : PySem.W.Frag) (mg : Str → Option Value) where
  f_is_number : Addr
  d_is_number : FuncData
  F_is_number : Fun K "is_number" "is_number" st_is_number f_is_number d_is_number
  b_is_number : Binds K d_is_number ["value"] []
  g_is_number : mg "is_number" = some (.ref f_is_number)
  f_is_index : Addr
  d_is_index : FuncData
  F_is_index : Fun K "is_index" "is_index" st_is_index f_is_index d_is_index
  b_is_index : Binds K d_is_index ["value", "size"] []
  g_is_index : mg "is_index" = some (.ref f_is_index)
  f_within : Addr
  d_within : FuncData
  F_within : Fun K "within" "within" st_within f_within d_within
  b_within : Binds K d_within ["width", "least", "most"] []
  g_within : mg "within" = some (.ref f_within)
  f_is_step : Addr
  d_is_step : FuncData
  F_is_step : Fun K "is_step" "is_step" st_is_step f_is_step d_is_step
  b_is_step : Binds K d_is_step ["demands", "step"] []
  g_is_step : mg "is_step" = some (.ref f_is_step)
  f_step_of : Addr
  d_step_of : FuncData
  F_step_of : Fun K "step_of" "step_of" st_step_of f_step_of d_step_of
  b_step_of : Binds K d_step_of ["demands", "step"] []
  g_step_of : mg "step_of" = some (.ref f_step_of)
  f_all_steps : Addr
  d_all_steps : FuncData
  F_all_steps : Fun K "all_steps" "all_steps" st_all_steps f_all_steps d_all_steps
  b_all_steps : Binds K d_all_steps ["demands"] []
  g_all_steps : mg "all_steps" = some (.ref f_all_steps)
  f_relax_once : Addr
  d_relax_once : FuncData
  F_relax_once : Fun K "relax_once" "relax_once" st_relax_once f_relax_once d_relax_once
  b_relax_once : Binds K d_relax_once ["steps", "sums", "last"] []
  g_relax_once : mg "relax_once" = some (.ref f_relax_once)
  f_relax : Addr
  d_relax : FuncData
  F_relax : Fun K "relax" "relax" st_relax f_relax d_relax
  b_relax : Binds K d_relax ["size", "steps", "sums", "last"] []
  g_relax : mg "relax" = some (.ref f_relax)
  f_ring_behind : Addr
  d_ring_behind : FuncData
  F_ring_behind : Fun K "ring_behind" "ring_behind" st_ring_behind f_ring_behind d_ring_behind
  b_ring_behind : Binds K d_ring_behind ["size", "last", "string"] []
  g_ring_behind : mg "ring_behind" = some (.ref f_ring_behind)
  f_solve : Addr
  d_solve : FuncData
  F_solve : Fun K "solve" "solve" st_solve f_solve d_solve
  b_solve : Binds K d_solve ["size", "demands"] []
  g_solve : mg "solve" = some (.ref f_solve)
  f_bound_at : Addr
  d_bound_at : FuncData
  F_bound_at : Fun K "bound_at" "bound_at" st_bound_at f_bound_at d_bound_at
  b_bound_at : Binds K d_bound_at ["base", "rate", "x"] []
  g_bound_at : mg "bound_at" = some (.ref f_bound_at)
  f_demand_at : Addr
  d_demand_at : FuncData
  F_demand_at : Fun K "demand_at" "demand_at" st_demand_at f_demand_at d_demand_at
  b_demand_at : Binds K d_demand_at ["demand", "x"] []
  g_demand_at : mg "demand_at" = some (.ref f_demand_at)
  f_demands_at : Addr
  d_demands_at : FuncData
  F_demands_at : Fun K "demands_at" "demands_at" st_demands_at f_demands_at d_demands_at
  b_demands_at : Binds K d_demands_at ["moving", "x"] []
  g_demands_at : mg "demands_at" = some (.ref f_demands_at)
  f_sounding : Addr
  d_sounding : FuncData
  F_sounding : Fun K "sounding" "sounding" st_sounding f_sounding d_sounding
  b_sounding : Binds K d_sounding ["tuning", "period", "place"] []
  g_sounding : mg "sounding" = some (.ref f_sounding)
  f_moving_octave : Addr
  d_moving_octave : FuncData
  F_moving_octave : Fun K "moving_octave" "moving_octave" st_moving_octave f_moving_octave d_moving_octave
  b_moving_octave : Binds K d_moving_octave ["demand"] []
  g_moving_octave : mg "moving_octave" = some (.ref f_moving_octave)
  f_moving_octaves : Addr
  d_moving_octaves : FuncData
  F_moving_octaves : Fun K "moving_octaves" "moving_octaves" st_moving_octaves f_moving_octaves d_moving_octaves
  b_moving_octaves : Binds K d_moving_octaves ["placed"] []
  g_moving_octaves : mg "moving_octaves" = some (.ref f_moving_octaves)
  f_placed_at : Addr
  d_placed_at : FuncData
  F_placed_at : Fun K "placed_at" "placed_at" st_placed_at f_placed_at d_placed_at
  b_placed_at : Binds K d_placed_at ["placed", "period"] []
  g_placed_at : mg "placed_at" = some (.ref f_placed_at)
  f_place_of_note : Addr
  d_place_of_note : FuncData
  F_place_of_note : Fun K "place_of_note" "place_of_note" st_place_of_note f_place_of_note d_place_of_note
  b_place_of_note : Binds K d_place_of_note ["note", "count"] []
  g_place_of_note : mg "place_of_note" = some (.ref f_place_of_note)
  f_moved : Addr
  d_moved : FuncData
  F_moved : Fun K "moved" "moved" st_moved f_moved d_moved
  b_moved : Binds K d_moved ["piece", "by"] []
  g_moved : mg "moved" = some (.ref f_moved)
  f_taste_of : Addr
  d_taste_of : FuncData
  F_taste_of : Fun K "taste_of" "taste_of" st_taste_of f_taste_of d_taste_of
  b_taste_of : Binds K d_taste_of ["tastes", "width"] []
  g_taste_of : mg "taste_of" = some (.ref f_taste_of)
  f_tasted_pairs : Addr
  d_tasted_pairs : FuncData
  F_tasted_pairs : Fun K "tasted_pairs" "tasted_pairs" st_tasted_pairs f_tasted_pairs d_tasted_pairs
  b_tasted_pairs : Binds K d_tasted_pairs ["chord", "tastes"] []
  g_tasted_pairs : mg "tasted_pairs" = some (.ref f_tasted_pairs)
  f_piece_placed : Addr
  d_piece_placed : FuncData
  F_piece_placed : Fun K "piece_placed" "piece_placed" st_piece_placed f_piece_placed d_piece_placed
  b_piece_placed : Binds K d_piece_placed ["count", "piece", "tastes"] []
  g_piece_placed : mg "piece_placed" = some (.ref f_piece_placed)
  f_distance : Addr
  d_distance : FuncData
  F_distance : Fun K "distance" "distance" st_distance f_distance d_distance
  b_distance : Binds K d_distance ["count", "period", "tuning", "low", "high"] []
  g_distance : mg "distance" = some (.ref f_distance)
  f_breaches : Addr
  d_breaches : FuncData
  F_breaches : Fun K "breaches" "breaches" st_breaches f_breaches d_breaches
  b_breaches : Binds K d_breaches ["count", "period", "tuning", "piece", "tastes"] []
  g_breaches : mg "breaches" = some (.ref f_breaches)
  f_moves_placed : Addr
  d_moves_placed : FuncData
  F_moves_placed : Fun K "moves_placed" "moves_placed" st_moves_placed f_moves_placed d_moves_placed
  b_moves_placed : Binds K d_moves_placed ["count", "piece", "tastes", "moves"] []
  g_moves_placed : mg "moves_placed" = some (.ref f_moves_placed)
  f_longest_moves : Addr
  d_longest_moves : FuncData
  F_longest_moves : Fun K "longest_moves" "longest_moves" st_longest_moves f_longest_moves d_longest_moves
  b_longest_moves : Binds K d_longest_moves ["count", "period", "piece", "tastes", "moves"] []
  g_longest_moves : mg "longest_moves" = some (.ref f_longest_moves)
  f__law_draws : Addr
  d__law_draws : FuncData
  F__law_draws : Fun K "_law_draws" "_law_draws" st__law_draws f__law_draws d__law_draws
  b__law_draws : Binds K d__law_draws ["script", "many"] []
  g__law_draws : mg "_law_draws" = some (.ref f__law_draws)
  f__law_is_number : Addr
  d__law_is_number : FuncData
  F__law_is_number : Fun K "_law_is_number" "_law_is_number" st__law_is_number f__law_is_number d__law_is_number
  b__law_is_number : Binds K d__law_is_number ["value"] []
  g__law_is_number : mg "_law_is_number" = some (.ref f__law_is_number)
  f__law_is_numbers : Addr
  d__law_is_numbers : FuncData
  F__law_is_numbers : Fun K "_law_is_numbers" "_law_is_numbers" st__law_is_numbers f__law_is_numbers d__law_is_numbers
  b__law_is_numbers : Binds K d__law_is_numbers ["value", "size"] []
  g__law_is_numbers : mg "_law_is_numbers" = some (.ref f__law_is_numbers)
  f__law_same_row : Addr
  d__law_same_row : FuncData
  F__law_same_row : Fun K "_law_same_row" "_law_same_row" st__law_same_row f__law_same_row d__law_same_row
  b__law_same_row : Binds K d__law_same_row ["found", "due"] []
  g__law_same_row : mg "_law_same_row" = some (.ref f__law_same_row)
  f__law_meets : Addr
  d__law_meets : FuncData
  F__law_meets : Fun K "_law_meets" "_law_meets" st__law_meets f__law_meets d__law_meets
  b__law_meets : Binds K d__law_meets ["demands", "tuning"] []
  g__law_meets : mg "_law_meets" = some (.ref f__law_meets)
  f__law_step : Addr
  d__law_step : FuncData
  F__law_step : Fun K "_law_step" "_law_step" st__law_step f__law_step d__law_step
  b__law_step : Binds K d__law_step ["demands", "step"] []
  g__law_step : mg "_law_step" = some (.ref f__law_step)
  f__law_walk : Addr
  d__law_walk : FuncData
  F__law_walk : Fun K "_law_walk" "_law_walk" st__law_walk f__law_walk d__law_walk
  b__law_walk : Binds K d__law_walk ["demands", "steps"] []
  g__law_walk : mg "_law_walk" = some (.ref f__law_walk)
  f__law_is_short_ring : Addr
  d__law_is_short_ring : FuncData
  F__law_is_short_ring : Fun K "_law_is_short_ring" "_law_is_short_ring" st__law_is_short_ring f__law_is_short_ring d__law_is_short_ring
  b__law_is_short_ring : Binds K d__law_is_short_ring ["demands", "ring"] []
  g__law_is_short_ring : mg "_law_is_short_ring" = some (.ref f__law_is_short_ring)
  f__law_is_answer : Addr
  d__law_is_answer : FuncData
  F__law_is_answer : Fun K "_law_is_answer" "_law_is_answer" st__law_is_answer f__law_is_answer d__law_is_answer
  b__law_is_answer : Binds K d__law_is_answer ["size", "demands", "paper"] []
  g__law_is_answer : mg "_law_is_answer" = some (.ref f__law_is_answer)
  f__law_bound : Addr
  d__law_bound : FuncData
  F__law_bound : Fun K "_law_bound" "_law_bound" st__law_bound f__law_bound d__law_bound
  b__law_bound : Binds K d__law_bound ["base", "rate", "x"] []
  g__law_bound : mg "_law_bound" = some (.ref f__law_bound)
  f__law_tagged : Addr
  d__law_tagged : FuncData
  F__law_tagged : Fun K "_law_tagged" "_law_tagged" st__law_tagged f__law_tagged d__law_tagged
  b__law_tagged : Binds K d__law_tagged ["paper", "tag", "length"] []
  g__law_tagged : mg "_law_tagged" = some (.ref f__law_tagged)
  f__law_unlike : Addr
  d__law_unlike : FuncData
  F__law_unlike : Fun K "_law_unlike" "_law_unlike" st__law_unlike f__law_unlike d__law_unlike
  b__law_unlike : Binds K d__law_unlike ["numbers"] []
  g__law_unlike : mg "_law_unlike" = some (.ref f__law_unlike)
  f__law_place : Addr
  d__law_place : FuncData
  F__law_place : Fun K "_law_place" "_law_place" st__law_place f__law_place d__law_place
  b__law_place : Binds K d__law_place ["note", "count"] []
  g__law_place : mg "_law_place" = some (.ref f__law_place)
  f__law_pairs : Addr
  d__law_pairs : FuncData
  F__law_pairs : Fun K "_law_pairs" "_law_pairs" st__law_pairs f__law_pairs d__law_pairs
  b__law_pairs : Binds K d__law_pairs ["chord", "tastes"] []
  g__law_pairs : mg "_law_pairs" = some (.ref f__law_pairs)
  f__law_placed : Addr
  d__law_placed : FuncData
  F__law_placed : Fun K "_law_placed" "_law_placed" st__law_placed f__law_placed d__law_placed
  b__law_placed : Binds K d__law_placed ["count", "piece", "tastes"] []
  g__law_placed : mg "_law_placed" = some (.ref f__law_placed)
  f__law_same_placed : Addr
  d__law_same_placed : FuncData
  F__law_same_placed : Fun K "_law_same_placed" "_law_same_placed" st__law_same_placed f__law_same_placed d__law_same_placed
  b__law_same_placed : Binds K d__law_same_placed ["found", "due"] []
  g__law_same_placed : mg "_law_same_placed" = some (.ref f__law_same_placed)
  f__law_note_pitch : Addr
  d__law_note_pitch : FuncData
  F__law_note_pitch : Fun K "_law_note_pitch" "_law_note_pitch" st__law_note_pitch f__law_note_pitch d__law_note_pitch
  b__law_note_pitch : Binds K d__law_note_pitch ["tuning", "period", "note"] []
  g__law_note_pitch : mg "_law_note_pitch" = some (.ref f__law_note_pitch)
  f__law_piece_world : Addr
  d__law_piece_world : FuncData
  F__law_piece_world : Fun K "_law_piece_world" "_law_piece_world" st__law_piece_world f__law_piece_world d__law_piece_world
  b__law_piece_world : Binds K d__law_piece_world ["draws"] []
  g__law_piece_world : mg "_law_piece_world" = some (.ref f__law_piece_world)
  f__law_breaches : Addr
  d__law_breaches : FuncData
  F__law_breaches : Fun K "_law_breaches" "_law_breaches" st__law_breaches f__law_breaches d__law_breaches
  b__law_breaches : Binds K d__law_breaches ["period", "tuning", "piece", "tastes"] []
  g__law_breaches : mg "_law_breaches" = some (.ref f__law_breaches)
  f__law_plain : Addr
  d__law_plain : FuncData
  F__law_plain : Fun K "_law_plain" "_law_plain" st__law_plain f__law_plain d__law_plain
  b__law_plain : Binds K d__law_plain ["placed", "period"] []
  g__law_plain : mg "_law_plain" = some (.ref f__law_plain)
  f__law_moves_placed : Addr
  d__law_moves_placed : FuncData
  F__law_moves_placed : Fun K "_law_moves_placed" "_law_moves_placed" st__law_moves_placed f__law_moves_placed d__law_moves_placed
  b__law_moves_placed : Binds K d__law_moves_placed ["count", "piece", "tastes", "moves"] []
  g__law_moves_placed : mg "_law_moves_placed" = some (.ref f__law_moves_placed)
  f__law_sounds_well : Addr
  d__law_sounds_well : FuncData
  F__law_sounds_well : Fun K "_law_sounds_well" "_law_sounds_well" st__law_sounds_well f__law_sounds_well d__law_sounds_well
  b__law_sounds_well : Binds K d__law_sounds_well ["period", "tuning", "piece", "tastes", "moves"] []
  g__law_sounds_well : mg "_law_sounds_well" = some (.ref f__law_sounds_well)
  f__law_is_right : Addr
  d__law_is_right : FuncData
  F__law_is_right : Fun K "_law_is_right" "_law_is_right" st__law_is_right f__law_is_right d__law_is_right
  b__law_is_right : Binds K d__law_is_right ["count", "period", "piece", "tastes", "moves", "paper"] []
  g__law_is_right : mg "_law_is_right" = some (.ref f__law_is_right)
  f__law_asks_solving : Addr
  d__law_asks_solving : FuncData
  F__law_asks_solving : Fun K "_law_asks_solving" "_law_asks_solving" st__law_asks_solving f__law_asks_solving d__law_asks_solving
  b__law_asks_solving : Binds K d__law_asks_solving ["count", "period", "piece", "tastes", "moves", "many"] []
  g__law_asks_solving : mg "_law_asks_solving" = some (.ref f__law_asks_solving)
  f__law_asks_many : Addr
  d__law_asks_many : FuncData
  F__law_asks_many : Fun K "_law_asks_many" "_law_asks_many" st__law_asks_many f__law_asks_many d__law_asks_many
  b__law_asks_many : Binds K d__law_asks_many ["draws"] []
  g__law_asks_many : mg "_law_asks_many" = some (.ref f__law_asks_many)
  f_law : Addr
  d_law : FuncData
  F_law : Fun K "law" "law" st_law f_law d_law
  b_law : Binds K d_law ["script"] []
  g_law : mg "law" = some (.ref f_law)
  z_abs : mg "abs" = none
  z_bool : mg "bool" = none
  z_int : mg "int" = none
  z_isinstance : mg "isinstance" = none
  z_len : mg "len" = none
  z_list : mg "list" = none
  z_range : mg "range" = none
  z_repr : mg "repr" = none
  z_sorted : mg "sorted" = none
  z_str : mg "str" = none
  z_tuple : mg "tuple" = none
section
variable {P : Program} {w : World} {K : PySem.W.Frag} {mg : Str → Option Value} {base : Heap}
theorem wk_is_number (T : Txt K mg) {S : DSp} (m : MonoS S) (kp : Keeps 1 (rd_is_number) S) : FnD P w K mg base 1 T.f_is_number T.d_is_number ["value"] S := by
  refine fn_d (N := ["value"]) T.F_is_number sc_is_number (by decide) m kp fun cdv A outer s H E hr => ?_
  have nd : (["value"] : List Str).Nodup := sc_is_number.nd
  exact (sd_one (sd_ret (ed_and (ed_isInt (by rfl) T.z_isinstance (by rfl) T.z_int (ed_var 0)) (ed_one (ed_not (ed_isBool (by rfl) T.z_isinstance (by rfl) T.z_bool (ed_var 0)))))))
theorem wk_is_index (T : Txt K mg) {S_is_number : DSp} (G_is_number : FnD P w K mg base 1 T.f_is_number T.d_is_number ["value"] S_is_number) {S : DSp} (m : MonoS S) (kp : Keeps 2 (rd_is_index S_is_number) S) : FnD P w K mg base 2 T.f_is_index T.d_is_index ["value", "size"] S := by
  refine fn_d (N := ["value", "size"]) T.F_is_index sc_is_index (by decide) m kp fun cdv A outer s H E hr => ?_
  have nd : (["value", "size"] : List Str).Nodup := sc_is_index.nd
  have C_is_number : FnD P w K mg base 1 T.f_is_number T.d_is_number ["value"] S_is_number := G_is_number.up (by decide)
  exact (sd_one (sd_ret (ed_and (ed_call C_is_number hr (by rfl) T.g_is_number T.F_is_number.kp T.b_is_number (ad_cons (ed_var 0) ad_nil)) (ed_one (ed_leLt ed_int (ed_var 0) (ed_var 1))))))
theorem wk_within (T : Txt K mg) {S : DSp} (m : MonoS S) (kp : Keeps 3 (rd_within) S) : FnD P w K mg base 1 T.f_within T.d_within ["width", "least", "most"] S := by
  refine fn_d (N := ["width", "least", "most"]) T.F_within sc_within (by decide) m kp fun cdv A outer s H E hr => ?_
  have nd : (["width", "least", "most"] : List Str).Nodup := sc_within.nd
  exact (sd_cons (sd_if (WD.td (wd_and (td_isNot (ed_var 1) ed_non) (wd_and1 (td_lt (ed_var 0) (ed_var 1))))) (sd_one (sd_ret ed_bl)) sd_nil)
  (sd_one (sd_ret (ed_or (ed_is (ed_var 2) ed_non) (ed_one (ed_le (ed_var 0) (ed_var 2)))))))
theorem wk_is_step (T : Txt K mg) {S_is_index : DSp} (G_is_index : FnD P w K mg base 2 T.f_is_index T.d_is_index ["value", "size"] S_is_index) {S : DSp} (m : MonoS S) (kp : Keeps 2 (rd_is_step S_is_index) S) : FnD P w K mg base 3 T.f_is_step T.d_is_step ["demands", "step"] S := by
  refine fn_d (N := ["demands", "step"]) T.F_is_step sc_is_step (by decide) m kp fun cdv A outer s H E hr => ?_
  have nd : (["demands", "step"] : List Str).Nodup := sc_is_step.nd
  have C_is_index : FnD P w K mg base 2 T.f_is_index T.d_is_index ["value", "size"] S_is_index := G_is_index.up (by decide)
  exact (sd_cons (sd_if (WD.td (wd_or (td_not (td_val (ed_isTup (by rfl) T.z_isinstance (by rfl) T.z_tuple (ed_var 1)))) (wd_or1 (td_ne hr.units (ed_len (by rfl) T.z_len (ed_var 1)) ed_int)))) (sd_one (sd_ret ed_bl)) sd_nil)
  (sd_cons (sd_if (WD.td (wd_or (td_not (td_val (ed_call C_is_index hr (by rfl) T.g_is_index T.F_is_index.kp T.b_is_index (ad_cons (ed_ix (ed_var 1) ed_int) (ad_cons (ed_len (by rfl) T.z_len (ed_var 0)) ad_nil))))) (wd_or1 (td_not (td_val (ed_isStr (by rfl) T.z_isinstance (by rfl) T.z_str (ed_ix (ed_var 1) ed_int))))))) (sd_one (sd_ret ed_bl)) sd_nil)
  (sd_cons (sd_if (td_eq hr.units (ed_ix (ed_var 1) ed_int) ed_str) (sd_one (sd_ret (ed_isNot (ed_ix (ed_ix (ed_var 0) (ed_ix (ed_var 1) ed_int)) ed_int) ed_non))) sd_nil)
  (sd_one (sd_ret (ed_and (ed_eq hr.units (ed_ix (ed_var 1) ed_int) ed_str) (ed_one (ed_isNot (ed_ix (ed_ix (ed_var 0) (ed_ix (ed_var 1) ed_int)) ed_int) ed_non))))))))
theorem wk_step_of (T : Txt K mg) {S_is_step : DSp} (G_is_step : FnD P w K mg base 3 T.f_is_step T.d_is_step ["demands", "step"] S_is_step) {S : DSp} (m : MonoS S) (kp : Keeps 6 (rd_step_of S_is_step) S) : FnD P w K mg base 4 T.f_step_of T.d_step_of ["demands", "step"] S := by
  refine fn_d (N := ["demands", "step", "low", "high", "least", "most"]) T.F_step_of sc_step_of (by decide) m kp fun cdv A outer s H E hr => ?_
  have nd : (["demands", "step", "low", "high", "least", "most"] : List Str).Nodup := sc_step_of.nd
  have C_is_step : FnD P w K mg base 3 T.f_is_step T.d_is_step ["demands", "step"] S_is_step := G_is_step.up (by decide)
  exact (sd_cons (sd_if (td_not (td_val (ed_call C_is_step hr (by rfl) T.g_is_step T.F_is_step.kp T.b_is_step (ad_cons (ed_var 0) (ad_cons (ed_var 1) ad_nil))))) (sd_one sd_never) sd_nil)
  (sd_cons (sd_asg (vs := [2, 3, 4, 5]) (ed_ix (ed_var 0) (ed_ix (ed_var 1) ed_int)) (gd_tup rfl (gds_cons (gd_name 2 nd) (gds_cons (gd_name 3 nd) (gds_cons (gd_name 4 nd) (gds_cons (gd_name 5 nd) gds_nil))))))
  (sd_cons (sd_if (td_eq hr.units (ed_ix (ed_var 1) ed_int) ed_str) (sd_one (sd_ret (ed_tup (ad_cons (ed_var 2) (ad_cons (ed_var 3) (ad_cons (ed_var 5) ad_nil)))))) sd_nil)
  (sd_one (sd_ret (ed_tup (ad_cons (ed_var 3) (ad_cons (ed_var 2) (ad_cons (ed_neg (ed_var 4)) ad_nil)))))))))
theorem wk_all_steps (T : Txt K mg) {S_step_of : DSp} (G_step_of : FnD P w K mg base 4 T.f_step_of T.d_step_of ["demands", "step"] S_step_of) {S : DSp} (m : MonoS S) (kp : Keeps 8 (rd_all_steps S_step_of) S) : FnD P w K mg base 5 T.f_all_steps T.d_all_steps ["demands"] S := by
  refine fn_d (N := ["demands", "steps", "at", "side", "bound", "start", "end", "cost"]) T.F_all_steps sc_all_steps (by decide) m kp fun cdv A outer s H E hr => ?_
  have nd : (["demands", "steps", "at", "side", "bound", "start", "end", "cost"] : List Str).Nodup := sc_all_steps.nd
  have C_step_of : FnD P w K mg base 4 T.f_step_of T.d_step_of ["demands", "step"] S_step_of := G_step_of.up (by decide)
  exact (sd_cons (sd_own 1 nd (ed_lst ad_nil))
  (sd_cons (sd_forR1 (vs := [2]) PassesOwn.never rfl (by rfl) T.z_range (ed_len (by rfl) T.z_len (ed_var 0)) (gd_name 2 nd) (sd_one (sd_forT (vs := [3]) PassesOwn.never rfl (ed_tup (ad_cons ed_str (ad_cons ed_str ad_nil))) (gd_name 3 nd) (sd_cons (sd_set 4 nd (ed_ix (ed_ix (ed_var 0) (ed_var 2)) ed_int))
  (sd_cons (sd_if (td_eq hr.units (ed_var 3) ed_str) (sd_one (sd_set 4 nd (ed_ix (ed_ix (ed_var 0) (ed_var 2)) ed_int))) sd_nil)
  (sd_one (sd_if (td_isNot (ed_var 4) ed_non) (sd_cons (sd_asg (vs := [5, 6, 7]) (ed_call C_step_of hr (by rfl) T.g_step_of T.F_step_of.kp T.b_step_of (ad_cons (ed_var 0) (ad_cons (ed_tup (ad_cons (ed_var 2) (ad_cons (ed_var 3) ad_nil))) ad_nil))) (gd_tup rfl (gds_cons (gd_name 5 nd) (gds_cons (gd_name 6 nd) (gds_cons (gd_name 7 nd) gds_nil)))))
  (sd_one (sd_app 1 (pv 1) (ed_tup (ad_cons (ed_tup (ad_cons (ed_var 2) (ad_cons (ed_var 3) ad_nil))) (ad_cons (ed_var 5) (ad_cons (ed_var 6) (ad_cons (ed_var 7) ad_nil)))))))) sd_nil)))))))
  (sd_one (sd_ret (ed_var 1)))))
theorem wk_relax_once (T : Txt K mg) {S : DSM} (m : MonoM S) (kp : KeepsM 9 [1, 2] (rd_relax_once) S) : FnM P w K mg base 1 T.f_relax_once T.d_relax_once ["steps", "sums", "last"] [1, 2] S := by
  refine fn_m (N := ["steps", "sums", "last", "changed", "step", "start", "end", "cost", "total"]) T.F_relax_once sc_relax_once (by decide) m kp fun cdv A outer s H E hr => ?_
  have nd : (["steps", "sums", "last", "changed", "step", "start", "end", "cost", "total"] : List Str).Nodup := sc_relax_once.nd
  exact (sd_cons (sd_set 3 nd ed_non)
  (sd_cons (sd_forL (vs := [4, 5, 6, 7]) PassesOwn.never rfl (ed_var 0) (gd_tup rfl (gds_cons (gd_name 4 nd) (gds_cons (gd_name 5 nd) (gds_cons (gd_name 6 nd) (gds_cons (gd_name 7 nd) gds_nil))))) (sd_one (sd_if (td_isNot (ed_ix (ed_var 1) (ed_var 5)) ed_non) (sd_cons (sd_set 8 nd (ed_add (ed_ix (ed_var 1) (ed_var 5)) (ed_var 7)))
  (sd_one (sd_if (WD.td (wd_or (td_is (ed_ix (ed_var 1) (ed_var 6)) ed_non) (wd_or1 (td_lt (ed_var 8) (ed_ix (ed_var 1) (ed_var 6)))))) (sd_cons (sd_setIx 1 (ed_var 8) (pv 1) (ed_var 6))
  (sd_cons (sd_setIx 2 (ed_tup (ad_cons (ed_var 4) (ad_cons (ed_var 5) ad_nil))) (pv 2) (ed_var 6))
  (sd_one (sd_set 3 nd (ed_var 6))))) sd_nil))) sd_nil)))
  (sd_one (sd_retP (ed_var 3)))))
theorem wk_relax (T : Txt K mg) {S_relax_once : DSM} (G_relax_once : FnM P w K mg base 1 T.f_relax_once T.d_relax_once ["steps", "sums", "last"] [1, 2] S_relax_once) {S : DSM} (m : MonoM S) (kp : KeepsM 6 [2, 3] (rd_relax S_relax_once) S) : FnM P w K mg base 2 T.f_relax T.d_relax ["size", "steps", "sums", "last"] [2, 3] S := by
  refine fn_m (N := ["size", "steps", "sums", "last", "round_number", "changed"]) T.F_relax sc_relax (by decide) m kp fun cdv A outer s H E hr => ?_
  have nd : (["size", "steps", "sums", "last", "round_number", "changed"] : List Str).Nodup := sc_relax.nd
  have C_relax_once : FnM P w K mg base 1 T.f_relax_once T.d_relax_once ["steps", "sums", "last"] [1, 2] S_relax_once := G_relax_once.up (by decide)
  exact (sd_cons (sd_forR1 (vs := [4]) PassesOwn.never rfl (by rfl) T.z_range (ed_add (ed_var 0) ed_int) (gd_name 4 nd) (sd_cons (sd_mset 5 nd (cd_call C_relax_once hr (by rfl) T.g_relax_once T.F_relax_once.kp T.b_relax_once (md_val (ed_var 1) (md_own 2 (pv 2) (md_own 3 (pv 3) md_nil))) (hnd := (show ([2, 3] : List Nat).Nodup by decide))))
  (sd_one (sd_if (td_is (ed_var 5) ed_non) (sd_one (sd_retP ed_non)) sd_nil))))
  (sd_one (sd_retP (ed_var 5))))
theorem wk_ring_behind (T : Txt K mg) {S : DSp} (m : MonoS S) (kp : Keeps 7 (rd_ring_behind) S) : FnD P w K mg base 1 T.f_ring_behind T.d_ring_behind ["size", "last", "string"] S := by
  refine fn_d (N := ["size", "last", "string", "at", "back", "ring", "begin"]) T.F_ring_behind sc_ring_behind (by decide) m kp fun cdv A outer s H E hr => ?_
  have nd : (["size", "last", "string", "at", "back", "ring", "begin"] : List Str).Nodup := sc_ring_behind.nd
  exact (sd_cons (sd_set 3 nd (ed_var 2))
  (sd_cons (sd_forR1 (vs := [4]) PassesOwn.never rfl (by rfl) T.z_range (ed_var 0) (gd_name 4 nd) (sd_one (sd_set 3 nd (ed_ix (ed_ix (ed_var 1) (ed_var 3)) ed_int))))
  (sd_cons (sd_own 5 nd (ed_lst (ad_cons (ed_ix (ed_ix (ed_var 1) (ed_var 3)) ed_int) ad_nil)))
  (sd_cons (sd_set 6 nd (ed_ix (ed_ix (ed_var 1) (ed_var 3)) ed_int))
  (sd_cons (sd_while PassesOwn.never (td_ne hr.units (ed_var 6) (ed_var 3)) (sd_cons (sd_app 5 (pv 5) (ed_ix (ed_ix (ed_var 1) (ed_var 6)) ed_int))
  (sd_one (sd_set 6 nd (ed_ix (ed_ix (ed_var 1) (ed_var 6)) ed_int)))))
  (sd_cons (sd_rev 5 (pv 5))
  (sd_one (sd_retFN (ed_var 5)))))))))
theorem wk_solve (T : Txt K mg) {S_relax : DSM} (G_relax : FnM P w K mg base 2 T.f_relax T.d_relax ["size", "steps", "sums", "last"] [2, 3] S_relax) {S_all_steps : DSp} (G_all_steps : FnD P w K mg base 5 T.f_all_steps T.d_all_steps ["demands"] S_all_steps) {S_ring_behind : DSp} (G_ring_behind : FnD P w K mg base 1 T.f_ring_behind T.d_ring_behind ["size", "last", "string"] S_ring_behind) {S : DSp} (m : MonoS S) (kp : Keeps 5 (rd_solve S_relax S_all_steps S_ring_behind) S) : FnD P w K mg base 6 T.f_solve T.d_solve ["size", "demands"] S := by
  refine fn_d (N := ["size", "demands", "sums", "last", "string"]) T.F_solve sc_solve (by decide) m kp fun cdv A outer s H E hr => ?_
  have nd : (["size", "demands", "sums", "last", "string"] : List Str).Nodup := sc_solve.nd
  have C_relax : FnM P w K mg base 5 T.f_relax T.d_relax ["size", "steps", "sums", "last"] [2, 3] S_relax := G_relax.up (by decide)
  have C_all_steps : FnD P w K mg base 5 T.f_all_steps T.d_all_steps ["demands"] S_all_steps := G_all_steps.up (by decide)
  have C_ring_behind : FnD P w K mg base 5 T.f_ring_behind T.d_ring_behind ["size", "last", "string"] S_ring_behind := G_ring_behind.up (by decide)
  exact (sd_cons (sd_own 2 nd (ed_mul (ed_lst (ad_cons ed_int ad_nil)) (ed_var 0)))
  (sd_cons (sd_own 3 nd (ed_mul (ed_lst (ad_cons ed_non ad_nil)) (ed_var 0)))
  (sd_cons (sd_mset 4 nd (cd_call C_relax hr (by rfl) T.g_relax T.F_relax.kp T.b_relax (md_val (ed_var 0) (md_val (ed_call C_all_steps hr (by rfl) T.g_all_steps T.F_all_steps.kp T.b_all_steps (ad_cons (ed_var 1) ad_nil)) (md_own 2 (pv 2) (md_own 3 (pv 3) md_nil)))) (hnd := (show ([2, 3] : List Nat).Nodup by decide))))
  (sd_cons (sd_frzN 2 (sd_if (td_is (ed_var 4) ed_non) (sd_one (sd_retF (ed_tup (ad_cons ed_str (ad_cons (ed_var 2) ad_nil))))) sd_nil))
  (sd_one (sd_frzN 3 (sd_retF (ed_tup (ad_cons ed_str (ad_cons (ed_call C_ring_behind hr (by rfl) T.g_ring_behind T.F_ring_behind.kp T.b_ring_behind (ad_cons (ed_var 0) (ad_cons (ed_var 3) (ad_cons (ed_var 4) ad_nil)))) ad_nil))))))))))
theorem wk_bound_at (T : Txt K mg) {S : DSp} (m : MonoS S) (kp : Keeps 3 (rd_bound_at) S) : FnD P w K mg base 1 T.f_bound_at T.d_bound_at ["base", "rate", "x"] S := by
  refine fn_d (N := ["base", "rate", "x"]) T.F_bound_at sc_bound_at (by decide) m kp fun cdv A outer s H E hr => ?_
  have nd : (["base", "rate", "x"] : List Str).Nodup := sc_bound_at.nd
  exact (sd_cons (sd_if (td_is (ed_var 0) ed_non) (sd_one (sd_ret ed_non)) sd_nil)
  (sd_one (sd_ret (ed_add (ed_var 0) (ed_mul (ed_var 2) (ed_var 1))))))
theorem wk_demand_at (T : Txt K mg) {S_bound_at : DSp} (G_bound_at : FnD P w K mg base 1 T.f_bound_at T.d_bound_at ["base", "rate", "x"] S_bound_at) {S : DSp} (m : MonoS S) (kp : Keeps 8 (rd_demand_at S_bound_at) S) : FnD P w K mg base 2 T.f_demand_at T.d_demand_at ["demand", "x"] S := by
  refine fn_d (N := ["demand", "x", "low", "high", "least", "least_rate", "most", "most_rate"]) T.F_demand_at sc_demand_at (by decide) m kp fun cdv A outer s H E hr => ?_
  have nd : (["demand", "x", "low", "high", "least", "least_rate", "most", "most_rate"] : List Str).Nodup := sc_demand_at.nd
  have C_bound_at : FnD P w K mg base 1 T.f_bound_at T.d_bound_at ["base", "rate", "x"] S_bound_at := G_bound_at.up (by decide)
  exact (sd_cons (sd_asg (vs := [2, 3, 4, 5, 6, 7]) (ed_var 0) (gd_tup rfl (gds_cons (gd_name 2 nd) (gds_cons (gd_name 3 nd) (gds_cons (gd_name 4 nd) (gds_cons (gd_name 5 nd) (gds_cons (gd_name 6 nd) (gds_cons (gd_name 7 nd) gds_nil))))))))
  (sd_one (sd_ret (ed_tup (ad_cons (ed_var 2) (ad_cons (ed_var 3) (ad_cons (ed_call C_bound_at hr (by rfl) T.g_bound_at T.F_bound_at.kp T.b_bound_at (ad_cons (ed_var 4) (ad_cons (ed_var 5) (ad_cons (ed_var 1) ad_nil)))) (ad_cons (ed_call C_bound_at hr (by rfl) T.g_bound_at T.F_bound_at.kp T.b_bound_at (ad_cons (ed_var 6) (ad_cons (ed_var 7) (ad_cons (ed_var 1) ad_nil)))) ad_nil))))))))
theorem wk_demands_at (T : Txt K mg) {S_demand_at : DSp} (G_demand_at : FnD P w K mg base 2 T.f_demand_at T.d_demand_at ["demand", "x"] S_demand_at) {S : DSp} (m : MonoS S) (kp : Keeps 3 (rd_demands_at S_demand_at) S) : FnD P w K mg base 3 T.f_demands_at T.d_demands_at ["moving", "x"] S := by
  refine fn_d (N := ["moving", "x", "demand"]) T.F_demands_at sc_demands_at (by decide) m kp fun cdv A outer s H E hr => ?_
  have nd : (["moving", "x", "demand"] : List Str).Nodup := sc_demands_at.nd
  have C_demand_at : FnD P w K mg base 2 T.f_demand_at T.d_demand_at ["demand", "x"] S_demand_at := G_demand_at.up (by decide)
  exact (sd_one (sd_ret (ed_lc [("demand", 2)] rfl nd (pid_L false (ed_var 0)) (blkOk_by (own := [("demand", 2)]) (N := ["moving", "x", "demand"]) (sc := defScope st_demands_at) (by decide +kernel)) (fun _ _ _ _ _ => (gd_name 2 nd)) (fun _ _ _ _ _ => ptd_nil) (fun _ _ _ _ _ => (ed_call C_demand_at hr (by rfl) T.g_demand_at T.F_demand_at.kp T.b_demand_at (ad_cons (ed_var 2) (ad_cons (ed_var 1) ad_nil)))))))
theorem wk_sounding (T : Txt K mg) {S : DSp} (m : MonoS S) (kp : Keeps 5 (rd_sounding) S) : FnD P w K mg base 1 T.f_sounding T.d_sounding ["tuning", "period", "place"] S := by
  refine fn_d (N := ["tuning", "period", "place", "string", "octave"]) T.F_sounding sc_sounding (by decide) m kp fun cdv A outer s H E hr => ?_
  have nd : (["tuning", "period", "place", "string", "octave"] : List Str).Nodup := sc_sounding.nd
  exact (sd_cons (sd_asg (vs := [3, 4]) (ed_var 2) (gd_tup rfl (gds_cons (gd_name 3 nd) (gds_cons (gd_name 4 nd) gds_nil))))
  (sd_one (sd_ret (ed_add (ed_ix (ed_var 0) (ed_var 3)) (ed_mul (ed_var 1) (ed_var 4))))))
theorem wk_moving_octave (T : Txt K mg) {S : DSp} (m : MonoS S) (kp : Keeps 6 (rd_moving_octave) S) : FnD P w K mg base 1 T.f_moving_octave T.d_moving_octave ["demand"] S := by
  refine fn_d (N := ["demand", "low", "high", "least", "most", "apart"]) T.F_moving_octave sc_moving_octave (by decide) m kp fun cdv A outer s H E hr => ?_
  have nd : (["demand", "low", "high", "least", "most", "apart"] : List Str).Nodup := sc_moving_octave.nd
  exact (sd_cons (sd_asg (vs := [1, 2, 3, 4]) (ed_var 0) (gd_tup rfl (gds_cons (gd_name 1 nd) (gds_cons (gd_name 2 nd) (gds_cons (gd_name 3 nd) (gds_cons (gd_name 4 nd) gds_nil))))))
  (sd_cons (sd_set 5 nd (ed_sub (ed_ix (ed_var 2) ed_int) (ed_ix (ed_var 1) ed_int)))
  (sd_one (sd_ret (ed_tup (ad_cons (ed_ix (ed_var 1) ed_int) (ad_cons (ed_ix (ed_var 2) ed_int) (ad_cons (ed_var 3) (ad_cons (ed_neg (ed_var 5)) (ad_cons (ed_var 4) (ad_cons (ed_neg (ed_var 5)) ad_nil)))))))))))
theorem wk_moving_octaves (T : Txt K mg) {S_moving_octave : DSp} (G_moving_octave : FnD P w K mg base 1 T.f_moving_octave T.d_moving_octave ["demand"] S_moving_octave) {S : DSp} (m : MonoS S) (kp : Keeps 2 (rd_moving_octaves S_moving_octave) S) : FnD P w K mg base 2 T.f_moving_octaves T.d_moving_octaves ["placed"] S := by
  refine fn_d (N := ["placed", "demand"]) T.F_moving_octaves sc_moving_octaves (by decide) m kp fun cdv A outer s H E hr => ?_
  have nd : (["placed", "demand"] : List Str).Nodup := sc_moving_octaves.nd
  have C_moving_octave : FnD P w K mg base 1 T.f_moving_octave T.d_moving_octave ["demand"] S_moving_octave := G_moving_octave.up (by decide)
  exact (sd_one (sd_ret (ed_lc [("demand", 1)] rfl nd (pid_L false (ed_var 0)) (blkOk_by (own := [("demand", 1)]) (N := ["placed", "demand"]) (sc := defScope st_moving_octaves) (by decide +kernel)) (fun _ _ _ _ _ => (gd_name 1 nd)) (fun _ _ _ _ _ => ptd_nil) (fun _ _ _ _ _ => (ed_call C_moving_octave hr (by rfl) T.g_moving_octave T.F_moving_octave.kp T.b_moving_octave (ad_cons (ed_var 1) ad_nil))))))
theorem wk_placed_at (T : Txt K mg) {S_demands_at : DSp} (G_demands_at : FnD P w K mg base 3 T.f_demands_at T.d_demands_at ["moving", "x"] S_demands_at) {S_moving_octaves : DSp} (G_moving_octaves : FnD P w K mg base 2 T.f_moving_octaves T.d_moving_octaves ["placed"] S_moving_octaves) {S : DSp} (m : MonoS S) (kp : Keeps 2 (rd_placed_at S_demands_at S_moving_octaves) S) : FnD P w K mg base 4 T.f_placed_at T.d_placed_at ["placed", "period"] S := by
  refine fn_d (N := ["placed", "period"]) T.F_placed_at sc_placed_at (by decide) m kp fun cdv A outer s H E hr => ?_
  have nd : (["placed", "period"] : List Str).Nodup := sc_placed_at.nd
  have C_demands_at : FnD P w K mg base 3 T.f_demands_at T.d_demands_at ["moving", "x"] S_demands_at := G_demands_at.up (by decide)
  have C_moving_octaves : FnD P w K mg base 3 T.f_moving_octaves T.d_moving_octaves ["placed"] S_moving_octaves := G_moving_octaves.up (by decide)
  exact (sd_one (sd_ret (ed_call C_demands_at hr (by rfl) T.g_demands_at T.F_demands_at.kp T.b_demands_at (ad_cons (ed_call C_moving_octaves hr (by rfl) T.g_moving_octaves T.F_moving_octaves.kp T.b_moving_octaves (ad_cons (ed_var 0) ad_nil)) (ad_cons (ed_var 1) ad_nil)))))
theorem wk_place_of_note (T : Txt K mg) {S : DSp} (m : MonoS S) (kp : Keeps 2 (rd_place_of_note) S) : FnD P w K mg base 1 T.f_place_of_note T.d_place_of_note ["note", "count"] S := by
  refine fn_d (N := ["note", "count"]) T.F_place_of_note sc_place_of_note (by decide) m kp fun cdv A outer s H E hr => ?_
  have nd : (["note", "count"] : List Str).Nodup := sc_place_of_note.nd
  exact (sd_one (sd_ret (ed_tup (ad_cons (ed_mod (ed_var 0) (ed_var 1)) (ad_cons (ed_div (ed_var 0) (ed_var 1)) ad_nil)))))
theorem wk_moved (T : Txt K mg) {S : DSp} (m : MonoS S) (kp : Keeps 4 (rd_moved) S) : FnD P w K mg base 1 T.f_moved T.d_moved ["piece", "by"] S := by
  refine fn_d (N := ["piece", "by", "note", "chord"]) T.F_moved sc_moved (by decide) m kp fun cdv A outer s H E hr => ?_
  have nd : (["piece", "by", "note", "chord"] : List Str).Nodup := sc_moved.nd
  exact (sd_one (sd_ret (ed_lc [("chord", 3)] rfl nd (pid_L false (ed_var 0)) (blkOk_by (own := [("chord", 3)]) (N := ["piece", "by", "note", "chord"]) (sc := defScope st_moved) (by decide +kernel)) (fun _ _ _ _ _ => (gd_name 3 nd)) (fun _ _ _ _ _ => ptd_nil) (fun _ _ _ _ _ => (ed_lc [("note", 2)] rfl nd (pid_L false (ed_var 3)) (blkOk_in (own := [("note", 2)]) (N := ["piece", "by", "note", "chord"]) (defScope st_moved) rfl (by decide +kernel)) (fun _ _ _ _ _ => (gd_name 2 nd)) (fun _ _ _ _ _ => ptd_nil) (fun _ _ _ _ _ => (ed_add (ed_var 2) (ed_var 1))))))))
theorem wk_taste_of (T : Txt K mg) {S : DSp} (m : MonoS S) (kp : Keeps 3 (rd_taste_of) S) : FnD P w K mg base 1 T.f_taste_of T.d_taste_of ["tastes", "width"] S := by
  refine fn_d (N := ["tastes", "width", "taste"]) T.F_taste_of sc_taste_of (by decide) m kp fun cdv A outer s H E hr => ?_
  have nd : (["tastes", "width", "taste"] : List Str).Nodup := sc_taste_of.nd
  exact (sd_cons (sd_forL (vs := [2]) PassesOwn.never rfl (ed_var 0) (gd_name 2 nd) (sd_one (sd_if (td_eq hr.units (ed_ix (ed_var 2) ed_int) (ed_var 1)) (sd_one (sd_ret (ed_var 2))) sd_nil)))
  (sd_one (sd_ret ed_non)))
theorem wk_tasted_pairs (T : Txt K mg) {S_taste_of : DSp} (G_taste_of : FnD P w K mg base 1 T.f_taste_of T.d_taste_of ["tastes", "width"] S_taste_of) {S : DSp} (m : MonoS S) (kp : Keeps 6 (rd_tasted_pairs S_taste_of) S) : FnD P w K mg base 2 T.f_tasted_pairs T.d_tasted_pairs ["chord", "tastes"] S := by
  refine fn_d (N := ["chord", "tastes", "found", "i", "j", "taste"]) T.F_tasted_pairs sc_tasted_pairs (by decide) m kp fun cdv A outer s H E hr => ?_
  have nd : (["chord", "tastes", "found", "i", "j", "taste"] : List Str).Nodup := sc_tasted_pairs.nd
  have C_taste_of : FnD P w K mg base 1 T.f_taste_of T.d_taste_of ["tastes", "width"] S_taste_of := G_taste_of.up (by decide)
  exact (sd_cons (sd_own 2 nd (ed_lst ad_nil))
  (sd_cons (sd_forR1 (vs := [3]) PassesOwn.never rfl (by rfl) T.z_range (ed_len (by rfl) T.z_len (ed_var 0)) (gd_name 3 nd) (sd_one (sd_forR2 (vs := [4]) PassesOwn.never rfl (by rfl) T.z_range (ed_add (ed_var 3) ed_int) (ed_len (by rfl) T.z_len (ed_var 0)) (gd_name 4 nd) (sd_cons (sd_set 5 nd (ed_call C_taste_of hr (by rfl) T.g_taste_of T.F_taste_of.kp T.b_taste_of (ad_cons (ed_var 1) (ad_cons (ed_sub (ed_ix (ed_var 0) (ed_var 4)) (ed_ix (ed_var 0) (ed_var 3))) ad_nil))))
  (sd_one (sd_if (td_isNot (ed_var 5) ed_non) (sd_one (sd_app 2 (pv 2) (ed_tup (ad_cons (ed_ix (ed_var 0) (ed_var 3)) (ad_cons (ed_ix (ed_var 0) (ed_var 4)) (ad_cons (ed_ix (ed_var 5) ed_int) (ad_cons (ed_ix (ed_var 5) ed_int) ad_nil))))))) sd_nil))))))
  (sd_one (sd_ret (ed_var 2)))))
theorem wk_piece_placed (T : Txt K mg) {S_tasted_pairs : DSp} (G_tasted_pairs : FnD P w K mg base 2 T.f_tasted_pairs T.d_tasted_pairs ["chord", "tastes"] S_tasted_pairs) {S_place_of_note : DSp} (G_place_of_note : FnD P w K mg base 1 T.f_place_of_note T.d_place_of_note ["note", "count"] S_place_of_note) {S : DSp} (m : MonoS S) (kp : Keeps 9 (rd_piece_placed S_tasted_pairs S_place_of_note) S) : FnD P w K mg base 3 T.f_piece_placed T.d_piece_placed ["count", "piece", "tastes"] S := by
  refine fn_d (N := ["count", "piece", "tastes", "placed", "chord", "low", "high", "least", "most"]) T.F_piece_placed sc_piece_placed (by decide) m kp fun cdv A outer s H E hr => ?_
  have nd : (["count", "piece", "tastes", "placed", "chord", "low", "high", "least", "most"] : List Str).Nodup := sc_piece_placed.nd
  have C_tasted_pairs : FnD P w K mg base 2 T.f_tasted_pairs T.d_tasted_pairs ["chord", "tastes"] S_tasted_pairs := G_tasted_pairs.up (by decide)
  have C_place_of_note : FnD P w K mg base 2 T.f_place_of_note T.d_place_of_note ["note", "count"] S_place_of_note := G_place_of_note.up (by decide)
  exact (sd_cons (sd_own 3 nd (ed_lst ad_nil))
  (sd_cons (sd_forL (vs := [4]) PassesOwn.never rfl (ed_var 1) (gd_name 4 nd) (sd_one (sd_forL (vs := [5, 6, 7, 8]) PassesOwn.never rfl (ed_call C_tasted_pairs hr (by rfl) T.g_tasted_pairs T.F_tasted_pairs.kp T.b_tasted_pairs (ad_cons (ed_var 4) (ad_cons (ed_var 2) ad_nil))) (gd_tup rfl (gds_cons (gd_name 5 nd) (gds_cons (gd_name 6 nd) (gds_cons (gd_name 7 nd) (gds_cons (gd_name 8 nd) gds_nil))))) (sd_one (sd_app 3 (pv 3) (ed_tup (ad_cons (ed_call C_place_of_note hr (by rfl) T.g_place_of_note T.F_place_of_note.kp T.b_place_of_note (ad_cons (ed_var 5) (ad_cons (ed_var 0) ad_nil))) (ad_cons (ed_call C_place_of_note hr (by rfl) T.g_place_of_note T.F_place_of_note.kp T.b_place_of_note (ad_cons (ed_var 6) (ad_cons (ed_var 0) ad_nil))) (ad_cons (ed_var 7) (ad_cons (ed_var 8) ad_nil))))))))))
  (sd_one (sd_ret (ed_var 3)))))
theorem wk_distance (T : Txt K mg) {S_sounding : DSp} (G_sounding : FnD P w K mg base 1 T.f_sounding T.d_sounding ["tuning", "period", "place"] S_sounding) {S_place_of_note : DSp} (G_place_of_note : FnD P w K mg base 1 T.f_place_of_note T.d_place_of_note ["note", "count"] S_place_of_note) {S : DSp} (m : MonoS S) (kp : Keeps 6 (rd_distance S_sounding S_place_of_note) S) : FnD P w K mg base 2 T.f_distance T.d_distance ["count", "period", "tuning", "low", "high"] S := by
  refine fn_d (N := ["count", "period", "tuning", "low", "high", "top"]) T.F_distance sc_distance (by decide) m kp fun cdv A outer s H E hr => ?_
  have nd : (["count", "period", "tuning", "low", "high", "top"] : List Str).Nodup := sc_distance.nd
  have C_sounding : FnD P w K mg base 1 T.f_sounding T.d_sounding ["tuning", "period", "place"] S_sounding := G_sounding.up (by decide)
  have C_place_of_note : FnD P w K mg base 1 T.f_place_of_note T.d_place_of_note ["note", "count"] S_place_of_note := G_place_of_note.up (by decide)
  exact (sd_cons (sd_set 5 nd (ed_call C_sounding hr (by rfl) T.g_sounding T.F_sounding.kp T.b_sounding (ad_cons (ed_var 2) (ad_cons (ed_var 1) (ad_cons (ed_call C_place_of_note hr (by rfl) T.g_place_of_note T.F_place_of_note.kp T.b_place_of_note (ad_cons (ed_var 4) (ad_cons (ed_var 0) ad_nil))) ad_nil)))))
  (sd_one (sd_ret (ed_sub (ed_var 5) (ed_call C_sounding hr (by rfl) T.g_sounding T.F_sounding.kp T.b_sounding (ad_cons (ed_var 2) (ad_cons (ed_var 1) (ad_cons (ed_call C_place_of_note hr (by rfl) T.g_place_of_note T.F_place_of_note.kp T.b_place_of_note (ad_cons (ed_var 3) (ad_cons (ed_var 0) ad_nil))) ad_nil))))))))
theorem wk_breaches (T : Txt K mg) {S_tasted_pairs : DSp} (G_tasted_pairs : FnD P w K mg base 2 T.f_tasted_pairs T.d_tasted_pairs ["chord", "tastes"] S_tasted_pairs) {S_distance : DSp} (G_distance : FnD P w K mg base 2 T.f_distance T.d_distance ["count", "period", "tuning", "low", "high"] S_distance) {S_within : DSp} (G_within : FnD P w K mg base 1 T.f_within T.d_within ["width", "least", "most"] S_within) {S : DSp} (m : MonoS S) (kp : Keeps 12 (rd_breaches S_tasted_pairs S_distance S_within) S) : FnD P w K mg base 3 T.f_breaches T.d_breaches ["count", "period", "tuning", "piece", "tastes"] S := by
  refine fn_d (N := ["count", "period", "tuning", "piece", "tastes", "found", "at", "low", "high", "least", "most", "width"]) T.F_breaches sc_breaches (by decide) m kp fun cdv A outer s H E hr => ?_
  have nd : (["count", "period", "tuning", "piece", "tastes", "found", "at", "low", "high", "least", "most", "width"] : List Str).Nodup := sc_breaches.nd
  have C_tasted_pairs : FnD P w K mg base 2 T.f_tasted_pairs T.d_tasted_pairs ["chord", "tastes"] S_tasted_pairs := G_tasted_pairs.up (by decide)
  have C_distance : FnD P w K mg base 2 T.f_distance T.d_distance ["count", "period", "tuning", "low", "high"] S_distance := G_distance.up (by decide)
  have C_within : FnD P w K mg base 2 T.f_within T.d_within ["width", "least", "most"] S_within := G_within.up (by decide)
  exact (sd_cons (sd_own 5 nd (ed_lst ad_nil))
  (sd_cons (sd_forR1 (vs := [6]) PassesOwn.never rfl (by rfl) T.z_range (ed_len (by rfl) T.z_len (ed_var 3)) (gd_name 6 nd) (sd_one (sd_forL (vs := [7, 8, 9, 10]) PassesOwn.never rfl (ed_call C_tasted_pairs hr (by rfl) T.g_tasted_pairs T.F_tasted_pairs.kp T.b_tasted_pairs (ad_cons (ed_ix (ed_var 3) (ed_var 6)) (ad_cons (ed_var 4) ad_nil))) (gd_tup rfl (gds_cons (gd_name 7 nd) (gds_cons (gd_name 8 nd) (gds_cons (gd_name 9 nd) (gds_cons (gd_name 10 nd) gds_nil))))) (sd_cons (sd_set 11 nd (ed_call C_distance hr (by rfl) T.g_distance T.F_distance.kp T.b_distance (ad_cons (ed_var 0) (ad_cons (ed_var 1) (ad_cons (ed_var 2) (ad_cons (ed_var 7) (ad_cons (ed_var 8) ad_nil)))))))
  (sd_one (sd_if (td_not (td_val (ed_call C_within hr (by rfl) T.g_within T.F_within.kp T.b_within (ad_cons (ed_var 11) (ad_cons (ed_var 9) (ad_cons (ed_var 10) ad_nil)))))) (sd_one (sd_app 5 (pv 5) (ed_tup (ad_cons (ed_var 6) (ad_cons (ed_var 7) (ad_cons (ed_var 8) (ad_cons (ed_var 11) ad_nil))))))) sd_nil))))))
  (sd_one (sd_ret (ed_var 5)))))
theorem wk_moves_placed (T : Txt K mg) {S_piece_placed : DSp} (G_piece_placed : FnD P w K mg base 3 T.f_piece_placed T.d_piece_placed ["count", "piece", "tastes"] S_piece_placed) {S_moved : DSp} (G_moved : FnD P w K mg base 1 T.f_moved T.d_moved ["piece", "by"] S_moved) {S : DSp} (m : MonoS S) (kp : Keeps 6 (rd_moves_placed S_piece_placed S_moved) S) : FnD P w K mg base 4 T.f_moves_placed T.d_moves_placed ["count", "piece", "tastes", "moves"] S := by
  refine fn_d (N := ["count", "piece", "tastes", "moves", "placed", "by"]) T.F_moves_placed sc_moves_placed (by decide) m kp fun cdv A outer s H E hr => ?_
  have nd : (["count", "piece", "tastes", "moves", "placed", "by"] : List Str).Nodup := sc_moves_placed.nd
  have C_piece_placed : FnD P w K mg base 3 T.f_piece_placed T.d_piece_placed ["count", "piece", "tastes"] S_piece_placed := G_piece_placed.up (by decide)
  have C_moved : FnD P w K mg base 3 T.f_moved T.d_moved ["piece", "by"] S_moved := G_moved.up (by decide)
  exact (sd_cons (sd_set 4 nd (ed_lst ad_nil))
  (sd_cons (sd_forL (vs := [5]) PassesOwn.never rfl (ed_var 3) (gd_name 5 nd) (sd_one (sd_set 4 nd (ed_add (ed_var 4) (ed_call C_piece_placed hr (by rfl) T.g_piece_placed T.F_piece_placed.kp T.b_piece_placed (ad_cons (ed_var 0) (ad_cons (ed_call C_moved hr (by rfl) T.g_moved T.F_moved.kp T.b_moved (ad_cons (ed_var 1) (ad_cons (ed_var 5) ad_nil))) (ad_cons (ed_var 2) ad_nil))))))))
  (sd_one (sd_ret (ed_var 4)))))
theorem wk_longest_moves (T : Txt K mg) {S_moves_placed : DSp} (G_moves_placed : FnD P w K mg base 4 T.f_moves_placed T.d_moves_placed ["count", "piece", "tastes", "moves"] S_moves_placed) {S_solve : DSp} (G_solve : FnD P w K mg base 6 T.f_solve T.d_solve ["size", "demands"] S_solve) {S_placed_at : DSp} (G_placed_at : FnD P w K mg base 4 T.f_placed_at T.d_placed_at ["placed", "period"] S_placed_at) {S : DSp} (m : MonoS S) (kp : Keeps 9 (rd_longest_moves S_moves_placed S_solve S_placed_at) S) : FnD P w K mg base 7 T.f_longest_moves T.d_longest_moves ["count", "period", "piece", "tastes", "moves"] S := by
  refine fn_d (N := ["count", "period", "piece", "tastes", "moves", "tuning", "many", "placed", "found"]) T.F_longest_moves sc_longest_moves (by decide) m kp fun cdv A outer s H E hr => ?_
  have nd : (["count", "period", "piece", "tastes", "moves", "tuning", "many", "placed", "found"] : List Str).Nodup := sc_longest_moves.nd
  have C_moves_placed : FnD P w K mg base 6 T.f_moves_placed T.d_moves_placed ["count", "piece", "tastes", "moves"] S_moves_placed := G_moves_placed.up (by decide)
  have C_solve : FnD P w K mg base 6 T.f_solve T.d_solve ["size", "demands"] S_solve := G_solve.up (by decide)
  have C_placed_at : FnD P w K mg base 6 T.f_placed_at T.d_placed_at ["placed", "period"] S_placed_at := G_placed_at.up (by decide)
  exact (sd_cons (sd_setM 5 nd (ed_mul (ed_lst (ad_cons ed_int ad_nil)) (ed_var 0)))
  (sd_cons (sd_forR1 (vs := [6]) PassesOwn.never rfl (by rfl) T.z_range (ed_len (by rfl) T.z_len (ed_var 4)) (gd_nameM 6 nd) (sd_cons (sd_set 7 nd (ed_call C_moves_placed hr (by rfl) T.g_moves_placed T.F_moves_placed.kp T.b_moves_placed (ad_cons (ed_var 0) (ad_cons (ed_var 2) (ad_cons (ed_var 3) (ad_cons (ed_sl (ed_var 4) od_none (od_some (ed_add (ed_var 6) ed_int))) ad_nil))))))
  (sd_cons (sd_setM 8 nd (ed_call C_solve hr (by rfl) T.g_solve T.F_solve.kp T.b_solve (ad_cons (ed_var 0) (ad_cons (ed_call C_placed_at hr (by rfl) T.g_placed_at T.F_placed_at.kp T.b_placed_at (ad_cons (ed_var 7) (ad_cons (ed_var 1) ad_nil))) ad_nil))))
  (sd_cons (sd_if (td_eq hr.units (ed_ix (ed_var 8) ed_int) ed_str) (sd_one (sd_retF (ed_tup (ad_cons ed_str (ad_cons (ed_var 6) (ad_cons (ed_var 5) (ad_cons (ed_ix (ed_var 8) ed_int) ad_nil))))))) sd_nil)
  (sd_one (sd_setM 5 nd (ed_ix (ed_var 8) ed_int)))))))
  (sd_one (sd_retF (ed_tup (ad_cons ed_str (ad_cons (ed_var 5) ad_nil)))))))
theorem wk__law_draws (T : Txt K mg) {S : DSp} (m : MonoS S) (kp : Keeps 8 (rd__law_draws) S) : FnD P w K mg base 1 T.f__law_draws T.d__law_draws ["script", "many"] S := by
  refine fn_d (N := ["script", "many", "found", "cell", "number", "k", "mixed", "base"]) T.F__law_draws sc__law_draws (by decide) m kp fun cdv A outer s H E hr => ?_
  have nd : (["script", "many", "found", "cell", "number", "k", "mixed", "base"] : List Str).Nodup := sc__law_draws.nd
  exact (sd_cons (sd_own 2 nd (ed_lst ad_nil))
  (sd_cons (sd_forL (vs := [3]) PassesOwn.never rfl (ed_sl (ed_var 0) od_none (od_some ed_int)) (gd_name 3 nd) (sd_cons (sd_set 4 nd (ed_abs (by rfl) T.z_abs (ed_toInt (by rfl) T.z_int (ed_var 3))))
  (sd_one (sd_if (td_ge (ed_var 4) (ed_pow ed_int ed_int)) (sd_one (sd_forR1 (vs := [5]) PassesOwn.never rfl (by rfl) T.z_range ed_int (gd_name 5 nd) (sd_one (sd_if (td_gt (ed_var 4) ed_int) (sd_cons (sd_app 2 (pv 2) (ed_mod (ed_var 4) ed_int))
  (sd_one (sd_set 4 nd (ed_div (ed_var 4) ed_int)))) sd_nil)))) (sd_cons (sd_set 6 nd (ed_mod (ed_add (ed_add (ed_mul (ed_var 4) ed_int) (ed_mul ed_int (ed_len (by rfl) T.z_len (ed_var 2)))) ed_int) ed_int))
  (sd_one (sd_forR1 (vs := [5]) PassesOwn.never rfl (by rfl) T.z_range ed_int (gd_name 5 nd) (sd_cons (sd_set 6 nd (ed_mod (ed_add (ed_add (ed_add (ed_mul (ed_var 6) ed_int) (ed_div (ed_var 6) ed_int)) (ed_mul ed_int (ed_var 5))) ed_int) ed_int))
  (sd_one (sd_app 2 (pv 2) (ed_mod (ed_div (ed_var 6) ed_int) ed_int)))))))))))
  (sd_cons (sd_forR1 (vs := [5]) PassesOwn.never rfl (by rfl) T.z_range (ed_var 1) (gd_name 5 nd) (sd_one (sd_if (td_lt (ed_len (by rfl) T.z_len (ed_var 2)) (ed_var 1)) (sd_cons (sd_set 7 nd ed_int)
  (sd_cons (sd_if (td_gt (ed_len (by rfl) T.z_len (ed_var 2)) ed_int) (sd_one (sd_set 7 nd (ed_ix (ed_var 2) (ed_mod (ed_var 5) (ed_len (by rfl) T.z_len (ed_var 2)))))) sd_nil)
  (sd_one (sd_app 2 (pv 2) (ed_mod (ed_add (ed_add (ed_mul (ed_var 7) ed_int) (ed_mul ed_int (ed_len (by rfl) T.z_len (ed_var 2)))) ed_int) ed_int))))) sd_nil)))
  (sd_one (sd_ret (ed_sl (ed_var 2) od_none (od_some (ed_var 1))))))))
theorem wk__law_is_number (T : Txt K mg) {S : DSp} (m : MonoS S) (kp : Keeps 1 (rd__law_is_number) S) : FnD P w K mg base 1 T.f__law_is_number T.d__law_is_number ["value"] S := by
  refine fn_d (N := ["value"]) T.F__law_is_number sc__law_is_number (by decide) m kp fun cdv A outer s H E hr => ?_
  have nd : (["value"] : List Str).Nodup := sc__law_is_number.nd
  exact (sd_one (sd_ret (ed_and (ed_isInt (by rfl) T.z_isinstance (by rfl) T.z_int (ed_var 0)) (ed_one (ed_not (ed_isBool (by rfl) T.z_isinstance (by rfl) T.z_bool (ed_var 0)))))))
theorem wk__law_is_numbers (T : Txt K mg) {S__law_is_number : DSp} (G__law_is_number : FnD P w K mg base 1 T.f__law_is_number T.d__law_is_number ["value"] S__law_is_number) {S : DSp} (m : MonoS S) (kp : Keeps 3 (rd__law_is_numbers_6e0e S__law_is_number) S) : FnD P w K mg base 2 T.f__law_is_numbers T.d__law_is_numbers ["value", "size"] S := by
  refine fn_d (N := ["value", "size", "item"]) T.F__law_is_numbers sc__law_is_numbers (by decide) m kp fun cdv A outer s H E hr => ?_
  have nd : (["value", "size", "item"] : List Str).Nodup := sc__law_is_numbers.nd
  have C__law_is_number : FnD P w K mg base 1 T.f__law_is_number T.d__law_is_number ["value"] S__law_is_number := G__law_is_number.up (by decide)
  exact (sd_cons (sd_if (WD.td (wd_or (td_not (td_val (ed_isList (by rfl) T.z_isinstance (by rfl) T.z_list (ed_var 0)))) (wd_or1 (td_ne hr.units (ed_len (by rfl) T.z_len (ed_var 0)) (ed_var 1))))) (sd_one (sd_ret ed_bl)) sd_nil)
  (sd_cons (sd_forL (vs := [2]) PassesOwn.never rfl (ed_var 0) (gd_name 2 nd) (sd_one (sd_if (td_not (td_val (ed_call C__law_is_number hr (by rfl) T.g__law_is_number T.F__law_is_number.kp T.b__law_is_number (ad_cons (ed_var 2) ad_nil)))) (sd_one (sd_ret ed_bl)) sd_nil)))
  (sd_one (sd_ret ed_bl))))
theorem wk__law_same_row (T : Txt K mg) {S__law_is_number : DSp} (G__law_is_number : FnD P w K mg base 1 T.f__law_is_number T.d__law_is_number ["value"] S__law_is_number) {S : DSp} (m : MonoS S) (kp : Keeps 3 (rd__law_same_row S__law_is_number) S) : FnD P w K mg base 2 T.f__law_same_row T.d__law_same_row ["found", "due"] S := by
  refine fn_d (N := ["found", "due", "k"]) T.F__law_same_row sc__law_same_row (by decide) m kp fun cdv A outer s H E hr => ?_
  have nd : (["found", "due", "k"] : List Str).Nodup := sc__law_same_row.nd
  have C__law_is_number : FnD P w K mg base 1 T.f__law_is_number T.d__law_is_number ["value"] S__law_is_number := G__law_is_number.up (by decide)
  exact (sd_cons (sd_if (WD.td (wd_or (td_not (td_val (ed_isTup (by rfl) T.z_isinstance (by rfl) T.z_tuple (ed_var 0)))) (wd_or1 (td_ne hr.units (ed_len (by rfl) T.z_len (ed_var 0)) (ed_len (by rfl) T.z_len (ed_var 1)))))) (sd_one (sd_ret ed_bl)) sd_nil)
  (sd_cons (sd_forR1 (vs := [2]) PassesOwn.never rfl (by rfl) T.z_range (ed_len (by rfl) T.z_len (ed_var 1)) (gd_name 2 nd) (sd_one (sd_if (td_is (ed_ix (ed_var 1) (ed_var 2)) ed_non) (sd_one (sd_if (td_isNot (ed_ix (ed_var 0) (ed_var 2)) ed_non) (sd_one (sd_ret ed_bl)) sd_nil)) (sd_one (sd_if (WD.td (wd_or (td_not (td_val (ed_call C__law_is_number hr (by rfl) T.g__law_is_number T.F__law_is_number.kp T.b__law_is_number (ad_cons (ed_ix (ed_var 0) (ed_var 2)) ad_nil)))) (wd_or1 (td_ne hr.units (ed_ix (ed_var 0) (ed_var 2)) (ed_ix (ed_var 1) (ed_var 2)))))) (sd_one (sd_ret ed_bl)) sd_nil)))))
  (sd_one (sd_ret ed_bl))))
theorem wk__law_meets (T : Txt K mg) {S : DSp} (m : MonoS S) (kp : Keeps 7 (rd__law_meets_d118) S) : FnD P w K mg base 1 T.f__law_meets T.d__law_meets ["demands", "tuning"] S := by
  refine fn_d (N := ["demands", "tuning", "low", "high", "least", "most", "width"]) T.F__law_meets sc__law_meets (by decide) m kp fun cdv A outer s H E hr => ?_
  have nd : (["demands", "tuning", "low", "high", "least", "most", "width"] : List Str).Nodup := sc__law_meets.nd
  exact (sd_cons (sd_forL (vs := [2, 3, 4, 5]) PassesOwn.never rfl (ed_var 0) (gd_tup rfl (gds_cons (gd_name 2 nd) (gds_cons (gd_name 3 nd) (gds_cons (gd_name 4 nd) (gds_cons (gd_name 5 nd) gds_nil))))) (sd_cons (sd_set 6 nd (ed_sub (ed_ix (ed_var 1) (ed_var 3)) (ed_ix (ed_var 1) (ed_var 2))))
  (sd_cons (sd_if (WD.td (wd_and (td_isNot (ed_var 4) ed_non) (wd_and1 (td_lt (ed_var 6) (ed_var 4))))) (sd_one (sd_ret ed_bl)) sd_nil)
  (sd_one (sd_if (WD.td (wd_and (td_isNot (ed_var 5) ed_non) (wd_and1 (td_gt (ed_var 6) (ed_var 5))))) (sd_one (sd_ret ed_bl)) sd_nil)))))
  (sd_one (sd_ret ed_bl)))
theorem wk__law_step (T : Txt K mg) {S__law_is_number : DSp} (G__law_is_number : FnD P w K mg base 1 T.f__law_is_number T.d__law_is_number ["value"] S__law_is_number) {S : DSp} (m : MonoS S) (kp : Keeps 6 (rd__law_step_be11 S__law_is_number) S) : FnD P w K mg base 2 T.f__law_step T.d__law_step ["demands", "step"] S := by
  refine fn_d (N := ["demands", "step", "low", "high", "least", "most"]) T.F__law_step sc__law_step (by decide) m kp fun cdv A outer s H E hr => ?_
  have nd : (["demands", "step", "low", "high", "least", "most"] : List Str).Nodup := sc__law_step.nd
  have C__law_is_number : FnD P w K mg base 1 T.f__law_is_number T.d__law_is_number ["value"] S__law_is_number := G__law_is_number.up (by decide)
  exact (sd_cons (sd_if (WD.td (wd_or (td_not (td_val (ed_isTup (by rfl) T.z_isinstance (by rfl) T.z_tuple (ed_var 1)))) (wd_or (td_ne hr.units (ed_len (by rfl) T.z_len (ed_var 1)) ed_int) (wd_or (td_not (td_val (ed_call C__law_is_number hr (by rfl) T.g__law_is_number T.F__law_is_number.kp T.b__law_is_number (ad_cons (ed_ix (ed_var 1) ed_int) ad_nil)))) (wd_or1 (td_not (td_val (ed_isStr (by rfl) T.z_isinstance (by rfl) T.z_str (ed_ix (ed_var 1) ed_int))))))))) (sd_one (sd_ret ed_non)) sd_nil)
  (sd_cons (sd_if (WD.td (wd_or (td_lt (ed_ix (ed_var 1) ed_int) ed_int) (wd_or1 (td_ge (ed_ix (ed_var 1) ed_int) (ed_len (by rfl) T.z_len (ed_var 0)))))) (sd_one (sd_ret ed_non)) sd_nil)
  (sd_cons (sd_asg (vs := [2, 3, 4, 5]) (ed_ix (ed_var 0) (ed_ix (ed_var 1) ed_int)) (gd_tup rfl (gds_cons (gd_name 2 nd) (gds_cons (gd_name 3 nd) (gds_cons (gd_name 4 nd) (gds_cons (gd_name 5 nd) gds_nil))))))
  (sd_cons (sd_if (WD.td (wd_and (td_eq hr.units (ed_ix (ed_var 1) ed_int) ed_str) (wd_and1 (td_isNot (ed_var 5) ed_non)))) (sd_one (sd_ret (ed_tup (ad_cons (ed_var 2) (ad_cons (ed_var 3) (ad_cons (ed_var 5) ad_nil)))))) sd_nil)
  (sd_cons (sd_if (WD.td (wd_and (td_eq hr.units (ed_ix (ed_var 1) ed_int) ed_str) (wd_and1 (td_isNot (ed_var 4) ed_non)))) (sd_one (sd_ret (ed_tup (ad_cons (ed_var 3) (ad_cons (ed_var 2) (ad_cons (ed_neg (ed_var 4)) ad_nil)))))) sd_nil)
  (sd_one (sd_ret ed_non)))))))
theorem wk__law_walk (T : Txt K mg) {S__law_step : DSp} (G__law_step : FnD P w K mg base 2 T.f__law_step T.d__law_step ["demands", "step"] S__law_step) {S : DSp} (m : MonoS S) (kp : Keeps 7 (rd__law_walk S__law_step) S) : FnD P w K mg base 3 T.f__law_walk T.d__law_walk ["demands", "steps"] S := by
  refine fn_d (N := ["demands", "steps", "start", "end", "total", "at", "told"]) T.F__law_walk sc__law_walk (by decide) m kp fun cdv A outer s H E hr => ?_
  have nd : (["demands", "steps", "start", "end", "total", "at", "told"] : List Str).Nodup := sc__law_walk.nd
  have C__law_step : FnD P w K mg base 2 T.f__law_step T.d__law_step ["demands", "step"] S__law_step := G__law_step.up (by decide)
  exact (sd_cons (sd_if (WD.td (wd_or (td_not (td_val (ed_isList (by rfl) T.z_isinstance (by rfl) T.z_list (ed_var 1)))) (wd_or1 (td_eq hr.units (ed_len (by rfl) T.z_len (ed_var 1)) ed_int)))) (sd_one (sd_ret ed_non)) sd_nil)
  (sd_cons (sd_set 2 nd (ed_neg ed_int))
  (sd_cons (sd_set 3 nd (ed_neg ed_int))
  (sd_cons (sd_set 4 nd ed_int)
  (sd_cons (sd_forR1 (vs := [5]) PassesOwn.never rfl (by rfl) T.z_range (ed_len (by rfl) T.z_len (ed_var 1)) (gd_name 5 nd) (sd_cons (sd_set 6 nd (ed_call C__law_step hr (by rfl) T.g__law_step T.F__law_step.kp T.b__law_step (ad_cons (ed_var 0) (ad_cons (ed_ix (ed_var 1) (ed_var 5)) ad_nil))))
  (sd_cons (sd_if (WD.td (wd_or (td_is (ed_var 6) ed_non) (wd_or1 (WD.td (wd_and (td_gt (ed_var 5) ed_int) (wd_and1 (td_ne hr.units (ed_ix (ed_var 6) ed_int) (ed_var 3)))))))) (sd_one (sd_ret ed_non)) sd_nil)
  (sd_cons (sd_if (td_eq hr.units (ed_var 5) ed_int) (sd_one (sd_set 2 nd (ed_ix (ed_var 6) ed_int))) sd_nil)
  (sd_cons (sd_set 3 nd (ed_ix (ed_var 6) ed_int))
  (sd_one (sd_set 4 nd (ed_add (ed_var 4) (ed_ix (ed_var 6) ed_int)))))))))
  (sd_one (sd_ret (ed_tup (ad_cons (ed_var 2) (ad_cons (ed_var 3) (ad_cons (ed_var 4) ad_nil)))))))))))
theorem wk__law_is_short_ring (T : Txt K mg) {S__law_walk : DSp} (G__law_walk : FnD P w K mg base 3 T.f__law_walk T.d__law_walk ["demands", "steps"] S__law_walk) {S : DSp} (m : MonoS S) (kp : Keeps 3 (rd__law_is_short_ring S__law_walk) S) : FnD P w K mg base 4 T.f__law_is_short_ring T.d__law_is_short_ring ["demands", "ring"] S := by
  refine fn_d (N := ["demands", "ring", "told"]) T.F__law_is_short_ring sc__law_is_short_ring (by decide) m kp fun cdv A outer s H E hr => ?_
  have nd : (["demands", "ring", "told"] : List Str).Nodup := sc__law_is_short_ring.nd
  have C__law_walk : FnD P w K mg base 3 T.f__law_walk T.d__law_walk ["demands", "steps"] S__law_walk := G__law_walk.up (by decide)
  exact (sd_cons (sd_set 2 nd (ed_call C__law_walk hr (by rfl) T.g__law_walk T.F__law_walk.kp T.b__law_walk (ad_cons (ed_var 0) (ad_cons (ed_var 1) ad_nil))))
  (sd_one (sd_ret (ed_and (ed_isNot (ed_var 2) ed_non) (ed_and (ed_eq hr.units (ed_ix (ed_var 2) ed_int) (ed_ix (ed_var 2) ed_int)) (ed_one (ed_lt (ed_ix (ed_var 2) ed_int) ed_int)))))))
theorem wk__law_is_answer (T : Txt K mg) {S__law_is_numbers : DSp} (G__law_is_numbers : FnD P w K mg base 2 T.f__law_is_numbers T.d__law_is_numbers ["value", "size"] S__law_is_numbers) {S__law_meets : DSp} (G__law_meets : FnD P w K mg base 1 T.f__law_meets T.d__law_meets ["demands", "tuning"] S__law_meets) {S__law_is_short_ring : DSp} (G__law_is_short_ring : FnD P w K mg base 4 T.f__law_is_short_ring T.d__law_is_short_ring ["demands", "ring"] S__law_is_short_ring) {S : DSp} (m : MonoS S) (kp : Keeps 3 (rd__law_is_answer S__law_is_numbers S__law_meets S__law_is_short_ring) S) : FnD P w K mg base 5 T.f__law_is_answer T.d__law_is_answer ["size", "demands", "paper"] S := by
  refine fn_d (N := ["size", "demands", "paper"]) T.F__law_is_answer sc__law_is_answer (by decide) m kp fun cdv A outer s H E hr => ?_
  have nd : (["size", "demands", "paper"] : List Str).Nodup := sc__law_is_answer.nd
  have C__law_is_numbers : FnD P w K mg base 4 T.f__law_is_numbers T.d__law_is_numbers ["value", "size"] S__law_is_numbers := G__law_is_numbers.up (by decide)
  have C__law_meets : FnD P w K mg base 4 T.f__law_meets T.d__law_meets ["demands", "tuning"] S__law_meets := G__law_meets.up (by decide)
  have C__law_is_short_ring : FnD P w K mg base 4 T.f__law_is_short_ring T.d__law_is_short_ring ["demands", "ring"] S__law_is_short_ring := G__law_is_short_ring.up (by decide)
  exact (sd_cons (sd_if (WD.td (wd_or (td_not (td_val (ed_isTup (by rfl) T.z_isinstance (by rfl) T.z_tuple (ed_var 2)))) (wd_or (td_ne hr.units (ed_len (by rfl) T.z_len (ed_var 2)) ed_int) (wd_or1 (td_not (td_val (ed_isStr (by rfl) T.z_isinstance (by rfl) T.z_str (ed_ix (ed_var 2) ed_int)))))))) (sd_one (sd_ret ed_bl)) sd_nil)
  (sd_cons (sd_if (td_eq hr.units (ed_ix (ed_var 2) ed_int) ed_str) (sd_one (sd_ret (ed_and (ed_call C__law_is_numbers hr (by rfl) T.g__law_is_numbers T.F__law_is_numbers.kp T.b__law_is_numbers (ad_cons (ed_ix (ed_var 2) ed_int) (ad_cons (ed_var 0) ad_nil))) (ed_one (ed_call C__law_meets hr (by rfl) T.g__law_meets T.F__law_meets.kp T.b__law_meets (ad_cons (ed_var 1) (ad_cons (ed_ix (ed_var 2) ed_int) ad_nil))))))) sd_nil)
  (sd_one (sd_ret (ed_and (ed_eq hr.units (ed_ix (ed_var 2) ed_int) ed_str) (ed_one (ed_call C__law_is_short_ring hr (by rfl) T.g__law_is_short_ring T.F__law_is_short_ring.kp T.b__law_is_short_ring (ad_cons (ed_var 1) (ad_cons (ed_ix (ed_var 2) ed_int) ad_nil)))))))))
theorem wk__law_bound (T : Txt K mg) {S : DSp} (m : MonoS S) (kp : Keeps 3 (rd__law_bound) S) : FnD P w K mg base 1 T.f__law_bound T.d__law_bound ["base", "rate", "x"] S := by
  refine fn_d (N := ["base", "rate", "x"]) T.F__law_bound sc__law_bound (by decide) m kp fun cdv A outer s H E hr => ?_
  have nd : (["base", "rate", "x"] : List Str).Nodup := sc__law_bound.nd
  exact (sd_cons (sd_if (td_is (ed_var 0) ed_non) (sd_one (sd_ret ed_non)) sd_nil)
  (sd_one (sd_ret (ed_add (ed_var 0) (ed_mul (ed_var 2) (ed_var 1))))))
theorem wk__law_tagged (T : Txt K mg) {S : DSp} (m : MonoS S) (kp : Keeps 3 (rd__law_tagged) S) : FnD P w K mg base 1 T.f__law_tagged T.d__law_tagged ["paper", "tag", "length"] S := by
  refine fn_d (N := ["paper", "tag", "length"]) T.F__law_tagged sc__law_tagged (by decide) m kp fun cdv A outer s H E hr => ?_
  have nd : (["paper", "tag", "length"] : List Str).Nodup := sc__law_tagged.nd
  exact (sd_one (sd_ret (ed_and (ed_isTup (by rfl) T.z_isinstance (by rfl) T.z_tuple (ed_var 0)) (ed_and (ed_eq hr.units (ed_len (by rfl) T.z_len (ed_var 0)) (ed_var 2)) (ed_and (ed_isStr (by rfl) T.z_isinstance (by rfl) T.z_str (ed_ix (ed_var 0) ed_int)) (ed_one (ed_eq hr.units (ed_ix (ed_var 0) ed_int) (ed_var 1))))))))
theorem wk__law_unlike (T : Txt K mg) {S : DSp} (m : MonoS S) (kp : Keeps 3 (rd__law_unlike) S) : FnD P w K mg base 1 T.f__law_unlike T.d__law_unlike ["numbers"] S := by
  refine fn_d (N := ["numbers", "result", "number"]) T.F__law_unlike sc__law_unlike (by decide) m kp fun cdv A outer s H E hr => ?_
  have nd : (["numbers", "result", "number"] : List Str).Nodup := sc__law_unlike.nd
  exact (sd_cons (sd_own 1 nd (ed_lst ad_nil))
  (sd_cons (sd_forL (vs := [2]) PassesOwn.never rfl (ed_sorted (by rfl) T.z_sorted (ed_var 0)) (gd_name 2 nd) (sd_one (sd_if (WD.td (wd_or (td_eq hr.units (ed_len (by rfl) T.z_len (ed_var 1)) ed_int) (wd_or1 (td_ne hr.units (ed_ix (ed_var 1) (ed_neg ed_int)) (ed_var 2))))) (sd_one (sd_app 1 (pv 1) (ed_var 2))) sd_nil)))
  (sd_one (sd_ret (ed_var 1)))))
theorem wk__law_place (T : Txt K mg) {S : DSp} (m : MonoS S) (kp : Keeps 3 (rd__law_place) S) : FnD P w K mg base 1 T.f__law_place T.d__law_place ["note", "count"] S := by
  refine fn_d (N := ["note", "count", "octave"]) T.F__law_place sc__law_place (by decide) m kp fun cdv A outer s H E hr => ?_
  have nd : (["note", "count", "octave"] : List Str).Nodup := sc__law_place.nd
  exact (sd_cons (sd_set 2 nd (ed_div (ed_var 0) (ed_var 1)))
  (sd_one (sd_ret (ed_tup (ad_cons (ed_sub (ed_var 0) (ed_mul (ed_var 1) (ed_var 2))) (ad_cons (ed_var 2) ad_nil))))))
theorem wk__law_pairs (T : Txt K mg) {S : DSp} (m : MonoS S) (kp : Keeps 8 (rd__law_pairs) S) : FnD P w K mg base 1 T.f__law_pairs T.d__law_pairs ["chord", "tastes"] S := by
  refine fn_d (N := ["chord", "tastes", "result", "low", "high", "width", "least", "most"]) T.F__law_pairs sc__law_pairs (by decide) m kp fun cdv A outer s H E hr => ?_
  have nd : (["chord", "tastes", "result", "low", "high", "width", "least", "most"] : List Str).Nodup := sc__law_pairs.nd
  exact (sd_cons (sd_own 2 nd (ed_lst ad_nil))
  (sd_cons (sd_forL (vs := [3]) PassesOwn.never rfl (ed_var 0) (gd_name 3 nd) (sd_one (sd_forL (vs := [4]) PassesOwn.never rfl (ed_var 0) (gd_name 4 nd) (sd_one (sd_forL (vs := [5, 6, 7]) PassesOwn.never rfl (ed_var 1) (gd_tup rfl (gds_cons (gd_name 5 nd) (gds_cons (gd_name 6 nd) (gds_cons (gd_name 7 nd) gds_nil)))) (sd_one (sd_if (WD.td (wd_and (td_lt (ed_var 3) (ed_var 4)) (wd_and1 (td_eq hr.units (ed_sub (ed_var 4) (ed_var 3)) (ed_var 5))))) (sd_one (sd_app 2 (pv 2) (ed_tup (ad_cons (ed_var 3) (ad_cons (ed_var 4) (ad_cons (ed_var 6) (ad_cons (ed_var 7) ad_nil))))))) sd_nil)))))))
  (sd_one (sd_ret (ed_var 2)))))
theorem wk__law_placed (T : Txt K mg) {S__law_pairs : DSp} (G__law_pairs : FnD P w K mg base 1 T.f__law_pairs T.d__law_pairs ["chord", "tastes"] S__law_pairs) {S__law_place : DSp} (G__law_place : FnD P w K mg base 1 T.f__law_place T.d__law_place ["note", "count"] S__law_place) {S : DSp} (m : MonoS S) (kp : Keeps 9 (rd__law_placed S__law_pairs S__law_place) S) : FnD P w K mg base 2 T.f__law_placed T.d__law_placed ["count", "piece", "tastes"] S := by
  refine fn_d (N := ["count", "piece", "tastes", "result", "chord", "low", "high", "least", "most"]) T.F__law_placed sc__law_placed (by decide) m kp fun cdv A outer s H E hr => ?_
  have nd : (["count", "piece", "tastes", "result", "chord", "low", "high", "least", "most"] : List Str).Nodup := sc__law_placed.nd
  have C__law_pairs : FnD P w K mg base 1 T.f__law_pairs T.d__law_pairs ["chord", "tastes"] S__law_pairs := G__law_pairs.up (by decide)
  have C__law_place : FnD P w K mg base 1 T.f__law_place T.d__law_place ["note", "count"] S__law_place := G__law_place.up (by decide)
  exact (sd_cons (sd_own 3 nd (ed_lst ad_nil))
  (sd_cons (sd_forL (vs := [4]) PassesOwn.never rfl (ed_var 1) (gd_name 4 nd) (sd_one (sd_forL (vs := [5, 6, 7, 8]) PassesOwn.never rfl (ed_call C__law_pairs hr (by rfl) T.g__law_pairs T.F__law_pairs.kp T.b__law_pairs (ad_cons (ed_var 4) (ad_cons (ed_var 2) ad_nil))) (gd_tup rfl (gds_cons (gd_name 5 nd) (gds_cons (gd_name 6 nd) (gds_cons (gd_name 7 nd) (gds_cons (gd_name 8 nd) gds_nil))))) (sd_one (sd_app 3 (pv 3) (ed_tup (ad_cons (ed_call C__law_place hr (by rfl) T.g__law_place T.F__law_place.kp T.b__law_place (ad_cons (ed_var 5) (ad_cons (ed_var 0) ad_nil))) (ad_cons (ed_call C__law_place hr (by rfl) T.g__law_place T.F__law_place.kp T.b__law_place (ad_cons (ed_var 6) (ad_cons (ed_var 0) ad_nil))) (ad_cons (ed_var 7) (ad_cons (ed_var 8) ad_nil))))))))))
  (sd_one (sd_ret (ed_var 3)))))
theorem wk__law_same_placed (T : Txt K mg) {S__law_same_row : DSp} (G__law_same_row : FnD P w K mg base 2 T.f__law_same_row T.d__law_same_row ["found", "due"] S__law_same_row) {S : DSp} (m : MonoS S) (kp : Keeps 3 (rd__law_same_placed S__law_same_row) S) : FnD P w K mg base 3 T.f__law_same_placed T.d__law_same_placed ["found", "due"] S := by
  refine fn_d (N := ["found", "due", "at"]) T.F__law_same_placed sc__law_same_placed (by decide) m kp fun cdv A outer s H E hr => ?_
  have nd : (["found", "due", "at"] : List Str).Nodup := sc__law_same_placed.nd
  have C__law_same_row : FnD P w K mg base 2 T.f__law_same_row T.d__law_same_row ["found", "due"] S__law_same_row := G__law_same_row.up (by decide)
  exact (sd_cons (sd_if (WD.td (wd_or (td_not (td_val (ed_isList (by rfl) T.z_isinstance (by rfl) T.z_list (ed_var 0)))) (wd_or1 (td_ne hr.units (ed_len (by rfl) T.z_len (ed_var 0)) (ed_len (by rfl) T.z_len (ed_var 1)))))) (sd_one (sd_ret ed_bl)) sd_nil)
  (sd_cons (sd_forR1 (vs := [2]) PassesOwn.never rfl (by rfl) T.z_range (ed_len (by rfl) T.z_len (ed_var 1)) (gd_name 2 nd) (sd_cons (sd_if (WD.td (wd_or (td_not (td_val (ed_isTup (by rfl) T.z_isinstance (by rfl) T.z_tuple (ed_ix (ed_var 0) (ed_var 2))))) (wd_or (td_ne hr.units (ed_len (by rfl) T.z_len (ed_ix (ed_var 0) (ed_var 2))) ed_int) (wd_or1 (td_not (td_val (ed_call C__law_same_row hr (by rfl) T.g__law_same_row T.F__law_same_row.kp T.b__law_same_row (ad_cons (ed_sl (ed_ix (ed_var 0) (ed_var 2)) (od_some ed_int) od_none) (ad_cons (ed_sl (ed_ix (ed_var 1) (ed_var 2)) (od_some ed_int) od_none) ad_nil))))))))) (sd_one (sd_ret ed_bl)) sd_nil)
  (sd_one (sd_if (WD.td (wd_or (td_not (td_val (ed_call C__law_same_row hr (by rfl) T.g__law_same_row T.F__law_same_row.kp T.b__law_same_row (ad_cons (ed_ix (ed_ix (ed_var 0) (ed_var 2)) ed_int) (ad_cons (ed_ix (ed_ix (ed_var 1) (ed_var 2)) ed_int) ad_nil))))) (wd_or1 (td_not (td_val (ed_call C__law_same_row hr (by rfl) T.g__law_same_row T.F__law_same_row.kp T.b__law_same_row (ad_cons (ed_ix (ed_ix (ed_var 0) (ed_var 2)) ed_int) (ad_cons (ed_ix (ed_ix (ed_var 1) (ed_var 2)) ed_int) ad_nil)))))))) (sd_one (sd_ret ed_bl)) sd_nil))))
  (sd_one (sd_ret ed_bl))))
theorem wk__law_note_pitch (T : Txt K mg) {S__law_place : DSp} (G__law_place : FnD P w K mg base 1 T.f__law_place T.d__law_place ["note", "count"] S__law_place) {S : DSp} (m : MonoS S) (kp : Keeps 4 (rd__law_note_pitch S__law_place) S) : FnD P w K mg base 2 T.f__law_note_pitch T.d__law_note_pitch ["tuning", "period", "note"] S := by
  refine fn_d (N := ["tuning", "period", "note", "place"]) T.F__law_note_pitch sc__law_note_pitch (by decide) m kp fun cdv A outer s H E hr => ?_
  have nd : (["tuning", "period", "note", "place"] : List Str).Nodup := sc__law_note_pitch.nd
  have C__law_place : FnD P w K mg base 1 T.f__law_place T.d__law_place ["note", "count"] S__law_place := G__law_place.up (by decide)
  exact (sd_cons (sd_set 3 nd (ed_call C__law_place hr (by rfl) T.g__law_place T.F__law_place.kp T.b__law_place (ad_cons (ed_var 2) (ad_cons (ed_len (by rfl) T.z_len (ed_var 0)) ad_nil))))
  (sd_one (sd_ret (ed_add (ed_ix (ed_var 0) (ed_ix (ed_var 3) ed_int)) (ed_mul (ed_var 1) (ed_ix (ed_var 3) ed_int))))))
theorem wk__law_piece_world (T : Txt K mg) {S__law_note_pitch : DSp} (G__law_note_pitch : FnD P w K mg base 2 T.f__law_note_pitch T.d__law_note_pitch ["tuning", "period", "note"] S__law_note_pitch) {S__law_unlike : DSp} (G__law_unlike : FnD P w K mg base 1 T.f__law_unlike T.d__law_unlike ["numbers"] S__law_unlike) {S : DSp} (m : MonoS S) (kp : Keeps 16 (rd__law_piece_world S__law_note_pitch S__law_unlike) S) : FnD P w K mg base 3 T.f__law_piece_world T.d__law_piece_world ["draws"] S := by
  refine fn_d (N := ["draws", "count", "unit", "period", "hidden", "k", "tastes", "width", "taste", "low", "apart", "least", "most", "base", "piece", "i"]) T.F__law_piece_world sc__law_piece_world (by decide) m kp fun cdv A outer s H E hr => ?_
  have nd : (["draws", "count", "unit", "period", "hidden", "k", "tastes", "width", "taste", "low", "apart", "least", "most", "base", "piece", "i"] : List Str).Nodup := sc__law_piece_world.nd
  have C__law_note_pitch : FnD P w K mg base 2 T.f__law_note_pitch T.d__law_note_pitch ["tuning", "period", "note"] S__law_note_pitch := G__law_note_pitch.up (by decide)
  have C__law_unlike : FnD P w K mg base 2 T.f__law_unlike T.d__law_unlike ["numbers"] S__law_unlike := G__law_unlike.up (by decide)
  exact (sd_cons (sd_set 1 nd (ed_add ed_int (ed_mod (ed_ix (ed_var 0) ed_int) ed_int)))
  (sd_cons (sd_set 2 nd ed_int)
  (sd_cons (sd_set 3 nd (ed_add ed_int (ed_mod (ed_div (ed_ix (ed_var 0) ed_int) ed_int) ed_int)))
  (sd_cons (sd_if (td_eq hr.units (ed_mod (ed_ix (ed_var 0) ed_int) ed_int) ed_int) (sd_cons (sd_set 2 nd (ed_add (ed_pow ed_int ed_int) (ed_ix (ed_var 0) ed_int)))
  (sd_one (sd_set 3 nd (ed_add (ed_pow ed_int ed_int) (ed_mul (ed_ix (ed_var 0) ed_int) (ed_pow ed_int ed_int)))))) sd_nil)
  (sd_cons (sd_if (td_eq hr.units (ed_mod (ed_ix (ed_var 0) ed_int) ed_int) ed_int) (sd_one (sd_set 1 nd (ed_add ed_int (ed_mod (ed_ix (ed_var 0) ed_int) ed_int)))) sd_nil)
  (sd_cons (sd_setLc 4 [("k", 5)] rfl nd (pid_R1 false (by rfl) T.z_range (ed_var 1)) (blkOk_by (own := [("k", 5)]) (N := ["draws", "count", "unit", "period", "hidden", "k", "tastes", "width", "taste", "low", "apart", "least", "most", "base", "piece", "i"]) (sc := defScope st__law_piece_world) (by decide +kernel)) (fun _ _ _ _ _ => (gd_name 5 nd)) (fun _ _ _ _ _ => ptd_nil) (fun _ _ _ _ _ => (ed_mul (ed_add (ed_sub (ed_mod (ed_ix (ed_var 0) (ed_add ed_int (ed_mod (ed_var 5) ed_int))) ed_int) ed_int) (ed_div (ed_var 5) ed_int)) (ed_var 2))) (sw_true rfl rfl rfl (by decide +kernel)))
  (sd_cons (sd_own 6 nd (ed_lst ad_nil))
  (sd_cons (sd_forR1 (vs := [5]) PassesOwn.never rfl (by rfl) T.z_range (ed_mod (ed_ix (ed_var 0) ed_int) ed_int) (gd_name 5 nd) (sd_cons (sd_set 7 nd (ed_add ed_int (ed_mod (ed_ix (ed_var 0) (ed_add ed_int (ed_var 5))) ed_int)))
  (sd_one (sd_if (td_notIn (hu65 hr) (ed_var 7) (ed_lc [("taste", 8)] rfl nd (pid_L false (ed_var 6)) (blkOk_by (own := [("taste", 8)]) (N := ["draws", "count", "unit", "period", "hidden", "k", "tastes", "width", "taste", "low", "apart", "least", "most", "base", "piece", "i"]) (sc := defScope st__law_piece_world) (by decide +kernel)) (fun _ _ _ _ _ => (gd_name 8 nd)) (fun _ _ _ _ _ => ptd_nil) (fun _ _ _ _ _ => (ed_ix (ed_var 8) ed_int)))) (sd_cons (sd_set 9 nd (ed_mod (ed_ix (ed_var 0) (ed_add ed_int (ed_var 5))) ed_int))
  (sd_cons (sd_set 10 nd (ed_sub (ed_call C__law_note_pitch hr (by rfl) T.g__law_note_pitch T.F__law_note_pitch.kp T.b__law_note_pitch (ad_cons (ed_var 4) (ad_cons (ed_var 3) (ad_cons (ed_add (ed_var 9) (ed_var 7)) ad_nil)))) (ed_call C__law_note_pitch hr (by rfl) T.g__law_note_pitch T.F__law_note_pitch.kp T.b__law_note_pitch (ad_cons (ed_var 4) (ad_cons (ed_var 3) (ad_cons (ed_var 9) ad_nil))))))
  (sd_cons (sd_set 11 nd (ed_sub (ed_var 10) (ed_mod (ed_ix (ed_var 0) (ed_add ed_int (ed_var 5))) (ed_mul ed_int (ed_var 2)))))
  (sd_cons (sd_set 12 nd (ed_add (ed_var 10) (ed_mod (ed_ix (ed_var 0) (ed_add ed_int (ed_var 5))) (ed_mul ed_int (ed_var 2)))))
  (sd_cons (sd_if (td_eq hr.units (ed_mod (ed_ix (ed_var 0) ed_int) ed_int) ed_int) (sd_cons (sd_set 11 nd (ed_sub (ed_add (ed_var 10) (ed_mod (ed_ix (ed_var 0) (ed_add ed_int (ed_var 5))) ed_int)) ed_int))
  (sd_one (sd_set 12 nd (ed_add (ed_var 11) (ed_mod (ed_ix (ed_var 0) (ed_add ed_int (ed_var 5))) ed_int))))) sd_nil)
  (sd_cons (sd_if (td_eq hr.units (ed_mod (ed_ix (ed_var 0) (ed_add ed_int (ed_var 5))) ed_int) ed_int) (sd_one (sd_set 11 nd ed_non)) sd_nil)
  (sd_cons (sd_if (td_eq hr.units (ed_mod (ed_ix (ed_var 0) (ed_add ed_int (ed_var 5))) ed_int) ed_int) (sd_one (sd_set 12 nd ed_non)) sd_nil)
  (sd_one (sd_app 6 (pv 6) (ed_tup (ad_cons (ed_var 7) (ad_cons (ed_var 11) (ad_cons (ed_var 12) ad_nil))))))))))))) sd_nil))))
  (sd_cons (sd_set 13 nd ed_int)
  (sd_cons (sd_if (td_eq hr.units (ed_mod (ed_div (ed_ix (ed_var 0) ed_int) ed_int) ed_int) ed_int) (sd_one (sd_set 13 nd (ed_sub (ed_ix (ed_var 0) ed_int) ed_int))) sd_nil)
  (sd_cons (sd_own 14 nd (ed_lst ad_nil))
  (sd_cons (sd_forR1 (vs := [5]) PassesOwn.never rfl (by rfl) T.z_range (ed_mod (ed_ix (ed_var 0) ed_int) ed_int) (gd_name 5 nd) (sd_one (sd_app 14 (pv 14) (ed_call C__law_unlike hr (by rfl) T.g__law_unlike T.F__law_unlike.kp T.b__law_unlike (ad_cons (ed_lc [("i", 15)] rfl nd (pid_R1 false (by rfl) T.z_range (ed_mod (ed_ix (ed_var 0) (ed_add ed_int (ed_var 5))) ed_int)) (blkOk_by (own := [("i", 15)]) (N := ["draws", "count", "unit", "period", "hidden", "k", "tastes", "width", "taste", "low", "apart", "least", "most", "base", "piece", "i"]) (sc := defScope st__law_piece_world) (by decide +kernel)) (fun _ _ _ _ _ => (gd_name 15 nd)) (fun _ _ _ _ _ => ptd_nil) (fun _ _ _ _ _ => (ed_sub (ed_add (ed_var 13) (ed_mod (ed_ix (ed_var 0) (ed_add (ed_add ed_int (ed_mul ed_int (ed_var 5))) (ed_var 15))) ed_int)) ed_int))) ad_nil)))))
  (sd_one (sd_frz 6 (sd_frz 14 (sd_ret (ed_tup (ad_cons (ed_var 1) (ad_cons (ed_var 3) (ad_cons (ed_var 4) (ad_cons (ed_var 14) (ad_cons (ed_var 6) ad_nil))))))))))))))))))))))
theorem wk__law_breaches (T : Txt K mg) {S__law_pairs : DSp} (G__law_pairs : FnD P w K mg base 1 T.f__law_pairs T.d__law_pairs ["chord", "tastes"] S__law_pairs) {S__law_note_pitch : DSp} (G__law_note_pitch : FnD P w K mg base 2 T.f__law_note_pitch T.d__law_note_pitch ["tuning", "period", "note"] S__law_note_pitch) {S : DSp} (m : MonoS S) (kp : Keeps 11 (rd__law_breaches S__law_pairs S__law_note_pitch) S) : FnD P w K mg base 3 T.f__law_breaches T.d__law_breaches ["period", "tuning", "piece", "tastes"] S := by
  refine fn_d (N := ["period", "tuning", "piece", "tastes", "result", "at", "low", "high", "least", "most", "apart"]) T.F__law_breaches sc__law_breaches (by decide) m kp fun cdv A outer s H E hr => ?_
  have nd : (["period", "tuning", "piece", "tastes", "result", "at", "low", "high", "least", "most", "apart"] : List Str).Nodup := sc__law_breaches.nd
  have C__law_pairs : FnD P w K mg base 2 T.f__law_pairs T.d__law_pairs ["chord", "tastes"] S__law_pairs := G__law_pairs.up (by decide)
  have C__law_note_pitch : FnD P w K mg base 2 T.f__law_note_pitch T.d__law_note_pitch ["tuning", "period", "note"] S__law_note_pitch := G__law_note_pitch.up (by decide)
  exact (sd_cons (sd_own 4 nd (ed_lst ad_nil))
  (sd_cons (sd_forR1 (vs := [5]) PassesOwn.never rfl (by rfl) T.z_range (ed_len (by rfl) T.z_len (ed_var 2)) (gd_name 5 nd) (sd_one (sd_forL (vs := [6, 7, 8, 9]) PassesOwn.never rfl (ed_call C__law_pairs hr (by rfl) T.g__law_pairs T.F__law_pairs.kp T.b__law_pairs (ad_cons (ed_ix (ed_var 2) (ed_var 5)) (ad_cons (ed_var 3) ad_nil))) (gd_tup rfl (gds_cons (gd_name 6 nd) (gds_cons (gd_name 7 nd) (gds_cons (gd_name 8 nd) (gds_cons (gd_name 9 nd) gds_nil))))) (sd_cons (sd_set 10 nd (ed_sub (ed_call C__law_note_pitch hr (by rfl) T.g__law_note_pitch T.F__law_note_pitch.kp T.b__law_note_pitch (ad_cons (ed_var 1) (ad_cons (ed_var 0) (ad_cons (ed_var 7) ad_nil)))) (ed_call C__law_note_pitch hr (by rfl) T.g__law_note_pitch T.F__law_note_pitch.kp T.b__law_note_pitch (ad_cons (ed_var 1) (ad_cons (ed_var 0) (ad_cons (ed_var 6) ad_nil))))))
  (sd_one (sd_if (WD.td (wd_or (WD.td (wd_and (td_isNot (ed_var 8) ed_non) (wd_and1 (td_lt (ed_var 10) (ed_var 8))))) (wd_or1 (WD.td (wd_and (td_isNot (ed_var 9) ed_non) (wd_and1 (td_gt (ed_var 10) (ed_var 9)))))))) (sd_one (sd_app 4 (pv 4) (ed_tup (ad_cons (ed_var 5) (ad_cons (ed_var 6) (ad_cons (ed_var 7) (ad_cons (ed_var 10) ad_nil))))))) sd_nil))))))
  (sd_one (sd_ret (ed_var 4)))))
theorem wk__law_plain (T : Txt K mg) {S__law_bound : DSp} (G__law_bound : FnD P w K mg base 1 T.f__law_bound T.d__law_bound ["base", "rate", "x"] S__law_bound) {S : DSp} (m : MonoS S) (kp : Keeps 8 (rd__law_plain S__law_bound) S) : FnD P w K mg base 2 T.f__law_plain T.d__law_plain ["placed", "period"] S := by
  refine fn_d (N := ["placed", "period", "result", "low", "high", "least", "most", "apart"]) T.F__law_plain sc__law_plain (by decide) m kp fun cdv A outer s H E hr => ?_
  have nd : (["placed", "period", "result", "low", "high", "least", "most", "apart"] : List Str).Nodup := sc__law_plain.nd
  have C__law_bound : FnD P w K mg base 1 T.f__law_bound T.d__law_bound ["base", "rate", "x"] S__law_bound := G__law_bound.up (by decide)
  exact (sd_cons (sd_own 2 nd (ed_lst ad_nil))
  (sd_cons (sd_forL (vs := [3, 4, 5, 6]) PassesOwn.never rfl (ed_var 0) (gd_tup rfl (gds_cons (gd_name 3 nd) (gds_cons (gd_name 4 nd) (gds_cons (gd_name 5 nd) (gds_cons (gd_name 6 nd) gds_nil))))) (sd_cons (sd_set 7 nd (ed_sub (ed_ix (ed_var 4) ed_int) (ed_ix (ed_var 3) ed_int)))
  (sd_one (sd_app 2 (pv 2) (ed_tup (ad_cons (ed_ix (ed_var 3) ed_int) (ad_cons (ed_ix (ed_var 4) ed_int) (ad_cons (ed_call C__law_bound hr (by rfl) T.g__law_bound T.F__law_bound.kp T.b__law_bound (ad_cons (ed_var 5) (ad_cons (ed_neg (ed_var 7)) (ad_cons (ed_var 1) ad_nil)))) (ad_cons (ed_call C__law_bound hr (by rfl) T.g__law_bound T.F__law_bound.kp T.b__law_bound (ad_cons (ed_var 6) (ad_cons (ed_neg (ed_var 7)) (ad_cons (ed_var 1) ad_nil)))) ad_nil)))))))))
  (sd_one (sd_ret (ed_var 2)))))
theorem wk__law_moves_placed (T : Txt K mg) {S__law_placed : DSp} (G__law_placed : FnD P w K mg base 2 T.f__law_placed T.d__law_placed ["count", "piece", "tastes"] S__law_placed) {S : DSp} (m : MonoS S) (kp : Keeps 8 (rd__law_moves_placed S__law_placed) S) : FnD P w K mg base 3 T.f__law_moves_placed T.d__law_moves_placed ["count", "piece", "tastes", "moves"] S := by
  refine fn_d (N := ["count", "piece", "tastes", "moves", "result", "by", "note", "chord"]) T.F__law_moves_placed sc__law_moves_placed (by decide) m kp fun cdv A outer s H E hr => ?_
  have nd : (["count", "piece", "tastes", "moves", "result", "by", "note", "chord"] : List Str).Nodup := sc__law_moves_placed.nd
  have C__law_placed : FnD P w K mg base 2 T.f__law_placed T.d__law_placed ["count", "piece", "tastes"] S__law_placed := G__law_placed.up (by decide)
  exact (sd_cons (sd_set 4 nd (ed_lst ad_nil))
  (sd_cons (sd_forL (vs := [5]) PassesOwn.never rfl (ed_var 3) (gd_name 5 nd) (sd_one (sd_set 4 nd (ed_add (ed_var 4) (ed_call C__law_placed hr (by rfl) T.g__law_placed T.F__law_placed.kp T.b__law_placed (ad_cons (ed_var 0) (ad_cons (ed_lc [("chord", 7)] rfl nd (pid_L false (ed_var 1)) (blkOk_by (own := [("chord", 7)]) (N := ["count", "piece", "tastes", "moves", "result", "by", "note", "chord"]) (sc := defScope st__law_moves_placed) (by decide +kernel)) (fun _ _ _ _ _ => (gd_name 7 nd)) (fun _ _ _ _ _ => ptd_nil) (fun _ _ _ _ _ => (ed_lc [("note", 6)] rfl nd (pid_L false (ed_var 7)) (blkOk_in (own := [("note", 6)]) (N := ["count", "piece", "tastes", "moves", "result", "by", "note", "chord"]) (defScope st__law_moves_placed) rfl (by decide +kernel)) (fun _ _ _ _ _ => (gd_name 6 nd)) (fun _ _ _ _ _ => ptd_nil) (fun _ _ _ _ _ => (ed_add (ed_var 6) (ed_var 5)))))) (ad_cons (ed_var 2) ad_nil))))))))
  (sd_one (sd_ret (ed_var 4)))))
theorem wk__law_sounds_well (T : Txt K mg) {S__law_breaches : DSp} (G__law_breaches : FnD P w K mg base 3 T.f__law_breaches T.d__law_breaches ["period", "tuning", "piece", "tastes"] S__law_breaches) {S_breaches : DSp} (G_breaches : FnD P w K mg base 3 T.f_breaches T.d_breaches ["count", "period", "tuning", "piece", "tastes"] S_breaches) {S_moved : DSp} (G_moved : FnD P w K mg base 1 T.f_moved T.d_moved ["piece", "by"] S_moved) {S : DSp} (m : MonoS S) (kp : Keeps 8 (rd__law_sounds_well S__law_breaches S_breaches S_moved) S) : FnD P w K mg base 4 T.f__law_sounds_well T.d__law_sounds_well ["period", "tuning", "piece", "tastes", "moves"] S := by
  refine fn_d (N := ["period", "tuning", "piece", "tastes", "moves", "by", "note", "chord"]) T.F__law_sounds_well sc__law_sounds_well (by decide) m kp fun cdv A outer s H E hr => ?_
  have nd : (["period", "tuning", "piece", "tastes", "moves", "by", "note", "chord"] : List Str).Nodup := sc__law_sounds_well.nd
  have C__law_breaches : FnD P w K mg base 3 T.f__law_breaches T.d__law_breaches ["period", "tuning", "piece", "tastes"] S__law_breaches := G__law_breaches.up (by decide)
  have C_breaches : FnD P w K mg base 3 T.f_breaches T.d_breaches ["count", "period", "tuning", "piece", "tastes"] S_breaches := G_breaches.up (by decide)
  have C_moved : FnD P w K mg base 3 T.f_moved T.d_moved ["piece", "by"] S_moved := G_moved.up (by decide)
  exact (sd_cons (sd_forL (vs := [5]) PassesOwn.never rfl (ed_var 4) (gd_name 5 nd) (sd_cons (sd_if (td_gt (ed_len (by rfl) T.z_len (ed_call C__law_breaches hr (by rfl) T.g__law_breaches T.F__law_breaches.kp T.b__law_breaches (ad_cons (ed_var 0) (ad_cons (ed_var 1) (ad_cons (ed_lc [("chord", 7)] rfl nd (pid_L false (ed_var 2)) (blkOk_by (own := [("chord", 7)]) (N := ["period", "tuning", "piece", "tastes", "moves", "by", "note", "chord"]) (sc := defScope st__law_sounds_well) (by decide +kernel)) (fun _ _ _ _ _ => (gd_name 7 nd)) (fun _ _ _ _ _ => ptd_nil) (fun _ _ _ _ _ => (ed_lc [("note", 6)] rfl nd (pid_L false (ed_var 7)) (blkOk_in (own := [("note", 6)]) (N := ["period", "tuning", "piece", "tastes", "moves", "by", "note", "chord"]) (defScope st__law_sounds_well) rfl (by decide +kernel)) (fun _ _ _ _ _ => (gd_name 6 nd)) (fun _ _ _ _ _ => ptd_nil) (fun _ _ _ _ _ => (ed_add (ed_var 6) (ed_var 5)))))) (ad_cons (ed_var 3) ad_nil)))))) ed_int) (sd_one (sd_ret ed_bl)) sd_nil)
  (sd_one (sd_if (td_gt (ed_len (by rfl) T.z_len (ed_call C_breaches hr (by rfl) T.g_breaches T.F_breaches.kp T.b_breaches (ad_cons (ed_len (by rfl) T.z_len (ed_var 1)) (ad_cons (ed_var 0) (ad_cons (ed_toList (by rfl) T.z_list (ed_var 1)) (ad_cons (ed_call C_moved hr (by rfl) T.g_moved T.F_moved.kp T.b_moved (ad_cons (ed_var 2) (ad_cons (ed_var 5) ad_nil))) (ad_cons (ed_toList (by rfl) T.z_list (ed_var 3)) ad_nil))))))) ed_int) (sd_one (sd_ret ed_bl)) sd_nil))))
  (sd_one (sd_ret ed_bl)))
theorem wk__law_is_right (T : Txt K mg) {S__law_tagged : DSp} (G__law_tagged : FnD P w K mg base 1 T.f__law_tagged T.d__law_tagged ["paper", "tag", "length"] S__law_tagged) {S__law_is_numbers : DSp} (G__law_is_numbers : FnD P w K mg base 2 T.f__law_is_numbers T.d__law_is_numbers ["value", "size"] S__law_is_numbers) {S__law_sounds_well : DSp} (G__law_sounds_well : FnD P w K mg base 4 T.f__law_sounds_well T.d__law_sounds_well ["period", "tuning", "piece", "tastes", "moves"] S__law_sounds_well) {S__law_is_number : DSp} (G__law_is_number : FnD P w K mg base 1 T.f__law_is_number T.d__law_is_number ["value"] S__law_is_number) {S__law_plain : DSp} (G__law_plain : FnD P w K mg base 2 T.f__law_plain T.d__law_plain ["placed", "period"] S__law_plain) {S__law_moves_placed : DSp} (G__law_moves_placed : FnD P w K mg base 3 T.f__law_moves_placed T.d__law_moves_placed ["count", "piece", "tastes", "moves"] S__law_moves_placed) {S__law_is_short_ring : DSp} (G__law_is_short_ring : FnD P w K mg base 4 T.f__law_is_short_ring T.d__law_is_short_ring ["demands", "ring"] S__law_is_short_ring) {S : DSp} (m : MonoS S) (kp : Keeps 8 (rd__law_is_right_5988 S__law_tagged S__law_is_numbers S__law_sounds_well S__law_is_number S__law_plain S__law_moves_placed S__law_is_short_ring) S) : FnD P w K mg base 5 T.f__law_is_right T.d__law_is_right ["count", "period", "piece", "tastes", "moves", "paper"] S := by
  refine fn_d (N := ["count", "period", "piece", "tastes", "moves", "paper", "many", "demands"]) T.F__law_is_right sc__law_is_right (by decide) m kp fun cdv A outer s H E hr => ?_
  have nd : (["count", "period", "piece", "tastes", "moves", "paper", "many", "demands"] : List Str).Nodup := sc__law_is_right.nd
  have C__law_tagged : FnD P w K mg base 4 T.f__law_tagged T.d__law_tagged ["paper", "tag", "length"] S__law_tagged := G__law_tagged.up (by decide)
  have C__law_is_numbers : FnD P w K mg base 4 T.f__law_is_numbers T.d__law_is_numbers ["value", "size"] S__law_is_numbers := G__law_is_numbers.up (by decide)
  have C__law_sounds_well : FnD P w K mg base 4 T.f__law_sounds_well T.d__law_sounds_well ["period", "tuning", "piece", "tastes", "moves"] S__law_sounds_well := G__law_sounds_well.up (by decide)
  have C__law_is_number : FnD P w K mg base 4 T.f__law_is_number T.d__law_is_number ["value"] S__law_is_number := G__law_is_number.up (by decide)
  have C__law_plain : FnD P w K mg base 4 T.f__law_plain T.d__law_plain ["placed", "period"] S__law_plain := G__law_plain.up (by decide)
  have C__law_moves_placed : FnD P w K mg base 4 T.f__law_moves_placed T.d__law_moves_placed ["count", "piece", "tastes", "moves"] S__law_moves_placed := G__law_moves_placed.up (by decide)
  have C__law_is_short_ring : FnD P w K mg base 4 T.f__law_is_short_ring T.d__law_is_short_ring ["demands", "ring"] S__law_is_short_ring := G__law_is_short_ring.up (by decide)
  exact (sd_cons (sd_if (td_val (ed_call C__law_tagged hr (by rfl) T.g__law_tagged T.F__law_tagged.kp T.b__law_tagged (ad_cons (ed_var 5) (ad_cons ed_str (ad_cons ed_int ad_nil))))) (sd_one (sd_ret (ed_and (ed_call C__law_is_numbers hr (by rfl) T.g__law_is_numbers T.F__law_is_numbers.kp T.b__law_is_numbers (ad_cons (ed_ix (ed_var 5) ed_int) (ad_cons (ed_var 0) ad_nil))) (ed_one (ed_call C__law_sounds_well hr (by rfl) T.g__law_sounds_well T.F__law_sounds_well.kp T.b__law_sounds_well (ad_cons (ed_var 1) (ad_cons (ed_ix (ed_var 5) ed_int) (ad_cons (ed_var 2) (ad_cons (ed_var 3) (ad_cons (ed_var 4) ad_nil)))))))))) sd_nil)
  (sd_cons (sd_if (WD.td (wd_or (td_not (td_val (ed_call C__law_tagged hr (by rfl) T.g__law_tagged T.F__law_tagged.kp T.b__law_tagged (ad_cons (ed_var 5) (ad_cons ed_str (ad_cons ed_int ad_nil)))))) (wd_or (td_not (td_val (ed_call C__law_is_number hr (by rfl) T.g__law_is_number T.F__law_is_number.kp T.b__law_is_number (ad_cons (ed_ix (ed_var 5) ed_int) ad_nil)))) (wd_or (td_lt (ed_ix (ed_var 5) ed_int) ed_int) (wd_or1 (td_ge (ed_ix (ed_var 5) ed_int) (ed_len (by rfl) T.z_len (ed_var 4)))))))) (sd_one (sd_ret ed_bl)) sd_nil)
  (sd_cons (sd_set 6 nd (ed_ix (ed_var 5) ed_int))
  (sd_cons (sd_if (WD.td (wd_or (td_not (td_val (ed_call C__law_is_numbers hr (by rfl) T.g__law_is_numbers T.F__law_is_numbers.kp T.b__law_is_numbers (ad_cons (ed_ix (ed_var 5) ed_int) (ad_cons (ed_var 0) ad_nil))))) (wd_or1 (td_not (td_val (ed_call C__law_sounds_well hr (by rfl) T.g__law_sounds_well T.F__law_sounds_well.kp T.b__law_sounds_well (ad_cons (ed_var 1) (ad_cons (ed_ix (ed_var 5) ed_int) (ad_cons (ed_var 2) (ad_cons (ed_var 3) (ad_cons (ed_sl (ed_var 4) od_none (od_some (ed_var 6))) ad_nil))))))))))) (sd_one (sd_ret ed_bl)) sd_nil)
  (sd_cons (sd_set 7 nd (ed_call C__law_plain hr (by rfl) T.g__law_plain T.F__law_plain.kp T.b__law_plain (ad_cons (ed_call C__law_moves_placed hr (by rfl) T.g__law_moves_placed T.F__law_moves_placed.kp T.b__law_moves_placed (ad_cons (ed_var 0) (ad_cons (ed_var 2) (ad_cons (ed_var 3) (ad_cons (ed_sl (ed_var 4) od_none (od_some (ed_add (ed_var 6) ed_int))) ad_nil))))) (ad_cons (ed_var 1) ad_nil))))
  (sd_one (sd_ret (ed_call C__law_is_short_ring hr (by rfl) T.g__law_is_short_ring T.F__law_is_short_ring.kp T.b__law_is_short_ring (ad_cons (ed_var 7) (ad_cons (ed_ix (ed_var 5) ed_int) ad_nil))))))))))
theorem wk__law_asks_solving (T : Txt K mg) {S_moves_placed : DSp} (G_moves_placed : FnD P w K mg base 4 T.f_moves_placed T.d_moves_placed ["count", "piece", "tastes", "moves"] S_moves_placed) {S__law_moves_placed : DSp} (G__law_moves_placed : FnD P w K mg base 3 T.f__law_moves_placed T.d__law_moves_placed ["count", "piece", "tastes", "moves"] S__law_moves_placed) {S__law_same_placed : DSp} (G__law_same_placed : FnD P w K mg base 3 T.f__law_same_placed T.d__law_same_placed ["found", "due"] S__law_same_placed) {S__law_plain : DSp} (G__law_plain : FnD P w K mg base 2 T.f__law_plain T.d__law_plain ["placed", "period"] S__law_plain) {S_solve : DSp} (G_solve : FnD P w K mg base 6 T.f_solve T.d_solve ["size", "demands"] S_solve) {S_placed_at : DSp} (G_placed_at : FnD P w K mg base 4 T.f_placed_at T.d_placed_at ["placed", "period"] S_placed_at) {S__law_is_answer : DSp} (G__law_is_answer : FnD P w K mg base 5 T.f__law_is_answer T.d__law_is_answer ["size", "demands", "paper"] S__law_is_answer) {S : DSp} (m : MonoS S) (kp : Keeps 11 (rd__law_asks_solving S_moves_placed S__law_moves_placed S__law_same_placed S__law_plain S_solve S_placed_at S__law_is_answer) S) : FnD P w K mg base 7 T.f__law_asks_solving T.d__law_asks_solving ["count", "period", "piece", "tastes", "moves", "many"] S := by
  refine fn_d (N := ["count", "period", "piece", "tastes", "moves", "many", "first", "placed", "due", "demands", "answer"]) T.F__law_asks_solving sc__law_asks_solving (by decide) m kp fun cdv A outer s H E hr => ?_
  have nd : (["count", "period", "piece", "tastes", "moves", "many", "first", "placed", "due", "demands", "answer"] : List Str).Nodup := sc__law_asks_solving.nd
  have C_moves_placed : FnD P w K mg base 6 T.f_moves_placed T.d_moves_placed ["count", "piece", "tastes", "moves"] S_moves_placed := G_moves_placed.up (by decide)
  have C__law_moves_placed : FnD P w K mg base 6 T.f__law_moves_placed T.d__law_moves_placed ["count", "piece", "tastes", "moves"] S__law_moves_placed := G__law_moves_placed.up (by decide)
  have C__law_same_placed : FnD P w K mg base 6 T.f__law_same_placed T.d__law_same_placed ["found", "due"] S__law_same_placed := G__law_same_placed.up (by decide)
  have C__law_plain : FnD P w K mg base 6 T.f__law_plain T.d__law_plain ["placed", "period"] S__law_plain := G__law_plain.up (by decide)
  have C_solve : FnD P w K mg base 6 T.f_solve T.d_solve ["size", "demands"] S_solve := G_solve.up (by decide)
  have C_placed_at : FnD P w K mg base 6 T.f_placed_at T.d_placed_at ["placed", "period"] S_placed_at := G_placed_at.up (by decide)
  have C__law_is_answer : FnD P w K mg base 6 T.f__law_is_answer T.d__law_is_answer ["size", "demands", "paper"] S__law_is_answer := G__law_is_answer.up (by decide)
  exact (sd_cons (sd_forR1 (vs := [6]) PassesOwn.never rfl (by rfl) T.z_range (ed_add (ed_len (by rfl) T.z_len (ed_var 4)) ed_int) (gd_name 6 nd) (sd_cons (sd_set 7 nd (ed_call C_moves_placed hr (by rfl) T.g_moves_placed T.F_moves_placed.kp T.b_moves_placed (ad_cons (ed_var 0) (ad_cons (ed_var 2) (ad_cons (ed_var 3) (ad_cons (ed_sl (ed_var 4) od_none (od_some (ed_var 6))) ad_nil))))))
  (sd_cons (sd_set 8 nd (ed_call C__law_moves_placed hr (by rfl) T.g__law_moves_placed T.F__law_moves_placed.kp T.b__law_moves_placed (ad_cons (ed_var 0) (ad_cons (ed_var 2) (ad_cons (ed_var 3) (ad_cons (ed_sl (ed_var 4) od_none (od_some (ed_var 6))) ad_nil))))))
  (sd_cons (sd_if (td_not (td_val (ed_call C__law_same_placed hr (by rfl) T.g__law_same_placed T.F__law_same_placed.kp T.b__law_same_placed (ad_cons (ed_var 7) (ad_cons (ed_var 8) ad_nil))))) (sd_one (sd_ret ed_bl)) sd_nil)
  (sd_cons (sd_set 9 nd (ed_call C__law_plain hr (by rfl) T.g__law_plain T.F__law_plain.kp T.b__law_plain (ad_cons (ed_var 8) (ad_cons (ed_var 1) ad_nil))))
  (sd_cons (sd_set 10 nd (ed_call C_solve hr (by rfl) T.g_solve T.F_solve.kp T.b_solve (ad_cons (ed_var 0) (ad_cons (ed_call C_placed_at hr (by rfl) T.g_placed_at T.F_placed_at.kp T.b_placed_at (ad_cons (ed_var 7) (ad_cons (ed_var 1) ad_nil))) ad_nil))))
  (sd_one (sd_if (WD.td (wd_or (td_not (td_val (ed_call C__law_is_answer hr (by rfl) T.g__law_is_answer T.F__law_is_answer.kp T.b__law_is_answer (ad_cons (ed_var 0) (ad_cons (ed_var 9) (ad_cons (ed_var 10) ad_nil)))))) (wd_or1 (td_ne hr.units (ed_eq hr.units (ed_ix (ed_var 10) ed_int) ed_str) (ed_le (ed_var 6) (ed_var 5)))))) (sd_one (sd_ret ed_bl)) sd_nil))))))))
  (sd_one (sd_ret ed_bl)))
theorem wk__law_asks_many (T : Txt K mg) {S_longest_moves : DSp} (G_longest_moves : FnD P w K mg base 7 T.f_longest_moves T.d_longest_moves ["count", "period", "piece", "tastes", "moves"] S_longest_moves) {S__law_is_right : DSp} (G__law_is_right : FnD P w K mg base 5 T.f__law_is_right T.d__law_is_right ["count", "period", "piece", "tastes", "moves", "paper"] S__law_is_right) {S_moves_placed : DSp} (G_moves_placed : FnD P w K mg base 4 T.f_moves_placed T.d_moves_placed ["count", "piece", "tastes", "moves"] S_moves_placed) {S__law_same_placed : DSp} (G__law_same_placed : FnD P w K mg base 3 T.f__law_same_placed T.d__law_same_placed ["found", "due"] S__law_same_placed) {S__law_moves_placed : DSp} (G__law_moves_placed : FnD P w K mg base 3 T.f__law_moves_placed T.d__law_moves_placed ["count", "piece", "tastes", "moves"] S__law_moves_placed) {S : DSp} (m : MonoS S) (kp : Keeps 10 (rd__law_asks_many S_longest_moves S__law_is_right S_moves_placed S__law_same_placed S__law_moves_placed) S) : FnD P w K mg base 8 T.f__law_asks_many T.d__law_asks_many ["draws"] S := by
  refine fn_d (N := ["draws", "count", "period", "piece", "tastes", "moves", "k", "paper", "chord", "placed"]) T.F__law_asks_many sc__law_asks_many (by decide) m kp fun cdv A outer s H E hr => ?_
  have nd : (["draws", "count", "period", "piece", "tastes", "moves", "k", "paper", "chord", "placed"] : List Str).Nodup := sc__law_asks_many.nd
  have C_longest_moves : FnD P w K mg base 7 T.f_longest_moves T.d_longest_moves ["count", "period", "piece", "tastes", "moves"] S_longest_moves := G_longest_moves.up (by decide)
  have C__law_is_right : FnD P w K mg base 7 T.f__law_is_right T.d__law_is_right ["count", "period", "piece", "tastes", "moves", "paper"] S__law_is_right := G__law_is_right.up (by decide)
  have C_moves_placed : FnD P w K mg base 7 T.f_moves_placed T.d_moves_placed ["count", "piece", "tastes", "moves"] S_moves_placed := G_moves_placed.up (by decide)
  have C__law_same_placed : FnD P w K mg base 7 T.f__law_same_placed T.d__law_same_placed ["found", "due"] S__law_same_placed := G__law_same_placed.up (by decide)
  have C__law_moves_placed : FnD P w K mg base 7 T.f__law_moves_placed T.d__law_moves_placed ["count", "piece", "tastes", "moves"] S__law_moves_placed := G__law_moves_placed.up (by decide)
  exact (sd_cons (sd_set 1 nd (ed_add ed_int (ed_mod (ed_ix (ed_var 0) ed_int) ed_int)))
  (sd_cons (sd_set 2 nd (ed_sub (ed_add (ed_var 1) (ed_mod (ed_ix (ed_var 0) ed_int) ed_int)) ed_int))
  (sd_cons (sd_set 3 nd (ed_lst (ad_cons (ed_lst (ad_cons ed_int (ad_cons ed_int ad_nil))) (ad_cons (ed_lst (ad_cons (ed_add ed_int (ed_mod (ed_ix (ed_var 0) ed_int) ed_int)) ad_nil)) ad_nil))))
  (sd_cons (sd_set 4 nd (ed_lst (ad_cons (ed_tup (ad_cons ed_int (ad_cons ed_int (ad_cons ed_non ad_nil)))) ad_nil)))
  (sd_cons (sd_setLc 5 [("k", 6)] rfl nd (pid_R1 false (by rfl) T.z_range ed_int) (blkOk_by (own := [("k", 6)]) (N := ["draws", "count", "period", "piece", "tastes", "moves", "k", "paper", "chord", "placed"]) (sc := defScope st__law_asks_many) (by decide +kernel)) (fun _ _ _ _ _ => (gd_name 6 nd)) (fun _ _ _ _ _ => ptd_nil) (fun _ _ _ _ _ => (ed_sub (ed_mod (ed_div (ed_ix (ed_var 0) (ed_add ed_int (ed_mod (ed_var 6) ed_int))) (ed_add ed_int (ed_var 6))) ed_int) ed_int)) (sw_true rfl rfl rfl (by decide +kernel)))
  (sd_cons (sd_set 7 nd (ed_call C_longest_moves hr (by rfl) T.g_longest_moves T.F_longest_moves.kp T.b_longest_moves (ad_cons (ed_var 1) (ad_cons (ed_var 2) (ad_cons (ed_lc [("chord", 8)] rfl nd (pid_L false (ed_var 3)) (blkOk_by (own := [("chord", 8)]) (N := ["draws", "count", "period", "piece", "tastes", "moves", "k", "paper", "chord", "placed"]) (sc := defScope st__law_asks_many) (by decide +kernel)) (fun _ _ _ _ _ => (gd_name 8 nd)) (fun _ _ _ _ _ => ptd_nil) (fun _ _ _ _ _ => (ed_toList (by rfl) T.z_list (ed_var 8)))) (ad_cons (ed_toList (by rfl) T.z_list (ed_var 4)) (ad_cons (ed_toList (by rfl) T.z_list (ed_var 5)) ad_nil)))))))
  (sd_cons (sd_if (td_not (td_val (ed_call C__law_is_right hr (by rfl) T.g__law_is_right T.F__law_is_right.kp T.b__law_is_right (ad_cons (ed_var 1) (ad_cons (ed_var 2) (ad_cons (ed_var 3) (ad_cons (ed_var 4) (ad_cons (ed_var 5) (ad_cons (ed_var 7) ad_nil))))))))) (sd_one (sd_ret ed_bl)) sd_nil)
  (sd_cons (sd_set 9 nd (ed_call C_moves_placed hr (by rfl) T.g_moves_placed T.F_moves_placed.kp T.b_moves_placed (ad_cons (ed_var 1) (ad_cons (ed_lc [("chord", 8)] rfl nd (pid_L false (ed_var 3)) (blkOk_by (own := [("chord", 8)]) (N := ["draws", "count", "period", "piece", "tastes", "moves", "k", "paper", "chord", "placed"]) (sc := defScope st__law_asks_many) (by decide +kernel)) (fun _ _ _ _ _ => (gd_name 8 nd)) (fun _ _ _ _ _ => ptd_nil) (fun _ _ _ _ _ => (ed_toList (by rfl) T.z_list (ed_var 8)))) (ad_cons (ed_toList (by rfl) T.z_list (ed_var 4)) (ad_cons (ed_toList (by rfl) T.z_list (ed_var 5)) ad_nil))))))
  (sd_one (sd_ret (ed_call C__law_same_placed hr (by rfl) T.g__law_same_placed T.F__law_same_placed.kp T.b__law_same_placed (ad_cons (ed_var 9) (ad_cons (ed_call C__law_moves_placed hr (by rfl) T.g__law_moves_placed T.F__law_moves_placed.kp T.b__law_moves_placed (ad_cons (ed_var 1) (ad_cons (ed_var 3) (ad_cons (ed_var 4) (ad_cons (ed_var 5) ad_nil))))) ad_nil)))))))))))))
theorem wk_law (T : Txt K mg) {S__law_draws : DSp} (G__law_draws : FnD P w K mg base 1 T.f__law_draws T.d__law_draws ["script", "many"] S__law_draws) {S__law_piece_world : DSp} (G__law_piece_world : FnD P w K mg base 3 T.f__law_piece_world T.d__law_piece_world ["draws"] S__law_piece_world) {S__law_bound : DSp} (G__law_bound : FnD P w K mg base 1 T.f__law_bound T.d__law_bound ["base", "rate", "x"] S__law_bound) {S_longest_moves : DSp} (G_longest_moves : FnD P w K mg base 7 T.f_longest_moves T.d_longest_moves ["count", "period", "piece", "tastes", "moves"] S_longest_moves) {S__law_is_right : DSp} (G__law_is_right : FnD P w K mg base 5 T.f__law_is_right T.d__law_is_right ["count", "period", "piece", "tastes", "moves", "paper"] S__law_is_right) {S__law_asks_many : DSp} (G__law_asks_many : FnD P w K mg base 8 T.f__law_asks_many T.d__law_asks_many ["draws"] S__law_asks_many) {S__law_asks_solving : DSp} (G__law_asks_solving : FnD P w K mg base 7 T.f__law_asks_solving T.d__law_asks_solving ["count", "period", "piece", "tastes", "moves", "many"] S__law_asks_solving) {S__law_tagged : DSp} (G__law_tagged : FnD P w K mg base 1 T.f__law_tagged T.d__law_tagged ["paper", "tag", "length"] S__law_tagged) {S : DSp} (m : MonoS S) (kp : Keeps 20 (rd_law_900c S__law_draws S__law_piece_world S__law_bound S_longest_moves S__law_is_right S__law_asks_many S__law_asks_solving S__law_tagged) S) : FnG P w K mg base 9 T.f_law T.d_law ["script"] (spD K 1 S) := by
  refine fn_g (N := ["script", "draws", "count", "period", "hidden", "piece", "tastes", "more", "row", "moves", "k", "by", "passed", "chord", "wishes", "asked", "paper", "many", "told", "shorter"]) T.F_law sc_law (by decide) kp fun cdv A outer s H E hgd hr => ?_
  have nd : (["script", "draws", "count", "period", "hidden", "piece", "tastes", "more", "row", "moves", "k", "by", "passed", "chord", "wishes", "asked", "paper", "many", "told", "shorter"] : List Str).Nodup := sc_law.nd
  have C__law_draws : FnD P w K mg base 8 T.f__law_draws T.d__law_draws ["script", "many"] S__law_draws := G__law_draws.up (by decide)
  have C__law_piece_world : FnD P w K mg base 8 T.f__law_piece_world T.d__law_piece_world ["draws"] S__law_piece_world := G__law_piece_world.up (by decide)
  have C__law_bound : FnD P w K mg base 8 T.f__law_bound T.d__law_bound ["base", "rate", "x"] S__law_bound := G__law_bound.up (by decide)
  have C_longest_moves : FnD P w K mg base 8 T.f_longest_moves T.d_longest_moves ["count", "period", "piece", "tastes", "moves"] S_longest_moves := G_longest_moves.up (by decide)
  have C__law_is_right : FnD P w K mg base 8 T.f__law_is_right T.d__law_is_right ["count", "period", "piece", "tastes", "moves", "paper"] S__law_is_right := G__law_is_right.up (by decide)
  have C__law_asks_many : FnD P w K mg base 8 T.f__law_asks_many T.d__law_asks_many ["draws"] S__law_asks_many := G__law_asks_many.up (by decide)
  have C__law_asks_solving : FnD P w K mg base 8 T.f__law_asks_solving T.d__law_asks_solving ["count", "period", "piece", "tastes", "moves", "many"] S__law_asks_solving := G__law_asks_solving.up (by decide)
  have C__law_tagged : FnD P w K mg base 8 T.f__law_tagged T.d__law_tagged ["paper", "tag", "length"] S__law_tagged := G__law_tagged.up (by decide)
  exact (sd_cons (sd_set 1 nd (ed_call C__law_draws hr (by rfl) T.g__law_draws T.F__law_draws.kp T.b__law_draws (ad_cons (ed_var 0) (ad_cons ed_int ad_nil))))
  (sd_cons (sd_asg (vs := [2, 3, 4, 5, 6]) (ed_call C__law_piece_world hr (by rfl) T.g__law_piece_world T.F__law_piece_world.kp T.b__law_piece_world (ad_cons (ed_var 1) ad_nil)) (gd_tup rfl (gds_cons (gd_name 2 nd) (gds_cons (gd_name 3 nd) (gds_cons (gd_name 4 nd) (gds_cons (gd_name 5 nd) (gds_cons (gd_name 6 nd) gds_nil)))))))
  (sd_cons (sd_if (td_eq hr.units (ed_mod (ed_ix (ed_var 1) ed_int) ed_int) ed_int) (sd_cons (sd_set 7 nd (ed_add ed_int (ed_mod (ed_ix (ed_var 1) ed_int) ed_int)))
  (sd_one (sd_setLc 6 [("row", 8)] rfl nd (pid_L false (ed_var 6)) (blkOk_by (own := [("row", 8)]) (N := ["script", "draws", "count", "period", "hidden", "piece", "tastes", "more", "row", "moves", "k", "by", "passed", "chord", "wishes", "asked", "paper", "many", "told", "shorter"]) (sc := defScope st_law) (by decide +kernel)) (fun _ _ _ _ _ => (gd_name 8 nd)) (fun _ _ _ _ _ => ptd_nil) (fun _ _ _ _ _ => (ed_tup (ad_cons (ed_ix (ed_var 8) ed_int) (ad_cons (ed_call C__law_bound hr (by rfl) T.g__law_bound T.F__law_bound.kp T.b__law_bound (ad_cons (ed_ix (ed_var 8) ed_int) (ad_cons (ed_neg ed_int) (ad_cons (ed_var 7) ad_nil)))) (ad_cons (ed_call C__law_bound hr (by rfl) T.g__law_bound T.F__law_bound.kp T.b__law_bound (ad_cons (ed_ix (ed_var 8) ed_int) (ad_cons ed_int (ad_cons (ed_var 7) ad_nil)))) ad_nil))))) (sw_true rfl rfl rfl (by decide +kernel))))) sd_nil)
  (sd_cons (sd_ownLc 9 [("k", 10)] rfl nd (pid_R1 false (by rfl) T.z_range (ed_mod (ed_ix (ed_var 1) ed_int) ed_int)) (blkOk_by (own := [("k", 10)]) (N := ["script", "draws", "count", "period", "hidden", "piece", "tastes", "more", "row", "moves", "k", "by", "passed", "chord", "wishes", "asked", "paper", "many", "told", "shorter"]) (sc := defScope st_law) (by decide +kernel)) (fun _ _ _ _ _ => (gd_name 10 nd)) (fun _ _ _ _ _ => ptd_nil) (fun _ _ _ _ _ => (ed_sub (ed_mod (ed_ix (ed_var 1) (ed_add ed_int (ed_var 10))) ed_int) ed_int)) (sw_true rfl rfl rfl (by decide +kernel)))
  (sd_cons (sd_if (td_eq hr.units (ed_mod (ed_ix (ed_var 1) ed_int) ed_int) ed_int) (sd_one (sd_ownLc 9 [("by", 11)] rfl nd (pid_L false (ed_var 9)) (blkOk_by (own := [("by", 11)]) (N := ["script", "draws", "count", "period", "hidden", "piece", "tastes", "more", "row", "moves", "k", "by", "passed", "chord", "wishes", "asked", "paper", "many", "told", "shorter"]) (sc := defScope st_law) (by decide +kernel)) (fun _ _ _ _ _ => (gd_name 11 nd)) (fun _ _ _ _ _ => ptd_nil) (fun _ _ _ _ _ => (ed_mul (ed_div (ed_var 11) ed_int) (ed_var 2))) (sw_true rfl rfl rfl (by decide +kernel)))) sd_nil)
  (sd_cons (sd_if (WD.td (wd_and (td_eq hr.units (ed_mod (ed_ix (ed_var 1) ed_int) ed_int) ed_int) (wd_and1 (td_gt (ed_len (by rfl) T.z_len (ed_var 9)) ed_int)))) (sd_one (sd_setIx 9 (ed_ix (ed_var 9) ed_int) (pv 9) (ed_neg ed_int))) sd_nil)
  (sd_cons (sd_setLc 12 [("chord", 13)] rfl nd (pid_L false (ed_var 5)) (blkOk_by (own := [("chord", 13)]) (N := ["script", "draws", "count", "period", "hidden", "piece", "tastes", "more", "row", "moves", "k", "by", "passed", "chord", "wishes", "asked", "paper", "many", "told", "shorter"]) (sc := defScope st_law) (by decide +kernel)) (fun _ _ _ _ _ => (gd_name 13 nd)) (fun _ _ _ _ _ => ptd_nil) (fun _ _ _ _ _ => (ed_toList (by rfl) T.z_list (ed_var 13))) (sw_true rfl rfl rfl (by decide +kernel)))
  (sd_cons (sd_set 14 nd (ed_toList (by rfl) T.z_list (ed_var 6)))
  (sd_cons (sd_set 15 nd (ed_toList (by rfl) T.z_list (ed_var 9)))
  (sd_mark (sdb_cons (sd_setM 16 nd (ed_call C_longest_moves hr (by rfl) T.g_longest_moves T.F_longest_moves.kp T.b_longest_moves (ad_cons (ed_var 2) (ad_cons (ed_var 3) (ad_cons (ed_var 12) (ad_cons (ed_var 14) (ad_cons (ed_var 15) ad_nil)))))))
  (sdb_cons (sd_if (WD.td (wd_or (td_ne hr.units (ed_var 12) (ed_var 5)) (wd_or (td_ne hr.units (ed_var 14) (ed_var 6)) (wd_or1 (td_ne hr.units (ed_var 15) (ed_var 9)))))) (sd_one (sd_ret ed_bl)) sd_nil)
  (sdb_cons (sd_if (td_not (td_val (ed_call C__law_is_right hr (by rfl) T.g__law_is_right T.F__law_is_right.kp T.b__law_is_right (ad_cons (ed_var 2) (ad_cons (ed_var 3) (ad_cons (ed_var 5) (ad_cons (ed_var 6) (ad_cons (ed_var 9) (ad_cons (ed_var 16) ad_nil))))))))) (sd_one (sd_ret ed_bl)) sd_nil)
  (sdb_cons (sd_if (WD.td (wd_and (td_eq hr.units (ed_mod (ed_ix (ed_var 1) ed_int) ed_int) ed_int) (wd_and1 (td_not (td_val (ed_call C__law_asks_many hr (by rfl) T.g__law_asks_many T.F__law_asks_many.kp T.b__law_asks_many (ad_cons (ed_var 1) ad_nil))))))) (sd_one (sd_ret ed_bl)) sd_nil)
  (sdb_cons (sd_set 17 nd (ed_len (by rfl) T.z_len (ed_var 9)))
  (sdb_cons (sd_if (td_eq hr.units (ed_ix (ed_var 16) ed_int) ed_str) (sd_one (sd_set 17 nd (ed_ix (ed_var 16) ed_int))) sd_nil)
  (sdb_cons (sd_if (td_not (td_val (ed_call C__law_asks_solving hr (by rfl) T.g__law_asks_solving T.F__law_asks_solving.kp T.b__law_asks_solving (ad_cons (ed_var 2) (ad_cons (ed_var 3) (ad_cons (ed_var 12) (ad_cons (ed_var 14) (ad_cons (ed_var 15) (ad_cons (ed_var 17) ad_nil))))))))) (sd_one (sd_ret ed_bl)) sd_nil)
  (sdb_cons (sd_set 18 nd (ed_repr hgd (hu66 hr) (by rfl) T.z_repr (ed_var 16)))
  (sdb_spoil (ed_ix (ed_var 16) (ed_neg ed_int)) ed_int
  (sdb_cons (sd_if (td_ne hr.units (ed_repr hgd (hu66 hr) (by rfl) T.z_repr (ed_call C_longest_moves hr (by rfl) T.g_longest_moves T.F_longest_moves.kp T.b_longest_moves (ad_cons (ed_var 2) (ad_cons (ed_var 3) (ad_cons (ed_var 12) (ad_cons (ed_var 14) (ad_cons (ed_var 15) ad_nil))))))) (ed_var 18)) (sd_one (sd_ret ed_bl)) sd_nil)
  (sdb_cons (sd_set 19 nd (ed_call C_longest_moves hr (by rfl) T.g_longest_moves T.F_longest_moves.kp T.b_longest_moves (ad_cons (ed_var 2) (ad_cons (ed_var 3) (ad_cons (ed_var 12) (ad_cons (ed_var 14) (ad_cons (ed_sl (ed_var 9) od_none (od_some (ed_var 17))) ad_nil)))))))
  (sdb_of (sd_one (sd_ret (ed_and (ed_call C__law_tagged hr (by rfl) T.g__law_tagged T.F__law_tagged.kp T.b__law_tagged (ad_cons (ed_var 19) (ad_cons ed_str (ad_cons ed_int ad_nil)))) (ed_one (ed_call C__law_is_right hr (by rfl) T.g__law_is_right T.F__law_is_right.kp T.b__law_is_right (ad_cons (ed_var 2) (ad_cons (ed_var 3) (ad_cons (ed_var 5) (ad_cons (ed_var 6) (ad_cons (ed_sl (ed_var 9) od_none (od_some (ed_var 17))) (ad_cons (ed_var 19) ad_nil)))))))))))))))))))))))))))))))))
end
end K85

set_option Elab.async false
set_option linter.all false
set_option maxRecDepth 100000
set_option maxHeartbeats 4000000
/-! E_K85: the end of this law. -/
namespace K85
open PySem PySem.Spec PyProof.Rows L2 DL RD
def spLaw (K : PySem.W.Frag) : Sp := fun vs H Q _ => ∃ (a : Addr) (ns : List Int), vs = [.ref a] ∧ SqL K H a (ns.map V.int) ∧ ns.length ≤ 63 ∧ ∀ H2 : Hp, Q (.bl true) H2
theorem spLaw_spD {K : PySem.W.Frag} {vs : List V} {H : Hp} {Q : L2.VK} {E : XK} (h : spLaw K vs H Q E) : spD K 1 S_law_900c vs H Q E := by
  obtain ⟨a, ns, rfl, hS, hl, q⟩ := h
  refine ⟨rfl, H, [scr ns], Ext.refl H, .cons (.scr hS) .nil, ns, rfl, hl, fun v G2 H2 st rp => ?_⟩
  have rp : Rp K (fun _ => True) G2 v (.bool true) := rp
  cases rp
  exact q H2
theorem all_mk {l : PySem.W.OpenLaw} {w : World} {K : PySem.W.Frag} {h : Heap} {mg : Str → Option Value} {fa : Addr} (X : K.In h) (G : h.Ns mainGlobals mg) (hfa : mg "law" = some (.ref fa))
    {f0 : Addr} {od0 an0 : Option Addr} {sl0 : Array (Option Value)} {oc0 kV0 dc0 pm0 cd0 ct0 : Value}
    (a0 : PySem.W.nsIn K mainGlobals "is_number" = some (some (.ref f0))) (l0 : K.lookup f0 = some ⟨oc0, od0, .func (PySem.W.fnOf "is_number" "is_number" (defArgs st_is_number) (defBody st_is_number) (defScope st_is_number) .none kV0 dc0 pm0 an0 cd0 ct0), sl0⟩) (c0 : PySem.W.codeIn K cd0 "is_number" = true) (k0 : PySem.W.keepIn K (.ref f0) = true)
    {f1 : Addr} {od1 an1 : Option Addr} {sl1 : Array (Option Value)} {oc1 kV1 dc1 pm1 cd1 ct1 : Value}
    (a1 : PySem.W.nsIn K mainGlobals "is_index" = some (some (.ref f1))) (l1 : K.lookup f1 = some ⟨oc1, od1, .func (PySem.W.fnOf "is_index" "is_index" (defArgs st_is_index) (defBody st_is_index) (defScope st_is_index) .none kV1 dc1 pm1 an1 cd1 ct1), sl1⟩) (c1 : PySem.W.codeIn K cd1 "is_index" = true) (k1 : PySem.W.keepIn K (.ref f1) = true)
    {f2 : Addr} {od2 an2 : Option Addr} {sl2 : Array (Option Value)} {oc2 kV2 dc2 pm2 cd2 ct2 : Value}
    (a2 : PySem.W.nsIn K mainGlobals "within" = some (some (.ref f2))) (l2 : K.lookup f2 = some ⟨oc2, od2, .func (PySem.W.fnOf "within" "within" (defArgs st_within) (defBody st_within) (defScope st_within) .none kV2 dc2 pm2 an2 cd2 ct2), sl2⟩) (c2 : PySem.W.codeIn K cd2 "within" = true) (k2 : PySem.W.keepIn K (.ref f2) = true)
    {f3 : Addr} {od3 an3 : Option Addr} {sl3 : Array (Option Value)} {oc3 kV3 dc3 pm3 cd3 ct3 : Value}
    (a3 : PySem.W.nsIn K mainGlobals "is_step" = some (some (.ref f3))) (l3 : K.lookup f3 = some ⟨oc3, od3, .func (PySem.W.fnOf "is_step" "is_step" (defArgs st_is_step) (defBody st_is_step) (defScope st_is_step) .none kV3 dc3 pm3 an3 cd3 ct3), sl3⟩) (c3 : PySem.W.codeIn K cd3 "is_step" = true) (k3 : PySem.W.keepIn K (.ref f3) = true)
    {f4 : Addr} {od4 an4 : Option Addr} {sl4 : Array (Option Value)} {oc4 kV4 dc4 pm4 cd4 ct4 : Value}
    (a4 : PySem.W.nsIn K mainGlobals "step_of" = some (some (.ref f4))) (l4 : K.lookup f4 = some ⟨oc4, od4, .func (PySem.W.fnOf "step_of" "step_of" (defArgs st_step_of) (defBody st_step_of) (defScope st_step_of) .none kV4 dc4 pm4 an4 cd4 ct4), sl4⟩) (c4 : PySem.W.codeIn K cd4 "step_of" = true) (k4 : PySem.W.keepIn K (.ref f4) = true)
    {f5 : Addr} {od5 an5 : Option Addr} {sl5 : Array (Option Value)} {oc5 kV5 dc5 pm5 cd5 ct5 : Value}
    (a5 : PySem.W.nsIn K mainGlobals "all_steps" = some (some (.ref f5))) (l5 : K.lookup f5 = some ⟨oc5, od5, .func (PySem.W.fnOf "all_steps" "all_steps" (defArgs st_all_steps) (defBody st_all_steps) (defScope st_all_steps) .none kV5 dc5 pm5 an5 cd5 ct5), sl5⟩) (c5 : PySem.W.codeIn K cd5 "all_steps" = true) (k5 : PySem.W.keepIn K (.ref f5) = true)
    {f6 : Addr} {od6 an6 : Option Addr} {sl6 : Array (Option Value)} {oc6 kV6 dc6 pm6 cd6 ct6 : Value}
    (a6 : PySem.W.nsIn K mainGlobals "relax_once" = some (some (.ref f6))) (l6 : K.lookup f6 = some ⟨oc6, od6, .func (PySem.W.fnOf "relax_once" "relax_once" (defArgs st_relax_once) (defBody st_relax_once) (defScope st_relax_once) .none kV6 dc6 pm6 an6 cd6 ct6), sl6⟩) (c6 : PySem.W.codeIn K cd6 "relax_once" = true) (k6 : PySem.W.keepIn K (.ref f6) = true)
    {f7 : Addr} {od7 an7 : Option Addr} {sl7 : Array (Option Value)} {oc7 kV7 dc7 pm7 cd7 ct7 : Value}
    (a7 : PySem.W.nsIn K mainGlobals "relax" = some (some (.ref f7))) (l7 : K.lookup f7 = some ⟨oc7, od7, .func (PySem.W.fnOf "relax" "relax" (defArgs st_relax) (defBody st_relax) (defScope st_relax) .none kV7 dc7 pm7 an7 cd7 ct7), sl7⟩) (c7 : PySem.W.codeIn K cd7 "relax" = true) (k7 : PySem.W.keepIn K (.ref f7) = true)
    {f8 : Addr} {od8 an8 : Option Addr} {sl8 : Array (Option Value)} {oc8 kV8 dc8 pm8 cd8 ct8 : Value}
    (a8 : PySem.W.nsIn K mainGlobals "ring_behind" = some (some (.ref f8))) (l8 : K.lookup f8 = some ⟨oc8, od8, .func (PySem.W.fnOf "ring_behind" "ring_behind" (defArgs st_ring_behind) (defBody st_ring_behind) (defScope st_ring_behind) .none kV8 dc8 pm8 an8 cd8 ct8), sl8⟩) (c8 : PySem.W.codeIn K cd8 "ring_behind" = true) (k8 : PySem.W.keepIn K (.ref f8) = true)
    {f9 : Addr} {od9 an9 : Option Addr} {sl9 : Array (Option Value)} {oc9 kV9 dc9 pm9 cd9 ct9 : Value}
    (a9 : PySem.W.nsIn K mainGlobals "solve" = some (some (.ref f9))) (l9 : K.lookup f9 = some ⟨oc9, od9, .func (PySem.W.fnOf "solve" "solve" (defArgs st_solve) (defBody st_solve) (defScope st_solve) .none kV9 dc9 pm9 an9 cd9 ct9), sl9⟩) (c9 : PySem.W.codeIn K cd9 "solve" = true) (k9 : PySem.W.keepIn K (.ref f9) = true)
    {f10 : Addr} {od10 an10 : Option Addr} {sl10 : Array (Option Value)} {oc10 kV10 dc10 pm10 cd10 ct10 : Value}
    (a10 : PySem.W.nsIn K mainGlobals "bound_at" = some (some (.ref f10))) (l10 : K.lookup f10 = some ⟨oc10, od10, .func (PySem.W.fnOf "bound_at" "bound_at" (defArgs st_bound_at) (defBody st_bound_at) (defScope st_bound_at) .none kV10 dc10 pm10 an10 cd10 ct10), sl10⟩) (c10 : PySem.W.codeIn K cd10 "bound_at" = true) (k10 : PySem.W.keepIn K (.ref f10) = true)
    {f11 : Addr} {od11 an11 : Option Addr} {sl11 : Array (Option Value)} {oc11 kV11 dc11 pm11 cd11 ct11 : Value}
    (a11 : PySem.W.nsIn K mainGlobals "demand_at" = some (some (.ref f11))) (l11 : K.lookup f11 = some ⟨oc11, od11, .func (PySem.W.fnOf "demand_at" "demand_at" (defArgs st_demand_at) (defBody st_demand_at) (defScope st_demand_at) .none kV11 dc11 pm11 an11 cd11 ct11), sl11⟩) (c11 : PySem.W.codeIn K cd11 "demand_at" = true) (k11 : PySem.W.keepIn K (.ref f11) = true)
    {f12 : Addr} {od12 an12 : Option Addr} {sl12 : Array (Option Value)} {oc12 kV12 dc12 pm12 cd12 ct12 : Value}
    (a12 : PySem.W.nsIn K mainGlobals "demands_at" = some (some (.ref f12))) (l12 : K.lookup f12 = some ⟨oc12, od12, .func (PySem.W.fnOf "demands_at" "demands_at" (defArgs st_demands_at) (defBody st_demands_at) (defScope st_demands_at) .none kV12 dc12 pm12 an12 cd12 ct12), sl12⟩) (c12 : PySem.W.codeIn K cd12 "demands_at" = true) (k12 : PySem.W.keepIn K (.ref f12) = true)
    {f13 : Addr} {od13 an13 : Option Addr} {sl13 : Array (Option Value)} {oc13 kV13 dc13 pm13 cd13 ct13 : Value}
    (a13 : PySem.W.nsIn K mainGlobals "sounding" = some (some (.ref f13))) (l13 : K.lookup f13 = some ⟨oc13, od13, .func (PySem.W.fnOf "sounding" "sounding" (defArgs st_sounding) (defBody st_sounding) (defScope st_sounding) .none kV13 dc13 pm13 an13 cd13 ct13), sl13⟩) (c13 : PySem.W.codeIn K cd13 "sounding" = true) (k13 : PySem.W.keepIn K (.ref f13) = true)
    {f14 : Addr} {od14 an14 : Option Addr} {sl14 : Array (Option Value)} {oc14 kV14 dc14 pm14 cd14 ct14 : Value}
    (a14 : PySem.W.nsIn K mainGlobals "moving_octave" = some (some (.ref f14))) (l14 : K.lookup f14 = some ⟨oc14, od14, .func (PySem.W.fnOf "moving_octave" "moving_octave" (defArgs st_moving_octave) (defBody st_moving_octave) (defScope st_moving_octave) .none kV14 dc14 pm14 an14 cd14 ct14), sl14⟩) (c14 : PySem.W.codeIn K cd14 "moving_octave" = true) (k14 : PySem.W.keepIn K (.ref f14) = true)
    {f15 : Addr} {od15 an15 : Option Addr} {sl15 : Array (Option Value)} {oc15 kV15 dc15 pm15 cd15 ct15 : Value}
    (a15 : PySem.W.nsIn K mainGlobals "moving_octaves" = some (some (.ref f15))) (l15 : K.lookup f15 = some ⟨oc15, od15, .func (PySem.W.fnOf "moving_octaves" "moving_octaves" (defArgs st_moving_octaves) (defBody st_moving_octaves) (defScope st_moving_octaves) .none kV15 dc15 pm15 an15 cd15 ct15), sl15⟩) (c15 : PySem.W.codeIn K cd15 "moving_octaves" = true) (k15 : PySem.W.keepIn K (.ref f15) = true)
    {f16 : Addr} {od16 an16 : Option Addr} {sl16 : Array (Option Value)} {oc16 kV16 dc16 pm16 cd16 ct16 : Value}
    (a16 : PySem.W.nsIn K mainGlobals "placed_at" = some (some (.ref f16))) (l16 : K.lookup f16 = some ⟨oc16, od16, .func (PySem.W.fnOf "placed_at" "placed_at" (defArgs st_placed_at) (defBody st_placed_at) (defScope st_placed_at) .none kV16 dc16 pm16 an16 cd16 ct16), sl16⟩) (c16 : PySem.W.codeIn K cd16 "placed_at" = true) (k16 : PySem.W.keepIn K (.ref f16) = true)
    {f17 : Addr} {od17 an17 : Option Addr} {sl17 : Array (Option Value)} {oc17 kV17 dc17 pm17 cd17 ct17 : Value}
    (a17 : PySem.W.nsIn K mainGlobals "place_of_note" = some (some (.ref f17))) (l17 : K.lookup f17 = some ⟨oc17, od17, .func (PySem.W.fnOf "place_of_note" "place_of_note" (defArgs st_place_of_note) (defBody st_place_of_note) (defScope st_place_of_note) .none kV17 dc17 pm17 an17 cd17 ct17), sl17⟩) (c17 : PySem.W.codeIn K cd17 "place_of_note" = true) (k17 : PySem.W.keepIn K (.ref f17) = true)
    {f18 : Addr} {od18 an18 : Option Addr} {sl18 : Array (Option Value)} {oc18 kV18 dc18 pm18 cd18 ct18 : Value}
    (a18 : PySem.W.nsIn K mainGlobals "moved" = some (some (.ref f18))) (l18 : K.lookup f18 = some ⟨oc18, od18, .func (PySem.W.fnOf "moved" "moved" (defArgs st_moved) (defBody st_moved) (defScope st_moved) .none kV18 dc18 pm18 an18 cd18 ct18), sl18⟩) (c18 : PySem.W.codeIn K cd18 "moved" = true) (k18 : PySem.W.keepIn K (.ref f18) = true)
    {f19 : Addr} {od19 an19 : Option Addr} {sl19 : Array (Option Value)} {oc19 kV19 dc19 pm19 cd19 ct19 : Value}
    (a19 : PySem.W.nsIn K mainGlobals "taste_of" = some (some (.ref f19))) (l19 : K.lookup f19 = some ⟨oc19, od19, .func (PySem.W.fnOf "taste_of" "taste_of" (defArgs st_taste_of) (defBody st_taste_of) (defScope st_taste_of) .none kV19 dc19 pm19 an19 cd19 ct19), sl19⟩) (c19 : PySem.W.codeIn K cd19 "taste_of" = true) (k19 : PySem.W.keepIn K (.ref f19) = true)
    {f20 : Addr} {od20 an20 : Option Addr} {sl20 : Array (Option Value)} {oc20 kV20 dc20 pm20 cd20 ct20 : Value}
    (a20 : PySem.W.nsIn K mainGlobals "tasted_pairs" = some (some (.ref f20))) (l20 : K.lookup f20 = some ⟨oc20, od20, .func (PySem.W.fnOf "tasted_pairs" "tasted_pairs" (defArgs st_tasted_pairs) (defBody st_tasted_pairs) (defScope st_tasted_pairs) .none kV20 dc20 pm20 an20 cd20 ct20), sl20⟩) (c20 : PySem.W.codeIn K cd20 "tasted_pairs" = true) (k20 : PySem.W.keepIn K (.ref f20) = true)
    {f21 : Addr} {od21 an21 : Option Addr} {sl21 : Array (Option Value)} {oc21 kV21 dc21 pm21 cd21 ct21 : Value}
    (a21 : PySem.W.nsIn K mainGlobals "piece_placed" = some (some (.ref f21))) (l21 : K.lookup f21 = some ⟨oc21, od21, .func (PySem.W.fnOf "piece_placed" "piece_placed" (defArgs st_piece_placed) (defBody st_piece_placed) (defScope st_piece_placed) .none kV21 dc21 pm21 an21 cd21 ct21), sl21⟩) (c21 : PySem.W.codeIn K cd21 "piece_placed" = true) (k21 : PySem.W.keepIn K (.ref f21) = true)
    {f22 : Addr} {od22 an22 : Option Addr} {sl22 : Array (Option Value)} {oc22 kV22 dc22 pm22 cd22 ct22 : Value}
    (a22 : PySem.W.nsIn K mainGlobals "distance" = some (some (.ref f22))) (l22 : K.lookup f22 = some ⟨oc22, od22, .func (PySem.W.fnOf "distance" "distance" (defArgs st_distance) (defBody st_distance) (defScope st_distance) .none kV22 dc22 pm22 an22 cd22 ct22), sl22⟩) (c22 : PySem.W.codeIn K cd22 "distance" = true) (k22 : PySem.W.keepIn K (.ref f22) = true)
    {f23 : Addr} {od23 an23 : Option Addr} {sl23 : Array (Option Value)} {oc23 kV23 dc23 pm23 cd23 ct23 : Value}
    (a23 : PySem.W.nsIn K mainGlobals "breaches" = some (some (.ref f23))) (l23 : K.lookup f23 = some ⟨oc23, od23, .func (PySem.W.fnOf "breaches" "breaches" (defArgs st_breaches) (defBody st_breaches) (defScope st_breaches) .none kV23 dc23 pm23 an23 cd23 ct23), sl23⟩) (c23 : PySem.W.codeIn K cd23 "breaches" = true) (k23 : PySem.W.keepIn K (.ref f23) = true)
    {f24 : Addr} {od24 an24 : Option Addr} {sl24 : Array (Option Value)} {oc24 kV24 dc24 pm24 cd24 ct24 : Value}
    (a24 : PySem.W.nsIn K mainGlobals "moves_placed" = some (some (.ref f24))) (l24 : K.lookup f24 = some ⟨oc24, od24, .func (PySem.W.fnOf "moves_placed" "moves_placed" (defArgs st_moves_placed) (defBody st_moves_placed) (defScope st_moves_placed) .none kV24 dc24 pm24 an24 cd24 ct24), sl24⟩) (c24 : PySem.W.codeIn K cd24 "moves_placed" = true) (k24 : PySem.W.keepIn K (.ref f24) = true)
    {f25 : Addr} {od25 an25 : Option Addr} {sl25 : Array (Option Value)} {oc25 kV25 dc25 pm25 cd25 ct25 : Value}
    (a25 : PySem.W.nsIn K mainGlobals "longest_moves" = some (some (.ref f25))) (l25 : K.lookup f25 = some ⟨oc25, od25, .func (PySem.W.fnOf "longest_moves" "longest_moves" (defArgs st_longest_moves) (defBody st_longest_moves) (defScope st_longest_moves) .none kV25 dc25 pm25 an25 cd25 ct25), sl25⟩) (c25 : PySem.W.codeIn K cd25 "longest_moves" = true) (k25 : PySem.W.keepIn K (.ref f25) = true)
    {f26 : Addr} {od26 an26 : Option Addr} {sl26 : Array (Option Value)} {oc26 kV26 dc26 pm26 cd26 ct26 : Value}
    (a26 : PySem.W.nsIn K mainGlobals "_law_draws" = some (some (.ref f26))) (l26 : K.lookup f26 = some ⟨oc26, od26, .func (PySem.W.fnOf "_law_draws" "_law_draws" (defArgs st__law_draws) (defBody st__law_draws) (defScope st__law_draws) .none kV26 dc26 pm26 an26 cd26 ct26), sl26⟩) (c26 : PySem.W.codeIn K cd26 "_law_draws" = true) (k26 : PySem.W.keepIn K (.ref f26) = true)
    {f27 : Addr} {od27 an27 : Option Addr} {sl27 : Array (Option Value)} {oc27 kV27 dc27 pm27 cd27 ct27 : Value}
    (a27 : PySem.W.nsIn K mainGlobals "_law_is_number" = some (some (.ref f27))) (l27 : K.lookup f27 = some ⟨oc27, od27, .func (PySem.W.fnOf "_law_is_number" "_law_is_number" (defArgs st__law_is_number) (defBody st__law_is_number) (defScope st__law_is_number) .none kV27 dc27 pm27 an27 cd27 ct27), sl27⟩) (c27 : PySem.W.codeIn K cd27 "_law_is_number" = true) (k27 : PySem.W.keepIn K (.ref f27) = true)
    {f28 : Addr} {od28 an28 : Option Addr} {sl28 : Array (Option Value)} {oc28 kV28 dc28 pm28 cd28 ct28 : Value}
    (a28 : PySem.W.nsIn K mainGlobals "_law_is_numbers" = some (some (.ref f28))) (l28 : K.lookup f28 = some ⟨oc28, od28, .func (PySem.W.fnOf "_law_is_numbers" "_law_is_numbers" (defArgs st__law_is_numbers) (defBody st__law_is_numbers) (defScope st__law_is_numbers) .none kV28 dc28 pm28 an28 cd28 ct28), sl28⟩) (c28 : PySem.W.codeIn K cd28 "_law_is_numbers" = true) (k28 : PySem.W.keepIn K (.ref f28) = true)
    {f29 : Addr} {od29 an29 : Option Addr} {sl29 : Array (Option Value)} {oc29 kV29 dc29 pm29 cd29 ct29 : Value}
    (a29 : PySem.W.nsIn K mainGlobals "_law_same_row" = some (some (.ref f29))) (l29 : K.lookup f29 = some ⟨oc29, od29, .func (PySem.W.fnOf "_law_same_row" "_law_same_row" (defArgs st__law_same_row) (defBody st__law_same_row) (defScope st__law_same_row) .none kV29 dc29 pm29 an29 cd29 ct29), sl29⟩) (c29 : PySem.W.codeIn K cd29 "_law_same_row" = true) (k29 : PySem.W.keepIn K (.ref f29) = true)
    {f30 : Addr} {od30 an30 : Option Addr} {sl30 : Array (Option Value)} {oc30 kV30 dc30 pm30 cd30 ct30 : Value}
    (a30 : PySem.W.nsIn K mainGlobals "_law_meets" = some (some (.ref f30))) (l30 : K.lookup f30 = some ⟨oc30, od30, .func (PySem.W.fnOf "_law_meets" "_law_meets" (defArgs st__law_meets) (defBody st__law_meets) (defScope st__law_meets) .none kV30 dc30 pm30 an30 cd30 ct30), sl30⟩) (c30 : PySem.W.codeIn K cd30 "_law_meets" = true) (k30 : PySem.W.keepIn K (.ref f30) = true)
    {f31 : Addr} {od31 an31 : Option Addr} {sl31 : Array (Option Value)} {oc31 kV31 dc31 pm31 cd31 ct31 : Value}
    (a31 : PySem.W.nsIn K mainGlobals "_law_step" = some (some (.ref f31))) (l31 : K.lookup f31 = some ⟨oc31, od31, .func (PySem.W.fnOf "_law_step" "_law_step" (defArgs st__law_step) (defBody st__law_step) (defScope st__law_step) .none kV31 dc31 pm31 an31 cd31 ct31), sl31⟩) (c31 : PySem.W.codeIn K cd31 "_law_step" = true) (k31 : PySem.W.keepIn K (.ref f31) = true)
    {f32 : Addr} {od32 an32 : Option Addr} {sl32 : Array (Option Value)} {oc32 kV32 dc32 pm32 cd32 ct32 : Value}
    (a32 : PySem.W.nsIn K mainGlobals "_law_walk" = some (some (.ref f32))) (l32 : K.lookup f32 = some ⟨oc32, od32, .func (PySem.W.fnOf "_law_walk" "_law_walk" (defArgs st__law_walk) (defBody st__law_walk) (defScope st__law_walk) .none kV32 dc32 pm32 an32 cd32 ct32), sl32⟩) (c32 : PySem.W.codeIn K cd32 "_law_walk" = true) (k32 : PySem.W.keepIn K (.ref f32) = true)
    {f33 : Addr} {od33 an33 : Option Addr} {sl33 : Array (Option Value)} {oc33 kV33 dc33 pm33 cd33 ct33 : Value}
    (a33 : PySem.W.nsIn K mainGlobals "_law_is_short_ring" = some (some (.ref f33))) (l33 : K.lookup f33 = some ⟨oc33, od33, .func (PySem.W.fnOf "_law_is_short_ring" "_law_is_short_ring" (defArgs st__law_is_short_ring) (defBody st__law_is_short_ring) (defScope st__law_is_short_ring) .none kV33 dc33 pm33 an33 cd33 ct33), sl33⟩) (c33 : PySem.W.codeIn K cd33 "_law_is_short_ring" = true) (k33 : PySem.W.keepIn K (.ref f33) = true)
    {f34 : Addr} {od34 an34 : Option Addr} {sl34 : Array (Option Value)} {oc34 kV34 dc34 pm34 cd34 ct34 : Value}
    (a34 : PySem.W.nsIn K mainGlobals "_law_is_answer" = some (some (.ref f34))) (l34 : K.lookup f34 = some ⟨oc34, od34, .func (PySem.W.fnOf "_law_is_answer" "_law_is_answer" (defArgs st__law_is_answer) (defBody st__law_is_answer) (defScope st__law_is_answer) .none kV34 dc34 pm34 an34 cd34 ct34), sl34⟩) (c34 : PySem.W.codeIn K cd34 "_law_is_answer" = true) (k34 : PySem.W.keepIn K (.ref f34) = true)
    {f35 : Addr} {od35 an35 : Option Addr} {sl35 : Array (Option Value)} {oc35 kV35 dc35 pm35 cd35 ct35 : Value}
    (a35 : PySem.W.nsIn K mainGlobals "_law_bound" = some (some (.ref f35))) (l35 : K.lookup f35 = some ⟨oc35, od35, .func (PySem.W.fnOf "_law_bound" "_law_bound" (defArgs st__law_bound) (defBody st__law_bound) (defScope st__law_bound) .none kV35 dc35 pm35 an35 cd35 ct35), sl35⟩) (c35 : PySem.W.codeIn K cd35 "_law_bound" = true) (k35 : PySem.W.keepIn K (.ref f35) = true)
    {f36 : Addr} {od36 an36 : Option Addr} {sl36 : Array (Option Value)} {oc36 kV36 dc36 pm36 cd36 ct36 : Value}
    (a36 : PySem.W.nsIn K mainGlobals "_law_tagged" = some (some (.ref f36))) (l36 : K.lookup f36 = some ⟨oc36, od36, .func (PySem.W.fnOf "_law_tagged" "_law_tagged" (defArgs st__law_tagged) (defBody st__law_tagged) (defScope st__law_tagged) .none kV36 dc36 pm36 an36 cd36 ct36), sl36⟩) (c36 : PySem.W.codeIn K cd36 "_law_tagged" = true) (k36 : PySem.W.keepIn K (.ref f36) = true)
    {f37 : Addr} {od37 an37 : Option Addr} {sl37 : Array (Option Value)} {oc37 kV37 dc37 pm37 cd37 ct37 : Value}
    (a37 : PySem.W.nsIn K mainGlobals "_law_unlike" = some (some (.ref f37))) (l37 : K.lookup f37 = some ⟨oc37, od37, .func (PySem.W.fnOf "_law_unlike" "_law_unlike" (defArgs st__law_unlike) (defBody st__law_unlike) (defScope st__law_unlike) .none kV37 dc37 pm37 an37 cd37 ct37), sl37⟩) (c37 : PySem.W.codeIn K cd37 "_law_unlike" = true) (k37 : PySem.W.keepIn K (.ref f37) = true)
    {f38 : Addr} {od38 an38 : Option Addr} {sl38 : Array (Option Value)} {oc38 kV38 dc38 pm38 cd38 ct38 : Value}
    (a38 : PySem.W.nsIn K mainGlobals "_law_place" = some (some (.ref f38))) (l38 : K.lookup f38 = some ⟨oc38, od38, .func (PySem.W.fnOf "_law_place" "_law_place" (defArgs st__law_place) (defBody st__law_place) (defScope st__law_place) .none kV38 dc38 pm38 an38 cd38 ct38), sl38⟩) (c38 : PySem.W.codeIn K cd38 "_law_place" = true) (k38 : PySem.W.keepIn K (.ref f38) = true)
    {f39 : Addr} {od39 an39 : Option Addr} {sl39 : Array (Option Value)} {oc39 kV39 dc39 pm39 cd39 ct39 : Value}
    (a39 : PySem.W.nsIn K mainGlobals "_law_pairs" = some (some (.ref f39))) (l39 : K.lookup f39 = some ⟨oc39, od39, .func (PySem.W.fnOf "_law_pairs" "_law_pairs" (defArgs st__law_pairs) (defBody st__law_pairs) (defScope st__law_pairs) .none kV39 dc39 pm39 an39 cd39 ct39), sl39⟩) (c39 : PySem.W.codeIn K cd39 "_law_pairs" = true) (k39 : PySem.W.keepIn K (.ref f39) = true)
    {f40 : Addr} {od40 an40 : Option Addr} {sl40 : Array (Option Value)} {oc40 kV40 dc40 pm40 cd40 ct40 : Value}
    (a40 : PySem.W.nsIn K mainGlobals "_law_placed" = some (some (.ref f40))) (l40 : K.lookup f40 = some ⟨oc40, od40, .func (PySem.W.fnOf "_law_placed" "_law_placed" (defArgs st__law_placed) (defBody st__law_placed) (defScope st__law_placed) .none kV40 dc40 pm40 an40 cd40 ct40), sl40⟩) (c40 : PySem.W.codeIn K cd40 "_law_placed" = true) (k40 : PySem.W.keepIn K (.ref f40) = true)
    {f41 : Addr} {od41 an41 : Option Addr} {sl41 : Array (Option Value)} {oc41 kV41 dc41 pm41 cd41 ct41 : Value}
    (a41 : PySem.W.nsIn K mainGlobals "_law_same_placed" = some (some (.ref f41))) (l41 : K.lookup f41 = some ⟨oc41, od41, .func (PySem.W.fnOf "_law_same_placed" "_law_same_placed" (defArgs st__law_same_placed) (defBody st__law_same_placed) (defScope st__law_same_placed) .none kV41 dc41 pm41 an41 cd41 ct41), sl41⟩) (c41 : PySem.W.codeIn K cd41 "_law_same_placed" = true) (k41 : PySem.W.keepIn K (.ref f41) = true)
    {f42 : Addr} {od42 an42 : Option Addr} {sl42 : Array (Option Value)} {oc42 kV42 dc42 pm42 cd42 ct42 : Value}
    (a42 : PySem.W.nsIn K mainGlobals "_law_note_pitch" = some (some (.ref f42))) (l42 : K.lookup f42 = some ⟨oc42, od42, .func (PySem.W.fnOf "_law_note_pitch" "_law_note_pitch" (defArgs st__law_note_pitch) (defBody st__law_note_pitch) (defScope st__law_note_pitch) .none kV42 dc42 pm42 an42 cd42 ct42), sl42⟩) (c42 : PySem.W.codeIn K cd42 "_law_note_pitch" = true) (k42 : PySem.W.keepIn K (.ref f42) = true)
    {f43 : Addr} {od43 an43 : Option Addr} {sl43 : Array (Option Value)} {oc43 kV43 dc43 pm43 cd43 ct43 : Value}
    (a43 : PySem.W.nsIn K mainGlobals "_law_piece_world" = some (some (.ref f43))) (l43 : K.lookup f43 = some ⟨oc43, od43, .func (PySem.W.fnOf "_law_piece_world" "_law_piece_world" (defArgs st__law_piece_world) (defBody st__law_piece_world) (defScope st__law_piece_world) .none kV43 dc43 pm43 an43 cd43 ct43), sl43⟩) (c43 : PySem.W.codeIn K cd43 "_law_piece_world" = true) (k43 : PySem.W.keepIn K (.ref f43) = true)
    {f44 : Addr} {od44 an44 : Option Addr} {sl44 : Array (Option Value)} {oc44 kV44 dc44 pm44 cd44 ct44 : Value}
    (a44 : PySem.W.nsIn K mainGlobals "_law_breaches" = some (some (.ref f44))) (l44 : K.lookup f44 = some ⟨oc44, od44, .func (PySem.W.fnOf "_law_breaches" "_law_breaches" (defArgs st__law_breaches) (defBody st__law_breaches) (defScope st__law_breaches) .none kV44 dc44 pm44 an44 cd44 ct44), sl44⟩) (c44 : PySem.W.codeIn K cd44 "_law_breaches" = true) (k44 : PySem.W.keepIn K (.ref f44) = true)
    {f45 : Addr} {od45 an45 : Option Addr} {sl45 : Array (Option Value)} {oc45 kV45 dc45 pm45 cd45 ct45 : Value}
    (a45 : PySem.W.nsIn K mainGlobals "_law_plain" = some (some (.ref f45))) (l45 : K.lookup f45 = some ⟨oc45, od45, .func (PySem.W.fnOf "_law_plain" "_law_plain" (defArgs st__law_plain) (defBody st__law_plain) (defScope st__law_plain) .none kV45 dc45 pm45 an45 cd45 ct45), sl45⟩) (c45 : PySem.W.codeIn K cd45 "_law_plain" = true) (k45 : PySem.W.keepIn K (.ref f45) = true)
    {f46 : Addr} {od46 an46 : Option Addr} {sl46 : Array (Option Value)} {oc46 kV46 dc46 pm46 cd46 ct46 : Value}
    (a46 : PySem.W.nsIn K mainGlobals "_law_moves_placed" = some (some (.ref f46))) (l46 : K.lookup f46 = some ⟨oc46, od46, .func (PySem.W.fnOf "_law_moves_placed" "_law_moves_placed" (defArgs st__law_moves_placed) (defBody st__law_moves_placed) (defScope st__law_moves_placed) .none kV46 dc46 pm46 an46 cd46 ct46), sl46⟩) (c46 : PySem.W.codeIn K cd46 "_law_moves_placed" = true) (k46 : PySem.W.keepIn K (.ref f46) = true)
    {f47 : Addr} {od47 an47 : Option Addr} {sl47 : Array (Option Value)} {oc47 kV47 dc47 pm47 cd47 ct47 : Value}
    (a47 : PySem.W.nsIn K mainGlobals "_law_sounds_well" = some (some (.ref f47))) (l47 : K.lookup f47 = some ⟨oc47, od47, .func (PySem.W.fnOf "_law_sounds_well" "_law_sounds_well" (defArgs st__law_sounds_well) (defBody st__law_sounds_well) (defScope st__law_sounds_well) .none kV47 dc47 pm47 an47 cd47 ct47), sl47⟩) (c47 : PySem.W.codeIn K cd47 "_law_sounds_well" = true) (k47 : PySem.W.keepIn K (.ref f47) = true)
    {f48 : Addr} {od48 an48 : Option Addr} {sl48 : Array (Option Value)} {oc48 kV48 dc48 pm48 cd48 ct48 : Value}
    (a48 : PySem.W.nsIn K mainGlobals "_law_is_right" = some (some (.ref f48))) (l48 : K.lookup f48 = some ⟨oc48, od48, .func (PySem.W.fnOf "_law_is_right" "_law_is_right" (defArgs st__law_is_right) (defBody st__law_is_right) (defScope st__law_is_right) .none kV48 dc48 pm48 an48 cd48 ct48), sl48⟩) (c48 : PySem.W.codeIn K cd48 "_law_is_right" = true) (k48 : PySem.W.keepIn K (.ref f48) = true)
    {f49 : Addr} {od49 an49 : Option Addr} {sl49 : Array (Option Value)} {oc49 kV49 dc49 pm49 cd49 ct49 : Value}
    (a49 : PySem.W.nsIn K mainGlobals "_law_asks_solving" = some (some (.ref f49))) (l49 : K.lookup f49 = some ⟨oc49, od49, .func (PySem.W.fnOf "_law_asks_solving" "_law_asks_solving" (defArgs st__law_asks_solving) (defBody st__law_asks_solving) (defScope st__law_asks_solving) .none kV49 dc49 pm49 an49 cd49 ct49), sl49⟩) (c49 : PySem.W.codeIn K cd49 "_law_asks_solving" = true) (k49 : PySem.W.keepIn K (.ref f49) = true)
    {f50 : Addr} {od50 an50 : Option Addr} {sl50 : Array (Option Value)} {oc50 kV50 dc50 pm50 cd50 ct50 : Value}
    (a50 : PySem.W.nsIn K mainGlobals "_law_asks_many" = some (some (.ref f50))) (l50 : K.lookup f50 = some ⟨oc50, od50, .func (PySem.W.fnOf "_law_asks_many" "_law_asks_many" (defArgs st__law_asks_many) (defBody st__law_asks_many) (defScope st__law_asks_many) .none kV50 dc50 pm50 an50 cd50 ct50), sl50⟩) (c50 : PySem.W.codeIn K cd50 "_law_asks_many" = true) (k50 : PySem.W.keepIn K (.ref f50) = true)
    {f51 : Addr} {od51 an51 : Option Addr} {sl51 : Array (Option Value)} {oc51 kV51 dc51 pm51 cd51 ct51 : Value}
    (a51 : PySem.W.nsIn K mainGlobals "law" = some (some (.ref f51))) (l51 : K.lookup f51 = some ⟨oc51, od51, .func (PySem.W.fnOf "law" "law" (defArgs st_law) (defBody st_law) (defScope st_law) .none kV51 dc51 pm51 an51 cd51 ct51), sl51⟩) (c51 : PySem.W.codeIn K cd51 "law" = true) (k51 : PySem.W.keepIn K (.ref f51) = true)
    (z0 : PySem.W.nsIn K mainGlobals "abs" = some none)
    (z1 : PySem.W.nsIn K mainGlobals "bool" = some none)
    (z2 : PySem.W.nsIn K mainGlobals "int" = some none)
    (z3 : PySem.W.nsIn K mainGlobals "isinstance" = some none)
    (z4 : PySem.W.nsIn K mainGlobals "len" = some none)
    (z5 : PySem.W.nsIn K mainGlobals "list" = some none)
    (z6 : PySem.W.nsIn K mainGlobals "range" = some none)
    (z7 : PySem.W.nsIn K mainGlobals "repr" = some none)
    (z8 : PySem.W.nsIn K mainGlobals "sorted" = some none)
    (z9 : PySem.W.nsIn K mainGlobals "str" = some none)
    (z10 : PySem.W.nsIn K mainGlobals "tuple" = some none)
    : ∃ fd : FuncData, (∀ (s : Shared) (v : Value), BindsTo s fd ⟨[v], []⟩ [("script", v)]) ∧ ∀ base : Heap, K.In base → base.Ns mainGlobals mg → FnG l.prog w K mg base 9 fa fd ["script"] (spLaw K) := by
  have e := hfa.symm.trans (PySem.W.mg_of X G a51)
  cases e
  have F0 := fun_mk (st := st_is_number) l0 c0 k0
  have b0 := F0.binds (ps := ["value"]) fun _ _ _ _ _ _ us hl => match us, hl with | [_], _ => rfl
  have F1 := fun_mk (st := st_is_index) l1 c1 k1
  have b1 := F1.binds (ps := ["value", "size"]) fun _ _ _ _ _ _ us hl => match us, hl with | [_, _], _ => rfl
  have F2 := fun_mk (st := st_within) l2 c2 k2
  have b2 := F2.binds (ps := ["width", "least", "most"]) fun _ _ _ _ _ _ us hl => match us, hl with | [_, _, _], _ => rfl
  have F3 := fun_mk (st := st_is_step) l3 c3 k3
  have b3 := F3.binds (ps := ["demands", "step"]) fun _ _ _ _ _ _ us hl => match us, hl with | [_, _], _ => rfl
  have F4 := fun_mk (st := st_step_of) l4 c4 k4
  have b4 := F4.binds (ps := ["demands", "step"]) fun _ _ _ _ _ _ us hl => match us, hl with | [_, _], _ => rfl
  have F5 := fun_mk (st := st_all_steps) l5 c5 k5
  have b5 := F5.binds (ps := ["demands"]) fun _ _ _ _ _ _ us hl => match us, hl with | [_], _ => rfl
  have F6 := fun_mk (st := st_relax_once) l6 c6 k6
  have b6 := F6.binds (ps := ["steps", "sums", "last"]) fun _ _ _ _ _ _ us hl => match us, hl with | [_, _, _], _ => rfl
  have F7 := fun_mk (st := st_relax) l7 c7 k7
  have b7 := F7.binds (ps := ["size", "steps", "sums", "last"]) fun _ _ _ _ _ _ us hl => match us, hl with | [_, _, _, _], _ => rfl
  have F8 := fun_mk (st := st_ring_behind) l8 c8 k8
  have b8 := F8.binds (ps := ["size", "last", "string"]) fun _ _ _ _ _ _ us hl => match us, hl with | [_, _, _], _ => rfl
  have F9 := fun_mk (st := st_solve) l9 c9 k9
  have b9 := F9.binds (ps := ["size", "demands"]) fun _ _ _ _ _ _ us hl => match us, hl with | [_, _], _ => rfl
  have F10 := fun_mk (st := st_bound_at) l10 c10 k10
  have b10 := F10.binds (ps := ["base", "rate", "x"]) fun _ _ _ _ _ _ us hl => match us, hl with | [_, _, _], _ => rfl
  have F11 := fun_mk (st := st_demand_at) l11 c11 k11
  have b11 := F11.binds (ps := ["demand", "x"]) fun _ _ _ _ _ _ us hl => match us, hl with | [_, _], _ => rfl
  have F12 := fun_mk (st := st_demands_at) l12 c12 k12
  have b12 := F12.binds (ps := ["moving", "x"]) fun _ _ _ _ _ _ us hl => match us, hl with | [_, _], _ => rfl
  have F13 := fun_mk (st := st_sounding) l13 c13 k13
  have b13 := F13.binds (ps := ["tuning", "period", "place"]) fun _ _ _ _ _ _ us hl => match us, hl with | [_, _, _], _ => rfl
  have F14 := fun_mk (st := st_moving_octave) l14 c14 k14
  have b14 := F14.binds (ps := ["demand"]) fun _ _ _ _ _ _ us hl => match us, hl with | [_], _ => rfl
  have F15 := fun_mk (st := st_moving_octaves) l15 c15 k15
  have b15 := F15.binds (ps := ["placed"]) fun _ _ _ _ _ _ us hl => match us, hl with | [_], _ => rfl
  have F16 := fun_mk (st := st_placed_at) l16 c16 k16
  have b16 := F16.binds (ps := ["placed", "period"]) fun _ _ _ _ _ _ us hl => match us, hl with | [_, _], _ => rfl
  have F17 := fun_mk (st := st_place_of_note) l17 c17 k17
  have b17 := F17.binds (ps := ["note", "count"]) fun _ _ _ _ _ _ us hl => match us, hl with | [_, _], _ => rfl
  have F18 := fun_mk (st := st_moved) l18 c18 k18
  have b18 := F18.binds (ps := ["piece", "by"]) fun _ _ _ _ _ _ us hl => match us, hl with | [_, _], _ => rfl
  have F19 := fun_mk (st := st_taste_of) l19 c19 k19
  have b19 := F19.binds (ps := ["tastes", "width"]) fun _ _ _ _ _ _ us hl => match us, hl with | [_, _], _ => rfl
  have F20 := fun_mk (st := st_tasted_pairs) l20 c20 k20
  have b20 := F20.binds (ps := ["chord", "tastes"]) fun _ _ _ _ _ _ us hl => match us, hl with | [_, _], _ => rfl
  have F21 := fun_mk (st := st_piece_placed) l21 c21 k21
  have b21 := F21.binds (ps := ["count", "piece", "tastes"]) fun _ _ _ _ _ _ us hl => match us, hl with | [_, _, _], _ => rfl
  have F22 := fun_mk (st := st_distance) l22 c22 k22
  have b22 := F22.binds (ps := ["count", "period", "tuning", "low", "high"]) fun _ _ _ _ _ _ us hl => match us, hl with | [_, _, _, _, _], _ => rfl
  have F23 := fun_mk (st := st_breaches) l23 c23 k23
  have b23 := F23.binds (ps := ["count", "period", "tuning", "piece", "tastes"]) fun _ _ _ _ _ _ us hl => match us, hl with | [_, _, _, _, _], _ => rfl
  have F24 := fun_mk (st := st_moves_placed) l24 c24 k24
  have b24 := F24.binds (ps := ["count", "piece", "tastes", "moves"]) fun _ _ _ _ _ _ us hl => match us, hl with | [_, _, _, _], _ => rfl
  have F25 := fun_mk (st := st_longest_moves) l25 c25 k25
  have b25 := F25.binds (ps := ["count", "period", "piece", "tastes", "moves"]) fun _ _ _ _ _ _ us hl => match us, hl with | [_, _, _, _, _], _ => rfl
  have F26 := fun_mk (st := st__law_draws) l26 c26 k26
  have b26 := F26.binds (ps := ["script", "many"]) fun _ _ _ _ _ _ us hl => match us, hl with | [_, _], _ => rfl
  have F27 := fun_mk (st := st__law_is_number) l27 c27 k27
  have b27 := F27.binds (ps := ["value"]) fun _ _ _ _ _ _ us hl => match us, hl with | [_], _ => rfl
  have F28 := fun_mk (st := st__law_is_numbers) l28 c28 k28
  have b28 := F28.binds (ps := ["value", "size"]) fun _ _ _ _ _ _ us hl => match us, hl with | [_, _], _ => rfl
  have F29 := fun_mk (st := st__law_same_row) l29 c29 k29
  have b29 := F29.binds (ps := ["found", "due"]) fun _ _ _ _ _ _ us hl => match us, hl with | [_, _], _ => rfl
  have F30 := fun_mk (st := st__law_meets) l30 c30 k30
  have b30 := F30.binds (ps := ["demands", "tuning"]) fun _ _ _ _ _ _ us hl => match us, hl with | [_, _], _ => rfl
  have F31 := fun_mk (st := st__law_step) l31 c31 k31
  have b31 := F31.binds (ps := ["demands", "step"]) fun _ _ _ _ _ _ us hl => match us, hl with | [_, _], _ => rfl
  have F32 := fun_mk (st := st__law_walk) l32 c32 k32
  have b32 := F32.binds (ps := ["demands", "steps"]) fun _ _ _ _ _ _ us hl => match us, hl with | [_, _], _ => rfl
  have F33 := fun_mk (st := st__law_is_short_ring) l33 c33 k33
  have b33 := F33.binds (ps := ["demands", "ring"]) fun _ _ _ _ _ _ us hl => match us, hl with | [_, _], _ => rfl
  have F34 := fun_mk (st := st__law_is_answer) l34 c34 k34
  have b34 := F34.binds (ps := ["size", "demands", "paper"]) fun _ _ _ _ _ _ us hl => match us, hl with | [_, _, _], _ => rfl
  have F35 := fun_mk (st := st__law_bound) l35 c35 k35
  have b35 := F35.binds (ps := ["base", "rate", "x"]) fun _ _ _ _ _ _ us hl => match us, hl with | [_, _, _], _ => rfl
  have F36 := fun_mk (st := st__law_tagged) l36 c36 k36
  have b36 := F36.binds (ps := ["paper", "tag", "length"]) fun _ _ _ _ _ _ us hl => match us, hl with | [_, _, _], _ => rfl
  have F37 := fun_mk (st := st__law_unlike) l37 c37 k37
  have b37 := F37.binds (ps := ["numbers"]) fun _ _ _ _ _ _ us hl => match us, hl with | [_], _ => rfl
  have F38 := fun_mk (st := st__law_place) l38 c38 k38
  have b38 := F38.binds (ps := ["note", "count"]) fun _ _ _ _ _ _ us hl => match us, hl with | [_, _], _ => rfl
  have F39 := fun_mk (st := st__law_pairs) l39 c39 k39
  have b39 := F39.binds (ps := ["chord", "tastes"]) fun _ _ _ _ _ _ us hl => match us, hl with | [_, _], _ => rfl
  have F40 := fun_mk (st := st__law_placed) l40 c40 k40
  have b40 := F40.binds (ps := ["count", "piece", "tastes"]) fun _ _ _ _ _ _ us hl => match us, hl with | [_, _, _], _ => rfl
  have F41 := fun_mk (st := st__law_same_placed) l41 c41 k41
  have b41 := F41.binds (ps := ["found", "due"]) fun _ _ _ _ _ _ us hl => match us, hl with | [_, _], _ => rfl
  have F42 := fun_mk (st := st__law_note_pitch) l42 c42 k42
  have b42 := F42.binds (ps := ["tuning", "period", "note"]) fun _ _ _ _ _ _ us hl => match us, hl with | [_, _, _], _ => rfl
  have F43 := fun_mk (st := st__law_piece_world) l43 c43 k43
  have b43 := F43.binds (ps := ["draws"]) fun _ _ _ _ _ _ us hl => match us, hl with | [_], _ => rfl
  have F44 := fun_mk (st := st__law_breaches) l44 c44 k44
  have b44 := F44.binds (ps := ["period", "tuning", "piece", "tastes"]) fun _ _ _ _ _ _ us hl => match us, hl with | [_, _, _, _], _ => rfl
  have F45 := fun_mk (st := st__law_plain) l45 c45 k45
  have b45 := F45.binds (ps := ["placed", "period"]) fun _ _ _ _ _ _ us hl => match us, hl with | [_, _], _ => rfl
  have F46 := fun_mk (st := st__law_moves_placed) l46 c46 k46
  have b46 := F46.binds (ps := ["count", "piece", "tastes", "moves"]) fun _ _ _ _ _ _ us hl => match us, hl with | [_, _, _, _], _ => rfl
  have F47 := fun_mk (st := st__law_sounds_well) l47 c47 k47
  have b47 := F47.binds (ps := ["period", "tuning", "piece", "tastes", "moves"]) fun _ _ _ _ _ _ us hl => match us, hl with | [_, _, _, _, _], _ => rfl
  have F48 := fun_mk (st := st__law_is_right) l48 c48 k48
  have b48 := F48.binds (ps := ["count", "period", "piece", "tastes", "moves", "paper"]) fun _ _ _ _ _ _ us hl => match us, hl with | [_, _, _, _, _, _], _ => rfl
  have F49 := fun_mk (st := st__law_asks_solving) l49 c49 k49
  have b49 := F49.binds (ps := ["count", "period", "piece", "tastes", "moves", "many"]) fun _ _ _ _ _ _ us hl => match us, hl with | [_, _, _, _, _, _], _ => rfl
  have F50 := fun_mk (st := st__law_asks_many) l50 c50 k50
  have b50 := F50.binds (ps := ["draws"]) fun _ _ _ _ _ _ us hl => match us, hl with | [_], _ => rfl
  have F51 := fun_mk (st := st_law) l51 c51 k51
  have b51 := F51.binds (ps := ["script"]) fun _ _ _ _ _ _ us hl => match us, hl with | [_], _ => rfl
  let T : Txt K mg := {
    f_is_number := _, d_is_number := _, F_is_number := F0, b_is_number := b0, g_is_number := PySem.W.mg_of X G a0,
    f_is_index := _, d_is_index := _, F_is_index := F1, b_is_index := b1, g_is_index := PySem.W.mg_of X G a1,
    f_within := _, d_within := _, F_within := F2, b_within := b2, g_within := PySem.W.mg_of X G a2,
    f_is_step := _, d_is_step := _, F_is_step := F3, b_is_step := b3, g_is_step := PySem.W.mg_of X G a3,
    f_step_of := _, d_step_of := _, F_step_of := F4, b_step_of := b4, g_step_of := PySem.W.mg_of X G a4,
    f_all_steps := _, d_all_steps := _, F_all_steps := F5, b_all_steps := b5, g_all_steps := PySem.W.mg_of X G a5,
    f_relax_once := _, d_relax_once := _, F_relax_once := F6, b_relax_once := b6, g_relax_once := PySem.W.mg_of X G a6,
    f_relax := _, d_relax := _, F_relax := F7, b_relax := b7, g_relax := PySem.W.mg_of X G a7,
    f_ring_behind := _, d_ring_behind := _, F_ring_behind := F8, b_ring_behind := b8, g_ring_behind := PySem.W.mg_of X G a8,
    f_solve := _, d_solve := _, F_solve := F9, b_solve := b9, g_solve := PySem.W.mg_of X G a9,
    f_bound_at := _, d_bound_at := _, F_bound_at := F10, b_bound_at := b10, g_bound_at := PySem.W.mg_of X G a10,
    f_demand_at := _, d_demand_at := _, F_demand_at := F11, b_demand_at := b11, g_demand_at := PySem.W.mg_of X G a11,
    f_demands_at := _, d_demands_at := _, F_demands_at := F12, b_demands_at := b12, g_demands_at := PySem.W.mg_of X G a12,
    f_sounding := _, d_sounding := _, F_sounding := F13, b_sounding := b13, g_sounding := PySem.W.mg_of X G a13,
    f_moving_octave := _, d_moving_octave := _, F_moving_octave := F14, b_moving_octave := b14, g_moving_octave := PySem.W.mg_of X G a14,
    f_moving_octaves := _, d_moving_octaves := _, F_moving_octaves := F15, b_moving_octaves := b15, g_moving_octaves := PySem.W.mg_of X G a15,
    f_placed_at := _, d_placed_at := _, F_placed_at := F16, b_placed_at := b16, g_placed_at := PySem.W.mg_of X G a16,
    f_place_of_note := _, d_place_of_note := _, F_place_of_note := F17, b_place_of_note := b17, g_place_of_note := PySem.W.mg_of X G a17,
    f_moved := _, d_moved := _, F_moved := F18, b_moved := b18, g_moved := PySem.W.mg_of X G a18,
    f_taste_of := _, d_taste_of := _, F_taste_of := F19, b_taste_of := b19, g_taste_of := PySem.W.mg_of X G a19,
    f_tasted_pairs := _, d_tasted_pairs := _, F_tasted_pairs := F20, b_tasted_pairs := b20, g_tasted_pairs := PySem.W.mg_of X G a20,
    f_piece_placed := _, d_piece_placed := _, F_piece_placed := F21, b_piece_placed := b21, g_piece_placed := PySem.W.mg_of X G a21,
    f_distance := _, d_distance := _, F_distance := F22, b_distance := b22, g_distance := PySem.W.mg_of X G a22,
    f_breaches := _, d_breaches := _, F_breaches := F23, b_breaches := b23, g_breaches := PySem.W.mg_of X G a23,
    f_moves_placed := _, d_moves_placed := _, F_moves_placed := F24, b_moves_placed := b24, g_moves_placed := PySem.W.mg_of X G a24,
    f_longest_moves := _, d_longest_moves := _, F_longest_moves := F25, b_longest_moves := b25, g_longest_moves := PySem.W.mg_of X G a25,
    f__law_draws := _, d__law_draws := _, F__law_draws := F26, b__law_draws := b26, g__law_draws := PySem.W.mg_of X G a26,
    f__law_is_number := _, d__law_is_number := _, F__law_is_number := F27, b__law_is_number := b27, g__law_is_number := PySem.W.mg_of X G a27,
    f__law_is_numbers := _, d__law_is_numbers := _, F__law_is_numbers := F28, b__law_is_numbers := b28, g__law_is_numbers := PySem.W.mg_of X G a28,
    f__law_same_row := _, d__law_same_row := _, F__law_same_row := F29, b__law_same_row := b29, g__law_same_row := PySem.W.mg_of X G a29,
    f__law_meets := _, d__law_meets := _, F__law_meets := F30, b__law_meets := b30, g__law_meets := PySem.W.mg_of X G a30,
    f__law_step := _, d__law_step := _, F__law_step := F31, b__law_step := b31, g__law_step := PySem.W.mg_of X G a31,
    f__law_walk := _, d__law_walk := _, F__law_walk := F32, b__law_walk := b32, g__law_walk := PySem.W.mg_of X G a32,
    f__law_is_short_ring := _, d__law_is_short_ring := _, F__law_is_short_ring := F33, b__law_is_short_ring := b33, g__law_is_short_ring := PySem.W.mg_of X G a33,
    f__law_is_answer := _, d__law_is_answer := _, F__law_is_answer := F34, b__law_is_answer := b34, g__law_is_answer := PySem.W.mg_of X G a34,
    f__law_bound := _, d__law_bound := _, F__law_bound := F35, b__law_bound := b35, g__law_bound := PySem.W.mg_of X G a35,
    f__law_tagged := _, d__law_tagged := _, F__law_tagged := F36, b__law_tagged := b36, g__law_tagged := PySem.W.mg_of X G a36,
    f__law_unlike := _, d__law_unlike := _, F__law_unlike := F37, b__law_unlike := b37, g__law_unlike := PySem.W.mg_of X G a37,
    f__law_place := _, d__law_place := _, F__law_place := F38, b__law_place := b38, g__law_place := PySem.W.mg_of X G a38,
    f__law_pairs := _, d__law_pairs := _, F__law_pairs := F39, b__law_pairs := b39, g__law_pairs := PySem.W.mg_of X G a39,
    f__law_placed := _, d__law_placed := _, F__law_placed := F40, b__law_placed := b40, g__law_placed := PySem.W.mg_of X G a40,
    f__law_same_placed := _, d__law_same_placed := _, F__law_same_placed := F41, b__law_same_placed := b41, g__law_same_placed := PySem.W.mg_of X G a41,
    f__law_note_pitch := _, d__law_note_pitch := _, F__law_note_pitch := F42, b__law_note_pitch := b42, g__law_note_pitch := PySem.W.mg_of X G a42,
    f__law_piece_world := _, d__law_piece_world := _, F__law_piece_world := F43, b__law_piece_world := b43, g__law_piece_world := PySem.W.mg_of X G a43,
    f__law_breaches := _, d__law_breaches := _, F__law_breaches := F44, b__law_breaches := b44, g__law_breaches := PySem.W.mg_of X G a44,
    f__law_plain := _, d__law_plain := _, F__law_plain := F45, b__law_plain := b45, g__law_plain := PySem.W.mg_of X G a45,
    f__law_moves_placed := _, d__law_moves_placed := _, F__law_moves_placed := F46, b__law_moves_placed := b46, g__law_moves_placed := PySem.W.mg_of X G a46,
    f__law_sounds_well := _, d__law_sounds_well := _, F__law_sounds_well := F47, b__law_sounds_well := b47, g__law_sounds_well := PySem.W.mg_of X G a47,
    f__law_is_right := _, d__law_is_right := _, F__law_is_right := F48, b__law_is_right := b48, g__law_is_right := PySem.W.mg_of X G a48,
    f__law_asks_solving := _, d__law_asks_solving := _, F__law_asks_solving := F49, b__law_asks_solving := b49, g__law_asks_solving := PySem.W.mg_of X G a49,
    f__law_asks_many := _, d__law_asks_many := _, F__law_asks_many := F50, b__law_asks_many := b50, g__law_asks_many := PySem.W.mg_of X G a50,
    f_law := _, d_law := _, F_law := F51, b_law := b51, g_law := PySem.W.mg_of X G a51,
    z_abs := PySem.W.mg_none_of X G z0,
    z_bool := PySem.W.mg_none_of X G z1,
    z_int := PySem.W.mg_none_of X G z2,
    z_isinstance := PySem.W.mg_none_of X G z3,
    z_len := PySem.W.mg_none_of X G z4,
    z_list := PySem.W.mg_none_of X G z5,
    z_range := PySem.W.mg_none_of X G z6,
    z_repr := PySem.W.mg_none_of X G z7,
    z_sorted := PySem.W.mg_none_of X G z8,
    z_str := PySem.W.mg_none_of X G z9,
    z_tuple := PySem.W.mg_none_of X G z10 }
  refine ⟨PySem.W.fnOf "law" "law" (defArgs st_law) (defBody st_law) (defScope st_law) .none kV51 dc51 pm51 an51 cd51 ct51, fun s v => .of_eq rfl, fun base _ _ => ?_⟩
  have G_is_number := wk_is_number (P := l.prog) (w := w) (base := base) T  ms_is_number kp_is_number
  have G_is_index := wk_is_index (P := l.prog) (w := w) (base := base) T G_is_number ms_is_index kp_is_index
  have G_within := wk_within (P := l.prog) (w := w) (base := base) T  ms_within kp_within
  have G_is_step := wk_is_step (P := l.prog) (w := w) (base := base) T G_is_index ms_is_step kp_is_step
  have G_step_of := wk_step_of (P := l.prog) (w := w) (base := base) T G_is_step ms_step_of kp_step_of
  have G_all_steps := wk_all_steps (P := l.prog) (w := w) (base := base) T G_step_of ms_all_steps kp_all_steps
  have G_relax_once := wk_relax_once (P := l.prog) (w := w) (base := base) T  ms_relax_once kp_relax_once
  have G_relax := wk_relax (P := l.prog) (w := w) (base := base) T G_relax_once ms_relax kp_relax
  have G_ring_behind := wk_ring_behind (P := l.prog) (w := w) (base := base) T  ms_ring_behind kp_ring_behind
  have G_solve := wk_solve (P := l.prog) (w := w) (base := base) T G_relax G_all_steps G_ring_behind ms_solve kp_solve
  have G_bound_at := wk_bound_at (P := l.prog) (w := w) (base := base) T  ms_bound_at kp_bound_at
  have G_demand_at := wk_demand_at (P := l.prog) (w := w) (base := base) T G_bound_at ms_demand_at kp_demand_at
  have G_demands_at := wk_demands_at (P := l.prog) (w := w) (base := base) T G_demand_at ms_demands_at kp_demands_at
  have G_sounding := wk_sounding (P := l.prog) (w := w) (base := base) T  ms_sounding kp_sounding
  have G_moving_octave := wk_moving_octave (P := l.prog) (w := w) (base := base) T  ms_moving_octave kp_moving_octave
  have G_moving_octaves := wk_moving_octaves (P := l.prog) (w := w) (base := base) T G_moving_octave ms_moving_octaves kp_moving_octaves
  have G_placed_at := wk_placed_at (P := l.prog) (w := w) (base := base) T G_demands_at G_moving_octaves ms_placed_at kp_placed_at
  have G_place_of_note := wk_place_of_note (P := l.prog) (w := w) (base := base) T  ms_place kp_place
  have G_moved := wk_moved (P := l.prog) (w := w) (base := base) T  ms_moved kp_moved
  have G_taste_of := wk_taste_of (P := l.prog) (w := w) (base := base) T  ms_taste_of kp_taste_of
  have G_tasted_pairs := wk_tasted_pairs (P := l.prog) (w := w) (base := base) T G_taste_of ms_tasted_pairs kp_tasted_pairs
  have G_piece_placed := wk_piece_placed (P := l.prog) (w := w) (base := base) T G_tasted_pairs G_place_of_note ms_piece_placed kp_piece_placed
  have G_distance := wk_distance (P := l.prog) (w := w) (base := base) T G_sounding G_place_of_note ms_distance kp_distance
  have G_breaches := wk_breaches (P := l.prog) (w := w) (base := base) T G_tasted_pairs G_distance G_within ms_breaches kp_breaches
  have G_moves_placed := wk_moves_placed (P := l.prog) (w := w) (base := base) T G_piece_placed G_moved ms_moves_placed kp_moves_placed
  have G_longest_moves := wk_longest_moves (P := l.prog) (w := w) (base := base) T G_moves_placed G_solve G_placed_at ms_longest_moves kp_longest_moves
  have G__law_draws := wk__law_draws (P := l.prog) (w := w) (base := base) T  ms__law_draws kp__law_draws
  have G__law_is_number := wk__law_is_number (P := l.prog) (w := w) (base := base) T  ms__law_is_number kp__law_is_number
  have G__law_is_numbers := wk__law_is_numbers (P := l.prog) (w := w) (base := base) T G__law_is_number ms__law_is_numbers kp__law_is_numbers
  have G__law_same_row := wk__law_same_row (P := l.prog) (w := w) (base := base) T G__law_is_number ms_same_rowo kp_same_rowo
  have G__law_meets := wk__law_meets (P := l.prog) (w := w) (base := base) T  ms_meets kp__law_meets_d118
  have G__law_step := wk__law_step (P := l.prog) (w := w) (base := base) T G__law_is_number ms__law_step_be11 kp__law_step_be11
  have G__law_walk := wk__law_walk (P := l.prog) (w := w) (base := base) T G__law_step ms__law_walk kp__law_walk
  have G__law_is_short_ring := wk__law_is_short_ring (P := l.prog) (w := w) (base := base) T G__law_walk ms__law_is_short_ring kp__law_is_short_ring
  have G__law_is_answer := wk__law_is_answer (P := l.prog) (w := w) (base := base) T G__law_is_numbers G__law_meets G__law_is_short_ring ms__law_is_answer kp__law_is_answer
  have G__law_bound := wk__law_bound (P := l.prog) (w := w) (base := base) T  ms__law_bound kp__law_bound
  have G__law_tagged := wk__law_tagged (P := l.prog) (w := w) (base := base) T  ms__law_tagged kp__law_tagged
  have G__law_unlike := wk__law_unlike (P := l.prog) (w := w) (base := base) T  ms__law_unlike kp__law_unlike
  have G__law_place := wk__law_place (P := l.prog) (w := w) (base := base) T  ms_place kp_lplace
  have G__law_pairs := wk__law_pairs (P := l.prog) (w := w) (base := base) T  ms__law_pairs kp__law_pairs
  have G__law_placed := wk__law_placed (P := l.prog) (w := w) (base := base) T G__law_pairs G__law_place ms__law_placed kp__law_placed
  have G__law_same_placed := wk__law_same_placed (P := l.prog) (w := w) (base := base) T G__law_same_row ms__law_same_placed kp__law_same_placed
  have G__law_note_pitch := wk__law_note_pitch (P := l.prog) (w := w) (base := base) T G__law_place ms__law_note_pitch kp__law_note_pitch
  have G__law_piece_world := wk__law_piece_world (P := l.prog) (w := w) (base := base) T G__law_note_pitch G__law_unlike ms_piece_world1 kp_piece_world1
  have G__law_breaches := wk__law_breaches (P := l.prog) (w := w) (base := base) T G__law_pairs G__law_note_pitch ms__law_breaches kp__law_breaches
  have G__law_plain := wk__law_plain (P := l.prog) (w := w) (base := base) T G__law_bound ms__law_plain kp__law_plain
  have G__law_moves_placed := wk__law_moves_placed (P := l.prog) (w := w) (base := base) T G__law_placed ms__law_moves_placed kp__law_moves_placed
  have G__law_sounds_well := wk__law_sounds_well (P := l.prog) (w := w) (base := base) T G__law_breaches G_breaches G_moved ms__law_sounds_well kp__law_sounds_well
  have G__law_is_right := wk__law_is_right (P := l.prog) (w := w) (base := base) T G__law_tagged G__law_is_numbers G__law_sounds_well G__law_is_number G__law_plain G__law_moves_placed G__law_is_short_ring ms__law_is_right_5988 kp__law_is_right_5988
  have G__law_asks_solving := wk__law_asks_solving (P := l.prog) (w := w) (base := base) T G_moves_placed G__law_moves_placed G__law_same_placed G__law_plain G_solve G_placed_at G__law_is_answer ms__law_asks_solving kp__law_asks_solving
  have G__law_asks_many := wk__law_asks_many (P := l.prog) (w := w) (base := base) T G_longest_moves G__law_is_right G_moves_placed G__law_same_placed G__law_moves_placed ms__law_asks_many kp__law_asks_many
  have G_law := wk_law (P := l.prog) (w := w) (base := base) T G__law_draws G__law_piece_world G__law_bound G_longest_moves G__law_is_right G__law_asks_many G__law_asks_solving G__law_tagged ms_law_900c kp_law_900c
  exact G_law.imp fun vs H Q E h => spLaw_spD h
end K85
open PySem PySem.W PyProof.Rows
set_option maxHeartbeats 0 in
theorem PySem.Challenge.cw_keystuned_k85_whole_longest_moves_holds : PySem.Challenge.rw_keystuned_k85_whole_longest_moves.Holds := by
  w_on; o_law; k_head; (case hw => w_witness2)
  k_fill
  refine DL.walk_ofG (l := PySem.Challenge.rw_keystuned_k85_whole_longest_moves) (n := 63) (k := 9) (x := "script") (sp := fun w => K85.spLaw _) rfl (by decide) rfl ⟨rfl, by decide, by decide⟩ (fun w h Y => PySem.W.kIn_of Y) ?F (fun _ _ a ns hl _ hS => ⟨a, ns, rfl, hS, hl, fun _ => rfl⟩)
  case F =>
    intro w mg fa h KX G hmg
    refine' K85.all_mk KX G hmg ?a0 ?l0 ?c0 ?k0 ?a1 ?l1 ?c1 ?k1 ?a2 ?l2 ?c2 ?k2 ?a3 ?l3 ?c3 ?k3 ?a4 ?l4 ?c4 ?k4 ?a5 ?l5 ?c5 ?k5 ?a6 ?l6 ?c6 ?k6 ?a7 ?l7 ?c7 ?k7 ?a8 ?l8 ?c8 ?k8 ?a9 ?l9 ?c9 ?k9 ?a10 ?l10 ?c10 ?k10 ?a11 ?l11 ?c11 ?k11 ?a12 ?l12 ?c12 ?k12 ?a13 ?l13 ?c13 ?k13 ?a14 ?l14 ?c14 ?k14 ?a15 ?l15 ?c15 ?k15 ?a16 ?l16 ?c16 ?k16 ?a17 ?l17 ?c17 ?k17 ?a18 ?l18 ?c18 ?k18 ?a19 ?l19 ?c19 ?k19 ?a20 ?l20 ?c20 ?k20 ?a21 ?l21 ?c21 ?k21 ?a22 ?l22 ?c22 ?k22 ?a23 ?l23 ?c23 ?k23 ?a24 ?l24 ?c24 ?k24 ?a25 ?l25 ?c25 ?k25 ?a26 ?l26 ?c26 ?k26 ?a27 ?l27 ?c27 ?k27 ?a28 ?l28 ?c28 ?k28 ?a29 ?l29 ?c29 ?k29 ?a30 ?l30 ?c30 ?k30 ?a31 ?l31 ?c31 ?k31 ?a32 ?l32 ?c32 ?k32 ?a33 ?l33 ?c33 ?k33 ?a34 ?l34 ?c34 ?k34 ?a35 ?l35 ?c35 ?k35 ?a36 ?l36 ?c36 ?k36 ?a37 ?l37 ?c37 ?k37 ?a38 ?l38 ?c38 ?k38 ?a39 ?l39 ?c39 ?k39 ?a40 ?l40 ?c40 ?k40 ?a41 ?l41 ?c41 ?k41 ?a42 ?l42 ?c42 ?k42 ?a43 ?l43 ?c43 ?k43 ?a44 ?l44 ?c44 ?k44 ?a45 ?l45 ?c45 ?k45 ?a46 ?l46 ?c46 ?k46 ?a47 ?l47 ?c47 ?k47 ?a48 ?l48 ?c48 ?k48 ?a49 ?l49 ?c49 ?k49 ?a50 ?l50 ?c50 ?k50 ?a51 ?l51 ?c51 ?k51 ?z0 ?z1 ?z2 ?z3 ?z4 ?z5 ?z6 ?z7 ?z8 ?z9 ?z10
    (case a0 => k_is); (case l0 => k_is); (case c0 => k_is); (case k0 => k_is); (case a1 => k_is); (case l1 => k_is); (case c1 => k_is); (case k1 => k_is); (case a2 => k_is); (case l2 => k_is); (case c2 => k_is); (case k2 => k_is); (case a3 => k_is); (case l3 => k_is); (case c3 => k_is); (case k3 => k_is); (case a4 => k_is); (case l4 => k_is); (case c4 => k_is); (case k4 => k_is); (case a5 => k_is); (case l5 => k_is); (case c5 => k_is); (case k5 => k_is); (case a6 => k_is); (case l6 => k_is); (case c6 => k_is); (case k6 => k_is); (case a7 => k_is); (case l7 => k_is); (case c7 => k_is); (case k7 => k_is); (case a8 => k_is); (case l8 => k_is); (case c8 => k_is); (case k8 => k_is); (case a9 => k_is); (case l9 => k_is); (case c9 => k_is); (case k9 => k_is); (case a10 => k_is); (case l10 => k_is); (case c10 => k_is); (case k10 => k_is); (case a11 => k_is); (case l11 => k_is); (case c11 => k_is); (case k11 => k_is); (case a12 => k_is); (case l12 => k_is); (case c12 => k_is); (case k12 => k_is); (case a13 => k_is); (case l13 => k_is); (case c13 => k_is); (case k13 => k_is); (case a14 => k_is); (case l14 => k_is); (case c14 => k_is); (case k14 => k_is); (case a15 => k_is); (case l15 => k_is); (case c15 => k_is); (case k15 => k_is); (case a16 => k_is); (case l16 => k_is); (case c16 => k_is); (case k16 => k_is); (case a17 => k_is); (case l17 => k_is); (case c17 => k_is); (case k17 => k_is); (case a18 => k_is); (case l18 => k_is); (case c18 => k_is); (case k18 => k_is); (case a19 => k_is); (case l19 => k_is); (case c19 => k_is); (case k19 => k_is); (case a20 => k_is); (case l20 => k_is); (case c20 => k_is); (case k20 => k_is); (case a21 => k_is); (case l21 => k_is); (case c21 => k_is); (case k21 => k_is); (case a22 => k_is); (case l22 => k_is); (case c22 => k_is); (case k22 => k_is); (case a23 => k_is); (case l23 => k_is); (case c23 => k_is); (case k23 => k_is); (case a24 => k_is); (case l24 => k_is); (case c24 => k_is); (case k24 => k_is); (case a25 => k_is); (case l25 => k_is); (case c25 => k_is); (case k25 => k_is); (case a26 => k_is); (case l26 => k_is); (case c26 => k_is); (case k26 => k_is); (case a27 => k_is); (case l27 => k_is); (case c27 => k_is); (case k27 => k_is); (case a28 => k_is); (case l28 => k_is); (case c28 => k_is); (case k28 => k_is); (case a29 => k_is); (case l29 => k_is); (case c29 => k_is); (case k29 => k_is); (case a30 => k_is); (case l30 => k_is); (case c30 => k_is); (case k30 => k_is); (case a31 => k_is); (case l31 => k_is); (case c31 => k_is); (case k31 => k_is); (case a32 => k_is); (case l32 => k_is); (case c32 => k_is); (case k32 => k_is); (case a33 => k_is); (case l33 => k_is); (case c33 => k_is); (case k33 => k_is); (case a34 => k_is); (case l34 => k_is); (case c34 => k_is); (case k34 => k_is); (case a35 => k_is); (case l35 => k_is); (case c35 => k_is); (case k35 => k_is); (case a36 => k_is); (case l36 => k_is); (case c36 => k_is); (case k36 => k_is); (case a37 => k_is); (case l37 => k_is); (case c37 => k_is); (case k37 => k_is); (case a38 => k_is); (case l38 => k_is); (case c38 => k_is); (case k38 => k_is); (case a39 => k_is); (case l39 => k_is); (case c39 => k_is); (case k39 => k_is); (case a40 => k_is); (case l40 => k_is); (case c40 => k_is); (case k40 => k_is); (case a41 => k_is); (case l41 => k_is); (case c41 => k_is); (case k41 => k_is); (case a42 => k_is); (case l42 => k_is); (case c42 => k_is); (case k42 => k_is); (case a43 => k_is); (case l43 => k_is); (case c43 => k_is); (case k43 => k_is); (case a44 => k_is); (case l44 => k_is); (case c44 => k_is); (case k44 => k_is); (case a45 => k_is); (case l45 => k_is); (case c45 => k_is); (case k45 => k_is); (case a46 => k_is); (case l46 => k_is); (case c46 => k_is); (case k46 => k_is); (case a47 => k_is); (case l47 => k_is); (case c47 => k_is); (case k47 => k_is); (case a48 => k_is); (case l48 => k_is); (case c48 => k_is); (case k48 => k_is); (case a49 => k_is); (case l49 => k_is); (case c49 => k_is); (case k49 => k_is); (case a50 => k_is); (case l50 => k_is); (case c50 => k_is); (case k50 => k_is); (case a51 => k_is); (case l51 => k_is); (case c51 => k_is); (case k51 => k_is); (case z0 => k_is); (case z1 => k_is); (case z2 => k_is); (case z3 => k_is); (case z4 => k_is); (case z5 => k_is); (case z6 => k_is); (case z7 => k_is); (case z8 => k_is); (case z9 => k_is); (case z10 => k_is)

