import PyProof.Rows.All
import Wide.All
import OpenK.AllK
import Wide.FinOn
import HandS.ForMost
import HandS.Deep
import HandS.Wide
import HandS.IsInst
import HandS.SortInts
import PySem.Challenge.RW_keystuned_k77_safe_targets
set_option Elab.async false
set_option linter.all false
set_option maxRecDepth 100000
/-! DL: a language of readings over plain data: no heap, no program. -/
namespace DL
open PySem

/-- what a name of a def holds: nothing; data that stays (m: its lists were all made since the entry); a list of its own that it may change (m: so its items); data that stood at the last mark -/
inductive Sl where
  | non
  | val (m : Bool) (d : PyData)
  | own (m : Bool) (ds : List PyData)
  | old (d : PyData)
abbrev Ds := List Sl
/-- how young the lists of a value are: any; made since the entry; made since the expression's start -/
inductive Lv where
  | any
  | mine
  | fresh
def Lv.min : Lv → Lv → Lv
  | .any, _ => .any
  | .mine, .any => .any
  | .mine, .mine => .mine
  | .mine, .fresh => .mine
  | .fresh, l => l
def mL (m : Bool) : Lv := match m with
  | true => .mine
  | false => .any
/-- where a value stands: among what stays, in a new list, in the own list of a name -/
inductive Fl where
  | av (l : Lv)
  | new (l : Lv)
  | own (i : Nat) (m : Bool)
def Fl.lv (fl : Fl) : Lv := match fl with
  | .av l => l
  | .new l => l
  | .own _ m => mL m
def look : Ds → Nat → Sl
  | [], _ => .non
  | s :: _, 0 => s
  | _ :: r, n + 1 => look r n
def put : Ds → Nat → Sl → Ds
  | [], _, _ => []
  | _ :: r, 0, s => s :: r
  | x :: r, n + 1, s => x :: put r n s
theorem put_length : ∀ (δ : Ds) (i : Nat) (s : Sl), (put δ i s).length = δ.length
  | [], _, _ => rfl
  | _ :: _, 0, _ => rfl
  | _ :: r, n + 1, s => congrArg (· + 1) (put_length r n s)
theorem look_put_ne : ∀ (δ : Ds) (i j : Nat) (s : Sl), j ≠ i → look (put δ i s) j = look δ j
  | [], _, _, _, _ => rfl
  | _ :: _, 0, 0, _, h => absurd rfl h
  | _ :: _, 0, _ + 1, _, _ => rfl
  | _ :: _, _ + 1, 0, _, _ => rfl
  | _ :: r, i + 1, j + 1, s, h => look_put_ne r i j s (fun e => h (congrArg (· + 1) e))
theorem look_put_eq : ∀ (δ : Ds) (i : Nat) (s : Sl), i < δ.length → look (put δ i s) i = s
  | [], _, _, h => absurd h (Nat.not_lt_zero _)
  | _ :: _, 0, _, _ => rfl
  | _ :: r, i + 1, s, h => look_put_eq r i s (Nat.lt_of_succ_lt_succ h)
theorem look_out : ∀ (δ : Ds) (i : Nat), δ.length ≤ i → look δ i = .non
  | [], _, _ => rfl
  | _ :: _, 0, h => absurd h (Nat.not_succ_le_zero _)
  | _ :: r, i + 1, h => look_out r i (Nat.le_of_succ_le_succ h)
def wipe : Ds → List Nat → Ds
  | δ, [] => δ
  | δ, i :: r => put (wipe δ r) i .non
theorem wipe_length (δ : Ds) : ∀ vs : List Nat, (wipe δ vs).length = δ.length
  | [] => rfl
  | i :: r => (put_length _ _ _).trans (wipe_length δ r)

/-- two ways -/
def br (b : Bool) (p q : Prop) : Prop := match b with
  | true => p
  | false => q
theorem br.mk {b : Bool} {p q : Prop} (h1 : b = true → p) (h2 : b = false → q) : br b p q := by
  cases b with
  | true => exact h1 rfl
  | false => exact h2 rfl
theorem br.dec {c : Prop} [Decidable c] {p q : Prop} (h1 : c → p) (h2 : ¬ c → q) : br (decide c) p q :=
  br.mk (fun h => h1 (of_decide_eq_true h)) (fun h => h2 (of_decide_eq_false h))
theorem br.nd {c : Prop} [Decidable c] {p q : Prop} (h1 : ¬ c → p) (h2 : c → q) : br (!decide c) p q :=
  br.mk (fun h => h1 (by simpa using h)) (fun h => h2 (by simpa using h))
theorem br.t {b : Bool} {p q : Prop} (h : b = true) (k : p) : br b p q := by subst h; exact k
theorem br.f {b : Bool} {p q : Prop} (h : b = false) (k : q) : br b p q := by subst h; exact k
theorem br.yes {c : Prop} [Decidable c] {p q : Prop} (h : c) (k : p) : br (decide c) p q := br.t (decide_eq_true h) k
theorem br.no {c : Prop} [Decidable c] {p q : Prop} (h : ¬ c) (k : q) : br (decide c) p q := br.f (decide_eq_false h) k
theorem br.imp {b : Bool} {p q p' q' : Prop} (h : br b p q) (h1 : p → p') (h2 : q → q') : br b p' q' := by
  cases b with
  | true => exact h1 h
  | false => exact h2 h

abbrev VK := Fl → PyData → Prop
abbrev DE := Ds → VK → Prop
abbrev DT := Ds → (Bool → Prop) → Prop
abbrev DA := Ds → (Lv → List PyData → Prop) → Prop
abbrev DO := Ds → (Option Int → Prop) → Prop
/-- an error: its class's name, its fields -/
structure Er where
  cls : Str
  fs : List (Str × PyData)
/-- how an answer stands: among what stays, a new list; F: all its lists are new -/
inductive Rt where
  | av
  | new
  | avF
  | newF
structure Ed where
  nx : Ds → Prop
  rt : Rt → PyData → Prop
  bk : Ds → Prop := fun _ => False
  ct : Ds → Prop := fun _ => False
  ex : Er → Prop := fun _ => False
abbrev DS := Ed → Ds → Prop
abbrev DG := Lv → PyData → Ds → (Ds → Prop) → Prop
abbrev DGs := Lv → List PyData → Ds → (Ds → Prop) → Prop
/-- a def's promise: the arguments, what is wanted of its answer -/
abbrev DSp := List PyData → (Rt → PyData → Prop) → Prop

/-! ### expressions -/
def dVar (i : Nat) : DE := fun σ Q => match look σ i with
  | .val m d => Q (.av (mL m)) d
  | .own m ds => Q (.own i m) (.list ds)
  | .old d => Q (.av .any) d
  | .non => False
def dC (d : PyData) : DE := fun _ Q => Q (.av .fresh) d
abbrev R1 := Lv → PyData → VK → Prop
abbrev R2 := Lv → PyData → Lv → PyData → VK → Prop
abbrev RB := PyData → PyData → (Bool → Prop) → Prop
def dUn (r : R1) (ta : DE) : DE := fun σ Q => ta σ fun fl x => r fl.lv x Q
def dOp (r : R2) (ta tb : DE) : DE := fun σ Q => ta σ fun fx x => tb σ fun fy y => r fx.lv x fy.lv y Q
def dCmp (r : RB) (ta tb : DE) : DT := fun σ Q => ta σ fun _ x => tb σ fun _ y => r x y Q
/-- a test as a value, a value as a test -/
def dBool (t : DT) : DE := fun σ Q => t σ fun b => Q (.av .fresh) (.bool b)
def rTest (d : PyData) (Q : Bool → Prop) : Prop := match d with
  | .bool b => Q b
  | _ => False
def dTest (t : DE) : DT := fun σ Q => t σ fun _ d => rTest d Q
def dAnd (t u : DT) : DT := fun σ Q => t σ fun b => br b (u σ Q) (Q false)
def dOr (t u : DT) : DT := fun σ Q => t σ fun b => br b (Q true) (u σ Q)
def dNot (t : DT) : DT := fun σ Q => t σ fun b => Q (!b)
def dAndV (ta tb : DE) : DE := fun σ Q => ta σ fun _ d => rTest d fun b => br b (tb σ Q) (Q (.av .fresh) (.bool false))
def dOrV (ta tb : DE) : DE := fun σ Q => ta σ fun _ d => rTest d fun b => br b (Q (.av .fresh) (.bool true)) (tb σ Q)
def dNotV (ta : DE) : DE := fun σ Q => ta σ fun _ d => rTest d fun b => Q (.av .fresh) (.bool (!b))
def dIfE (c : DT) (ta tb : DE) : DE := fun σ Q => c σ fun b => br b (ta σ Q) (tb σ Q)
/-- what is no own list of a name -/
def fz (fl : Fl) (p : Lv → Prop) : Prop := match fl with
  | .own _ _ => False
  | .av l => p l
  | .new l => p l
def dNil : DA := fun _ Q => Q .fresh []
def dCons (ta : DE) (tr : DA) : DA := fun σ Q => ta σ fun fl x => fz fl fun l => tr σ fun k xs => Q (l.min k) (x :: xs)
def dTup (ta : DA) : DE := fun σ Q => ta σ fun l ds => ds.length ≤ 1000 ∧ Q (.av l) (.tuple ds)
def dLst (ta : DA) : DE := fun σ Q => ta σ fun l ds => ds.length ≤ 1000 ∧ Q (.new l) (.list ds)
def Rt.fl (r : Rt) : Fl := match r with
  | .av => .av .any
  | .new => .new .any
  | .avF => .av .fresh
  | .newF => .new .fresh
def dCall (S : DSp) (ta : DA) : DE := fun σ Q => ta σ fun _ ds => S ds fun r d => Q r.fl d
/-- no list within -/
inductive NL : PyData → Prop
  | non : NL .none
  | bool (b : Bool) : NL (.bool b)
  | int (i : Int) : NL (.int i)
  | str (s : Str) : NL (.str s)
  | tup {ds : List PyData} : (∀ d ∈ ds, NL d) → NL (.tuple ds)
/-- e with the own list of slot i lent: what it gives holds no list -/
def dLend (i : Nat) (t : DE) : DE := fun σ Q => match look σ i with
  | .own _ ds => t (put σ i (.val false (.list ds))) fun fl d => fz fl fun _ => NL d ∧ Q (.av .fresh) d
  | _ => False
def dLendT (i : Nat) (t : DT) : DT := fun σ Q => match look σ i with
  | .own _ ds => t (put σ i (.val false (.list ds))) Q
  | _ => False
/-- what holds no list -/
def dNL (t : DE) : DE := fun σ Q => t σ fun fl d => fz fl fun _ => NL d ∧ Q (.av .fresh) d

/-! ### operations -/
def rAdd : R2 := fun l x k y Q => match x with
  | .int a => (match y with
    | .int b => Q (.av .fresh) (.int (a + b))
    | _ => False)
  | .list a => (match y with
    | .list b => a.length + b.length ≤ sizeLine ∧ Q (.new (l.min k)) (.list (a ++ b))
    | _ => False)
  | .tuple a => (match y with
    | .tuple b => a ≠ [] ∧ a.length + b.length ≤ sizeLine ∧ Q (.av (l.min k)) (.tuple (a ++ b))
    | _ => False)
  | .str a => (match y with
    | .str b => a.length + b.length ≤ sizeLine ∧ Q (.av .fresh) (.str (a ++ b))
    | _ => False)
  | _ => False
def rInt (C : Int → Int → Prop) (f : Int → Int → Int) : R2 := fun _ x _ y Q => match x with
  | .int a => (match y with
    | .int b => C a b ∧ Q (.av .fresh) (.int (f a b))
    | _ => False)
  | _ => False
def rSub : R2 := fun _ x _ y Q => match x with
  | .int a => (match y with
    | .int b => Q (.av .fresh) (.int (a - b))
    | _ => False)
  | _ => False
/-- one factor is small, or together they are not too large -/
def MulC (a b : Int) : Prop := L2.CMul a b ∨ L2.CMulW a b
def rMul : R2 := fun l x _ y Q => match x with
  | .int a => (match y with
    | .int b => MulC a b ∧ Q (.av .fresh) (.int (a * b))
    | _ => False)
  | .list a => (match y with
    | .int b => b < 2 ^ 62 ∧ -(2 ^ 62) < b ∧ a.length * b.toNat ≤ sizeLine ∧ Q (.new l) (.list (List.replicate b.toNat a).flatten)
    | _ => False)
  | _ => False
def DivC (a b : Int) : Prop := L2.CDiv a b ∨ L2.CDivW a b
def rDiv : R2 := fun _ x _ y Q => match x with
  | .int a => (match y with
    | .int b => DivC a b ∧ Q (.av .fresh) (.int (a / b))
    | _ => False)
  | _ => False
def ModC (_ b : Int) : Prop := 0 < b
def rMod : R2 := fun _ x _ y Q => match x with
  | .int a => (match y with
    | .int b => ModC a b ∧ Q (.av .fresh) (.int (a % b))
    | _ => False)
  | _ => False
def rPow : R2 := fun _ x _ y Q => match x with
  | .int a => (match y with
    | .int b => L2.CPow a b ∧ Q (.av .fresh) (.int (a ^ b.toNat))
    | _ => False)
  | _ => False
def rNeg : R1 := fun _ x Q => match x with
  | .int a => Q (.av .fresh) (.int (-a))
  | _ => False
def rLt : RB := fun x y Q => match x with
  | .int a => (match y with
    | .int b => Q (decide (a < b))
    | _ => False)
  | _ => False
def rLe : RB := fun x y Q => match x with
  | .int a => (match y with
    | .int b => Q (decide (a ≤ b))
    | _ => False)
  | _ => False
def rGt : RB := fun x y Q => match x with
  | .int a => (match y with
    | .int b => Q (decide (b < a))
    | _ => False)
  | _ => False
def rGe : RB := fun x y Q => match x with
  | .int a => (match y with
    | .int b => Q (decide (b ≤ a))
    | _ => False)
  | _ => False
def eqG (x y : PyData) (Q : Bool → Prop) : Prop := SeqAt.shaped x = true ∧ SeqAt.shaped y = true ∧ Q (PyData.eqv x y)
def rEq : RB := fun x y Q => match x with
  | .int a => (match y with
    | .int b => Q (decide (a = b))
    | _ => eqG x y Q)
  | .str a => (match y with
    | .str b => Q (decide (a = b))
    | _ => eqG x y Q)
  | .bool a => (match y with
    | .bool b => Q (decide (a = b))
    | _ => eqG x y Q)
  | _ => eqG x y Q
def rNe : RB := fun x y Q => rEq x y fun b => Q (!b)
def rIn : RB := fun x y Q => match y with
  | .list ys => SeqAt.shaped x = true ∧ SeqAt.shaped (.list ys) = true ∧ Q (ys.any fun z => PyData.eqv z x)
  | _ => False
def rNotIn : RB := fun x y Q => rIn x y fun b => Q (!b)
def isN (d : PyData) : Bool := match d with
  | .none => true
  | _ => false
def rIs : RB := fun x y Q => match y with
  | .none => Q (isN x)
  | _ => False
def rIsNot : RB := fun x y Q => match y with
  | .none => Q (!isN x)
  | _ => False
/-- a < b < c and its like -/
def dChain (r r' : RB) (ta tb tc : DE) : DT := fun σ Q => ta σ fun _ x => tb σ fun _ y => r x y fun k => br k (tc σ fun _ z => r' y z Q) (Q false)
def rIx : R2 := fun l x _ y Q => match y with
  | .int i => (match x with
    | .list ds => ∃ d, L2.atI ds i = some d ∧ Q (.av l) d
    | .tuple ds => ∃ d, L2.atI ds i = some d ∧ Q (.av l) d
    | _ => False)
  | _ => False
def cut {α : Type} (xs : List α) (lo hi : Option Int) : List α := (xs.drop (HT.sIx xs.length 0 lo)).take (HT.sIx xs.length xs.length hi - HT.sIx xs.length 0 lo)
def rSl (l : Lv) (x : PyData) (lo hi : Option Int) (Q : VK) : Prop := match x with
  | .list ds => Q (.new l) (.list (cut ds lo hi))
  | .tuple ds => ¬ (HT.sIx ds.length 0 lo = 0 ∧ HT.sIx ds.length ds.length hi = ds.length) ∧ Q (.av l) (.tuple (cut ds lo hi))
  | .dict kvs => Q (.new .fresh) (.list (cut (kvs.map (·.1)) lo hi))
  | _ => False
def dNo : DO := fun _ Q => Q none
def rPart (x : PyData) (Q : Option Int → Prop) : Prop := match x with
  | .int i => Q (some i)
  | _ => False
def dPart (t : DE) : DO := fun σ Q => t σ fun _ x => rPart x Q
def dSl (t : DE) (lo hi : DO) : DE := fun σ Q => t σ fun fl x => lo σ fun l => hi σ fun h => rSl fl.lv x l h Q
def rLen : R1 := fun _ x Q => match x with
  | .list ds => Q (.av .fresh) (.int ds.length)
  | .tuple ds => Q (.av .fresh) (.int ds.length)
  | .str s => s.length ≤ sizeLine ∧ Q (.av .fresh) (.int s.length)
  | .dict kvs => Q (.av .fresh) (.int kvs.length)
  | _ => False
def rAbs : R1 := fun _ x Q => match x with
  | .int a => Q (.av .fresh) (.int (if a < 0 then -a else a))
  | _ => False
def rToInt : R1 := fun _ x Q => match x with
  | .int a => Q (.av .fresh) (.int a)
  | .bool b => Q (.av .fresh) (.int (if b then 1 else 0))
  | _ => False
def rMax2 : R2 := fun _ x _ y Q => match x with
  | .int a => (match y with
    | .int b => Q (.av .fresh) (.int (if b > a then b else a))
    | _ => False)
  | _ => False
def rMin2 : R2 := fun _ x _ y Q => match x with
  | .int a => (match y with
    | .int b => Q (.av .fresh) (.int (if b < a then b else a))
    | _ => False)
  | _ => False
def rSum : R1 := fun _ x Q => match x with
  | .list ds => ∃ ns : List Int, ds = ns.map PyData.int ∧ Q (.av .fresh) (.int ns.sum)
  | _ => False
def rSorted : R1 := fun _ x Q => match x with
  | .list ds => ∃ ns : List Int, ds = ns.map PyData.int ∧ ∀ ns' : List Int, ns'.Perm ns → ns'.Pairwise (· ≤ ·) → Q (.new .fresh) (.list (ns'.map PyData.int))
  | _ => False
def rToList : R1 := fun l x Q => match x with
  | .list ds => Q (.new l) (.list ds)
  | .tuple ds => Q (.new l) (.list ds)
  | _ => False
def rToTup : R1 := fun l x Q => match x with
  | .list ds => Q (.av l) (.tuple ds)
  | .tuple ds => Q (.av l) (.tuple ds)
  | _ => False

/-! ### statements -/
def dNext : DS := fun D σ => D.nx σ
def dSeq (t u : DS) : DS := fun D σ => t { D with nx := u D } σ
def dPass : DS := fun D σ => D.nx σ
def dBreak : DS := fun D σ => D.bk σ
def dCont : DS := fun D σ => D.ct σ
def dDrop (t : DE) : DS := fun D σ => t σ fun _ _ => D.nx σ
/-- an answer: its age is not told; F: told -/
def rRet (D : Ed) (fl : Fl) (d : PyData) : Prop := match fl with
  | .av _ => D.rt .av d
  | .new _ => D.rt .new d
  | .own _ _ => D.rt .new d
def rRetF (D : Ed) (fl : Fl) (d : PyData) : Prop := match fl with
  | .av l => (match l with
    | .any => False
    | .mine => D.rt .avF d
    | .fresh => D.rt .avF d)
  | .new l => (match l with
    | .any => False
    | .mine => D.rt .newF d
    | .fresh => D.rt .newF d)
  | .own _ m => (match m with
    | true => D.rt .newF d
    | false => False)
def dRet (t : DE) : DS := fun D σ => t σ fun fl d => rRet D fl d
def dRetF (t : DE) : DS := fun D σ => t σ fun fl d => rRetF D fl d
def dRetN : DS := fun D _ => D.rt .av .none
def dIf (c : DT) (t u : DS) : DS := fun D σ => c σ fun b => br b (t D σ) (u D σ)
/-- x = e: the value stays -/
def dSet (i : Nat) (t : DE) : DS := fun D σ => t σ fun fl d => fz fl fun _ => D.nx (put σ i (.val false d))
/-- .. and its lists were made since the entry -/
def young (l : Lv) (p : Prop) : Prop := match l with
  | .any => False
  | .mine => p
  | .fresh => p
def dSetM (i : Nat) (t : DE) : DS := fun D σ => t σ fun fl d => fz fl fun l => young l (D.nx (put σ i (.val true d)))
/-- x = e: a new list, which x may change -/
def rOwn (fl : Fl) (d : PyData) (k : Lv → List PyData → Prop) : Prop := match fl with
  | .new l => (match d with
    | .list ds => k l ds
    | _ => False)
  | _ => False
def dOwn (i : Nat) (t : DE) : DS := fun D σ => t σ fun fl d => rOwn fl d fun _ ds => D.nx (put σ i (.own false ds))
def dOwnM (i : Nat) (t : DE) : DS := fun D σ => t σ fun fl d => rOwn fl d fun l ds => young l (D.nx (put σ i (.own true ds)))
/-- .. also one that a def made: its items hold no list -/
def rOwnA (fl : Fl) (d : PyData) (k : List PyData → Prop) : Prop := match fl with
  | .new _ => (match d with
    | .list ds => k ds
    | _ => False)
  | .av l => (match l with
    | .fresh => (match d with
      | .list ds => (∀ x ∈ ds, NL x) ∧ k ds
      | _ => False)
    | _ => False)
  | _ => False
def dOwnA (i : Nat) (t : DE) : DS := fun D σ => t σ fun fl d => rOwnA fl d fun ds => D.nx (put σ i (.own false ds))
/-- the list of x stays from here on -/
def dFrz (i : Nat) (t : DS) : DS := fun D σ => match look σ i with
  | .own m ds => t D (put σ i (.val m (.list ds)))
  | _ => t D σ
/-- targets -/
def gName (i : Nat) : DG := fun _ d σ Q => Q (put σ i (.val false d))
def gNameM (i : Nat) : DG := fun l d σ Q => young l (Q (put σ i (.val true d)))
def gNil : DGs := fun _ ds σ Q => match ds with
  | [] => Q σ
  | _ => False
def gCons (g : DG) (r : DGs) : DGs := fun l ds σ Q => match ds with
  | d :: ds' => g l d σ fun σ' => r l ds' σ' Q
  | [] => False
def gTup (n : Nat) (g : DGs) : DG := fun l d σ Q => match d with
  | .tuple ds => ds.length = n ∧ g l ds σ Q
  | _ => False
def dAsg (t : DE) (g : DG) : DS := fun D σ => t σ fun fl d => fz fl fun l => g l d σ D.nx
/-- x[i] = e, x.append(e), .. of an own list -/
def ownAt (σ : Ds) (i : Nat) (k : Bool → List PyData → Prop) : Prop := match look σ i with
  | .own m ds => k m ds
  | _ => False
/-- an item for an own list: of the items' age -/
def fit (m : Bool) (l : Lv) (p : Prop) : Prop := match m with
  | false => p
  | true => young l p
def rSetIx (y : PyData) (ds : List PyData) (d : PyData) (k : List PyData → Prop) : Prop := match y with
  | .int i => ∃ j, L2.ixN ds.length i = some j ∧ k (ds.set j d)
  | _ => False
def dSetIx (i : Nat) (te ti : DE) : DS := fun D σ => te σ fun fl d => fz fl fun l => ownAt σ i fun m ds => fit m l (ti σ fun _ y => rSetIx y ds d fun es => D.nx (put σ i (.own m es)))
def dApp (i : Nat) (t : DE) : DS := fun D σ => ownAt σ i fun m ds => t σ fun fl d => fz fl fun l => fit m l (ds.length < sizeLine ∧ D.nx (put σ i (.own m (ds ++ [d]))))
def rExt (d : PyData) (k : List PyData → Prop) : Prop := match d with
  | .list es => k es
  | _ => False
def dExt (i : Nat) (t : DE) : DS := fun D σ => ownAt σ i fun m ds => t σ fun fl d => fz fl fun l => fit m l (rExt d fun es => ds.length + es.length ≤ sizeLine ∧ D.nx (put σ i (.own m (ds ++ es))))
def dRev (i : Nat) : DS := fun D σ => ownAt σ i fun m ds => D.nx (put σ i (.own m ds.reverse))
/-! a mark: what stands now is old; a list made since may be spoilt, then only what is old, or no list, is known -/
def reold (δ : Ds) : Ds := δ.map fun s => match s with
  | .val _ d => .old d
  | .own _ ds => .own false ds
  | s => s
def unold (δ : Ds) : Ds := δ.map fun s => match s with
  | .old d => .val false d
  | s => s
def dMark (t : DS) : DS := fun D σ => t { D with nx := fun σ' => D.nx (unold σ'), bk := fun σ' => D.bk (unold σ'), ct := fun σ' => D.ct (unold σ') } (reold σ)
def scalar (d : PyData) : Bool := match d with
  | .none => true
  | .bool _ => true
  | .int _ => true
  | .str _ => true
  | _ => false
def spoil (δ : Ds) : Ds := δ.map fun s => match s with
  | .old d => .old d
  | .val m d => (match scalar d with
    | true => .val m d
    | false => .non)
  | _ => .non
/-! loops -/
def forGo (l : Lv) (g : DG) (tb : DS) : List PyData → DS
  | [], D, σ => D.nx σ
  | x :: xs, D, σ => g l x σ fun σ' => tb { D with nx := forGo l g tb xs D, ct := forGo l g tb xs D, bk := D.nx } σ'
def itL (d : PyData) (k : List PyData → Prop) : Prop := match d with
  | .list ds => k ds
  | .dict kvs => k (kvs.map (·.1))
  | _ => False
def itT (d : PyData) (k : List PyData → Prop) : Prop := match d with
  | .tuple ds => k ds
  | _ => False
def dForL (t : DE) (g : DG) (tb : DS) : DS := fun D σ => t σ fun fl d => fz fl fun l => itL d fun ds => forGo l g tb ds D σ
def dForT (t : DE) (g : DG) (tb : DS) : DS := fun D σ => t σ fun fl d => fz fl fun l => itT d fun ds => forGo l g tb ds D σ
def upTo (lo : Int) (n : Nat) : List PyData := (List.range n).map fun (k : Nat) => PyData.int (lo + (k : Int))
def Sm (i : Int) : Prop := -(2 ^ 62) ≤ i ∧ i < 2 ^ 62
def rRng1 (d : PyData) (k : List PyData → Prop) : Prop := match d with
  | .int n => Sm n ∧ k (upTo 0 n.toNat)
  | _ => False
def rRng2 (d e : PyData) (k : List PyData → Prop) : Prop := match d with
  | .int a => (match e with
    | .int b => Sm a ∧ Sm b ∧ k (upTo a (b - a).toNat)
    | _ => False)
  | _ => False
def dForR1 (t : DE) (g : DG) (tb : DS) : DS := fun D σ => t σ fun _ d => rRng1 d fun ds => forGo .fresh g tb ds D σ
def dForR2 (t u : DE) (g : DG) (tb : DS) : DS := fun D σ => t σ fun _ d => u σ fun _ e => rRng2 d e fun ds => forGo .fresh g tb ds D σ
def dWhile (c : DT) (tb : DS) : DS := fun D σ => ∃ W : Nat → Ds → Prop, (∃ m, W m σ) ∧ ∀ m σ, W m σ →
  c σ fun b => br b (∃ N : Ds → Prop, (∀ σ', N σ' → ∃ m', m' < m ∧ W m' σ') ∧ tb { D with nx := N, ct := N, bk := D.nx } σ) (D.nx σ)
/-! comprehensions -/
/-- an item of a comprehension; f: all must be young -/
def okF (f : Bool) (k : Lv) (p : Prop) : Prop := match f with
  | false => p
  | true => (match k with
    | .fresh => p
    | _ => False)
def cL (f : Bool) : Lv := match f with
  | false => .any
  | true => .fresh
def lcGo (f : Bool) (l : Lv) (g : DG) (tt : DT) (te : DE) (σ : Ds) : List PyData → List PyData → (List PyData → Prop) → Prop
  | [], acc, Q => Q acc
  | x :: xs, acc, Q => g l x σ fun σ' => tt σ' fun b => br b (te σ' fun fl d => fz fl fun k => okF f k (acc.length < sizeLine ∧ lcGo f l g tt te σ xs (acc ++ [d]) Q)) (lcGo f l g tt te σ xs acc Q)
def dYes : DT := fun _ Q => Q true
def dLcL (f : Bool) (t : DE) (g : DG) (tt : DT) (te : DE) (vs : List Nat) : DE := fun σ Q => t σ fun fl d => itL d fun ds => lcGo f fl.lv g tt te (wipe σ vs) ds [] fun r => Q (.new (cL f)) (.list r)
def dLcT (f : Bool) (t : DE) (g : DG) (tt : DT) (te : DE) (vs : List Nat) : DE := fun σ Q => t σ fun fl d => itT d fun ds => lcGo f fl.lv g tt te (wipe σ vs) ds [] fun r => Q (.new (cL f)) (.list r)
def dLcR1 (f : Bool) (t : DE) (g : DG) (tt : DT) (te : DE) (vs : List Nat) : DE := fun σ Q => t σ fun _ d => rRng1 d fun ds => lcGo f .fresh g tt te (wipe σ vs) ds [] fun r => Q (.new (cL f)) (.list r)
def dLcR2 (f : Bool) (t u : DE) (g : DG) (tt : DT) (te : DE) (vs : List Nat) : DE := fun σ Q => t σ fun _ d => u σ fun _ e => rRng2 d e fun ds => lcGo f .fresh g tt te (wipe σ vs) ds [] fun r => Q (.new (cL f)) (.list r)
/-- a def's state at its entry -/
def start (n : Nat) (ds : List PyData) : Ds := ds.map (Sl.val false) ++ List.replicate (n - ds.length) .non
/-- a def's body keeps its promise -/
def Keeps (n : Nat) (body : DS) (S : DSp) : Prop := ∀ ds Q, S ds Q → body { nx := fun _ => Q .av .none, rt := Q } (start n ds)
def MonoS (S : DSp) : Prop := ∀ ds Q Q', (∀ b d, Q b d → Q' b d) → S ds Q → S ds Q'
end DL
namespace DL
open PySem
/-! ### kinds of values -/
def tyN (d : PyData) : String := match d with
  | .none => "NoneType"
  | .bool _ => "bool"
  | .int _ => "int"
  | .str _ => "str"
  | .list _ => "list"
  | .tuple _ => "tuple"
  | .dict _ => "list"
def isInt (d : PyData) : Bool := match d with
  | .int _ => true
  | .bool _ => true
  | _ => false
def isBool (d : PyData) : Bool := match d with
  | .bool _ => true
  | _ => false
def isStr (d : PyData) : Bool := match d with
  | .str _ => true
  | _ => false
def isList (d : PyData) : Bool := match d with
  | .list _ => true
  | .dict _ => true
  | _ => false
def isTup (d : PyData) : Bool := match d with
  | .tuple _ => true
  | _ => false
def rKind (f : PyData → Bool) : R1 := fun _ x Q => Q (.av .fresh) (.bool (f x))
end DL

set_option Elab.async false
set_option linter.all false
set_option maxRecDepth 100000
set_option maxHeartbeats 2000000
/-! DW: the readings over plain data hold of the program: the relation between data and the abstract heap. -/
namespace DL
open PySem PySem.Spec L2

mutual
inductive Rp (K : PySem.W.Frag) (F : Addr → Prop) (H : Hp) : V → PyData → Prop
  | non : Rp K F H .non .none
  | bl (b : Bool) : Rp K F H (.bl b) (.bool b)
  | int (i : Int) : Rp K F H (.int i) (.int i)
  | str (x : Str) : Rp K F H (.str x) (.str x)
  | lst {a : Addr} {xs : List V} {ds : List PyData} : F a → H a = some (.lst xs) → RpAll K F H xs ds → Rp K F H (.ref a) (.list ds)
  | tup {a : Addr} {xs : List V} {ds : List PyData} : SqT K H a xs → RpAll K F H xs ds → Rp K F H (.ref a) (.tuple ds)
  | scr {a : Addr} {ns : List Int} : SqL K H a (ns.map V.int) → Rp K F H (.ref a) (.dict (ns.map fun n => (PyData.int n, PyData.none)))
inductive RpAll (K : PySem.W.Frag) (F : Addr → Prop) (H : Hp) : List V → List PyData → Prop
  | nil : RpAll K F H [] []
  | cons {v : V} {vs : List V} {d : PyData} {ds : List PyData} : Rp K F H v d → RpAll K F H vs ds → RpAll K F H (v :: vs) (d :: ds)
end

/-- all that is known stays known -/
def Ext (H H' : Hp) : Prop := ∀ a o, H a = some o → H' a = some o
theorem Ext.refl (H : Hp) : Ext H H := fun _ _ h => h
theorem Ext.trans {H H1 H2 : Hp} (a : Ext H H1) (b : Ext H1 H2) : Ext H H2 := fun x o h => b x o (a x o h)
theorem Ext.new {H : Hp} {p : Addr} {o : HO} (h : H p = none) : Ext H (upd H p o) := fun a u e => by
  rw [upd_ne (ne_of_none e h)]; exact e
theorem Ext.under {G H : Hp} {p : Addr} {o : HO} (e : Ext G H) (h : G p = none) : Ext G (upd H p o) := fun a u ha => by
  rw [upd_ne (ne_of_none ha h)]; exact e a u ha
theorem Ext.both {G H : Hp} {p : Addr} {o : HO} (e : Ext G H) : Ext (upd G p o) (upd H p o) := fun a u ha => by
  by_cases hp : a = p
  · subst hp; rw [upd_same] at ha ⊢; exact ha
  · rw [upd_ne hp] at ha ⊢; exact e a u ha
theorem Ext.free {H H' : Hp} {p : Addr} (e : Ext H H') (h : H' p = none) : H p = none := by
  cases q : H p with
  | none => rfl
  | some o => rw [e p o q] at h; cases h
theorem Ext.rd {H H' : Hp} {a : Addr} {u : HO} (e : Ext H H') (h : Rd H a u) : Rd H' a u := by
  rcases h with h | ⟨o, h⟩
  · exact .inl (e a _ h)
  · exact .inr ⟨o, e a _ h⟩
theorem Ext.sl {K : PySem.W.Frag} {H H' : Hp} {a : Addr} {xs : List V} (e : Ext H H') (h : SqL K H a xs) : SqL K H' a xs := by
  rcases h with h | h
  · exact .inl (e.rd h)
  · exact .inr h
theorem Ext.st {K : PySem.W.Frag} {H H' : Hp} {a : Addr} {xs : List V} (e : Ext H H') (h : SqT K H a xs) : SqT K H' a xs := by
  rcases h with h | h
  · exact .inl (e.rd h)
  · exact .inr h
mutual
theorem Rp.mono {K : PySem.W.Frag} {F : Addr → Prop} {H H' : Hp} (e : Ext H H') : ∀ {v : V} {d : PyData}, Rp K F H v d → Rp K F H' v d
  | _, _, .non => .non
  | _, _, .bl b => .bl b
  | _, _, .int i => .int i
  | _, _, .str x => .str x
  | _, _, .lst f h r => .lst f (e _ _ h) (RpAll.mono e r)
  | _, _, .tup h r => .tup (e.st h) (RpAll.mono e r)
  | _, _, .scr h => .scr (e.sl h)
theorem RpAll.mono {K : PySem.W.Frag} {F : Addr → Prop} {H H' : Hp} (e : Ext H H') : ∀ {v : List V} {d : List PyData}, RpAll K F H v d → RpAll K F H' v d
  | _, _, .nil => .nil
  | _, _, .cons h r => .cons (Rp.mono e h) (RpAll.mono e r)
end
section
variable {K : PySem.W.Frag} {F : Addr → Prop} {H H' : Hp}
theorem RpAll.length : ∀ {xs : List V} {ds : List PyData}, RpAll K F H xs ds → xs.length = ds.length
  | _, _, .nil => rfl
  | _, _, .cons _ r => congrArg (· + 1) (RpAll.length r)
theorem RpAll.get : ∀ {xs : List V} {ds : List PyData} {i : Nat} {d : PyData}, RpAll K F H xs ds → ds[i]? = some d → ∃ v, xs[i]? = some v ∧ Rp K F H v d
  | _, _, _, _, .nil, e => by simp at e
  | _, _, 0, _, .cons r _, e => by simp at e; subst e; exact ⟨_, rfl, r⟩
  | _, _, i + 1, d, .cons _ t, e => by
    obtain ⟨v, h1, h2⟩ := RpAll.get (i := i) (d := d) t (by simpa using e)
    exact ⟨v, by simpa using h1, h2⟩
theorem RpAll.append : ∀ {xs ys : List V} {ds es : List PyData}, RpAll K F H xs ds → RpAll K F H ys es → RpAll K F H (xs ++ ys) (ds ++ es)
  | _, _, _, _, .nil, s => s
  | _, _, _, _, .cons r t, s => .cons r (RpAll.append t s)
theorem RpAll.take : ∀ {xs : List V} {ds : List PyData} (n : Nat), RpAll K F H xs ds → RpAll K F H (xs.take n) (ds.take n)
  | _, _, 0, _ => .nil
  | _, _, _ + 1, .nil => .nil
  | _, _, n + 1, .cons r t => .cons r (RpAll.take n t)
theorem RpAll.drop : ∀ {xs : List V} {ds : List PyData} (n : Nat), RpAll K F H xs ds → RpAll K F H (xs.drop n) (ds.drop n)
  | _, _, 0, r => r
  | _, _, _ + 1, .nil => .nil
  | _, _, n + 1, .cons _ t => RpAll.drop n t
theorem RpAll.set {v : V} {d : PyData} (r : Rp K F H v d) : ∀ {xs : List V} {ds : List PyData} (i : Nat), RpAll K F H xs ds → RpAll K F H (xs.set i v) (ds.set i d)
  | _, _, _, .nil => .nil
  | _, _, 0, .cons _ t => .cons r t
  | _, _, i + 1, .cons q t => .cons q (RpAll.set r i t)
theorem RpAll.reverse : ∀ {xs : List V} {ds : List PyData}, RpAll K F H xs ds → RpAll K F H xs.reverse ds.reverse
  | _, _, .nil => .nil
  | _, _, .cons r t => by
    rw [List.reverse_cons, List.reverse_cons]
    exact (RpAll.reverse t).append (.cons r .nil)
theorem RpAll.dropLast : ∀ {xs : List V} {ds : List PyData}, RpAll K F H xs ds → RpAll K F H xs.dropLast ds.dropLast := fun {xs ds} r => by
  rw [List.dropLast_eq_take, List.dropLast_eq_take, r.length]
  exact r.take _
theorem RpAll.rep {xs : List V} {ds : List PyData} (r : RpAll K F H xs ds) : ∀ n : Nat, RpAll K F H (List.replicate n xs).flatten (List.replicate n ds).flatten
  | 0 => .nil
  | n + 1 => by
    rw [List.replicate_succ, List.replicate_succ, List.flatten_cons, List.flatten_cons]
    exact r.append (RpAll.rep r n)
theorem RpAll.ints : ∀ {xs : List V} {ns : List Int}, RpAll K F H xs (ns.map PyData.int) → xs = ns.map V.int
  | _, [], .nil => rfl
  | _, _ :: _, .cons (.int _) t => by rw [RpAll.ints t]; rfl
theorem RpAll.of_ints : ∀ ns : List Int, RpAll K F H (ns.map V.int) (ns.map PyData.int)
  | [] => .nil
  | n :: r => .cons (.int n) (RpAll.of_ints r)
mutual
theorem Rp.dp : ∀ {v : V} {d : PyData}, d.canLay0 = true → Rp K F H v d → Dp K H v d
  | _, _, _, .non => .non
  | _, _, _, .bl b => .bl b
  | _, _, _, .int i => .int i
  | _, _, _, .str x => .str x
  | _, _, c, .lst _ h r => .lst (.of h) (RpAll.dp (by simpa [PyData.canLay0] using c) r)
  | _, _, c, .tup h r => .tup h (RpAll.dp (by simpa [PyData.canLay0] using c) r)
  | _, _, c, .scr h => by simp [PyData.canLay0] at c
theorem RpAll.dp : ∀ {v : List V} {d : List PyData}, PyData.canLayAll0 d = true → RpAll K F H v d → DpAll K H v d
  | _, _, _, .nil => .nil
  | _, _, c, .cons h r => by
    have c' := (Bool.and_eq_true_iff.mp (by simpa [PyData.canLayAll0] using c))
    exact .cons (Rp.dp c'.1 h) (RpAll.dp c'.2 r)
end
/-- a cell left out -/
def out (G : Hp) (p : Addr) : Hp := fun q => if q = p then none else G q
theorem out_ne {G : Hp} {p q : Addr} (h : q ≠ p) : out G p q = G q := by unfold out; rw [if_neg h]
theorem out_same {G : Hp} {p : Addr} : out G p p = none := by unfold out; rw [if_pos rfl]
theorem out_ext {G : Hp} {p : Addr} : Ext (out G p) G := fun a o h => by
  by_cases e : a = p
  · subst e; rw [out_same] at h; cases h
  · rw [out_ne e] at h; exact h
theorem RpAll.via {F' : Addr → Prop} : ∀ {ds : List PyData} {vs : List V}, (∀ d ∈ ds, ∀ {v : V}, Rp K F H v d → Rp K F' H' v d) → RpAll K F H vs ds → RpAll K F' H' vs ds
  | _, _, _, .nil => .nil
  | _, _, f, .cons q t => .cons (f _ List.mem_cons_self q) (RpAll.via (fun d hd => f d (List.mem_cons_of_mem _ hd)) t)
/-- data without a list does not lean on lists: F, and the cells of lists, are free -/
theorem Rp.noList {F' : Addr → Prop} (hh : ∀ a o, H a = some o → (∀ xs, o ≠ .lst xs) → H' a = some o) : ∀ {d : PyData}, NL d → ∀ {v : V}, Rp K F H v d → Rp K F' H' v d := by
  intro d hd
  induction hd with
  | non => intro v r; cases r; exact .non
  | bool b => intro v r; cases r; exact .bl b
  | int i => intro v r; cases r; exact .int i
  | str s => intro v r; cases r; exact .str s
  | tup h ih =>
    intro v r
    cases r with
    | tup hs ra =>
      rename_i ds a xs
      have hs' : SqT K H' a xs := by
        rcases hs with (q | ⟨o, q⟩) | q
        · exact .inl (.inl (hh _ _ q fun _ e => nomatch e))
        · exact .inl (.inr ⟨o, hh _ _ q fun _ e => nomatch e⟩)
        · exact .inr q
      exact .tup hs' (RpAll.via ih ra)
mutual
theorem Rp.weak {F' : Addr → Prop} (f : ∀ a, F a → F' a) : ∀ {v : V} {d : PyData}, Rp K F H v d → Rp K F' H v d
  | _, _, .non => .non
  | _, _, .bl b => .bl b
  | _, _, .int i => .int i
  | _, _, .str x => .str x
  | _, _, .lst q h r => .lst (f _ q) h (RpAll.weak f r)
  | _, _, .tup h r => .tup h (RpAll.weak f r)
  | _, _, .scr h => .scr h
theorem RpAll.weak {F' : Addr → Prop} (f : ∀ a, F a → F' a) : ∀ {v : List V} {d : List PyData}, RpAll K F H v d → RpAll K F' H v d
  | _, _, .nil => .nil
  | _, _, .cons h r => .cons (Rp.weak f h) (RpAll.weak f r)
end
end

/-- from the kept part G within H to the kept part G' within H' -/
structure Step (G H G' H' : Hp) : Prop where
  g : Ext G G'
  h : Ext H H'
  i : Ext G' H'
  f : ∀ p, G p = none → H p ≠ none → G' p = none
theorem Step.refl {G H : Hp} (i : Ext G H) : Step G H G H := ⟨Ext.refl _, Ext.refl _, i, fun _ h _ => h⟩
theorem Step.trans {G H G1 H1 G2 H2 : Hp} (a : Step G H G1 H1) (b : Step G1 H1 G2 H2) : Step G H G2 H2 :=
  ⟨a.g.trans b.g, a.h.trans b.h, b.i, fun p h1 h2 => b.f p (a.f p h1 h2) fun e => by
    cases q : H p with
    | none => exact h2 q
    | some o => rw [a.h p o q] at e; cases e⟩
/-- a new cell that stays, a new cell of one's own -/
theorem Step.keep {G H : Hp} (i : Ext G H) {p : Addr} {o : HO} (h : H p = none) : Step G H (upd G p o) (upd H p o) :=
  ⟨Ext.new (i.free h), Ext.new h, i.both, fun q h1 h2 => by
    have ne : q ≠ p := fun e => by subst e; exact h2 h
    rw [upd_ne ne]; exact h1⟩
theorem Step.lay {G H : Hp} (i : Ext G H) {p : Addr} {o : HO} (h : H p = none) : Step G H G (upd H p o) :=
  ⟨Ext.refl _, Ext.new h, i.under (i.free h), fun q h1 _ => h1⟩
/-- a cell that was new for Hs is kept from here on -/
theorem Step.take {G0 Hs G H : Hp} (a : Step G0 Hs G H) {p : Addr} {o : HO} (h : Hs p = none) (hg : G p = none) (hp : H p = some o) : Step G0 Hs (upd G p o) H :=
  ⟨fun q u e => by rw [upd_ne (fun z => by subst z; rw [a.g _ _ e] at hg; cases hg)]; exact a.g q u e, a.h, fun q u e => by
    by_cases z : q = p
    · subst z; rw [upd_same] at e; cases e; exact hp
    · rw [upd_ne z] at e; exact a.i q u e, fun q h1 h2 => by
    have ne : q ≠ p := fun e => by subst e; exact h2 h
    rw [upd_ne ne]; exact a.f q h1 h2⟩

/-- which lists are made since the entry; which are of an age -/
def mP (B : Hp) (m : Bool) (a : Addr) : Prop := m = true → B a = none
def lP (B Hs : Hp) (l : Lv) (a : Addr) : Prop := match l with
  | .any => True
  | .mine => B a = none
  | .fresh => Hs a = none
theorem mP_mL {B Hs : Hp} {m : Bool} {a : Addr} (h : mP B m a) : lP B Hs (mL m) a := by
  cases m with
  | true => exact h rfl
  | false => exact trivial
theorem lP_any {B Hs : Hp} {l : Lv} {a : Addr} (_ : lP B Hs l a) : lP B Hs .any a := trivial
theorem lP_fresh {B Hs : Hp} {l : Lv} {a : Addr} (x : Ext B Hs) (h : Hs a = none) : lP B Hs l a := by
  cases l with
  | any => trivial
  | mine => exact x.free h
  | fresh => exact h
theorem lP_minL {B Hs : Hp} {l k : Lv} {a : Addr} (x : Ext B Hs) (h : lP B Hs l a) : lP B Hs (l.min k) a := by
  cases l <;> cases k <;> first | trivial | exact h | exact x.free h
theorem lP_minR {B Hs : Hp} {l k : Lv} {a : Addr} (x : Ext B Hs) (h : lP B Hs k a) : lP B Hs (l.min k) a := by
  cases l <;> cases k <;> first | trivial | exact h | exact x.free h
theorem lP_young {B Hs : Hp} {l : Lv} {a : Addr} {p : Prop} (x : Ext B Hs) (y : young l p) (h : lP B Hs l a) : B a = none ∧ p := by
  cases l with
  | any => exact y.elim
  | mine => exact ⟨h, y⟩
  | fresh => exact ⟨x.free h, y⟩
theorem young_get {l : Lv} {p : Prop} (y : young l p) : p := by
  cases l with
  | any => exact y.elim
  | mine => exact y
  | fresh => exact y
theorem lP_from {B Hr Hs : Hp} {l : Lv} {a : Addr} (x : Ext Hr Hs) (h : lP B Hs l a) : lP B Hr l a := by
  cases l with
  | any => trivial
  | mine => exact h
  | fresh => exact x.free h
/-- the slots bear the data: B is the heap at the def's entry (or the last mark), G0 the part that is kept there -/
structure Rl (K : PySem.W.Frag) (B G0 G : Hp) (δ : Ds) (σ : L2.St) (H : Hp) : Prop where
  st : Step G0 B G H
  len : σ.length = δ.length
  val : ∀ i m d, look δ i = .val m d → ∃ v, σ[i]? = some (some v) ∧ Rp K (mP B m) G v d
  own : ∀ i m ds, look δ i = .own m ds → ∃ p xs, σ[i]? = some (some (.ref p)) ∧ G p = none ∧ B p = none ∧ H p = some (.lst xs) ∧ RpAll K (mP B m) G xs ds
  old : ∀ i d, look δ i = .old d → ∃ v, σ[i]? = some (some v) ∧ Rp K (fun _ => True) G0 v d
  dis : ∀ i j p m n ds es, look δ i = .own m ds → look δ j = .own n es → σ[i]? = some (some (.ref p)) → σ[j]? = some (some (.ref p)) → i = j
/-- a value bears data; Hs is the heap at the expression's start -/
def Rep (K : PySem.W.Frag) (B Hs : Hp) (δ : Ds) (σ : L2.St) (G H : Hp) (fl : Fl) (v : V) (d : PyData) : Prop := match fl with
  | .av l => Rp K (lP B Hs l) G v d
  | .new l => ∃ p xs ds, v = .ref p ∧ d = .list ds ∧ Hs p = none ∧ G p = none ∧ H p = some (.lst xs) ∧ RpAll K (lP B Hs l) G xs ds
  | .own i m => ∃ ds p xs, v = .ref p ∧ d = .list ds ∧ look δ i = .own m ds ∧ σ[i]? = some (some (.ref p)) ∧ G p = none ∧ H p = some (.lst xs) ∧ RpAll K (mP B m) G xs ds
section
variable {K : PySem.W.Frag} {B G0 G G' H H' Hs : Hp} {δ : Ds} {σ : L2.St} {fl : Fl} {v : V} {d : PyData}
theorem Rl.step (r : Rl K B G0 G δ σ H) (s : Step G H G' H') : Rl K B G0 G' δ σ H' :=
  ⟨r.st.trans s, r.len, fun i m d h => by
    obtain ⟨v, h1, h2⟩ := r.val i m d h
    exact ⟨v, h1, h2.mono s.g⟩, fun i m ds h => by
    obtain ⟨p, xs, h1, h2, h3, h4, h5⟩ := r.own i m ds h
    exact ⟨p, xs, h1, s.f p h2 (by rw [h4]; exact fun e => nomatch e), h3, s.h _ _ h4, h5.mono s.g⟩, r.old, r.dis⟩
theorem Rep.step (r : Rep K B Hs δ σ G H fl v d) (s : Step G H G' H') : Rep K B Hs δ σ G' H' fl v d := by
  cases fl with
  | av => exact Rp.mono s.g r
  | new =>
    obtain ⟨p, xs, ds, h1, h2, h3, h4, h5, h6⟩ := r
    exact ⟨p, xs, ds, h1, h2, h3, s.f p h4 (by rw [h5]; exact fun e => nomatch e), s.h _ _ h5, h6.mono s.g⟩
  | own i m =>
    obtain ⟨ds, p, xs, h1, h2, h3, h4, h5, h6, h7⟩ := r
    exact ⟨ds, p, xs, h1, h2, h3, h4, s.f p h5 (by rw [h6]; exact fun e => nomatch e), s.h _ _ h6, h7.mono s.g⟩
theorem Rep.from (r : Rep K B Hs δ σ G H fl v d) {Hr : Hp} (e : Ext Hr Hs) : Rep K B Hr δ σ G H fl v d := by
  cases fl with
  | av => exact Rp.weak (fun _ h => lP_from e h) r
  | new =>
    obtain ⟨p, xs, ds, h1, h2, h3, h4, h5, h6⟩ := r
    exact ⟨p, xs, ds, h1, h2, e.free h3, h4, h5, h6.weak fun _ h => lP_from e h⟩
  | own i => exact r
/-- whatever it is: it bears the data in the whole heap -/
theorem Rep.all (r : Rep K B Hs δ σ G H fl v d) (i : Ext G H) : Rp K (fun _ => True) H v d := by
  cases fl with
  | av => exact (Rp.mono i r).weak fun _ _ => trivial
  | new =>
    obtain ⟨p, xs, ds, rfl, rfl, _, _, h5, h6⟩ := r
    exact .lst trivial h5 ((h6.mono i).weak fun _ _ => trivial)
  | own _ _ =>
    obtain ⟨ds, p, xs, rfl, rfl, _, _, _, h6, h7⟩ := r
    exact .lst trivial h6 ((h7.mono i).weak fun _ _ => trivial)
/-- a list: its items stay -/
theorem Rep.list {ds : List PyData} (r : Rep K B Hs δ σ G H fl v (.list ds)) (i : Ext G H) : ∃ p xs, v = .ref p ∧ H p = some (.lst xs) ∧ RpAll K (lP B Hs fl.lv) G xs ds := by
  cases fl with
  | av =>
    cases r with
    | lst _ h q => exact ⟨_, _, rfl, i _ _ h, q⟩
  | new =>
    obtain ⟨p, xs, es, rfl, e, _, _, h5, h6⟩ := r
    cases e
    exact ⟨p, xs, rfl, h5, h6⟩
  | own _ _ =>
    obtain ⟨es, p, xs, rfl, e, _, _, _, h6, h7⟩ := r
    cases e
    exact ⟨p, xs, rfl, h6, h7.weak fun _ h => mP_mL h⟩
theorem Rep.notList (r : Rep K B Hs δ σ G H fl v d) (h : ∀ ds, d ≠ .list ds) : Rp K (lP B Hs fl.lv) G v d := by
  cases fl with
  | av => exact r
  | new =>
    obtain ⟨p, xs, ds, _, e, _⟩ := r
    exact absurd e (h ds)
  | own _ _ =>
    obtain ⟨ds, p, xs, _, e, _⟩ := r
    exact absurd e (h ds)
theorem Rep.tuple {ds : List PyData} (r : Rep K B Hs δ σ G H fl v (.tuple ds)) (_ : Ext G H) : ∃ p xs, v = .ref p ∧ SqT K G p xs ∧ RpAll K (lP B Hs fl.lv) G xs ds := by
  cases r.notList (fun _ e => nomatch e) with
  | tup h q => exact ⟨_, _, rfl, h, q⟩
/-- what is no own list of a name may be kept from here on -/
theorem Rep.fix {P : Lv → Prop} (r : Rep K B Hs δ σ G' H' fl v d) (x : Ext B Hs) (s : Step G Hs G' H') (hz : fz fl P) : ∃ G1, Step G Hs G1 H' ∧ Ext G' G1 ∧ Rp K (lP B Hs fl.lv) G1 v d ∧ P fl.lv := by
  cases fl with
  | av => exact ⟨G', s, Ext.refl _, r, hz⟩
  | new =>
    obtain ⟨p, xs, ds, rfl, rfl, h3, h4, h5, h6⟩ := r
    exact ⟨_, s.take h3 h4 h5, Ext.new h4, .lst (lP_fresh x h3) upd_same (h6.mono (Ext.new h4)), hz⟩
  | own _ => exact hz.elim
end
end DL

set_option Elab.async false
set_option linter.all false
set_option maxRecDepth 100000
set_option maxHeartbeats 2000000
/-! DW2: expressions. -/
namespace DL
open PySem PySem.Spec L2

def Sd (K : PySem.W.Frag) (te : TE) (t : DE) : Prop := ∀ (B G0 G : Hp) (δ : Ds) (σ : L2.St) (H : Hp) (Q : L2.VK) (QQ : VK), Rl K B G0 G δ σ H → t δ QQ →
  (∀ fl d v G' H', Step G H G' H' → Rep K B H δ σ G' H' fl v d → QQ fl d → Q v H') → te σ H Q
def SdT (K : PySem.W.Frag) (te : TT) (t : DT) : Prop := ∀ (B G0 G : Hp) (δ : Ds) (σ : L2.St) (H : Hp) (Q : Bool → Hp → Prop) (QQ : Bool → Prop), Rl K B G0 G δ σ H → t δ QQ →
  (∀ b G' H', Step G H G' H' → QQ b → Q b H') → te σ H Q
def SdA (K : PySem.W.Frag) (n : Nat) (te : TA) (t : DA) : Prop := ∀ (B G0 G : Hp) (δ : Ds) (σ : L2.St) (H : Hp) (Q : List V → Hp → Prop) (QQ : Lv → List PyData → Prop), Rl K B G0 G δ σ H → t δ QQ →
  (∀ l ds vs G' H', ds.length = n → Step G H G' H' → RpAll K (lP B H l) G' vs ds → QQ l ds → Q vs H') → te σ H Q
def SdO (K : PySem.W.Frag) (te : TO) (t : DO) : Prop := ∀ (B G0 G : Hp) (δ : Ds) (σ : L2.St) (H : Hp) (Q : Option Int → Hp → Prop) (QQ : Option Int → Prop), Rl K B G0 G δ σ H → t δ QQ →
  (∀ o G' H', Step G H G' H' → QQ o → Q o H') → te σ H Q
/-- an expression has the reading t -/
def ED (X : Cx) (e : Expr) (t : DE) : Prop := ∃ te, PE X e te ∧ Sd X.K te t
def TD (X : Cx) (e : Expr) (t : DT) : Prop := ∃ te, PT X e te ∧ SdT X.K te t
def WD (X : Cx) (e : Expr) (t : DT) : Prop := ∃ te, PW X e te ∧ SdT X.K te t
def AD (X : Cx) (es : List Expr) (t : DA) : Prop := ∃ te, PA X es te ∧ SdA X.K es.length te t
def OD (X : Cx) (e : Option Expr) (t : DO) : Prop := ∃ te, PO X e te ∧ SdO X.K te t

section
variable {X : Cx} {e a b c : Expr} {es : List Expr} {pos : Pos} {ta tb tc : DE} {t u : DT}

theorem ed_var (i : Nat) {x : Str} (hN : X.N[i]? = some x := by rfl) (hv : Vis X.env.scope x := by first | exact Or.inl rfl | exact Or.inr (Or.inl rfl) | exact Or.inr (Or.inr rfl)) (hd : (x == ("__debug__" : Str)) = false := by decide)
    (hcd : (x == ("__classdict__" : Str)) = false := by decide) : ED X (.Name x pos) (dVar i) := by
  refine ⟨_, pe_var hN hv hd hcd, fun B G0 G δ σ H Q QQ r h k => ?_⟩
  unfold dVar at h
  cases q : look δ i with
  | non => rw [q] at h; exact h.elim
  | val m d =>
    rw [q] at h
    obtain ⟨v, h1, h2⟩ := r.val i m d q
    exact ⟨v, h1, k (.av (mL m)) d v G H (Step.refl r.st.i) (h2.weak fun _ z => mP_mL z) h⟩
  | own m ds =>
    rw [q] at h
    obtain ⟨p, xs, h1, h2, h3, h4, h5⟩ := r.own i m ds q
    exact ⟨.ref p, h1, k (.own i m) (.list ds) _ G H (Step.refl r.st.i) ⟨ds, p, xs, rfl, rfl, q, h1, h2, h4, h5⟩ h⟩
  | old d =>
    rw [q] at h
    obtain ⟨v, h1, h2⟩ := r.old i d q
    exact ⟨v, h1, k (.av .any) d v G H (Step.refl r.st.i) ((h2.mono r.st.g).weak fun _ _ => trivial) h⟩
theorem sd_c {K : PySem.W.Frag} {v : V} {d : PyData} (h : ∀ (F : Addr → Prop) (G : Hp), Rp K F G v d) : Sd K (tC v) (dC d) := fun _ _ G _ _ H _ _ r q k => k (.av .fresh) d v G H (Step.refl r.st.i) (h _ G) q
theorem ed_int {i j} : ED X (.Constant (.int i) j pos) (dC (.int i)) := ⟨_, pe_int, sd_c fun _ _ => .int i⟩
theorem ed_bl {i j} : ED X (.Constant (.bool i) j pos) (dC (.bool i)) := ⟨_, pe_bl, sd_c fun _ _ => .bl i⟩
theorem ed_non {j} : ED X (.Constant .none j pos) (dC .none) := ⟨_, pe_non, sd_c fun _ _ => .non⟩
theorem ed_str {i j} : ED X (.Constant (.str i) j pos) (dC (.str i)) := ⟨_, pe_str, sd_c fun _ _ => .str i⟩
/-- a module's constant: a number -/
theorem ed_gint {x : Str} {i : Int} {tk : Tok} (hg : Gl X x) (hm : X.mg x = some (.int i tk)) (hd : (x == ("__debug__" : Str)) = false := by decide) : ED X (.Name x pos) (dC (.int i)) :=
  ⟨_, pe_glob (v := .int i) hg hm ⟨tk, rfl⟩ hd, sd_c fun _ _ => .int i⟩

/-! ### operations -/
def SdR (K : PySem.W.Frag) (r' : L2.R2) (r : R2) : Prop := ∀ (B Hs : Hp) (δ : Ds) (σ : L2.St) (G H : Hp) (fx fy : Fl) (x y : PyData) (v u : V) (Q : L2.VK) (QQ : VK), Ext B Hs → Ext Hs H → Ext G H → Rep K B Hs δ σ G H fx v x → Rep K B Hs δ σ G H fy u y → r fx.lv x fy.lv y QQ →
  (∀ fl d w G' H', Step G H G' H' → Rep K B Hs δ σ G' H' fl w d → QQ fl d → Q w H') → r' v u H Q
def SdU (K : PySem.W.Frag) (r' : V → Hp → L2.VK → Prop) (r : R1) : Prop := ∀ (B Hs : Hp) (δ : Ds) (σ : L2.St) (G H : Hp) (fx : Fl) (x : PyData) (v : V) (Q : L2.VK) (QQ : VK), Ext B Hs → Ext Hs H → Ext G H → Rep K B Hs δ σ G H fx v x → r fx.lv x QQ →
  (∀ fl d w G' H', Step G H G' H' → Rep K B Hs δ σ G' H' fl w d → QQ fl d → Q w H') → r' v H Q
def SdB (K : PySem.W.Frag) (r' : L2.R2) (r : RB) : Prop := ∀ (B Hs : Hp) (δ : Ds) (σ : L2.St) (G H : Hp) (fx fy : Fl) (x y : PyData) (v u : V) (Q : L2.VK) (QQ : Bool → Prop), Ext B Hs → Ext Hs H → Ext G H → Rep K B Hs δ σ G H fx v x → Rep K B Hs δ σ G H fy u y → r x y QQ →
  (∀ b, QQ b → Q (.bl b) H) → r' v u H Q
theorem sd_op {K : PySem.W.Frag} {r' : L2.R2} {r : R2} {ta' tb' : TE} (hs : SdR K r' r) (ha : Sd K ta' ta) (hb : Sd K tb' tb) : Sd K (tOp r' ta' tb') (dOp r ta tb) := fun B G0 G δ σ H Q QQ rl h k =>
  ha B G0 G δ σ H _ _ rl h fun fx x v G1 H1 s1 p1 h1 => hb B G0 G1 δ σ H1 _ _ (rl.step s1) h1 fun fy y u G2 H2 s2 p2 h2 =>
    hs B H δ σ G2 H2 fx fy x y v u Q QQ rl.st.h (s1.h.trans s2.h) s2.i (p1.step s2) (p2.from s1.h) h2 fun fl d w G3 H3 s3 p3 h3 => k fl d w G3 H3 ((s1.trans s2).trans s3) p3 h3
theorem sd_un {K : PySem.W.Frag} {r' : V → Hp → L2.VK → Prop} {r : R1} {ta' : TE} (hs : SdU K r' r) (ha : Sd K ta' ta) : Sd K (tUn r' ta') (dUn r ta) := fun B G0 G δ σ H Q QQ rl h k =>
  ha B G0 G δ σ H _ _ rl h fun fx x v G1 H1 s1 p1 h1 =>
    hs B H δ σ G1 H1 fx x v Q QQ rl.st.h s1.h s1.i p1 h1 fun fl d w G3 H3 s3 p3 h3 => k fl d w G3 H3 (s1.trans s3) p3 h3
theorem sd_cmp {K : PySem.W.Frag} {r' : L2.R2} {r : RB} {ta' tb' : TE} (hs : SdB K r' r) (ha : Sd K ta' ta) (hb : Sd K tb' tb) : SdT K (L2.tTest (tOp r' ta' tb')) (dCmp r ta tb) := fun B G0 G δ σ H Q QQ rl h k =>
  ha B G0 G δ σ H _ _ rl h fun fx x v G1 H1 s1 p1 h1 => hb B G0 G1 δ σ H1 _ _ (rl.step s1) h1 fun fy y u G2 H2 s2 p2 h2 =>
    hs B H δ σ G2 H2 fx fy x y v u _ QQ rl.st.h (s1.h.trans s2.h) s2.i (p1.step s2) (p2.from s1.h) h2 fun b q => ⟨b, rfl, k b G2 H2 (s1.trans s2) q⟩
theorem sd_cmpV {K : PySem.W.Frag} {r' : L2.R2} {r : RB} {ta' tb' : TE} (hs : SdB K r' r) (ha : Sd K ta' ta) (hb : Sd K tb' tb) : Sd K (tOp r' ta' tb') (dBool (dCmp r ta tb)) := fun B G0 G δ σ H Q QQ rl h k =>
  ha B G0 G δ σ H _ _ rl h fun fx x v G1 H1 s1 p1 h1 => hb B G0 G1 δ σ H1 _ _ (rl.step s1) h1 fun fy y u G2 H2 s2 p2 h2 =>
    hs B H δ σ G2 H2 fx fy x y v u _ _ rl.st.h (s1.h.trans s2.h) s2.i (p1.step s2) (p2.from s1.h) h2 fun b q => k (.av .fresh) (.bool b) _ G2 H2 (s1.trans s2) (Rp.bl b) q
theorem ed_op {op : Operator} {r' : L2.R2} {r : R2} (ho : OpR X (binaryOp op) r') (hs : SdR X.K r' r) (ha : ED X a ta) (hb : ED X b tb) : ED X (.BinOp a op b pos) (dOp r ta tb) := by
  obtain ⟨ta', ha, sa⟩ := ha
  obtain ⟨tb', hb, sb⟩ := hb
  exact ⟨_, pe_op ho ha hb, sd_op hs sa sb⟩
theorem ed_cmp {op : CmpOp} {r' : L2.R2} {r : RB} (ho : OpR X (compareOp op) r') (hs : SdB X.K r' r) (ha : ED X a ta) (hb : ED X b tb) (hm : behindInMarks op b = false) : ED X (.Compare a [op] [b] pos) (dBool (dCmp r ta tb)) := by
  obtain ⟨ta', ha, sa⟩ := ha
  obtain ⟨tb', hb, sb⟩ := hb
  exact ⟨_, pe_cmpR ho ha hb hm, sd_cmpV hs sa sb⟩
theorem td_cmp {op : CmpOp} {r' : L2.R2} {r : RB} (ho : OpR X (compareOp op) r') (hs : SdB X.K r' r) (ha : ED X a ta) (hb : ED X b tb) (hm : behindInMarks op b = false) : TD X (.Compare a [op] [b] pos) (dCmp r ta tb) := by
  obtain ⟨ta', ha, sa⟩ := ha
  obtain ⟨tb', hb, sb⟩ := hb
  exact ⟨_, pt_cmpR ho ha hb hm, sd_cmp hs sa sb⟩

/-! the operators -/
theorem rep_int {K : PySem.W.Frag} {B Hs : Hp} {δ : Ds} {σ : L2.St} {G H : Hp} {fl : Fl} {v : V} {i : Int} (r : Rep K B Hs δ σ G H fl v (.int i)) : v = .int i := by
  cases r.notList (fun _ e => nomatch e); rfl
theorem rep_bool {K : PySem.W.Frag} {B Hs : Hp} {δ : Ds} {σ : L2.St} {G H : Hp} {fl : Fl} {v : V} {i : Bool} (r : Rep K B Hs δ σ G H fl v (.bool i)) : v = .bl i := by
  cases r.notList (fun _ e => nomatch e); rfl
theorem rep_str {K : PySem.W.Frag} {B Hs : Hp} {δ : Ds} {σ : L2.St} {G H : Hp} {fl : Fl} {v : V} {i : Str} (r : Rep K B Hs δ σ G H fl v (.str i)) : v = .str i := by
  cases r.notList (fun _ e => nomatch e); rfl
theorem rep_none {K : PySem.W.Frag} {B Hs : Hp} {δ : Ds} {σ : L2.St} {G H : Hp} {fl : Fl} {v : V} (r : Rep K B Hs δ σ G H fl v .none) : v = .non := by
  cases r.notList (fun _ e => nomatch e); rfl
/-- a new list as an operation's answer -/
theorem fin_new {K : PySem.W.Frag} {B Hs : Hp} {δ : Ds} {σ : L2.St} {G H : Hp} {Q : L2.VK} {QQ : VK} {l : Lv} {xs : List V} {ds : List PyData} (y : Ext Hs H) (i : Ext G H) (r : RpAll K (lP B Hs l) G xs ds) (h : QQ (.new l) (.list ds))
    (k : ∀ fl d w G' H', Step G H G' H' → Rep K B Hs δ σ G' H' fl w d → QQ fl d → Q w H') : ∀ p, H p = none → Q (.ref p) (upd H p (.lst xs)) := fun p hp =>
  k (.new l) (.list ds) _ G _ (Step.lay i hp) ⟨p, xs, ds, rfl, rfl, y.free hp, i.free hp, upd_same, r⟩ h
theorem fin_tup {K : PySem.W.Frag} {B Hs : Hp} {δ : Ds} {σ : L2.St} {G H : Hp} {Q : L2.VK} {QQ : VK} {l : Lv} {xs : List V} {ds : List PyData} (i : Ext G H) (r : RpAll K (lP B Hs l) G xs ds) (h : QQ (.av l) (.tuple ds))
    (k : ∀ fl d w G' H', Step G H G' H' → Rep K B Hs δ σ G' H' fl w d → QQ fl d → Q w H') : ∀ p, H p = none → Q (.ref p) (upd H p (.tup xs)) := fun p hp =>
  k (.av l) (.tuple ds) _ (upd G p (.tup xs)) _ (Step.keep i hp) (Rp.tup (.of upd_same) (r.mono (Ext.new (i.free hp)))) h
theorem fin_av {K : PySem.W.Frag} {B Hs : Hp} {δ : Ds} {σ : L2.St} {G H : Hp} {Q : L2.VK} {QQ : VK} {l : Lv} {v : V} {d : PyData} (i : Ext G H) (r : Rp K (lP B Hs l) G v d) (h : QQ (.av l) d)
    (k : ∀ fl d w G' H', Step G H G' H' → Rep K B Hs δ σ G' H' fl w d → QQ fl d → Q w H') : Q v H := k (.av l) d v G H (Step.refl i) r h

theorem OpR.or3 {f : Value → Value → Sem Value} {r1 r2 r3 : L2.R2} (h1 : OpR X f r1) (h2 : OpR X f r2) (h3 : OpR X f r3) : OpR X f (fun x y H Q => r1 x y H Q ∨ r2 x y H Q ∨ r3 x y H Q) := OpR.or h1 (OpR.or h2 h3)
theorem sd_add {K : PySem.W.Frag} : SdR K (fun x y H Q => (rI0 fun i j => .int (i + j)) x y H Q ∨ rCat x y H Q ∨ rCatT K x y H Q ∨ (fun x y H Q => ∃ i j, x = V.str i ∧ y = V.str j ∧ i.length + j.length ≤ sizeLine ∧ Q (.str (i ++ j)) H) x y H Q) rAdd := by
  intro B Hs δ σ G H fx fy x y v u Q QQ xb y0 i rx ry h k
  cases x with
  | int m =>
    cases y with
    | int n => exact .inl ⟨m, n, rep_int rx, rep_int ry, fin_av i (.int _) h k⟩
    | _ => exact h.elim
  | list as =>
    cases y with
    | list bs =>
      obtain ⟨p, xs, rfl, hp, ra⟩ := rx.list i
      obtain ⟨q, ys, rfl, hq, rb⟩ := ry.list i
      exact .inr (.inl ⟨p, q, xs, ys, rfl, rfl, hp, hq, by rw [ra.length, rb.length]; exact h.1, fin_new y0 i ((ra.weak fun _ z => lP_minL xb z).append (rb.weak fun _ z => lP_minR xb z)) h.2 k⟩)
    | _ => exact h.elim
  | tuple as =>
    cases y with
    | tuple bs =>
      obtain ⟨p, xs, rfl, hp, ra⟩ := rx.tuple i
      obtain ⟨q, ys, rfl, hq, rb⟩ := ry.tuple i
      obtain ⟨h1, h2, h3⟩ := h
      refine .inr (.inr (.inl ⟨p, q, xs, ys, rfl, rfl, i.st hp, i.st hq, fun z => ?_, by rw [ra.length, rb.length]; exact h2, fun z => ?_, fun _ => fin_tup i ((ra.weak fun _ z => lP_minL xb z).append (rb.weak fun _ z => lP_minR xb z)) h3 k⟩))
      · subst z; cases ra; exact h1 rfl
      · subst z; cases rb
        rw [List.append_nil] at h3
        exact fin_av i (.tup hp (ra.weak fun _ z => lP_minL xb z)) h3 k
    | _ => exact h.elim
  | str m =>
    cases y with
    | str n => exact .inr (.inr (.inr ⟨m, n, rep_str rx, rep_str ry, h.1, fin_av i (.str _) h.2 k⟩))
    | _ => exact h.elim
  | _ => exact h.elim
theorem ed_add (ha : ED X a ta) (hb : ED X b tb) : ED X (.BinOp a .Add b pos) (dOp rAdd ta tb) := ed_op (OpR.or op_add (OpR.or op_cat (OpR.or op_catT op_add_str))) sd_add ha hb
theorem ed_sub (ha : ED X a ta) (hb : ED X b tb) : ED X (.BinOp a .Sub b pos) (dOp rSub ta tb) := by
  refine ed_op op_sub (fun B Hs δ σ G H fx fy x y v u Q QQ xb y0 i rx ry h k => ?_) ha hb
  cases x with
  | int m =>
    cases y with
    | int n => exact ⟨m, n, rep_int rx, rep_int ry, fin_av i (.int _) h k⟩
    | _ => exact h.elim
  | _ => exact h.elim
theorem ed_mul (ha : ED X a ta) (hb : ED X b tb) : ED X (.BinOp a .Mult b pos) (dOp rMul ta tb) := by
  refine ed_op (OpR.or op_mul (OpR.or op_mulW op_rep)) (fun B Hs δ σ G H fx fy x y v u Q QQ xb y0 i rx ry h k => ?_) ha hb
  cases x with
  | int m =>
    cases y with
    | int n =>
      rcases h with ⟨h1 | h1, h⟩
      · exact .inl ⟨m, n, rep_int rx, rep_int ry, h1, fin_av i (.int _) h k⟩
      · exact .inr (.inl ⟨m, n, rep_int rx, rep_int ry, h1, fin_av i (.int _) h k⟩)
    | _ => exact h.elim
  | list as =>
    cases y with
    | int n =>
      obtain ⟨p, xs, rfl, hp, ra⟩ := rx.list i
      obtain ⟨h1, h2, h3, h4⟩ := h
      exact .inr (.inr ⟨p, n, xs, rfl, rep_int ry, hp, by omega, by omega, by rw [ra.length]; exact h3, fin_new y0 i (ra.rep _) h4 k⟩)
    | _ => exact h.elim
  | _ => exact h.elim
theorem ed_div (ha : ED X a ta) (hb : ED X b tb) : ED X (.BinOp a .FloorDiv b pos) (dOp rDiv ta tb) := by
  refine ed_op (OpR.or op_fdiv op_fdivW) (fun B Hs δ σ G H fx fy x y v u Q QQ xb y0 i rx ry h k => ?_) ha hb
  cases x with
  | int m =>
    cases y with
    | int n =>
      rcases h with ⟨h1 | h1, h⟩
      · exact .inl ⟨m, n, rep_int rx, rep_int ry, h1, fin_av i (.int _) h k⟩
      · exact .inr ⟨m, n, rep_int rx, rep_int ry, h1, fin_av i (.int _) h k⟩
    | _ => exact h.elim
  | _ => exact h.elim
theorem ed_mod (ha : ED X a ta) (hb : ED X b tb) : ED X (.BinOp a .Mod b pos) (dOp rMod ta tb) := by
  refine ed_op op_mod (fun B Hs δ σ G H fx fy x y v u Q QQ xb y0 i rx ry h k => ?_) ha hb
  cases x with
  | int m =>
    cases y with
    | int n => exact ⟨m, n, rep_int rx, rep_int ry, h.1, fin_av i (.int _) h.2 k⟩
    | _ => exact h.elim
  | _ => exact h.elim
theorem ed_pow (ha : ED X a ta) (hb : ED X b tb) : ED X (.BinOp a .Pow b pos) (dOp rPow ta tb) := by
  refine ed_op op_pow (fun B Hs δ σ G H fx fy x y v u Q QQ xb y0 i rx ry h k => ?_) ha hb
  cases x with
  | int m =>
    cases y with
    | int n => exact ⟨m, n, rep_int rx, rep_int ry, h.1, fin_av i (.int _) h.2 k⟩
    | _ => exact h.elim
  | _ => exact h.elim
theorem ed_neg (ha : ED X a ta) : ED X (.UnaryOp .USub a pos) (dUn rNeg ta) := by
  obtain ⟨ta', ha, sa⟩ := ha
  refine ⟨_, pe_un un_neg ha, sd_un (fun B Hs δ σ G H fx x v Q QQ xb y0 i rx h k => ?_) sa⟩
  cases x with
  | int m => exact ⟨m, rep_int rx, fin_av i (.int _) h k⟩
  | _ => exact h.elim

/-! comparisons -/
theorem sd_ci {K : PySem.W.Frag} {f : Int → Int → Bool} {r : RB} (hr : ∀ x y Q, r x y Q → ∃ i j, x = .int i ∧ y = .int j ∧ Q (f i j)) : SdB K (rI0 fun i j => .bl (f i j)) r := by
  intro B Hs δ σ G H fx fy x y v u Q QQ xb y0 i rx ry h k
  obtain ⟨m, n, rfl, rfl, q⟩ := hr x y QQ h
  exact ⟨m, n, rep_int rx, rep_int ry, k _ q⟩
theorem get_lt : ∀ x y Q, rLt x y Q → ∃ i j, x = .int i ∧ y = .int j ∧ Q (decide (i < j)) := by
  intro x y Q h
  cases x with
  | int m =>
    cases y with
    | int n => exact ⟨m, n, rfl, rfl, h⟩
    | _ => exact h.elim
  | _ => exact h.elim
theorem get_le : ∀ x y Q, rLe x y Q → ∃ i j, x = .int i ∧ y = .int j ∧ Q (decide (i ≤ j)) := by
  intro x y Q h
  cases x with
  | int m =>
    cases y with
    | int n => exact ⟨m, n, rfl, rfl, h⟩
    | _ => exact h.elim
  | _ => exact h.elim
theorem get_gt : ∀ x y Q, rGt x y Q → ∃ i j, x = .int i ∧ y = .int j ∧ Q (decide (j < i)) := by
  intro x y Q h
  cases x with
  | int m =>
    cases y with
    | int n => exact ⟨m, n, rfl, rfl, h⟩
    | _ => exact h.elim
  | _ => exact h.elim
theorem get_ge : ∀ x y Q, rGe x y Q → ∃ i j, x = .int i ∧ y = .int j ∧ Q (decide (j ≤ i)) := by
  intro x y Q h
  cases x with
  | int m =>
    cases y with
    | int n => exact ⟨m, n, rfl, rfl, h⟩
    | _ => exact h.elim
  | _ => exact h.elim
theorem ed_lt (ha : ED X a ta) (hb : ED X b tb) : ED X (.Compare a [.Lt] [b] pos) (dBool (dCmp rLt ta tb)) := ed_cmp op_lt (sd_ci get_lt) ha hb (nomark _)
theorem td_lt (ha : ED X a ta) (hb : ED X b tb) : TD X (.Compare a [.Lt] [b] pos) (dCmp rLt ta tb) := td_cmp op_lt (sd_ci get_lt) ha hb (nomark _)
theorem ed_le (ha : ED X a ta) (hb : ED X b tb) : ED X (.Compare a [.LtE] [b] pos) (dBool (dCmp rLe ta tb)) := ed_cmp op_le (sd_ci get_le) ha hb (nomark _)
theorem td_le (ha : ED X a ta) (hb : ED X b tb) : TD X (.Compare a [.LtE] [b] pos) (dCmp rLe ta tb) := td_cmp op_le (sd_ci get_le) ha hb (nomark _)
theorem ed_gt (ha : ED X a ta) (hb : ED X b tb) : ED X (.Compare a [.Gt] [b] pos) (dBool (dCmp rGt ta tb)) := ed_cmp op_gt (sd_ci get_gt) ha hb (nomark _)
theorem td_gt (ha : ED X a ta) (hb : ED X b tb) : TD X (.Compare a [.Gt] [b] pos) (dCmp rGt ta tb) := td_cmp op_gt (sd_ci get_gt) ha hb (nomark _)
theorem ed_ge (ha : ED X a ta) (hb : ED X b tb) : ED X (.Compare a [.GtE] [b] pos) (dBool (dCmp rGe ta tb)) := ed_cmp op_ge (sd_ci get_ge) ha hb (nomark _)
theorem td_ge (ha : ED X a ta) (hb : ED X b tb) : TD X (.Compare a [.GtE] [b] pos) (dCmp rGe ta tb) := td_cmp op_ge (sd_ci get_ge) ha hb (nomark _)
theorem sd_eqG {K : PySem.W.Frag} {B Hs : Hp} {δ : Ds} {σ : L2.St} {G H : Hp} {fx fy : Fl} {x y : PyData} {v u : V} {Q : L2.VK} {QQ : Bool → Prop} (i : Ext G H) (rx : Rep K B Hs δ σ G H fx v x) (ry : Rep K B Hs δ σ G H fy u y) (h : eqG x y QQ)
    (k : ∀ b, QQ b → Q (.bl b) H) : rEqD K v u H Q := by
  obtain ⟨h1, h2, h3⟩ := h
  exact ⟨x, y, (rx.all i).dp (SeqAt.canLay_of_shaped h1), (ry.all i).dp (SeqAt.canLay_of_shaped h2), h1, h2, k _ h3⟩
theorem sd_eq {K : PySem.W.Frag} : SdB K (fun x y H Q => L2.rEq x y H Q ∨ rEqD K x y H Q) rEq := by
  intro B Hs δ σ G H fx fy x y v u Q QQ xb y0 i rx ry h k
  cases x with
  | int m =>
    cases y with
    | int n =>
      have e1 := rep_int rx
      have e2 := rep_int ry
      subst e1 e2
      refine .inl ⟨rfl, ?_⟩
      have e : decide (V.int m = V.int n) = decide (m = n) := by simp
      rw [e]
      exact k _ h
    | _ => exact .inr (sd_eqG i rx ry h k)
  | str m =>
    cases y with
    | str n =>
      have e1 := rep_str rx
      have e2 := rep_str ry
      subst e1 e2
      refine .inl ⟨rfl, ?_⟩
      have e : decide (V.str m = V.str n) = decide (m = n) := by simp
      rw [e]
      exact k _ h
    | _ => exact .inr (sd_eqG i rx ry h k)
  | bool m =>
    cases y with
    | bool n =>
      have e1 := rep_bool rx
      have e2 := rep_bool ry
      subst e1 e2
      refine .inl ⟨rfl, ?_⟩
      have e : decide (V.bl m = V.bl n) = decide (m = n) := by simp
      rw [e]
      exact k _ h
    | _ => exact .inr (sd_eqG i rx ry h k)
  | _ => exact .inr (sd_eqG i rx ry h k)
theorem sd_ne {K : PySem.W.Frag} : SdB K (fun x y H Q => L2.rNe x y H Q ∨ rNeD K x y H Q) rNe := by
  intro B Hs δ σ G H fx fy x y v u Q QQ xb y0 i rx ry h k
  rcases sd_eq (K := K) B Hs δ σ G H fx fy x y v u (fun w H' => ∃ b, w = .bl b ∧ Q (.bl (!b)) H') (fun b => QQ (!b)) xb y0 i rx ry h (fun b q => ⟨b, rfl, k _ q⟩) with ⟨h1, b, e, q⟩ | ⟨d, e, h1, h2, h3, h4, b, eb, q⟩
  · cases e
    exact .inl ⟨h1, q⟩
  · cases eb
    exact .inr ⟨d, e, h1, h2, h3, h4, q⟩
theorem ed_eq (hu : X.A.units + 64 < cLine) (ha : ED X a ta) (hb : ED X b tb) : ED X (.Compare a [.Eq] [b] pos) (dBool (dCmp rEq ta tb)) := ed_cmp (OpR.or op_eq (op_eqD hu)) sd_eq ha hb (nomark _)
theorem td_eq (hu : X.A.units + 64 < cLine) (ha : ED X a ta) (hb : ED X b tb) : TD X (.Compare a [.Eq] [b] pos) (dCmp rEq ta tb) := td_cmp (OpR.or op_eq (op_eqD hu)) sd_eq ha hb (nomark _)
theorem ed_ne (hu : X.A.units + 64 < cLine) (ha : ED X a ta) (hb : ED X b tb) : ED X (.Compare a [.NotEq] [b] pos) (dBool (dCmp rNe ta tb)) := ed_cmp (OpR.or op_ne (op_neD hu)) sd_ne ha hb (nomark _)
theorem td_ne (hu : X.A.units + 64 < cLine) (ha : ED X a ta) (hb : ED X b tb) : TD X (.Compare a [.NotEq] [b] pos) (dCmp rNe ta tb) := td_cmp (OpR.or op_ne (op_neD hu)) sd_ne ha hb (nomark _)
theorem sd_in {K : PySem.W.Frag} : SdB K (rInD K) rIn := by
  intro B Hs δ σ G H fx fy x y v u Q QQ xb y0 i rx ry h k
  cases y with
  | list ys =>
    obtain ⟨h1, h2, h3⟩ := h
    exact ⟨x, ys, (rx.all i).dp (SeqAt.canLay_of_shaped h1), (ry.all i).dp (SeqAt.canLay_of_shaped h2), h1, h2, k _ h3⟩
  | _ => exact h.elim
theorem sd_notIn {K : PySem.W.Frag} : SdB K (rNotInD K) rNotIn := by
  intro B Hs δ σ G H fx fy x y v u Q QQ xb y0 i rx ry h k
  cases y with
  | list ys =>
    obtain ⟨h1, h2, h3⟩ := h
    exact ⟨x, ys, (rx.all i).dp (SeqAt.canLay_of_shaped h1), (ry.all i).dp (SeqAt.canLay_of_shaped h2), h1, h2, k _ h3⟩
  | _ => exact h.elim
theorem ed_in (hu : X.A.units + 65 < cLine) (ha : ED X a ta) (hb : ED X b tb) (hm : behindInMarks .In b = false := by rfl) : ED X (.Compare a [.In] [b] pos) (dBool (dCmp rIn ta tb)) := ed_cmp (op_inD hu) sd_in ha hb hm
theorem td_in (hu : X.A.units + 65 < cLine) (ha : ED X a ta) (hb : ED X b tb) (hm : behindInMarks .In b = false := by rfl) : TD X (.Compare a [.In] [b] pos) (dCmp rIn ta tb) := td_cmp (op_inD hu) sd_in ha hb hm
theorem ed_notIn (hu : X.A.units + 65 < cLine) (ha : ED X a ta) (hb : ED X b tb) (hm : behindInMarks .NotIn b = false := by rfl) : ED X (.Compare a [.NotIn] [b] pos) (dBool (dCmp rNotIn ta tb)) := ed_cmp (op_notInD hu) sd_notIn ha hb hm
theorem td_notIn (hu : X.A.units + 65 < cLine) (ha : ED X a ta) (hb : ED X b tb) (hm : behindInMarks .NotIn b = false := by rfl) : TD X (.Compare a [.NotIn] [b] pos) (dCmp rNotIn ta tb) := td_cmp (op_notInD hu) sd_notIn ha hb hm
theorem rp_isN {K : PySem.W.Frag} {F : Addr → Prop} {H : Hp} {v : V} {d : PyData} (r : Rp K F H v d) : decide (v = .non) = isN d := by
  cases r <;> rfl
theorem sd_is {K : PySem.W.Frag} : SdB K (fun x y H Q => y = V.non ∧ Q (.bl (decide (x = V.non))) H) rIs := by
  intro B Hs δ σ G H fx fy x y v u Q QQ xb y0 i rx ry h k
  cases y with
  | none => exact ⟨rep_none ry, by rw [rp_isN (rx.all i)]; exact k _ h⟩
  | _ => exact h.elim
theorem sd_isNot {K : PySem.W.Frag} : SdB K (fun x y H Q => y = V.non ∧ Q (.bl (!decide (x = V.non))) H) rIsNot := by
  intro B Hs δ σ G H fx fy x y v u Q QQ xb y0 i rx ry h k
  cases y with
  | none => exact ⟨rep_none ry, by rw [rp_isN (rx.all i)]; exact k _ h⟩
  | _ => exact h.elim
theorem ed_is (ha : ED X a ta) (hb : ED X b tb) : ED X (.Compare a [.Is] [b] pos) (dBool (dCmp rIs ta tb)) := ed_cmp op_isN sd_is ha hb (nomark _)
theorem td_is (ha : ED X a ta) (hb : ED X b tb) : TD X (.Compare a [.Is] [b] pos) (dCmp rIs ta tb) := td_cmp op_isN sd_is ha hb (nomark _)
theorem ed_isNot (ha : ED X a ta) (hb : ED X b tb) : ED X (.Compare a [.IsNot] [b] pos) (dBool (dCmp rIsNot ta tb)) := ed_cmp op_notN sd_isNot ha hb (nomark _)
theorem td_isNot (ha : ED X a ta) (hb : ED X b tb) : TD X (.Compare a [.IsNot] [b] pos) (dCmp rIsNot ta tb) := td_cmp op_notN sd_isNot ha hb (nomark _)
/-! tests -/
theorem td_val (ha : ED X e ta) (he : ∀ whole, isTrue e X.env whole = (do let v ← whole; standAt e.pos; holding [v] (truthy v)) := by intro _; rfl) : TD X e (dTest ta) := by
  obtain ⟨ta', ha, sa⟩ := ha
  refine ⟨_, pt_val ha he, fun B G0 G δ σ H Q QQ r h k => sa B G0 G δ σ H _ _ r h fun fl d v G1 H1 s1 p1 h1 => ?_⟩
  cases d with
  | bool b => exact ⟨b, rep_bool p1, k b G1 H1 s1 h1⟩
  | _ => exact h1.elim
theorem WD.td {e : Expr} (h : WD X e t) : TD X e t := by
  obtain ⟨t', h, s⟩ := h
  exact ⟨t', h.pt, s⟩
theorem wd_and1 (ha : TD X a t) : WD X (.BoolOp .And [a] pos) t := by
  obtain ⟨t', h, s⟩ := ha
  exact ⟨t', pw_and1 h, s⟩
theorem wd_or1 (ha : TD X a t) : WD X (.BoolOp .Or [a] pos) t := by
  obtain ⟨t', h, s⟩ := ha
  exact ⟨t', pw_or1 h, s⟩
theorem sd_and {K : PySem.W.Frag} {t' u' : TT} (h1 : SdT K t' t) (h2 : SdT K u' u) : SdT K (tAnd t' u') (dAnd t u) := fun B G0 G δ σ H Q QQ r h k => h1 B G0 G δ σ H _ _ r h fun b G1 H1 s1 q => by
  cases b with
  | true => exact h2 B G0 G1 δ σ H1 _ _ (r.step s1) q fun b G2 H2 s2 q2 => k b G2 H2 (s1.trans s2) q2
  | false => exact k false G1 H1 s1 q
theorem sd_or {K : PySem.W.Frag} {t' u' : TT} (h1 : SdT K t' t) (h2 : SdT K u' u) : SdT K (tOr t' u') (dOr t u) := fun B G0 G δ σ H Q QQ r h k => h1 B G0 G δ σ H _ _ r h fun b G1 H1 s1 q => by
  cases b with
  | false => exact h2 B G0 G1 δ σ H1 _ _ (r.step s1) q fun b G2 H2 s2 q2 => k b G2 H2 (s1.trans s2) q2
  | true => exact k true G1 H1 s1 q
theorem wd_and {rest : List Expr} (ha : TD X a t) (hb : WD X (.BoolOp .And (b :: rest) pos) u) : WD X (.BoolOp .And (a :: b :: rest) pos) (dAnd t u) := by
  obtain ⟨t', h, s⟩ := ha
  obtain ⟨u', h2, s2⟩ := hb
  exact ⟨_, pw_and h h2, sd_and s s2⟩
theorem wd_or {rest : List Expr} (ha : TD X a t) (hb : WD X (.BoolOp .Or (b :: rest) pos) u) : WD X (.BoolOp .Or (a :: b :: rest) pos) (dOr t u) := by
  obtain ⟨t', h, s⟩ := ha
  obtain ⟨u', h2, s2⟩ := hb
  exact ⟨_, pw_or h h2, sd_or s s2⟩
theorem td_not (ha : TD X a t) : TD X (.UnaryOp .Not a pos) (dNot t) := by
  obtain ⟨t', h, s⟩ := ha
  exact ⟨_, pt_not h, fun B G0 G δ σ H Q QQ r h k => s B G0 G δ σ H _ _ r h fun b G1 H1 s1 q => k (!b) G1 H1 s1 q⟩
theorem ed_one {op} (h : ED X a ta) : ED X (.BoolOp op [a] pos) ta := by
  obtain ⟨t', h, s⟩ := h
  exact ⟨_, pe_one h, s⟩
theorem ed_and {rest : List Expr} (ha : ED X a ta) (hb : ED X (.BoolOp .And (b :: rest) pos) tb) : ED X (.BoolOp .And (a :: b :: rest) pos) (dAndV ta tb) := by
  obtain ⟨ta', ha, sa⟩ := ha
  obtain ⟨tb', hb, sb⟩ := hb
  refine ⟨_, pe_and ha hb, fun B G0 G δ σ H Q QQ r h k => sa B G0 G δ σ H _ _ r h fun fl d v G1 H1 s1 p1 h1 => ?_⟩
  cases d with
  | bool b =>
    refine ⟨b, rep_bool p1, ?_⟩
    cases b with
    | true => exact sb B G0 G1 δ σ H1 _ _ (r.step s1) h1 fun fl d v G2 H2 s2 p2 q2 => k fl d v G2 H2 (s1.trans s2) (p2.from s1.h) q2
    | false => exact k (.av .fresh) (.bool false) _ G1 H1 s1 (Rp.bl false) h1
  | _ => exact h1.elim
theorem ed_or {rest : List Expr} (ha : ED X a ta) (hb : ED X (.BoolOp .Or (b :: rest) pos) tb) : ED X (.BoolOp .Or (a :: b :: rest) pos) (dOrV ta tb) := by
  obtain ⟨ta', ha, sa⟩ := ha
  obtain ⟨tb', hb, sb⟩ := hb
  refine ⟨_, pe_or ha hb, fun B G0 G δ σ H Q QQ r h k => sa B G0 G δ σ H _ _ r h fun fl d v G1 H1 s1 p1 h1 => ?_⟩
  cases d with
  | bool b =>
    refine ⟨b, rep_bool p1, ?_⟩
    cases b with
    | false => exact sb B G0 G1 δ σ H1 _ _ (r.step s1) h1 fun fl d v G2 H2 s2 p2 q2 => k fl d v G2 H2 (s1.trans s2) (p2.from s1.h) q2
    | true => exact k (.av .fresh) (.bool true) _ G1 H1 s1 (Rp.bl true) h1
  | _ => exact h1.elim
theorem ed_not (ha : ED X a ta) : ED X (.UnaryOp .Not a pos) (dNotV ta) := by
  obtain ⟨ta', ha, sa⟩ := ha
  refine ⟨_, pe_not ha, fun B G0 G δ σ H Q QQ r h k => sa B G0 G δ σ H _ _ r h fun fl d v G1 H1 s1 p1 h1 => ?_⟩
  cases d with
  | bool b => exact ⟨b, rep_bool p1, k (.av .fresh) (.bool (!b)) _ G1 H1 s1 (Rp.bl _) h1⟩
  | _ => exact h1.elim
theorem ed_ifE (hc : TD X c t) (ha : ED X a ta) (hb : ED X b tb) : ED X (.IfExp c a b pos) (dIfE t ta tb) := by
  obtain ⟨t', hc, sc⟩ := hc
  obtain ⟨ta', ha, sa⟩ := ha
  obtain ⟨tb', hb, sb⟩ := hb
  refine ⟨_, pe_ifExp hc ha hb, fun B G0 G δ σ H Q QQ r h k => sc B G0 G δ σ H _ _ r h fun b G1 H1 s1 h1 => ?_⟩
  cases b with
  | true => exact sa B G0 G1 δ σ H1 _ _ (r.step s1) h1 fun fl d v G2 H2 s2 p2 q2 => k fl d v G2 H2 (s1.trans s2) (p2.from s1.h) q2
  | false => exact sb B G0 G1 δ σ H1 _ _ (r.step s1) h1 fun fl d v G2 H2 s2 p2 q2 => k fl d v G2 H2 (s1.trans s2) (p2.from s1.h) q2
theorem sd_chain {K : PySem.W.Frag} {r r' : RB} {s s' : L2.R2} {ta' tb' tc' : TE} (h1 : SdB K s r) (h2 : SdB K s' r') (ha : Sd K ta' ta) (hb : Sd K tb' tb) (hc : Sd K tc' tc) : Sd K (tChain s s' ta' tb' tc') (dBool (dChain r r' ta tb tc)) := fun B G0 G δ σ H Q QQ rl h k =>
  ha B G0 G δ σ H _ _ rl h fun fx x v G1 H1 s1 p1 q1 => hb B G0 G1 δ σ H1 _ _ (rl.step s1) q1 fun fy y u G2 H2 s2 p2 q2 =>
    h1 B H δ σ G2 H2 fx fy x y v u _ _ rl.st.h (s1.h.trans s2.h) s2.i (p1.step s2) (p2.from s1.h) q2 fun b q => ⟨b, rfl, by
      cases b with
      | true =>
        show tc' σ H2 _
        exact hc B G0 G2 δ σ H2 _ _ ((rl.step s1).step s2) q fun fz z w G3 H3 s3 p3 q3 => h2 B H δ σ G3 H3 fy fz y z u w _ _ rl.st.h ((s1.h.trans s2.h).trans s3.h) s3.i ((p2.from s1.h).step s3) (p3.from (s1.h.trans s2.h)) q3 fun b q => k (.av .fresh) (.bool b) _ G3 H3 ((s1.trans s2).trans s3) (Rp.bl b) q
      | false =>
        show Q (.bl false) H2
        exact k (.av .fresh) (.bool false) _ G2 H2 (s1.trans s2) (Rp.bl false) q⟩
theorem sd_test {K : PySem.W.Frag} {te : TE} (h : Sd K te (dBool t)) : SdT K (L2.tTest te) t := fun B G0 G δ σ H Q QQ r hq k => h B G0 G δ σ H _ (fun _ d => rTest d QQ) r hq fun fl d v G1 H1 s1 p1 h1 => by
  cases d with
  | bool b => exact ⟨b, rep_bool p1, k b G1 H1 s1 h1⟩
  | _ => exact h1.elim
theorem td_chain {op op' : CmpOp} {s s' : L2.R2} {r r' : RB} (ho : OpR X (compareOp op) s) (ho' : OpR X (compareOp op') s') (hr : SdB X.K s r) (hr' : SdB X.K s' r') (ha : ED X a ta) (hb : ED X b tb) (hc : ED X c tc)
    (hm : lastMarks [op, op'] [b, c] = false := by with_unfolding_all rfl) : TD X (.Compare a [op, op'] [b, c] pos) (dChain r r' ta tb tc) := by
  obtain ⟨ta', ha, sa⟩ := ha
  obtain ⟨tb', hb, sb⟩ := hb
  obtain ⟨tc', hc, sc⟩ := hc
  exact ⟨_, pt_chain ho ho' ha hb hc hm, sd_test (sd_chain hr hr' sa sb sc)⟩
theorem ed_chain {op op' : CmpOp} {s s' : L2.R2} {r r' : RB} (ho : OpR X (compareOp op) s) (ho' : OpR X (compareOp op') s') (hr : SdB X.K s r) (hr' : SdB X.K s' r') (ha : ED X a ta) (hb : ED X b tb) (hc : ED X c tc)
    (hm : lastMarks [op, op'] [b, c] = false := by with_unfolding_all rfl) : ED X (.Compare a [op, op'] [b, c] pos) (dBool (dChain r r' ta tb tc)) := by
  obtain ⟨ta', ha, sa⟩ := ha
  obtain ⟨tb', hb, sb⟩ := hb
  obtain ⟨tc', hc, sc⟩ := hc
  exact ⟨_, pe_chain ho ho' ha hb hc hm, sd_chain hr hr' sa sb sc⟩
theorem td_leLt (ha : ED X a ta) (hb : ED X b tb) (hc : ED X c tc) (hm : lastMarks [.LtE, .Lt] [b, c] = false := by with_unfolding_all rfl) : TD X (.Compare a [.LtE, .Lt] [b, c] pos) (dChain rLe rLt ta tb tc) :=
  td_chain op_le op_lt (sd_ci get_le) (sd_ci get_lt) ha hb hc hm
theorem ed_leLt (ha : ED X a ta) (hb : ED X b tb) (hc : ED X c tc) (hm : lastMarks [.LtE, .Lt] [b, c] = false := by with_unfolding_all rfl) : ED X (.Compare a [.LtE, .Lt] [b, c] pos) (dBool (dChain rLe rLt ta tb tc)) :=
  ed_chain op_le op_lt (sd_ci get_le) (sd_ci get_lt) ha hb hc hm
end
end DL

set_option Elab.async false
set_option linter.all false
set_option maxRecDepth 100000
set_option maxHeartbeats 2000000
/-! DW3: arguments, calls, displays, subscripts, built-ins. -/
namespace DL
open PySem PySem.Spec L2
section
variable {X : Cx} {e a b c : Expr} {es : List Expr} {pos : Pos} {ta tb tc : DE} {tr : DA} {t u : DT}
theorem ad_nil : AD X [] dNil := ⟨_, pa_nil, fun B G0 G δ σ H Q QQ r h k => k .fresh [] [] G H rfl (Step.refl r.st.i) .nil h⟩
theorem ad_cons (ha : ED X e ta) (hr : AD X es tr) (hs : starEach (e :: es) X.env = (false, eval e X.env) :: starEach es X.env := by rfl) : AD X (e :: es) (dCons ta tr) := by
  obtain ⟨ta', ha, sa⟩ := ha
  obtain ⟨tr', hr, sr⟩ := hr
  refine ⟨_, pa_cons ha hr hs, fun B G0 G δ σ H Q QQ r h k => sa B G0 G δ σ H _ _ r h fun fl d v G1 H1 s1 p1 h1 => ?_⟩
  obtain ⟨G2, s2, x2, p2, h2⟩ := p1.fix r.st.h s1 h1
  exact sr B G0 G2 δ σ H1 _ _ (r.step s2) h2 fun l ds vs G3 H3 n3 s3 p3 h3 => k (fl.lv.min l) (d :: ds) (v :: vs) G3 H3 (congrArg (· + 1) n3) (s2.trans s3)
    (.cons ((p2.mono s3.g).weak fun _ z => lP_minL r.st.h z) (p3.weak fun _ z => lP_minR r.st.h (lP_from s2.h z))) h3
theorem ed_tup {x1} (h : AD X es tr) : ED X (.Tuple es x1 pos) (dTup tr) := by
  obtain ⟨tr', h, s⟩ := h
  refine ⟨_, pe_tup h, fun B G0 G δ σ H Q QQ r h k => s B G0 G δ σ H _ _ r h fun l ds vs G1 H1 n1 s1 p1 h1 => ?_⟩
  obtain ⟨hl, hq⟩ := h1
  exact ⟨by rw [p1.length]; exact Nat.le_of_lt (small1000 hl), fin_tup (QQ := QQ) (Q := Q) s1.i p1 hq fun fl d w G' H' s' p' q' => k fl d w G' H' (s1.trans s') p' q'⟩
theorem ed_lst (h : AD X es tr) : ED X (.List es pos) (dLst tr) := by
  obtain ⟨tr', h, s⟩ := h
  refine ⟨_, pe_lst h, fun B G0 G δ σ H Q QQ r h k => s B G0 G δ σ H _ _ r h fun l ds vs G1 H1 n1 s1 p1 h1 => ?_⟩
  obtain ⟨hl, hq⟩ := h1
  exact ⟨by rw [p1.length]; exact Nat.le_of_lt (small1000 hl), fin_new (QQ := QQ) (Q := Q) s1.h s1.i p1 hq fun fl d w G' H' s' p' q' => k fl d w G' H' (s1.trans s') p' q'⟩

/-! ### calls of defs -/
/-- how an answer stands -/
def RetRep (K : PySem.W.Frag) (Hs G H : Hp) (b : Rt) (v : V) (d : PyData) : Prop := match b with
  | .av => Rp K (fun _ => True) G v d
  | .avF => Rp K (fun a => Hs a = none) G v d
  | .new => ∃ p xs ds, v = .ref p ∧ d = .list ds ∧ Hs p = none ∧ G p = none ∧ H p = some (.lst xs) ∧ RpAll K (fun _ => True) G xs ds
  | .newF => ∃ p xs ds, v = .ref p ∧ d = .list ds ∧ Hs p = none ∧ G p = none ∧ H p = some (.lst xs) ∧ RpAll K (fun a => Hs a = none) G xs ds
def spD (K : PySem.W.Frag) (n : Nat) (S : DSp) : Sp := fun vs H Q _ => vs.length = n ∧ ∃ (G : Hp) (ds : List PyData), Ext G H ∧ RpAll K (fun _ => True) G vs ds ∧
  S ds fun b d => ∀ v G' H', Step G H G' H' → RetRep K H G' H' b v d → Q v H'
structure FnD (P : Program) (w : World) (K : PySem.W.Frag) (mg : Str → Option Value) (base : Heap) (k : Nat) (f : Addr) (fd : FuncData) (ps : List Str) (S : DSp) : Prop where
  ok : FnOk P w K mg base CX0 k f fd ps (spD K ps.length S)
  mono : MonoS S
theorem FnD.up {P : Program} {w : World} {K : PySem.W.Frag} {mg : Str → Option Value} {base : Heap} {j k : Nat} {f : Addr} {fd : FuncData} {ps : List Str} {S : DSp} (F : FnD P w K mg base j f fd ps S) (h : j ≤ k) : FnD P w K mg base k f fd ps S := ⟨F.ok.mono h, F.mono⟩
theorem ret_rep {K : PySem.W.Frag} {B Hs G H : Hp} {δ : Ds} {σ : L2.St} {b : Rt} {v : V} {d : PyData} (r : RetRep K Hs G H b v d) : Rep K B Hs δ σ G H b.fl v d := by
  cases b with
  | av => exact r
  | avF => exact r
  | new => exact r
  | newF => exact r
theorem sd_call {K : PySem.W.Frag} {S : DSp} {tr' : TA} {n : Nat} {E : XK} (m : MonoS S) (h : SdA K n tr' tr) : Sd K (tCall (spD K n S) [] E tr') (dCall S tr) := fun B G0 G δ σ H Q QQ r hq k =>
  h B G0 G δ σ H _ _ r hq fun l ds vs G1 H1 n1 s1 p1 h1 => ⟨by rw [List.append_nil, p1.length]; exact n1, G1, ds, s1.i, by rw [List.append_nil]; exact p1.weak fun _ _ => trivial,
    m ds _ _ (fun b d q v G' H' s' p' => k b.fl d v G' H' (s1.trans s') ((ret_rep p').from s1.h) q) h1⟩
/-- f(e, ..) -/
theorem ed_call {x : Str} {p : Pos} {f : Addr} {fd : FuncData} {ps : List Str} {k : Nat} {S : DSp} (F : FnD X.prog X.w X.K X.mg X.base k f fd ps S) (hr : Room k X.A) (hg : Gl X x) (hm : X.mg x = some (.ref f)) (hk : PySem.W.keepIn X.K (.ref f) = true) (hb : Binds X.K fd ps [])
    (ha : AD X (e :: es) tr) (hl : (e :: es).length = ps.length := by rfl) (hdb : (x == ("__debug__" : Str)) = false := by decide) (he : starEach (e :: es) X.env = (false, eval e X.env) :: starEach es X.env := by rfl) (hpl : (backTo pos (starEach es X.env)).any (·.1) = false := by rfl) :
    ED X (.Call (.Name x p) (e :: es) [] pos) (dCall S tr) := by
  obtain ⟨tr', ha, sa⟩ := ha
  rw [hl] at sa
  exact ⟨_, pe_call F.ok hr hg hm hk hb .nil pass0 ha hdb he hpl, sd_call F.mono sa⟩
/-! ### built-ins by name -/
theorem ed_bi1 {x : Str} {id : String} {p : Pos} {r' : List V → Hp → L2.VK → Prop} {r : R1} (hc : CallR X (.builtin id) r') (hs : SdU X.K (fun v H Q => r' [v] H Q) r) (hg : Gl X x) (hm : X.mg x = none) (hv : bootBuiltins x = some (.builtin id)) (ha : ED X a ta) (hn : x ≠ "__name__" := by decide) (hdb : (x == ("__debug__" : Str)) = false := by decide)
    (he : starEach [a] X.env = [(false, eval a X.env)] := by rfl) (hpl : (backTo pos (starEach [] X.env)).any (·.1) = false := by rfl) : ED X (.Call (.Name x p) [a] [] pos) (dUn r ta) := by
  obtain ⟨ta', ha, sa⟩ := ha
  exact ⟨_, pe_callB hc hg hm hv (pa_cons ha pa_nil he) hn hdb he hpl, sd_un hs sa⟩
theorem ed_bi2 {x : Str} {id : String} {p : Pos} {r' : List V → Hp → L2.VK → Prop} {r : R2} (hc : CallR X (.builtin id) r') (hs : SdR X.K (fun v u H Q => r' [v, u] H Q) r) (hg : Gl X x) (hm : X.mg x = none) (hv : bootBuiltins x = some (.builtin id)) (ha : ED X a ta) (hb : ED X b tb) (hn : x ≠ "__name__" := by decide) (hdb : (x == ("__debug__" : Str)) = false := by decide)
    (he : starEach [a, b] X.env = (false, eval a X.env) :: starEach [b] X.env := by rfl) (he2 : starEach [b] X.env = [(false, eval b X.env)] := by rfl) (hpl : (backTo pos (starEach [b] X.env)).any (·.1) = false := by rfl) : ED X (.Call (.Name x p) [a, b] [] pos) (dOp r ta tb) := by
  obtain ⟨ta', ha, sa⟩ := ha
  obtain ⟨tb', hb, sb⟩ := hb
  exact ⟨_, pe_callB hc hg hm hv (pa_cons ha (pa_cons hb pa_nil he2) he) hn hdb he hpl, sd_op hs sa sb⟩
theorem ed_ty1 {x : Str} {T : String} {p : Pos} {r' : List V → Hp → L2.VK → Prop} {r : R1} (hc : CallR X (.type T) r') (hs : SdU X.K (fun v H Q => r' [v] H Q) r) (hg : Gl X x) (hm : X.mg x = none) (hv : bootBuiltins x = some (.type T)) (ha : ED X a ta) (hn : x ≠ "__name__" := by decide) (hdb : (x == ("__debug__" : Str)) = false := by decide)
    (he : starEach [a] X.env = [(false, eval a X.env)] := by rfl) (hpl : (backTo pos (starEach [] X.env)).any (·.1) = false := by rfl) : ED X (.Call (.Name x p) [a] [] pos) (dUn r ta) := by
  obtain ⟨ta', ha, sa⟩ := ha
  exact ⟨_, pe_callTy hc hg hm hv (pa_cons ha pa_nil he) hn hdb he hpl, sd_un hs sa⟩
theorem rep_scr {K : PySem.W.Frag} {B Hs : Hp} {δ : Ds} {σ : L2.St} {G H : Hp} {fl : Fl} {v : V} {kvs : List (PyData × PyData)} (r : Rep K B Hs δ σ G H fl v (.dict kvs)) (i : Ext G H) : ∃ (a : Addr) (ns : List Int), v = .ref a ∧ SqL K H a (ns.map V.int) ∧ kvs = ns.map fun n => (PyData.int n, PyData.none) := by
  cases r.notList (fun _ e => nomatch e) with
  | scr h => exact ⟨_, _, rfl, i.sl h, rfl⟩
theorem sd_len {K : PySem.W.Frag} : SdU K (fun v H Q => (fun xs H Q => ∃ x n, xs = [x] ∧ LenV K x H n ∧ Q (.int (n : Nat)) H) [v] H Q) rLen := by
  intro B Hs δ σ G H fx x v Q QQ xb y0 i rx h k
  cases x with
  | list ds =>
    obtain ⟨p, xs, rfl, hp, ra⟩ := rx.list i
    refine ⟨_, ds.length, rfl, .inl ⟨xs, .of hp, ra.length.symm⟩, fin_av (QQ := QQ) (Q := Q) i (.int _) h k⟩
  | tuple ds =>
    obtain ⟨p, xs, rfl, hp, ra⟩ := rx.tuple i
    refine ⟨_, ds.length, rfl, .inr ⟨xs, i.st hp, ra.length.symm⟩, fin_av (QQ := QQ) (Q := Q) i (.int _) h k⟩
  | str s => exact ⟨_, s.length, rfl, by rw [rep_str rx]; exact ⟨h.1, rfl⟩, fin_av (QQ := QQ) (Q := Q) i (.int _) h.2 k⟩
  | dict kvs =>
    obtain ⟨p, ns, rfl, hp, rfl⟩ := rep_scr rx i
    refine ⟨_, ns.length, rfl, .inl ⟨_, hp, (List.length_map _).symm⟩, ?_⟩
    have h' : QQ (.av .fresh) (.int ((ns.map fun n => (PyData.int n, PyData.none)).length : Nat)) := h
    rw [List.length_map] at h'
    exact fin_av (QQ := QQ) (Q := Q) i (.int _) h' k
  | _ => exact h.elim
theorem ed_len {p : Pos} (hg : Gl X "len") (hm : X.mg "len" = none) (ha : ED X a ta) (he : starEach [a] X.env = [(false, eval a X.env)] := by rfl) : ED X (.Call (.Name "len" p) [a] [] pos) (dUn rLen ta) := ed_bi1 call_len sd_len hg hm PySem.boot_len ha (he := he)
theorem ed_abs {p : Pos} (hg : Gl X "abs") (hm : X.mg "abs" = none) (ha : ED X a ta) (he : starEach [a] X.env = [(false, eval a X.env)] := by rfl) : ED X (.Call (.Name "abs" p) [a] [] pos) (dUn rAbs ta) := by
  refine ed_bi1 call_abs (fun B Hs δ σ G H fx x v Q QQ xb y0 i rx h k => ?_) hg hm (by decide +kernel) ha (he := he)
  cases x with
  | int m => exact ⟨m, by rw [rep_int rx], fin_av (QQ := QQ) (Q := Q) i (.int _) h k⟩
  | _ => exact h.elim
theorem ed_toInt {p : Pos} (hg : Gl X "int") (hm : X.mg "int" = none) (ha : ED X a ta) (he : starEach [a] X.env = [(false, eval a X.env)] := by rfl) : ED X (.Call (.Name "int" p) [a] [] pos) (dUn rToInt ta) := by
  refine ed_ty1 call_int1 (fun B Hs δ σ G H fx x v Q QQ xb y0 i rx h k => ?_) hg hm (by decide +kernel) ha (he := he)
  cases x with
  | int m => exact .inl ⟨m, by rw [rep_int rx], fin_av (QQ := QQ) (Q := Q) i (.int _) h k⟩
  | bool m => exact .inr ⟨m, by rw [rep_bool rx], fin_av (QQ := QQ) (Q := Q) i (.int _) h k⟩
  | _ => exact h.elim
theorem ed_max2 {p : Pos} (hcm : X.calm = true) (hg : Gl X "max") (hm : X.mg "max" = none) (ha : ED X a ta) (hb : ED X b tb) (he : starEach [a, b] X.env = (false, eval a X.env) :: starEach [b] X.env := by rfl) (he2 : starEach [b] X.env = [(false, eval b X.env)] := by rfl) (hpl : (backTo pos (starEach [b] X.env)).any (·.1) = false := by rfl) :
    ED X (.Call (.Name "max" p) [a, b] [] pos) (dOp rMax2 ta tb) := by
  refine ed_bi2 (call_max2 hcm) (fun B Hs δ σ G H fx fy x y v u Q QQ xb y0 i rx ry h k => ?_) hg hm (by decide +kernel) ha hb (he := he) (he2 := he2) (hpl := hpl)
  cases x with
  | int m =>
    cases y with
    | int n => exact ⟨m, n, by rw [rep_int rx, rep_int ry], fin_av (QQ := QQ) (Q := Q) i (.int _) h k⟩
    | _ => exact h.elim
  | _ => exact h.elim
theorem ed_min2 {p : Pos} (hcm : X.calm = true) (hg : Gl X "min") (hm : X.mg "min" = none) (ha : ED X a ta) (hb : ED X b tb) (he : starEach [a, b] X.env = (false, eval a X.env) :: starEach [b] X.env := by rfl) (he2 : starEach [b] X.env = [(false, eval b X.env)] := by rfl) (hpl : (backTo pos (starEach [b] X.env)).any (·.1) = false := by rfl) :
    ED X (.Call (.Name "min" p) [a, b] [] pos) (dOp rMin2 ta tb) := by
  refine ed_bi2 (call_min2 hcm) (fun B Hs δ σ G H fx fy x y v u Q QQ xb y0 i rx ry h k => ?_) hg hm (by decide +kernel) ha hb (he := he) (he2 := he2) (hpl := hpl)
  cases x with
  | int m =>
    cases y with
    | int n => exact ⟨m, n, by rw [rep_int rx, rep_int ry], fin_av (QQ := QQ) (Q := Q) i (.int _) h k⟩
    | _ => exact h.elim
  | _ => exact h.elim
theorem ed_sum {p : Pos} (hcm : X.calm = true) (hg : Gl X "sum") (hm : X.mg "sum" = none) (ha : ED X a ta) (he : starEach [a] X.env = [(false, eval a X.env)] := by rfl) : ED X (.Call (.Name "sum" p) [a] [] pos) (dUn DL.rSum ta) := by
  refine ed_bi1 (cr_sum hcm) (fun B Hs δ σ G H fx x v Q QQ xb y0 i rx h k => ?_) hg hm (by decide +kernel) ha (he := he)
  cases x with
  | list ds =>
    obtain ⟨ns, rfl, h⟩ := h
    obtain ⟨p, xs, rfl, hp, ra⟩ := rx.list i
    have e := ra.ints
    subst e
    exact ⟨p, ns, rfl, .of hp, fin_av (QQ := QQ) (Q := Q) i (.int _) h k⟩
  | _ => exact h.elim
theorem ed_sorted {p : Pos} (hg : Gl X "sorted") (hm : X.mg "sorted" = none) (ha : ED X a ta) (he : starEach [a] X.env = [(false, eval a X.env)] := by rfl) : ED X (.Call (.Name "sorted" p) [a] [] pos) (dUn DL.rSorted ta) := by
  refine ed_bi1 cr_sortedI (fun B Hs δ σ G H fx x v Q QQ xb y0 i rx h k => ?_) hg hm (by decide +kernel) ha (he := he)
  cases x with
  | list ds =>
    obtain ⟨ns, rfl, h⟩ := h
    obtain ⟨p, xs, rfl, hp, ra⟩ := rx.list i
    have e := ra.ints
    subst e
    exact ⟨p, ns, rfl, .of hp, fun ns' q h1 h2 h3 => fin_new (QQ := QQ) (Q := Q) y0 i (RpAll.of_ints ns') (h ns' h1 h2) k q h3⟩
  | _ => exact h.elim
theorem ed_toList {p : Pos} (hg : Gl X "list") (hm : X.mg "list" = none) (ha : ED X a ta) (he : starEach [a] X.env = [(false, eval a X.env)] := by rfl) : ED X (.Call (.Name "list" p) [a] [] pos) (dUn rToList ta) := by
  refine ed_ty1 call_list_of (fun B Hs δ σ G H fx x v Q QQ xb y0 i rx h k => ?_) hg hm (by decide +kernel) ha (he := he)
  cases x with
  | list ds =>
    obtain ⟨p, xs, rfl, hp, ra⟩ := rx.list i
    exact ⟨p, xs, rfl, .inl (.of hp), fun q hq => fin_new (QQ := QQ) (Q := Q) y0 i ra h k q hq⟩
  | tuple ds =>
    obtain ⟨p, xs, rfl, hp, ra⟩ := rx.tuple i
    exact ⟨p, xs, rfl, .inr (i.st hp), fun q hq => fin_new (QQ := QQ) (Q := Q) y0 i ra h k q hq⟩
  | _ => exact h.elim
theorem ed_toTup {p : Pos} (hg : Gl X "tuple") (hm : X.mg "tuple" = none) (ha : ED X a ta) (he : starEach [a] X.env = [(false, eval a X.env)] := by rfl) : ED X (.Call (.Name "tuple" p) [a] [] pos) (dUn rToTup ta) := by
  refine ed_ty1 call_tuple_of (fun B Hs δ σ G H fx x v Q QQ xb y0 i rx h k => ?_) hg hm (by decide +kernel) ha (he := he)
  cases x with
  | list ds =>
    obtain ⟨p, xs, rfl, hp, ra⟩ := rx.list i
    exact ⟨p, xs, rfl, .inl ⟨.of hp, fun q hq => fin_tup (QQ := QQ) (Q := Q) i ra h k q hq⟩⟩
  | tuple ds =>
    obtain ⟨p, xs, rfl, hp, ra⟩ := rx.tuple i
    exact ⟨p, xs, rfl, .inr ⟨i.st hp, fin_av (QQ := QQ) (Q := Q) i (.tup hp ra) h k⟩⟩
  | _ => exact h.elim
/-! isinstance -/
theorem rp_ty {K : PySem.W.Frag} {F : Addr → Prop} {H : Hp} {v : V} {d : PyData} (r : Rp K F H v d) : TyX K H v (.type (tyN d)) := by
  cases r with
  | non => exact .base .non
  | bl b => exact .base (.bl b)
  | int i => exact .base (.int i)
  | str s => exact .base (.str s)
  | lst _ h _ => exact .base (.lst h)
  | tup h _ =>
    rcases h with (h | ⟨o, h⟩) | ⟨o, its, n, h1, h2, _⟩
    · exact .base (.tup h)
    · exact .fTuple h
    · exact .kTuple h1 h2
  | scr h =>
    rcases h with (h | ⟨o, h⟩) | ⟨o, its, n, h1, h2, _⟩
    · exact .base (.lst h)
    · exact .base (.frz h)
    · exact .kList h1 h2
theorem kit_int (d : PyData) : kitB (tyN d) "int" = some (isInt d) := by cases d <;> (dsimp only [tyN, isInt, isBool, isStr, isList, isTup]; decide +kernel)
theorem kit_bool (d : PyData) : kitB (tyN d) "bool" = some (isBool d) := by cases d <;> (dsimp only [tyN, isInt, isBool, isStr, isList, isTup]; decide +kernel)
theorem kit_str (d : PyData) : kitB (tyN d) "str" = some (isStr d) := by cases d <;> (dsimp only [tyN, isInt, isBool, isStr, isList, isTup]; decide +kernel)
theorem kit_list (d : PyData) : kitB (tyN d) "list" = some (isList d) := by cases d <;> (dsimp only [tyN, isInt, isBool, isStr, isList, isTup]; decide +kernel)
theorem kit_tup (d : PyData) : kitB (tyN d) "tuple" = some (isTup d) := by cases d <;> (dsimp only [tyN, isInt, isBool, isStr, isList, isTup]; decide +kernel)
theorem ed_isi {f : PyData → Bool} {T : String} {x : Str} {p p2 : Pos} (hk : ∀ d, kitB (tyN d) T = some (f d)) (hg : Gl X "isinstance") (hm : X.mg "isinstance" = none) (hg2 : Gl X x) (hm2 : X.mg x = none) (hv2 : bootBuiltins x = some (.type T)) (ha : ED X a ta)
    (hn2 : x ≠ "__name__" := by decide) (hd2 : (x == ("__debug__" : Str)) = false := by decide)
    (he : starEach [a, .Name x p2] X.env = (false, eval a X.env) :: starEach [.Name x p2] X.env := by rfl) (he2 : starEach [.Name x p2] X.env = [(false, eval (.Name x p2) X.env)] := by rfl) (hpl : (backTo pos (starEach [.Name x p2] X.env)).any (·.1) = false := by rfl) :
    ED X (.Call (.Name "isinstance" p) [a, .Name x p2] [] pos) (dUn (rKind f) ta) := by
  obtain ⟨ta', ha, sa⟩ := ha
  refine ⟨_, pe_callB call_isi hg hm (by decide +kernel) (pa_cons ha (pa_cons (pe_bltn (v := .ty T) hg2 hm2 hv2 rfl hn2 hd2) pa_nil he2) he) (he := he) (hpl := hpl), fun B G0 G δ σ H Q QQ r h k => sa B G0 G δ σ H _ _ r h fun fl d v G1 H1 s1 p1 h1 => ?_⟩
  exact ⟨v, .ty T, .type (tyN d), .type T, f d, rfl, .ty T, rp_ty (p1.all s1.i), hk d, k (.av .fresh) (.bool (f d)) _ G1 H1 s1 (Rp.bl _) h1⟩
theorem ed_isInt {p p2 : Pos} (hg : Gl X "isinstance") (hm : X.mg "isinstance" = none) (hg2 : Gl X "int") (hm2 : X.mg "int" = none) (ha : ED X a ta) (he : starEach [a, .Name "int" p2] X.env = (false, eval a X.env) :: starEach [.Name "int" p2] X.env := by rfl) :
    ED X (.Call (.Name "isinstance" p) [a, .Name "int" p2] [] pos) (dUn (rKind isInt) ta) := ed_isi kit_int hg hm hg2 hm2 (by decide +kernel) ha (he := he)
theorem ed_isBool {p p2 : Pos} (hg : Gl X "isinstance") (hm : X.mg "isinstance" = none) (hg2 : Gl X "bool") (hm2 : X.mg "bool" = none) (ha : ED X a ta) (he : starEach [a, .Name "bool" p2] X.env = (false, eval a X.env) :: starEach [.Name "bool" p2] X.env := by rfl) :
    ED X (.Call (.Name "isinstance" p) [a, .Name "bool" p2] [] pos) (dUn (rKind isBool) ta) := ed_isi kit_bool hg hm hg2 hm2 (by decide +kernel) ha (he := he)
theorem ed_isStr {p p2 : Pos} (hg : Gl X "isinstance") (hm : X.mg "isinstance" = none) (hg2 : Gl X "str") (hm2 : X.mg "str" = none) (ha : ED X a ta) (he : starEach [a, .Name "str" p2] X.env = (false, eval a X.env) :: starEach [.Name "str" p2] X.env := by rfl) :
    ED X (.Call (.Name "isinstance" p) [a, .Name "str" p2] [] pos) (dUn (rKind isStr) ta) := ed_isi kit_str hg hm hg2 hm2 (by decide +kernel) ha (he := he)
theorem ed_isList {p p2 : Pos} (hg : Gl X "isinstance") (hm : X.mg "isinstance" = none) (hg2 : Gl X "list") (hm2 : X.mg "list" = none) (ha : ED X a ta) (he : starEach [a, .Name "list" p2] X.env = (false, eval a X.env) :: starEach [.Name "list" p2] X.env := by rfl) :
    ED X (.Call (.Name "isinstance" p) [a, .Name "list" p2] [] pos) (dUn (rKind isList) ta) := ed_isi kit_list hg hm hg2 hm2 (by decide +kernel) ha (he := he)
theorem ed_isTup {p p2 : Pos} (hg : Gl X "isinstance") (hm : X.mg "isinstance" = none) (hg2 : Gl X "tuple") (hm2 : X.mg "tuple" = none) (ha : ED X a ta) (he : starEach [a, .Name "tuple" p2] X.env = (false, eval a X.env) :: starEach [.Name "tuple" p2] X.env := by rfl) :
    ED X (.Call (.Name "isinstance" p) [a, .Name "tuple" p2] [] pos) (dUn (rKind isTup) ta) := ed_isi kit_tup hg hm hg2 hm2 (by decide +kernel) ha (he := he)

/-! ### subscripts -/
theorem ix_rp {K : PySem.W.Frag} {F : Addr → Prop} {G : Hp} {xs : List V} {ds : List PyData} {i : Int} {d : PyData} (r : RpAll K F G xs ds) (h : atI ds i = some d) : ∃ v, atI xs i = some v ∧ Rp K F G v d := by
  unfold atI at h ⊢
  rw [r.length]
  cases e : ixN ds.length i with
  | none => rw [e] at h; cases h
  | some j =>
    rw [e] at h
    exact r.get (i := j) h
theorem sd_ix {K : PySem.W.Frag} : SdR K (fun x y H Q => rIxL K x y H Q ∨ rIxT K x y H Q) DL.rIx := by
  intro B Hs δ σ G H fx fy x y v u Q QQ xb y0 i rx ry h k
  cases y with
  | int n =>
    have e := rep_int ry
    subst e
    cases x with
    | list ds =>
      obtain ⟨p, xs, rfl, hp, ra⟩ := rx.list i
      obtain ⟨d, h1, h2⟩ := h
      obtain ⟨v, h3, h4⟩ := ix_rp ra h1
      exact .inl ⟨p, xs, n, v, rfl, rfl, .of hp, h3, fin_av i h4 h2 k⟩
    | tuple ds =>
      obtain ⟨p, xs, rfl, hp, ra⟩ := rx.tuple i
      obtain ⟨d, h1, h2⟩ := h
      obtain ⟨v, h3, h4⟩ := ix_rp ra h1
      exact .inr ⟨p, xs, n, v, rfl, rfl, i.st hp, h3, fin_av i h4 h2 k⟩
    | _ => exact h.elim
  | _ => exact h.elim
theorem ed_ix (ha : ED X a ta) (hb : ED X b tb) (hs : PlainIx b := by exact fun _ _ => rfl) : ED X (.Subscript a b pos) (dOp DL.rIx ta tb) := by
  obtain ⟨ta', ha, sa⟩ := ha
  obtain ⟨tb', hb, sb⟩ := hb
  exact ⟨_, pe_ix (IxR.or ix_list ix_tup) ha hb hs, sd_op sd_ix sa sb⟩
theorem od_none : OD X none dNo := ⟨_, po_none, fun B G0 G δ σ H Q QQ r h k => k none G H (Step.refl r.st.i) h⟩
theorem od_some (ha : ED X a ta) : OD X (some a) (dPart ta) := by
  obtain ⟨ta', ha, sa⟩ := ha
  refine ⟨_, po_some ha, fun B G0 G δ σ H Q QQ r h k => sa B G0 G δ σ H _ _ r h fun fl d v G1 H1 s1 p1 h1 => ?_⟩
  cases d with
  | int i => exact ⟨i, rep_int p1, k (some i) G1 H1 s1 h1⟩
  | _ => exact h1.elim
theorem cut_rp {K : PySem.W.Frag} {F : Addr → Prop} {G : Hp} {xs : List V} {ds : List PyData} (r : RpAll K F G xs ds) (lo hi : Option Int) : RpAll K F G (cutV xs lo hi) (cut ds lo hi) := by
  unfold cutV cut
  rw [r.length]
  exact (r.drop _).take _
theorem ed_sl {lo hi : Option Expr} {tl th : DO} {p2 : Pos} (ha : ED X a ta) (hl : OD X lo tl) (hh : OD X hi th) : ED X (.Subscript a (.Slice lo hi none p2) pos) (dSl ta tl th) := by
  obtain ⟨ta', ha, sa⟩ := ha
  obtain ⟨tl', hl, sl⟩ := hl
  obtain ⟨th', hh, sh⟩ := hh
  refine ⟨_, pe_slice (SlR.or sl_list sl_tup) ha hl hh, fun B G0 G δ σ H Q QQ r h k => sa B G0 G δ σ H _ _ r h fun fl d v G1 H1 s1 p1 h1 => sl B G0 G1 δ σ H1 _ _ (r.step s1) h1 fun o G2 H2 s2 h2 =>
    sh B G0 G2 δ σ H2 _ _ ((r.step s1).step s2) h2 fun o2 G3 H3 s3 h3 => ?_⟩
  have s := (s1.trans s2).trans s3
  have p3 := (p1.step s2).step s3
  have k' : ∀ fl d w G' H', Step G3 H3 G' H' → Rep X.K B H δ σ G' H' fl w d → QQ fl d → Q w H' := fun fl d w G' H' s' p' q' => k fl d w G' H' (s.trans s') p' q'
  cases d with
  | list ds =>
    obtain ⟨p, xs, rfl, hp, ra⟩ := p3.list s3.i
    exact .inl ⟨p, xs, rfl, .of hp, fin_new s.h s3.i (cut_rp ra _ _) h3 k'⟩
  | tuple ds =>
    obtain ⟨p, xs, rfl, hp, ra⟩ := p3.tuple s3.i
    exact .inr ⟨p, xs, rfl, s3.i.st hp, by rw [ra.length]; exact h3.1, fin_tup s3.i (cut_rp ra _ _) h3.2 k'⟩
  | dict kvs =>
    obtain ⟨p, ns, rfl, hp, rfl⟩ := rep_scr p3 s3.i
    have ra : RpAll X.K (lP B H .fresh) G3 (ns.map V.int) ((ns.map fun n => (PyData.int n, PyData.none)).map (·.1)) := by
      rw [List.map_map]
      exact RpAll.of_ints ns
    exact .inl ⟨p, _, rfl, hp, fin_new s.h s3.i (cut_rp ra _ _) h3 k'⟩
  | _ => exact h3.elim
/-! ### an own list lent -/
theorem look_put (δ : Ds) (i j : Nat) (s : Sl) : look (put δ i s) j = if j = i ∧ i < δ.length then s else look δ j := by
  by_cases h : j = i
  · subst h
    by_cases h2 : j < δ.length
    · rw [if_pos ⟨rfl, h2⟩, look_put_eq _ _ _ h2]
    · rw [if_neg (fun z => h2 z.2), look_out _ _ (by rw [put_length]; omega), look_out _ _ (by omega)]
  · rw [if_neg (fun z => h z.1), look_put_ne _ _ _ _ h]
theorem Rl.freeze {K : PySem.W.Frag} {B G0 G H : Hp} {δ : Ds} {σ : L2.St} {i : Nat} {m m' : Bool} {ds : List PyData} (hm : m' = true → m = true) (r : Rl K B G0 G δ σ H) (h : look δ i = .own m ds) : ∃ p xs, σ[i]? = some (some (.ref p)) ∧ G p = none ∧ B p = none ∧ H p = some (.lst xs) ∧ RpAll K (mP B m) G xs ds ∧
    Rl K B G0 (upd G p (.lst xs)) (put δ i (.val m' (.list ds))) σ H ∧ Ext G (upd G p (.lst xs)) := by
  obtain ⟨p, xs, h1, h2, h3, h4, h5⟩ := r.own i m ds h
  have x : Ext G (upd G p (.lst xs)) := Ext.new h2
  refine ⟨p, xs, h1, h2, h3, h4, h5, ⟨r.st.take h3 h2 h4, by rw [put_length]; exact r.len, fun j n d e => ?_, fun j n es e => ?_, fun j d e => ?_, fun j l q n n' ds' es' e1 e2 e3 e4 => ?_⟩, x⟩
  · rw [look_put] at e
    split at e
    · rename_i hj
      cases e
      rw [hj.1]
      exact ⟨_, h1, .lst (fun _ => h3) upd_same ((h5.mono x).weak fun a z y => z (hm y))⟩
    · obtain ⟨v, a1, a2⟩ := r.val j n d e
      exact ⟨v, a1, a2.mono x⟩
  · rw [look_put] at e
    split at e
    · cases e
    · rename_i hj
      obtain ⟨q, ys, a1, a2, a3, a4, a5⟩ := r.own j n es e
      have ne : q ≠ p := fun z => by
        subst z
        have := r.dis j i q n m es ds e h a1 h1
        subst this
        by_cases hl : j < δ.length
        · exact hj ⟨rfl, hl⟩
        · rw [look_out _ _ (by omega)] at e; cases e
      exact ⟨q, ys, a1, by rw [upd_ne ne]; exact a2, a3, a4, a5.mono x⟩
  · rw [look_put] at e
    split at e
    · cases e
    · exact r.old j d e
  · rw [look_put] at e1 e2
    split at e1
    · cases e1
    · split at e2
      · cases e2
      · exact r.dis j l q n n' ds' es' e1 e2 e3 e4
theorem out_step {G H G' H' : Hp} {p : Addr} {xs : List V} (hg : G p = none) (hp : H p = some (.lst xs)) (s : Step (upd G p (.lst xs)) H G' H') : Step G H (out G' p) H' :=
  ⟨fun a o e => by
    have ne : a ≠ p := fun z => by subst z; rw [hg] at e; cases e
    rw [out_ne ne]; exact s.g a o (by rw [upd_ne ne]; exact e), s.h, fun a o e => s.i a o (out_ext a o e), fun q h1 h2 => by
    by_cases ne : q = p
    · subst ne; exact out_same
    · rw [out_ne ne]; exact s.f q (by rw [upd_ne ne]; exact h1) h2⟩
theorem out_at {G : Hp} {p : Addr} {ys : List V} (hp : G p = some (.lst ys)) : ∀ a o, G a = some o → (∀ xs, o ≠ .lst xs) → out G p a = some o := fun a o e h => by
  have ne : a ≠ p := fun z => by
    subst z
    rw [hp] at e
    cases e
    exact h _ rfl
  rw [out_ne ne]; exact e
/-- e, the list of slot i lent to it -/
theorem ed_lend {i : Nat} (ha : ED X a ta) : ED X a (dLend i ta) := by
  obtain ⟨ta', ha, sa⟩ := ha
  refine ⟨ta', ha, fun B G0 G δ σ H Q QQ r h k => ?_⟩
  unfold dLend at h
  cases e : look δ i with
  | own m ds =>
    rw [e] at h
    obtain ⟨p, xs, h1, h2, h3, h4, h5, r', x⟩ := r.freeze (m' := false) (fun z => nomatch z) e
    refine sa B G0 _ _ σ H _ _ r' h fun fl d v G1 H1 s1 p1 q1 => ?_
    have hp1 : G1 p = some (.lst xs) := s1.g p _ upd_same
    cases fl with
    | av l =>
      have p1' : Rp X.K (lP B H l) G1 v d := p1
      exact k (.av .fresh) d v (out G1 p) H1 (out_step h2 h4 s1) (Rp.noList (out_at hp1) q1.1 p1') q1.2
    | new l =>
      obtain ⟨q, ys, es, rfl, rfl, _⟩ := p1
      cases q1.1
    | own j => exact q1.elim
  | val m d => rw [e] at h; exact h.elim
  | old d => rw [e] at h; exact h.elim
  | non => rw [e] at h; exact h.elim
theorem td_lend {i : Nat} (ha : TD X a t) : TD X a (dLendT i t) := by
  obtain ⟨ta', ha, sa⟩ := ha
  refine ⟨ta', ha, fun B G0 G δ σ H Q QQ r h k => ?_⟩
  unfold dLendT at h
  cases e : look δ i with
  | own m ds =>
    rw [e] at h
    obtain ⟨p, xs, h1, h2, h3, h4, h5, r', x⟩ := r.freeze (m' := false) (fun z => nomatch z) e
    exact sa B G0 _ _ σ H _ _ r' h fun b G1 H1 s1 q1 => k b (out G1 p) H1 (out_step h2 h4 s1) q1
  | val m d => rw [e] at h; exact h.elim
  | old d => rw [e] at h; exact h.elim
  | non => rw [e] at h; exact h.elim
/-- what holds no list is of every age -/
theorem ed_nl (ha : ED X a ta) : ED X a (dNL ta) := by
  obtain ⟨ta', ha, sa⟩ := ha
  refine ⟨ta', ha, fun B G0 G δ σ H Q QQ r h k => sa B G0 G δ σ H _ _ r h fun fl d v G1 H1 s1 p1 q1 => ?_⟩
  cases fl with
  | av l =>
    have p1' : Rp X.K (lP B H l) G1 v d := p1
    exact k (.av .fresh) d v G1 H1 s1 (Rp.noList (fun _ _ e _ => e) q1.1 p1') q1.2
  | new l =>
    obtain ⟨q, ys, es, rfl, rfl, _⟩ := p1
    cases q1.1
  | own j => exact q1.elim
end
end DL

set_option Elab.async false
set_option linter.all false
set_option maxRecDepth 100000
set_option maxHeartbeats 2000000
/-! DW4: targets, statements, loops, comprehensions, defs. -/
namespace DL
open PySem PySem.Spec L2
open PyProof.Rows (envOfC)

/-! ### one reading for all contexts -/
def cvE (K : PySem.W.Frag) (t : DE) : TE := fun σ H Q => ∃ (B G0 G : Hp) (δ : Ds) (QQ : VK), Rl K B G0 G δ σ H ∧ t δ QQ ∧ ∀ fl d v G' H', Step G H G' H' → Rep K B H δ σ G' H' fl v d → QQ fl d → Q v H'
def cvT (K : PySem.W.Frag) (t : DT) : TT := fun σ H Q => ∃ (B G0 G : Hp) (δ : Ds) (QQ : Bool → Prop), Rl K B G0 G δ σ H ∧ t δ QQ ∧ ∀ b G' H', Step G H G' H' → QQ b → Q b H'
theorem sd_cv {K : PySem.W.Frag} {t : DE} : Sd K (cvE K t) t := fun B G0 G δ _ _ _ QQ r h k => ⟨B, G0, G, δ, QQ, r, h, k⟩
theorem sd_cvT {K : PySem.W.Frag} {t : DT} : SdT K (cvT K t) t := fun B G0 G δ _ _ _ QQ r h k => ⟨B, G0, G, δ, QQ, r, h, k⟩
theorem ED.pe {X : Cx} {e : Expr} {t : DE} (h : ED X e t) : PE X e (cvE X.K t) := by
  obtain ⟨te, h, s⟩ := h
  exact ⟨fun pins s' σ H Q I q => by
    obtain ⟨B, G0, G, δ, QQ, r, a, k⟩ := q
    exact h.run pins s' σ H Q I (s B G0 G δ σ H Q QQ r a k)⟩
theorem TD.pt {X : Cx} {e : Expr} {t : DT} (h : TD X e t) : PT X e (cvT X.K t) := by
  obtain ⟨te, h, s⟩ := h
  exact ⟨fun pins s' σ H Q I q => by
    obtain ⟨B, G0, G, δ, QQ, r, a, k⟩ := q
    exact h.run pins s' σ H Q I (s B G0 G δ σ H Q QQ r a k)⟩

/-! ### storing -/
section
variable {K : PySem.W.Frag} {B G0 G G' H H' : Hp} {δ : Ds} {σ : L2.St}
theorem set_at {i j : Nat} {o : Option V} (h : j ≠ i) : (σ.set i o)[j]? = σ[j]? := List.getElem?_set_ne (Ne.symm h)
theorem put_look {δ : Ds} {i j : Nat} {s t : Sl} (h : look (put δ i s) j = t) (hn : t ≠ .non) : (j = i ∧ i < δ.length ∧ s = t) ∨ (j ≠ i ∧ look δ j = t) := by
  by_cases z : j = i
  · subst z
    by_cases y : j < δ.length
    · rw [look_put_eq _ _ _ y] at h
      exact .inl ⟨rfl, y, h⟩
    · rw [look_out _ _ (by rw [put_length]; omega)] at h
      exact absurd h.symm hn
  · rw [look_put_ne _ _ _ _ z] at h
    exact .inr ⟨z, h⟩
theorem Rl.setVal {i : Nat} {m : Bool} {v : V} {d : PyData} (r : Rl K B G0 G δ σ H) (h : Rp K (mP B m) G v d) : Rl K B G0 G (put δ i (.val m d)) (σ.set i (some v)) H := by
  refine ⟨r.st, by rw [List.length_set, put_length]; exact r.len, fun j n e q => ?_, fun j n es q => ?_, fun j e q => ?_, fun j l p n n' ds es e1 e2 e3 e4 => ?_⟩
  · rcases put_look q (fun z => nomatch z) with ⟨rfl, hl, e⟩ | ⟨hj, q⟩
    · cases e
      rw [List.getElem?_set_self (by rw [r.len]; exact hl)]
      exact ⟨v, rfl, h⟩
    · rw [set_at hj]
      exact r.val j n e q
  · rcases put_look q (fun z => nomatch z) with ⟨_, _, e⟩ | ⟨hj, q⟩
    · cases e
    · rw [set_at hj]
      exact r.own j n es q
  · rcases put_look q (fun z => nomatch z) with ⟨_, _, e⟩ | ⟨hj, q⟩
    · cases e
    · rw [set_at hj]
      exact r.old j e q
  · rcases put_look e1 (fun z => nomatch z) with ⟨_, _, e⟩ | ⟨hj, e1⟩
    · cases e
    · rcases put_look e2 (fun z => nomatch z) with ⟨_, _, e⟩ | ⟨hl, e2⟩
      · cases e
      · rw [set_at hj] at e3
        rw [set_at hl] at e4
        exact r.dis j l p n n' ds es e1 e2 e3 e4
/-- a list that is no other name's -/
theorem Rl.setOwn {i : Nat} {m : Bool} {p : Addr} {xs : List V} {ds : List PyData} (r : Rl K B G0 G δ σ H) (hg : G p = none) (hb : B p = none) (hp : H p = some (.lst xs)) (ra : RpAll K (mP B m) G xs ds) (hn : ∀ j n es, j ≠ i → look δ j = .own n es → σ[j]? ≠ some (some (.ref p))) :
    Rl K B G0 G (put δ i (.own m ds)) (σ.set i (some (.ref p))) H := by
  refine ⟨r.st, by rw [List.length_set, put_length]; exact r.len, fun j n e q => ?_, fun j n es q => ?_, fun j e q => ?_, fun j l a n n' ds' es' e1 e2 e3 e4 => ?_⟩
  · rcases put_look q (fun z => nomatch z) with ⟨_, _, e⟩ | ⟨hj, q⟩
    · cases e
    · rw [set_at hj]
      exact r.val j n e q
  · rcases put_look q (fun z => nomatch z) with ⟨rfl, hl, e⟩ | ⟨hj, q⟩
    · cases e
      rw [List.getElem?_set_self (by rw [r.len]; exact hl)]
      exact ⟨p, xs, rfl, hg, hb, hp, ra⟩
    · rw [set_at hj]
      exact r.own j n es q
  · rcases put_look q (fun z => nomatch z) with ⟨_, _, e⟩ | ⟨hj, q⟩
    · cases e
    · rw [set_at hj]
      exact r.old j e q
  · rcases put_look e1 (fun z => nomatch z) with ⟨rfl, hj, _⟩ | ⟨hj, e1⟩
    · rcases put_look e2 (fun z => nomatch z) with ⟨rfl, hl, _⟩ | ⟨hl, e2⟩
      · rfl
      · rw [set_at hl] at e4
        rw [List.getElem?_set_self (by rw [r.len]; exact hj)] at e3
        cases e3
        exact absurd e4 (hn l n' es' hl e2)
    · rw [set_at hj] at e3
      rcases put_look e2 (fun z => nomatch z) with ⟨hi, hl, _⟩ | ⟨hl, e2⟩
      · rw [hi, List.getElem?_set_self (by rw [r.len]; exact hl)] at e4
        cases e4
        exact absurd e3 (hn j n ds' hj e1)
      · rw [set_at hl] at e4
        exact r.dis j l a n n' ds' es' e1 e2 e3 e4
/-- the own list of slot i is changed -/
theorem Rl.write {i : Nat} {m : Bool} {p : Addr} {ys : List V} {ds es : List PyData} (r : Rl K B G0 G δ σ H) (h : look δ i = .own m ds) (hs : σ[i]? = some (some (.ref p))) (ra : RpAll K (mP B m) G ys es) :
    Rl K B G0 G (put δ i (.own m es)) σ (upd H p (.lst ys)) := by
  obtain ⟨q, zs, h1, h2, h3, h4, h5⟩ := r.own i m ds h
  have e : q = p := by
    rw [hs] at h1
    cases h1
    rfl
  subst e
  refine ⟨⟨r.st.g, r.st.h.under h3, r.st.i.under h2, r.st.f⟩, by rw [put_length]; exact r.len, fun j n e q => ?_, fun j n fs q => ?_, fun j e q => ?_, fun j l a n n' ds' es' e1 e2 e3 e4 => ?_⟩
  · rcases put_look q (fun z => nomatch z) with ⟨_, _, e⟩ | ⟨hj, q⟩
    · cases e
    · exact r.val j n e q
  · rcases put_look q (fun z => nomatch z) with ⟨rfl, hl, e⟩ | ⟨hj, q⟩
    · cases e
      exact ⟨_, ys, hs, h2, h3, upd_same, ra⟩
    · obtain ⟨a, ws, a1, a2, a3, a4, a5⟩ := r.own j n fs q
      refine ⟨a, ws, a1, a2, a3, ?_, a5⟩
      rw [upd_ne fun z => ?_]
      · exact a4
      · subst z
        exact hj (r.dis j i _ n m fs ds q h a1 hs)
  · rcases put_look q (fun z => nomatch z) with ⟨_, _, e⟩ | ⟨hj, q⟩
    · cases e
    · exact r.old j e q
  · have f : ∀ j n ds', look (put δ i (.own m es)) j = .own n ds' → ∃ n'' ds'', look δ j = .own n'' ds'' := fun j n ds' q => by
      rcases put_look q (fun z => nomatch z) with ⟨rfl, _, _⟩ | ⟨_, q⟩
      · exact ⟨_, _, h⟩
      · exact ⟨_, _, q⟩
    obtain ⟨_, _, f1⟩ := f j n ds' e1
    obtain ⟨_, _, f2⟩ := f l n' es' e2
    exact r.dis j l a _ _ _ _ f1 f2 e3 e4
theorem Rl.clear (r : Rl K B G0 G δ σ H) (i : Nat) : Rl K B G0 G (put δ i .non) (σ.set i none) H := by
  refine ⟨r.st, by rw [List.length_set, put_length]; exact r.len, fun j n e q => ?_, fun j n es q => ?_, fun j e q => ?_, fun j l p n n' ds es e1 e2 e3 e4 => ?_⟩
  · rcases put_look q (fun z => nomatch z) with ⟨_, _, e⟩ | ⟨hj, q⟩
    · cases e
    · rw [set_at hj]
      exact r.val j n e q
  · rcases put_look q (fun z => nomatch z) with ⟨_, _, e⟩ | ⟨hj, q⟩
    · cases e
    · rw [set_at hj]
      exact r.own j n es q
  · rcases put_look q (fun z => nomatch z) with ⟨_, _, e⟩ | ⟨hj, q⟩
    · cases e
    · rw [set_at hj]
      exact r.old j e q
  · rcases put_look e1 (fun z => nomatch z) with ⟨_, _, e⟩ | ⟨hj, e1⟩
    · cases e
    · rcases put_look e2 (fun z => nomatch z) with ⟨_, _, e⟩ | ⟨hl, e2⟩
      · cases e
      · rw [set_at hj] at e3
        rw [set_at hl] at e4
        exact r.dis j l p n n' ds es e1 e2 e3 e4
theorem Rl.wiped (r : Rl K B G0 G δ σ H) : ∀ vs : List Nat, Rl K B G0 G (DL.wipe δ vs) (L2.wipe σ vs) H
  | [] => r
  | i :: vs => (Rl.wiped r vs).clear i
end

/-! ### targets -/
def SameOut (vs : List Nat) (σ σ' : L2.St) : Prop := σ'.length = σ.length ∧ ∀ i, i ∉ vs → σ'[i]? = σ[i]?
theorem wipe_get (σ : L2.St) : ∀ (vs : List Nat) (i : Nat), (L2.wipe σ vs)[i]? = if i ∈ vs ∧ i < σ.length then some none else σ[i]?
  | [], i => by simp [L2.wipe]
  | v :: vs, i => by
    show ((L2.wipe σ vs).set v none)[i]? = _
    by_cases h : i = v
    · subst h
      by_cases hl : i < σ.length
      · rw [List.getElem?_set_self (by rw [L2.wipe_length]; exact hl), if_pos ⟨List.mem_cons_self, hl⟩]
      · rw [if_neg (fun z => hl z.2), List.getElem?_eq_none (by rw [List.length_set, L2.wipe_length]; omega), List.getElem?_eq_none (by omega)]
    · rw [List.getElem?_set_ne (Ne.symm h), wipe_get σ vs i]
      have e : (i ∈ v :: vs ∧ i < σ.length) ↔ (i ∈ vs ∧ i < σ.length) := by
        rw [List.mem_cons]
        constructor
        · rintro ⟨z | z, l⟩
          · exact absurd z h
          · exact ⟨z, l⟩
        · rintro ⟨z, l⟩
          exact ⟨.inr z, l⟩
      simp only [e]
theorem SameOut.wipe {vs : List Nat} {σ σ' : L2.St} (h : SameOut vs σ σ') : L2.wipe σ' vs = L2.wipe σ vs := by
  apply List.ext_getElem?
  intro i
  rw [wipe_get, wipe_get, h.1]
  by_cases z : i ∈ vs ∧ i < σ.length
  · rw [if_pos z, if_pos z]
  · rw [if_neg z, if_neg z]
    by_cases m : i ∈ vs
    · have : ¬ i < σ.length := fun l => z ⟨m, l⟩
      rw [List.getElem?_eq_none (by rw [h.1]; omega), List.getElem?_eq_none (by omega)]
    · exact h.2 i m
def Sg (K : PySem.W.Frag) (vs : List Nat) (tg : TG) (g : DG) : Prop := ∀ (B G0 G Hs : Hp) (δ : Ds) (σ : L2.St) (H : Hp) (l : Lv) (v : V) (d : PyData) (Q : L2.St → Hp → Prop) (QQ : Ds → Prop), Rl K B G0 G δ σ H → Ext B Hs → Rp K (lP B Hs l) G v d → g l d δ QQ →
  (∀ δ' σ', Rl K B G0 G δ' σ' H → SameOut vs σ σ' → QQ δ' → Q σ' H) → tg v σ H Q
def Sgs (K : PySem.W.Frag) (vs : List Nat) (tg : TGs) (g : DGs) : Prop := ∀ (B G0 G Hs : Hp) (δ : Ds) (σ : L2.St) (H : Hp) (l : Lv) (us : List V) (ds : List PyData) (Q : L2.St → Hp → Prop) (QQ : Ds → Prop), Rl K B G0 G δ σ H → Ext B Hs → RpAll K (lP B Hs l) G us ds → g l ds δ QQ →
  (∀ δ' σ', Rl K B G0 G δ' σ' H → SameOut vs σ σ' → QQ δ' → Q σ' H) → tg us σ H Q
def GD (X : Cx) (vs : List Nat) (e : Expr) (g : DG) : Prop := ∃ tg, PG X e tg ∧ Sg X.K vs tg g
def GsD (X : Cx) (vs : List Nat) (es : List Expr) (g : DGs) : Prop := ∃ tg, PGs X es tg ∧ Sgs X.K vs tg g
def cvG (K : PySem.W.Frag) (vs : List Nat) (g : DG) : TG := fun v σ H Q => ∃ (B G0 G Hs : Hp) (δ : Ds) (l : Lv) (d : PyData) (QQ : Ds → Prop), Rl K B G0 G δ σ H ∧ Ext B Hs ∧ Rp K (lP B Hs l) G v d ∧ g l d δ QQ ∧ ∀ δ' σ', Rl K B G0 G δ' σ' H → SameOut vs σ σ' → QQ δ' → Q σ' H
theorem sg_cv {K : PySem.W.Frag} {vs : List Nat} {g : DG} : Sg K vs (cvG K vs g) g := fun B G0 G Hs δ _ _ l _ d _ QQ r x h q k => ⟨B, G0, G, Hs, δ, l, d, QQ, r, x, h, q, k⟩
theorem GD.pg {X : Cx} {vs : List Nat} {e : Expr} {g : DG} (h : GD X vs e g) : PG X e (cvG X.K vs g) := by
  obtain ⟨tg, h, s⟩ := h
  exact ⟨fun pins s' σ H v u Q I rv q => by
    obtain ⟨B, G0, G, Hs, δ, l, d, QQ, r, x, a, b, k⟩ := q
    exact h.run pins s' σ H v u Q I rv (s B G0 G Hs δ σ H l v d Q QQ r x a b k)⟩
section
variable {X : Cx} {pos : Pos} {vs : List Nat}
theorem gd_name (i : Nat) {x : Str} (hN : X.N.Nodup) (hm : i ∈ vs := by decide) (hi : X.N[i]? = some x := by rfl) (hx : Loc X.env.scope x := by first | exact Or.inl rfl | exact Or.inr rfl) (hf : X.fn x = true ∨ X.env.scope.names.lookup x = some .local := by first | exact .inl rfl | exact .inr rfl) : GD X vs (.Name x pos) (DL.gName i) :=
  ⟨_, pg_name hN hi hx hf, fun B G0 G Hs δ σ H l v d Q QQ r x h q k => k _ _ (r.setVal (h.weak fun _ _ z => nomatch z)) ⟨List.length_set, fun j hj => set_at fun z => hj (by rw [z]; exact hm)⟩ q⟩
theorem gd_nameM (i : Nat) {x : Str} (hN : X.N.Nodup) (hm : i ∈ vs := by decide) (hi : X.N[i]? = some x := by rfl) (hx : Loc X.env.scope x := by first | exact Or.inl rfl | exact Or.inr rfl) (hf : X.fn x = true ∨ X.env.scope.names.lookup x = some .local := by first | exact .inl rfl | exact .inr rfl) : GD X vs (.Name x pos) (DL.gNameM i) :=
  ⟨_, pg_name hN hi hx hf, fun B G0 G Hs δ σ H l v d Q QQ r x h q k => k _ _ (r.setVal (h.weak fun a z _ => (lP_young x q z).1)) ⟨List.length_set, fun j hj => set_at fun z => hj (by rw [z]; exact hm)⟩ (young_get q)⟩
theorem gds_nil : GsD X vs [] DL.gNil := ⟨_, pgs_nil, fun B G0 G Hs δ σ H l us ds Q QQ r x h q k => by
  cases h with
  | nil => exact ⟨rfl, k δ σ r ⟨rfl, fun _ _ => rfl⟩ q⟩
  | cons _ _ => exact q.elim⟩
theorem gds_cons {e : Expr} {es : List Expr} {g : DG} {gs : DGs} (h1 : GD X vs e g) (h2 : GsD X vs es gs) (hs : (assignEach (e :: es) X.env).map (·.2) = assign e X.env :: (assignEach es X.env).map (·.2) := by rfl) : GsD X vs (e :: es) (DL.gCons g gs) := by
  obtain ⟨tg, h1, s1⟩ := h1
  obtain ⟨tgs, h2, s2⟩ := h2
  refine ⟨_, pgs_cons h1 h2 hs, fun B G0 G Hs δ σ H l us ds Q QQ r x h q k => ?_⟩
  cases h with
  | nil => exact q.elim
  | cons a b => exact ⟨_, _, rfl, s1 B G0 G Hs δ σ H l _ _ _ _ r x a q fun δ1 σ1 r1 o1 q1 => s2 B G0 G Hs δ1 σ1 H l _ _ _ _ r1 x b q1 fun δ2 σ2 r2 o2 q2 => k δ2 σ2 r2 ⟨o2.1.trans o1.1, fun i hi => (o2.2 i hi).trans (o1.2 i hi)⟩ q2⟩
theorem gd_tup {es : List Expr} {k n : Nat} {gs : DGs} (hc : X.calm = true) (h : GsD X vs es gs) (hn : (assignEach es X.env).length = n := by rfl) (hst : (assignEach es X.env).findIdx? (·.1) = none := by rfl) : GD X vs (.Tuple es k pos) (DL.gTup n gs) := by
  obtain ⟨tgs, h, s⟩ := h
  refine ⟨_, pg_tup hc h hn hst, fun B G0 G Hs δ σ H l v d Q QQ r x h q k => ?_⟩
  cases h with
  | tup ht ra =>
    obtain ⟨q1, q2⟩ := q
    exact ⟨_, _, rfl, r.st.i.st ht, by rw [ra.length]; exact q1, s B G0 G Hs δ σ H l _ _ _ _ r x ra q2 k⟩
  | _ => exact q.elim
end

/-! ### statements -/
structure EdOk (K : PySem.W.Frag) (B G0 G : Hp) (DD : Ed) (D : Ends) : Prop where
  nx : ∀ G' δ' σ' H', Ext G G' → Rl K B G0 G' δ' σ' H' → DD.nx δ' → D.nx σ' H'
  bk : ∀ G' δ' σ' H', Ext G G' → Rl K B G0 G' δ' σ' H' → DD.bk δ' → D.bk σ' H'
  ct : ∀ G' δ' σ' H', Ext G G' → Rl K B G0 G' δ' σ' H' → DD.ct δ' → D.ct σ' H'
  rt : ∀ b d v G' H', Step G0 B G' H' → RetRep K B G' H' b v d → DD.rt b d → D.rt v H'
theorem EdOk.up {K : PySem.W.Frag} {B G0 G G1 : Hp} {DD : Ed} {D : Ends} (h : EdOk K B G0 G DD D) (e : Ext G G1) : EdOk K B G0 G1 DD D :=
  ⟨fun G' δ' σ' H' x => h.nx G' δ' σ' H' (e.trans x), fun G' δ' σ' H' x => h.bk G' δ' σ' H' (e.trans x), fun G' δ' σ' H' x => h.ct G' δ' σ' H' (e.trans x), h.rt⟩
def Ss (K : PySem.W.Frag) (ts : TS) (t : DS) : Prop := ∀ (B G0 G : Hp) (δ : Ds) (σ : L2.St) (H : Hp) (DD : Ed) (D : Ends), Rl K B G0 G δ σ H → t DD δ → EdOk K B G0 G DD D → ts D σ H
def SD (X : Cx) (st : Stmt) (t : DS) : Prop := ∃ ts, PS X st ts ∧ Ss X.K ts t
def SsD (X : Cx) (sts : List Stmt) (t : DS) : Prop := ∃ ts, PSs X sts ts ∧ Ss X.K ts t
section
variable {X : Cx} {st : Stmt} {rest : List Stmt} {e : Expr} {t u : DS} {te : DE} {pos : Pos}
theorem sd_nil : SsD X [] dNext := ⟨_, pss_nil, fun B G0 G δ σ H DD D r h o => o.nx G δ σ H (Ext.refl _) r h⟩
theorem sd_cons (h1 : SD X st t) (h2 : SsD X rest u) : SsD X (st :: rest) (dSeq t u) := by
  obtain ⟨t', h1, s1⟩ := h1
  obtain ⟨u', h2, s2⟩ := h2
  refine ⟨_, pss_cons h1 h2, fun B G0 G δ σ H DD D r h o => s1 B G0 G δ σ H { DD with nx := u DD } { D with nx := u' D } r h ⟨fun G' δ' σ' H' x r' q => ?_, o.bk, o.ct, o.rt⟩⟩
  exact s2 B G0 G' δ' σ' H' DD D r' q (o.up x)
theorem sd_one (h1 : SD X st t) : SsD X [st] t := by
  obtain ⟨t', h1, s1⟩ := h1
  exact ⟨_, pss_one h1, s1⟩
theorem sd_pass : SD X (.Pass pos) dPass := ⟨_, ps_pass, fun B G0 G δ σ H DD D r h o => o.nx G δ σ H (Ext.refl _) r h⟩
theorem sd_break : SD X (.Break pos) dBreak := ⟨_, ps_break, fun B G0 G δ σ H DD D r h o => o.bk G δ σ H (Ext.refl _) r h⟩
theorem sd_cont : SD X (.Continue pos) dCont := ⟨_, ps_continue, fun B G0 G δ σ H DD D r h o => o.ct G δ σ H (Ext.refl _) r h⟩
theorem sd_doc {x j pos'} : SD X (.Expr (.Constant (.str x) j pos) pos') dNext := ⟨_, ps_doc, fun B G0 G δ σ H DD D r h o => o.nx G δ σ H (Ext.refl _) r h⟩
theorem sd_drop (he : ED X e te) (hs : swapsWith e none pos.line X.env = pure false := by rfl) : SD X (.Expr e pos) (dDrop te) := by
  obtain ⟨te', he, se⟩ := he
  exact ⟨_, ps_expr he hs, fun B G0 G δ σ H DD D r h o => se B G0 G δ σ H _ _ r h fun fl d v G' H' s p q => o.nx G' δ σ H' s.g (r.step s) q⟩
theorem sd_ret (he : ED X e te) : SD X (.Return (some e) pos) (dRet te) := by
  obtain ⟨te', he, se⟩ := he
  refine ⟨_, ps_ret he, fun B G0 G δ σ H DD D r h o => se B G0 G δ σ H _ _ r h fun fl d v G' H' s p q => ?_⟩
  have s0 := r.st.trans s
  cases fl with
  | av l =>
    have p' : Rp X.K (lP B H l) G' v d := p
    exact o.rt .av d v G' H' s0 (p'.weak fun _ _ => trivial) q
  | new l =>
    obtain ⟨a, xs, ds, h1, h2, h3, h4, h5, h6⟩ := p
    exact o.rt .new d v G' H' s0 ⟨a, xs, ds, h1, h2, r.st.h.free h3, h4, h5, h6.weak fun _ _ => trivial⟩ q
  | own i m =>
    obtain ⟨ds, a, xs, rfl, rfl, h3, h4, h5, h6, h7⟩ := p
    obtain ⟨a', xs', b1, b2, b3, b4, b5⟩ := r.own i m ds h3
    rw [h4] at b1
    cases b1
    exact o.rt .new _ _ G' H' s0 ⟨_, xs, ds, rfl, rfl, b3, h5, h6, h7.weak fun _ _ => trivial⟩ q
theorem sd_retF (he : ED X e te) : SD X (.Return (some e) pos) (dRetF te) := by
  obtain ⟨te', he, se⟩ := he
  refine ⟨_, ps_ret he, fun B G0 G δ σ H DD D r h o => se B G0 G δ σ H _ _ r h fun fl d v G' H' s p q => ?_⟩
  have s0 := r.st.trans s
  cases fl with
  | av l =>
    have p' : Rp X.K (lP B H l) G' v d := p
    cases l with
    | any => exact q.elim
    | mine => exact o.rt .avF d v G' H' s0 p' q
    | fresh => exact o.rt .avF d v G' H' s0 (p'.weak fun a z => r.st.h.free z) q
  | new l =>
    obtain ⟨a, xs, ds, h1, h2, h3, h4, h5, h6⟩ := p
    cases l with
    | any => exact q.elim
    | mine => exact o.rt .newF d v G' H' s0 ⟨a, xs, ds, h1, h2, r.st.h.free h3, h4, h5, h6⟩ q
    | fresh => exact o.rt .newF d v G' H' s0 ⟨a, xs, ds, h1, h2, r.st.h.free h3, h4, h5, h6.weak fun a z => r.st.h.free z⟩ q
  | own i m =>
    obtain ⟨ds, a, xs, rfl, rfl, h3, h4, h5, h6, h7⟩ := p
    obtain ⟨a', xs', b1, b2, b3, b4, b5⟩ := r.own i m ds h3
    rw [h4] at b1
    cases b1
    cases m with
    | true => exact o.rt .newF _ _ G' H' s0 ⟨_, xs, ds, rfl, rfl, b3, h5, h6, h7.weak fun _ z => z rfl⟩ q
    | false => exact q.elim
theorem sd_retN : SD X (.Return none pos) dRetN := ⟨_, ps_retN, fun B G0 G δ σ H DD D r h o => o.rt .av .none .non G H r.st Rp.non h⟩
theorem sd_if {c : Expr} {a b : List Stmt} {tc : DT} (hc : TD X c tc) (ha : SsD X a t) (hb : SsD X b u) : SD X (.If c a b pos) (dIf tc t u) := by
  obtain ⟨tc', hc, sc⟩ := hc
  obtain ⟨t', ha, sa⟩ := ha
  obtain ⟨u', hb, sb⟩ := hb
  refine ⟨_, ps_if hc ha hb, fun B G0 G δ σ H DD D r h o => sc B G0 G δ σ H _ _ r h fun b G' H' s q => ?_⟩
  cases b with
  | true => exact sa B G0 G' δ σ H' DD D (r.step s) q (o.up s.g)
  | false => exact sb B G0 G' δ σ H' DD D (r.step s) q (o.up s.g)
theorem ss_set {K : PySem.W.Frag} {i : Nat} {te' : TE} (se : Sd K te' te) : Ss K (tAsg te' (L2.gName i)) (dSet i te) := fun B G0 G δ σ H DD D r h o => se B G0 G δ σ H _ _ r h fun fl d v G' H' s p q => by
  obtain ⟨G2, s2, x2, p2, q2⟩ := p.fix r.st.h s q
  exact o.nx G2 _ _ H' s2.g ((r.step s2).setVal (p2.weak fun _ _ z => nomatch z)) q2
theorem ss_setM {K : PySem.W.Frag} {i : Nat} {te' : TE} (se : Sd K te' te) : Ss K (tAsg te' (L2.gName i)) (dSetM i te) := fun B G0 G δ σ H DD D r h o => se B G0 G δ σ H _ _ r h fun fl d v G' H' s p q => by
  obtain ⟨G2, s2, x2, p2, q2⟩ := p.fix r.st.h s q
  exact o.nx G2 _ _ H' s2.g ((r.step s2).setVal (p2.weak fun a z _ => (lP_young r.st.h q2 z).1)) (young_get q2)
theorem ss_own' {K : PySem.W.Frag} {i : Nat} {m : Bool} {te' : TE} {te : DE} {kk : Ed → Ds → Fl → PyData → Prop} (hk : ∀ D δ fl d, kk D δ fl d → ∃ l ds, fl = .new l ∧ d = .list ds ∧ (m = true → young l True) ∧ D.nx (put δ i (.own m ds))) (se : Sd K te' te) : Ss K (tAsg te' (L2.gName i)) (fun D δ => te δ (kk D δ)) := fun B G0 G δ σ H DD D r h o => se B G0 G δ σ H _ _ r h fun fl d v G' H' s p q => by
  obtain ⟨l, ds, rfl, rfl, hm, q⟩ := hk _ _ _ _ q
  obtain ⟨a, xs, ds, rfl, e, h3, h4, h5, h6⟩ := p
  cases e
  refine o.nx G' _ _ H' s.g ((r.step s).setOwn h4 (r.st.h.free h3) h5 (h6.weak fun a z y => (lP_young r.st.h (hm y) z).1) fun j n es hj e z => ?_) q
  obtain ⟨a', ys, b1, b2, b3, b4, b5⟩ := r.own j n es e
  rw [b1] at z
  cases z
  rw [h3] at b4
  cases b4
theorem ss_own {K : PySem.W.Frag} {i : Nat} {te' : TE} (se : Sd K te' te) : Ss K (tAsg te' (L2.gName i)) (dOwn i te) := ss_own' (m := false) (kk := fun D δ fl d => rOwn fl d fun _ ds => D.nx (put δ i (.own false ds))) (fun D δ fl d q => by
  cases fl with
  | new l =>
    cases d with
    | list ds => exact ⟨l, ds, rfl, rfl, (fun z => nomatch z), q⟩
    | _ => exact q.elim
  | _ => exact q.elim) se
theorem ss_ownM {K : PySem.W.Frag} {i : Nat} {te' : TE} (se : Sd K te' te) : Ss K (tAsg te' (L2.gName i)) (dOwnM i te) := ss_own' (m := true) (kk := fun D δ fl d => rOwn fl d fun l ds => young l (D.nx (put δ i (.own true ds)))) (fun D δ fl d q => by
  cases fl with
  | new l =>
    cases d with
    | list ds =>
      refine ⟨l, ds, rfl, rfl, fun _ => ?_, young_get q⟩
      cases l with
      | any => exact q.elim
      | mine => trivial
      | fresh => trivial
    | _ => exact q.elim
  | _ => exact q.elim) se
theorem ss_ownA {K : PySem.W.Frag} {i : Nat} {te' : TE} (se : Sd K te' te) : Ss K (tAsg te' (L2.gName i)) (dOwnA i te) := fun B G0 G δ σ H DD D r h o => se B G0 G δ σ H _ _ r h fun fl d v G' H' s p q => by
  have fin : ∀ {a : Addr} {G2 : Hp} {xs : List V} {ds : List PyData}, Step G H G2 H' → H a = none → G2 a = none → H' a = some (.lst xs) → RpAll K (mP B false) G2 xs ds → DD.nx (put δ i (.own false ds)) → D.nx (σ.set i (some (.ref a))) H' := fun {a G2 xs ds} s h3 h4 h5 h6 q => by
    refine o.nx G2 _ _ H' s.g ((r.step s).setOwn h4 (r.st.h.free h3) h5 h6 fun j n es hj e z => ?_) q
    obtain ⟨a', ys, b1, b2, b3, b4, b5⟩ := r.own j n es e
    rw [b1] at z
    cases z
    rw [h3] at b4
    cases b4
  cases fl with
  | new l =>
    obtain ⟨a, xs, ds, rfl, rfl, h3, h4, h5, h6⟩ := p
    exact fin s h3 h4 h5 (h6.weak fun _ _ z => nomatch z) q
  | av l =>
    cases l with
    | fresh =>
      cases d with
      | list ds =>
        obtain ⟨hn, q⟩ := q
        have p' : Rp K (lP B H .fresh) G' v (.list ds) := p
        cases p' with
        | lst hf hl ra =>
          rename_i a xs
          have hG : G a = none := r.st.i.free hf
          have st : Step G H (out G' a) H' := ⟨fun b ob e => by
            have ne : b ≠ a := fun z => by subst z; rw [hG] at e; cases e
            rw [out_ne ne]; exact s.g b ob e, s.h, fun b ob e => s.i b ob (out_ext b ob e), fun b h1 h2 => by
            by_cases ne : b = a
            · subst ne; exact out_same
            · rw [out_ne ne]; exact s.f b h1 h2⟩
          exact fin st hf out_same (s.i _ _ hl) (RpAll.via (fun d hd {v} z => Rp.noList (out_at hl) (hn d hd) z) ra) q
      | _ => exact q.elim
    | any => exact q.elim
    | mine => exact q.elim
  | own _ _ => exact q.elim
theorem sd_set (i : Nat) {x : Str} {pos' : Pos} (hN : X.N.Nodup) (he : ED X e te) (hi : X.N[i]? = some x := by rfl) (hx : Loc X.env.scope x := by first | exact Or.inl rfl | exact Or.inr rfl) (hs : swapsWith e (some (.Name x pos')) pos.line X.env = pure false := by rfl) (hf : X.fn x = true ∨ X.env.scope.names.lookup x = some .local := by first | exact .inl rfl | exact .inr rfl) :
    SD X (.Assign [.Name x pos'] e pos) (dSet i te) := by
  obtain ⟨te', he, se⟩ := he
  exact ⟨_, ps_set hN hi hx he hs hf, ss_set se⟩
theorem sd_setM (i : Nat) {x : Str} {pos' : Pos} (hN : X.N.Nodup) (he : ED X e te) (hi : X.N[i]? = some x := by rfl) (hx : Loc X.env.scope x := by first | exact Or.inl rfl | exact Or.inr rfl) (hs : swapsWith e (some (.Name x pos')) pos.line X.env = pure false := by rfl) (hf : X.fn x = true ∨ X.env.scope.names.lookup x = some .local := by first | exact .inl rfl | exact .inr rfl) :
    SD X (.Assign [.Name x pos'] e pos) (dSetM i te) := by
  obtain ⟨te', he, se⟩ := he
  exact ⟨_, ps_set hN hi hx he hs hf, ss_setM se⟩
theorem sd_own (i : Nat) {x : Str} {pos' : Pos} (hN : X.N.Nodup) (he : ED X e te) (hi : X.N[i]? = some x := by rfl) (hx : Loc X.env.scope x := by first | exact Or.inl rfl | exact Or.inr rfl) (hs : swapsWith e (some (.Name x pos')) pos.line X.env = pure false := by rfl) (hf : X.fn x = true ∨ X.env.scope.names.lookup x = some .local := by first | exact .inl rfl | exact .inr rfl) :
    SD X (.Assign [.Name x pos'] e pos) (dOwn i te) := by
  obtain ⟨te', he, se⟩ := he
  exact ⟨_, ps_set hN hi hx he hs hf, ss_own se⟩
theorem sd_ownA (i : Nat) {x : Str} {pos' : Pos} (hN : X.N.Nodup) (he : ED X e te) (hi : X.N[i]? = some x := by rfl) (hx : Loc X.env.scope x := by first | exact Or.inl rfl | exact Or.inr rfl) (hs : swapsWith e (some (.Name x pos')) pos.line X.env = pure false := by rfl) (hf : X.fn x = true ∨ X.env.scope.names.lookup x = some .local := by first | exact .inl rfl | exact .inr rfl) :
    SD X (.Assign [.Name x pos'] e pos) (dOwnA i te) := by
  obtain ⟨te', he, se⟩ := he
  exact ⟨_, ps_set hN hi hx he hs hf, ss_ownA se⟩
theorem sd_ownM (i : Nat) {x : Str} {pos' : Pos} (hN : X.N.Nodup) (he : ED X e te) (hi : X.N[i]? = some x := by rfl) (hx : Loc X.env.scope x := by first | exact Or.inl rfl | exact Or.inr rfl) (hs : swapsWith e (some (.Name x pos')) pos.line X.env = pure false := by rfl) (hf : X.fn x = true ∨ X.env.scope.names.lookup x = some .local := by first | exact .inl rfl | exact .inr rfl) :
    SD X (.Assign [.Name x pos'] e pos) (dOwnM i te) := by
  obtain ⟨te', he, se⟩ := he
  exact ⟨_, ps_set hN hi hx he hs hf, ss_ownM se⟩
theorem sd_asg {tg : Expr} {vs : List Nat} {g : DG} (he : ED X e te) (hg : GD X vs tg g) (hs : swapsWithSole [tg] e pos.line X.env = pure false := by rfl) (hw : swappedStores [tg] e X.env = pure none := by rfl)
    (h1 : (assignEach [tg] X.env).map (·.2) = [assign tg X.env] := by rfl) : SD X (.Assign [tg] e pos) (dAsg te g) := by
  obtain ⟨te', he, se⟩ := he
  obtain ⟨tg', hg, sg⟩ := hg
  refine ⟨_, ps_asg he hg hs hw h1, fun B G0 G δ σ H DD D r h o => se B G0 G δ σ H _ _ r h fun fl d v G' H' s p q => ?_⟩
  obtain ⟨G2, s2, x2, p2, q2⟩ := p.fix r.st.h s q
  exact sg B G0 G2 H δ σ H' fl.lv v d _ _ (r.step s2) r.st.h p2 q2 fun δ' σ' r' _ q' => o.nx G2 δ' σ' H' s2.g r' q'
/-- from here on the list of slot i stays -/
theorem sd_frz (i : Nat) (h : SD X st t) : SD X st (dFrz i t) := by
  obtain ⟨t', h, s⟩ := h
  refine ⟨t', h, fun B G0 G δ σ H DD D r h o => ?_⟩
  unfold dFrz at h
  cases e : look δ i with
  | own m ds =>
    rw [e] at h
    obtain ⟨p, xs, h1, h2, h3, h4, h5, r', x⟩ := r.freeze (m' := m) (fun z => z) e
    exact s B G0 _ _ σ H DD D r' h (o.up x)
  | val m d => rw [e] at h; exact s B G0 G δ σ H DD D r h o
  | old d => rw [e] at h; exact s B G0 G δ σ H DD D r h o
  | non => rw [e] at h; exact s B G0 G δ σ H DD D r h o
theorem own_at {δ : Ds} {i : Nat} {k : Bool → List PyData → Prop} (h : ownAt δ i k) : ∃ m ds, look δ i = .own m ds ∧ k m ds := by
  unfold ownAt at h
  cases e : look δ i with
  | own m ds => rw [e] at h; exact ⟨m, ds, rfl, h⟩
  | val m d => rw [e] at h; exact h.elim
  | old d => rw [e] at h; exact h.elim
  | non => rw [e] at h; exact h.elim
theorem fit_rp {K : PySem.W.Frag} {B Hs G : Hp} {m : Bool} {l : Lv} {v : V} {d : PyData} {P : Prop} (x : Ext B Hs) (p : Rp K (lP B Hs l) G v d) (h : fit m l P) : Rp K (mP B m) G v d ∧ P := by
  cases m with
  | true => exact ⟨p.weak fun a z _ => (lP_young x h z).1, young_get h⟩
  | false => exact ⟨p.weak fun a z y => (nomatch y), h⟩
/-- x[i] = e of an own list -/
theorem sd_setIx (i : Nat) {x : Str} {ix : Expr} {ti : DE} {pos' pos2 : Pos} (he : ED X e te) (hx : PE X (.Name x pos') (tVar i)) (hix : ED X ix ti)
    (ha : ∀ v, assign (.Subscript (.Name x pos') ix pos2) X.env v = (do
      let ov ← holding [v] (eval (.Name x pos') X.env)
      let iv ← holding [v, ov] (eval ix X.env)
      standAt pos2
      holding [v, ov, iv] (setItem ov iv v)
      release [v, ov, iv] []) := by intro _; rfl)
    (hs : swapsWithSole [.Subscript (.Name x pos') ix pos2] e pos.line X.env = pure false := by rfl) (hw : swappedStores [.Subscript (.Name x pos') ix pos2] e X.env = pure none := by rfl)
    (h1 : (assignEach [.Subscript (.Name x pos') ix pos2] X.env).map (·.2) = [assign (.Subscript (.Name x pos') ix pos2) X.env] := by rfl) : SD X (.Assign [.Subscript (.Name x pos') ix pos2] e pos) (dSetIx i te ti) := by
  obtain ⟨te', he, se⟩ := he
  obtain ⟨ti', hi, si⟩ := hix
  refine ⟨_, ps_asg he (pg_sub hx hi set_list ha) hs hw h1, fun B G0 G δ σ H DD D r h o => se B G0 G δ σ H _ _ r h fun fl d v G' H' s p q => ?_⟩
  obtain ⟨G2, s2, x2, p2, q2⟩ := p.fix r.st.h s q
  have r2 := r.step s2
  obtain ⟨m, ds, e, q2⟩ := own_at q2
  obtain ⟨p3', q2⟩ := fit_rp r.st.h p2 q2
  obtain ⟨a, xs, b1, b2, b3, b4, b5⟩ := r2.own i m ds e
  refine ⟨.ref a, b1, si B G0 G2 δ σ H' _ _ r2 q2 fun fl3 y w G3 H3 s3 p3 q3 => ?_⟩
  have r3 := r2.step s3
  cases y with
  | int k =>
    obtain ⟨j, hj, q3⟩ := q3
    have c4 : H3 a = some (.lst xs) := s3.h _ _ b4
    refine ⟨a, xs, k, j, rfl, rep_int p3, c4, by rw [b5.length]; exact hj, ?_⟩
    exact o.nx G3 _ _ _ (s2.g.trans s3.g) (r3.write e b1 ((b5.mono s3.g).set (p3'.mono s3.g) j)) q3
  | _ => exact q3.elim
/-- x.append(e) of an own list -/
theorem sd_app (i : Nat) {x : Str} {pos1 pos2 pos3 : Pos} (hx : PE X (.Name x pos1) (tVar i)) (he : ED X e te) (hs : swapsWith (.Call (.Attribute (.Name x pos1) "append" pos2) [e] [] pos3) none pos.line X.env = pure false := by rfl)
    (hbase : attributeBase (.Name x pos1) "append" X.env (eval (.Name x pos1) X.env) = eval (.Name x pos1) X.env := by rfl)
    (hfew : ((backTo pos3 (starEach [e] X.env)).all (fun x => !x.1) && (backToKw pos3 (keywordEach [] X.env)).all (fun x => x.1.isSome) && decide ([e].length + ([] : List Keyword).length + (if ([] : List Keyword).isEmpty then 0 else 1) < 30)) = true := by rfl)
    (hline : (pos2.endLine == pos3.line) = true := by rfl) (hse : starEach [e] X.env = [(false, eval e X.env)] := by rfl) (hpl : (backTo pos3 (starEach [] X.env)).any (·.1) = false := by rfl) :
    SD X (.Expr (.Call (.Attribute (.Name x pos1) "append" pos2) [e] [] pos3) pos) (dApp i te) := by
  obtain ⟨te', he, se⟩ := he
  refine ⟨_, ps_expr (pe_bm PySem.F.plainAttrs_list PySem.F.slot_list_append PySem.F.type_list_append mt_append hx (pa_cons he pa_nil hse) hbase hfew hline hse hpl) hs, fun B G0 G δ σ H DD D r h o => ?_⟩
  obtain ⟨m, ds, q, h⟩ := own_at h
  obtain ⟨a, xs, b1, b2, b3, b4, b5⟩ := r.own i m ds q
  refine ⟨.ref a, b1, .inl ⟨rfl, xs, .of b4⟩, se B G0 G δ σ H _ _ r h fun fl d v G' H' s p h => ?_⟩
  obtain ⟨G2, s2, x2, p2, q2⟩ := p.fix r.st.h s h
  obtain ⟨p2, q2⟩ := fit_rp r.st.h p2 q2
  have b4' : H' a = some (.lst xs) := s2.h _ _ b4
  refine ⟨a, xs, v, rfl, rfl, b4', by rw [b5.length]; exact q2.1, ?_⟩
  exact o.nx G2 _ _ _ s2.g ((r.step s2).write q b1 ((b5.mono s2.g).append (.cons p2 .nil))) q2.2
theorem sd_ext (i : Nat) {x : Str} {pos1 pos2 pos3 : Pos} (hx : PE X (.Name x pos1) (tVar i)) (he : ED X e te) (hs : swapsWith (.Call (.Attribute (.Name x pos1) "extend" pos2) [e] [] pos3) none pos.line X.env = pure false := by rfl)
    (hbase : attributeBase (.Name x pos1) "extend" X.env (eval (.Name x pos1) X.env) = eval (.Name x pos1) X.env := by rfl)
    (hfew : ((backTo pos3 (starEach [e] X.env)).all (fun x => !x.1) && (backToKw pos3 (keywordEach [] X.env)).all (fun x => x.1.isSome) && decide ([e].length + ([] : List Keyword).length + (if ([] : List Keyword).isEmpty then 0 else 1) < 30)) = true := by rfl)
    (hline : (pos2.endLine == pos3.line) = true := by rfl) (hse : starEach [e] X.env = [(false, eval e X.env)] := by rfl) (hpl : (backTo pos3 (starEach [] X.env)).any (·.1) = false := by rfl) :
    SD X (.Expr (.Call (.Attribute (.Name x pos1) "extend" pos2) [e] [] pos3) pos) (dExt i te) := by
  obtain ⟨te', he, se⟩ := he
  refine ⟨_, ps_expr (pe_bm PySem.F.plainAttrs_list PySem.F.slot_list_extend PySem.F.type_list_extend mt_extend hx (pa_cons he pa_nil hse) hbase hfew hline hse hpl) hs, fun B G0 G δ σ H DD D r h o => ?_⟩
  obtain ⟨m, ds, q, h⟩ := own_at h
  obtain ⟨a, xs, b1, b2, b3, b4, b5⟩ := r.own i m ds q
  refine ⟨.ref a, b1, .inl ⟨rfl, xs, .of b4⟩, se B G0 G δ σ H _ _ r h fun fl d v G' H' s p h => ?_⟩
  obtain ⟨G2, s2, x2, p2, q2⟩ := p.fix r.st.h s h
  obtain ⟨p2, q2⟩ := fit_rp r.st.h p2 q2
  have b4' : H' a = some (.lst xs) := s2.h _ _ b4
  cases d with
  | list es =>
    cases p2 with
    | lst _ hl ra =>
      refine ⟨a, _, xs, _, rfl, rfl, b4', s2.i _ _ hl, by rw [b5.length, ra.length]; exact q2.1, ?_⟩
      exact o.nx G2 _ _ _ s2.g ((r.step s2).write q b1 ((b5.mono s2.g).append ra)) q2.2
  | _ => exact q2.elim
theorem sd_rev (i : Nat) {x : Str} {pos1 pos2 pos3 : Pos} (hx : PE X (.Name x pos1) (tVar i)) (hs : swapsWith (.Call (.Attribute (.Name x pos1) "reverse" pos2) [] [] pos3) none pos.line X.env = pure false := by rfl)
    (hbase : attributeBase (.Name x pos1) "reverse" X.env (eval (.Name x pos1) X.env) = eval (.Name x pos1) X.env := by rfl) (hline : (pos2.endLine == pos3.line) = true := by rfl) :
    SD X (.Expr (.Call (.Attribute (.Name x pos1) "reverse" pos2) [] [] pos3) pos) (dRev i) := by
  refine ⟨_, ps_expr (pe_bm0 PySem.F.plainAttrs_list PySem.F.slot_list_reverse PySem.F.type_list_reverse mt_reverse hx hbase hline) hs, fun B G0 G δ σ H DD D r h o => ?_⟩
  obtain ⟨m, ds, q, h⟩ := own_at h
  obtain ⟨a, xs, b1, b2, b3, b4, b5⟩ := r.own i m ds q
  refine ⟨.ref a, b1, .inl ⟨rfl, xs, .of b4⟩, a, xs, rfl, rfl, b4, ?_⟩
  exact o.nx G _ _ _ (Ext.refl _) (r.write q b1 b5.reverse) h

/-! ### loops -/
theorem go_list {K : PySem.W.Frag} {tg' : TG} {tb' : TS} {g : DG} {tb : DS} {vs : List Nat} (sg : Sg K vs tg' g) (sb : Ss K tb' tb) {B G0 G : Hp} {δ : Ds} {σ : L2.St} {H : Hp} {DD : Ed} {D : Ends} {xs : List V} {ds : List PyData} (J : It)
    (hgo : ∀ i H', Ext G H' → i < xs.length → J.go i H') (hst : ∀ i H', Ext G H' → xs.length ≤ i → J.stop i H') (hy : ∀ i H1 x H2, Ext G H1 → J.yld i H1 x H2 → i < xs.length → H2 = H1 ∧ xs[i]? = some x)
    {l : Lv} {Hs : Hp} (xb : Ext B Hs) (ra : RpAll K (lP B Hs l) G xs ds) (r : Rl K B G0 G δ σ H) (o : EdOk K B G0 G DD D) (h : forGo l g tb ds DD δ) :
    ∃ W : Nat → Nat → L2.St → Hp → Prop, (∃ m, W 0 m σ H) ∧ ∀ i m σ H, W i m σ H → (J.stop i H ∧ D.nx σ H) ∨ (J.go i H ∧ ∃ N : L2.St → Hp → Prop, (∀ σ' H', N σ' H' → ∃ m', m' < m ∧ W (i + 1) m' σ' H') ∧
      ∀ x H', J.yld i H x H' → tg' x σ H' fun σ2 H2 => tb' { D with nx := N, ct := N, bk := D.nx } σ2 H2) := by
  refine ⟨fun i m σ' H' => i + m = ds.length ∧ ∃ G' δ', Ext G G' ∧ Rl K B G0 G' δ' σ' H' ∧ forGo l g tb (ds.drop i) DD δ', ⟨ds.length, by omega, G, δ, Ext.refl _, r, h⟩, ?_⟩
  rintro i m σ1 H1 ⟨em, G1, δ1, x1, r1, h1⟩
  by_cases hi : i < ds.length
  · have e : ds.drop i = ds[i] :: ds.drop (i + 1) := List.drop_eq_getElem_cons hi
    rw [e] at h1
    refine .inr ⟨hgo i H1 (x1.trans r1.st.i) (by rw [ra.length]; exact hi), fun σ' H' => i + 1 + (m - 1) = ds.length ∧ ∃ G' δ', Ext G G' ∧ Rl K B G0 G' δ' σ' H' ∧ forGo l g tb (ds.drop (i + 1)) DD δ', fun σ' H' n => ⟨m - 1, by omega, n⟩, fun x H' y => ?_⟩
    obtain ⟨rfl, ex⟩ := hy i H1 x H' (x1.trans r1.st.i) y (by rw [ra.length]; exact hi)
    obtain ⟨v, ev, rv⟩ := ra.get (List.getElem?_eq_getElem hi)
    rw [ex] at ev
    cases ev
    refine sg B G0 G1 Hs δ1 σ1 _ l _ _ _ _ r1 xb (rv.mono x1) h1 fun δ2 σ2 r2 _ h2 => ?_
    refine sb B G0 G1 δ2 σ2 _ _ _ r2 h2 ⟨fun G' δ' σ' H' x' r' q => ?_, fun G' δ' σ' H' x' r' q => ?_, fun G' δ' σ' H' x' r' q => ?_, o.rt⟩
    · exact ⟨by omega, G', δ', x1.trans x', r', q⟩
    · exact o.nx G' δ' σ' H' (x1.trans x') r' q
    · exact ⟨by omega, G', δ', x1.trans x', r', q⟩
  · have e : ds.drop i = [] := List.drop_eq_nil_of_le (by omega)
    rw [e] at h1
    exact .inl ⟨hst i H1 (x1.trans r1.st.i) (by rw [ra.length]; omega), o.nx G1 δ1 σ1 H1 x1 r1 h1⟩
theorem it_list {K : PySem.W.Frag} {F : Addr → Prop} {G : Hp} {v : V} {d : PyData} {k : List PyData → Prop} (p : Rp K F G v d) (h : itL d k) : ∃ a xs ds, v = .ref a ∧ SqL K G a xs ∧ RpAll K F G xs ds ∧ k ds := by
  cases d with
  | list ds =>
    cases p with
    | lst _ hl ra => exact ⟨_, _, ds, rfl, .of hl, ra, h⟩
  | dict kvs =>
    cases p with
    | scr hl =>
      rename_i a ns
      have ra : RpAll K F G (ns.map V.int) ((ns.map fun n => (PyData.int n, PyData.none)).map (·.1)) := by
        rw [List.map_map]
        exact RpAll.of_ints ns
      exact ⟨a, _, _, rfl, hl, ra, h⟩
  | _ => exact h.elim
theorem it_tup {K : PySem.W.Frag} {F : Addr → Prop} {G : Hp} {v : V} {d : PyData} {k : List PyData → Prop} (p : Rp K F G v d) (h : itT d k) : ∃ a xs ds, v = .ref a ∧ SqT K G a xs ∧ RpAll K F G xs ds ∧ k ds := by
  cases d with
  | tuple ds =>
    cases p with
    | tup hl ra => exact ⟨_, _, ds, rfl, hl, ra, h⟩
  | _ => exact h.elim
theorem ss_forL {K : PySem.W.Frag} {tl' : TE} {tl : DE} {tg' : TG} {tb' : TS} {g : DG} {tb : DS} {vs : List Nat} (sl : Sd K tl' tl) (sg : Sg K vs tg' g) (sb : Ss K tb' tb) : Ss K (tFor (iList K tl') tg' tb') (dForL tl g tb) := fun B G0 G δ σ H DD D r h o => sl B G0 G δ σ H _ _ r h fun fl d v G1 H1 s1 p1 q1 => by
  obtain ⟨G2, s2, x2, p2, q2⟩ := p1.fix r.st.h s1 q1
  obtain ⟨a, xs, ds, rfl, hl, ra, q⟩ := it_list p2 q2
  exact ⟨a, rfl, ⟨xs, s2.i.sl hl⟩, go_list sg sb (Itl K a) (fun i H' x hi => ⟨xs, xs[i], x.sl hl, List.getElem?_eq_getElem hi⟩) (fun i H' x hi => ⟨xs, x.sl hl, hi⟩) (fun i H1 y H2 x hy hi => ⟨hy.1, hy.2 xs (x.sl hl)⟩) r.st.h ra (r.step s2) (o.up s2.g) q⟩
theorem ss_forT {K : PySem.W.Frag} {tl' : TE} {tl : DE} {tg' : TG} {tb' : TS} {g : DG} {tb : DS} {vs : List Nat} (sl : Sd K tl' tl) (sg : Sg K vs tg' g) (sb : Ss K tb' tb) : Ss K (tFor (iTup K tl') tg' tb') (dForT tl g tb) := fun B G0 G δ σ H DD D r h o => sl B G0 G δ σ H _ _ r h fun fl d v G1 H1 s1 p1 q1 => by
  obtain ⟨G2, s2, x2, p2, q2⟩ := p1.fix r.st.h s1 q1
  obtain ⟨a, xs, ds, rfl, hl, ra, q⟩ := it_tup p2 q2
  exact ⟨a, rfl, ⟨xs, s2.i.st hl⟩, go_list sg sb (Itt K a) (fun i H' x hi => ⟨xs, xs[i], x.st hl, List.getElem?_eq_getElem hi⟩) (fun i H' x hi => ⟨xs, x.st hl, hi⟩) (fun i H1 y H2 x hy hi => ⟨hy.1, hy.2 xs (x.st hl)⟩) r.st.h ra (r.step s2) (o.up s2.g) q⟩
theorem upTo_rp {K : PySem.W.Frag} {F : Addr → Prop} {G : Hp} (lo : Int) (n : Nat) : RpAll K F G ((List.range n).map fun (k : Nat) => V.int (lo + (k : Int))) (upTo lo n) := by
  have h := RpAll.of_ints (K := K) (F := F) (H := G) ((List.range n).map fun (k : Nat) => lo + (k : Int))
  rw [List.map_map, List.map_map] at h
  exact h
theorem go_range {K : PySem.W.Frag} {tg' : TG} {tb' : TS} {g : DG} {tb : DS} {vs : List Nat} (sg : Sg K vs tg' g) (sb : Ss K tb' tb) {B G0 G : Hp} {δ : Ds} {σ : L2.St} {H : Hp} {DD : Ed} {D : Ends} (lo : Int) (n : Nat)
    (r : Rl K B G0 G δ σ H) (o : EdOk K B G0 G DD D) (h : forGo .fresh g tb (upTo lo n) DD δ) :
    ∃ W : Nat → Nat → L2.St → Hp → Prop, (∃ m, W 0 m σ H) ∧ ∀ i m σ H, W i m σ H → ((Itr lo n).stop i H ∧ D.nx σ H) ∨ ((Itr lo n).go i H ∧ ∃ N : L2.St → Hp → Prop, (∀ σ' H', N σ' H' → ∃ m', m' < m ∧ W (i + 1) m' σ' H') ∧
      ∀ x H', (Itr lo n).yld i H x H' → tg' x σ H' fun σ2 H2 => tb' { D with nx := N, ct := N, bk := D.nx } σ2 H2) := by
  refine go_list sg sb (Itr lo n) (fun i H' _ hi => ?_) (fun i H' _ hi => ?_) (fun i H1 x H2 _ hy hi => ?_) (Hs := H) r.st.h (upTo_rp lo n) r o h
  · rw [List.length_map, List.length_range] at hi
    exact hi
  · rw [List.length_map, List.length_range] at hi
    exact hi
  · rw [List.length_map, List.length_range] at hi
    refine ⟨hy.1, ?_⟩
    rw [List.getElem?_map, List.getElem?_range hi, hy.2]
    rfl
variable {X : Cx} {tg iter a b c : Expr} {body : List Stmt} {tb : DS} {g : DG} {tl ta tc : DE} {t : DT} {vs : List Nat} {pos : Pos}
theorem sd_forL (hp : PassesOwn (model X.prog X.w) X.A X.env X.xe) (hc : X.calm = true) (hi : ED X iter tl) (hg : GD X vs tg g) (hb : SsD X body tb) (hs : ∀ x, foldedSetIterable iter X.env x = pure x := by intro _; rfl) : SD X (.For tg iter body [] pos) (dForL tl g tb) := by
  obtain ⟨tl', hi, sl⟩ := hi
  obtain ⟨tg', hg, sg⟩ := hg
  obtain ⟨tb', hb, sb⟩ := hb
  exact ⟨_, ps_for hp hc (pi_list hi) hg hb hs, ss_forL sl sg sb⟩
theorem sd_forT (hp : PassesOwn (model X.prog X.w) X.A X.env X.xe) (hc : X.calm = true) (hi : ED X iter tl) (hg : GD X vs tg g) (hb : SsD X body tb) (hs : ∀ x, foldedSetIterable iter X.env x = pure x := by intro _; rfl) : SD X (.For tg iter body [] pos) (dForT tl g tb) := by
  obtain ⟨tl', hi, sl⟩ := hi
  obtain ⟨tg', hg, sg⟩ := hg
  obtain ⟨tb', hb, sb⟩ := hb
  exact ⟨_, ps_for hp hc (pi_tup hi) hg hb hs, ss_forT sl sg sb⟩
theorem sd_forR1 {p pos2 : Pos} (hp : PassesOwn (model X.prog X.w) X.A X.env X.xe) (hc : X.calm = true) (hgl : Gl X "range") (hm : X.mg "range" = none) (ha : ED X a ta) (hg : GD X vs tg g) (hb : SsD X body tb)
    (hst : starEach [a] X.env = [(false, eval a X.env)] := by rfl) (hs : ∀ x, foldedSetIterable (.Call (.Name "range" p) [a] [] pos2) X.env x = pure x := by intro _; rfl) : SD X (.For tg (.Call (.Name "range" p) [a] [] pos2) body [] pos) (dForR1 ta g tb) := by
  obtain ⟨ta', ha, sa⟩ := ha
  obtain ⟨tg', hg, sg⟩ := hg
  obtain ⟨tb', hb, sb⟩ := hb
  refine ⟨_, ps_for hp hc (pi_range1 hgl hm (pa_cons ha pa_nil hst) hst) hg hb hs, fun B G0 G δ σ H DD D r h o => sa B G0 G δ σ H _ _ r h fun fl d v G1 H1 s1 p1 q1 => ?_⟩
  cases d with
  | int n => exact ⟨n, by rw [rep_int p1], q1.1.1, q1.1.2, go_range sg sb 0 n.toNat (r.step s1) (o.up s1.g) q1.2⟩
  | _ => exact q1.elim
theorem sd_forR2 {p pos2 : Pos} (hp : PassesOwn (model X.prog X.w) X.A X.env X.xe) (hc : X.calm = true) (hgl : Gl X "range") (hm : X.mg "range" = none) (ha : ED X a ta) (hb2 : ED X b tc) (hg : GD X vs tg g) (hb : SsD X body tb)
    (hst : starEach [a, b] X.env = [(false, eval a X.env), (false, eval b X.env)] := by rfl) (hst2 : starEach [b] X.env = [(false, eval b X.env)] := by rfl) (hs : ∀ x, foldedSetIterable (.Call (.Name "range" p) [a, b] [] pos2) X.env x = pure x := by intro _; rfl) :
    SD X (.For tg (.Call (.Name "range" p) [a, b] [] pos2) body [] pos) (dForR2 ta tc g tb) := by
  obtain ⟨ta', ha, sa⟩ := ha
  obtain ⟨tc', hb2, sc⟩ := hb2
  obtain ⟨tg', hg, sg⟩ := hg
  obtain ⟨tb', hb, sb⟩ := hb
  refine ⟨_, ps_for hp hc (pi_range2 hgl hm (pa_cons ha (pa_cons hb2 pa_nil hst2) (by rw [hst, hst2])) hst hst2) hg hb hs, fun B G0 G δ σ H DD D r h o => sa B G0 G δ σ H _ _ r h fun fl d v G1 H1 s1 p1 q1 => sc B G0 G1 δ σ H1 _ _ (r.step s1) q1 fun fl2 d2 v2 G2 H2 s2 p2 q2 => ?_⟩
  cases d with
  | int m =>
    cases d2 with
    | int n => exact ⟨m, n, by rw [rep_int p1, rep_int p2], ⟨q2.1.1, q2.1.2, q2.2.1.1, q2.2.1.2⟩, go_range sg sb m (n - m).toNat ((r.step s1).step s2) ((o.up s1.g).up s2.g) q2.2.2⟩
    | _ => exact q2.elim
  | _ => exact q2.elim
theorem sd_while (hp : PassesOwn (model X.prog X.w) X.A X.env X.xe) (hc : TD X c t) (hb : SsD X body tb) : SD X (.While c body [] pos) (dWhile t tb) := by
  obtain ⟨tc', hc, sc⟩ := hc
  obtain ⟨tb', hb, sb⟩ := hb
  refine ⟨_, ps_while hp hc hb, fun B G0 G δ σ H DD D r h o => ?_⟩
  obtain ⟨W, ⟨m0, w0⟩, turn⟩ := h
  refine ⟨fun m σ' H' => ∃ G' δ', Ext G G' ∧ Rl X.K B G0 G' δ' σ' H' ∧ W m δ', ⟨m0, G, δ, Ext.refl _, r, w0⟩, ?_⟩
  rintro m σ1 H1 ⟨G1, δ1, x1, r1, w1⟩
  refine sc B G0 G1 δ1 σ1 H1 _ _ r1 (turn m δ1 w1) fun b G2 H2 s2 q2 => ?_
  cases b with
  | true =>
    obtain ⟨N, hN, q2⟩ := q2
    refine ⟨fun σ' H' => ∃ G' δ', Ext G G' ∧ Rl X.K B G0 G' δ' σ' H' ∧ N δ', fun σ' H' ⟨G', δ', x', r', n⟩ => ?_, ?_⟩
    · obtain ⟨m', hm, w'⟩ := hN δ' n
      exact ⟨m', hm, G', δ', x', r', w'⟩
    · exact sb B G0 G2 δ1 σ1 H2 _ _ (r1.step s2) q2 ⟨fun G' δ' σ' H' x' r' q => ⟨G', δ', (x1.trans s2.g).trans x', r', q⟩, fun G' δ' σ' H' x' r' q => o.nx G' δ' σ' H' ((x1.trans s2.g).trans x') r' q,
        fun G' δ' σ' H' x' r' q => ⟨G', δ', (x1.trans s2.g).trans x', r', q⟩, o.rt⟩
  | false => exact o.nx G2 δ1 σ1 H2 (x1.trans s2.g) (r1.step s2) q2

/-! ### comprehensions -/
/-- the age of a comprehension's items -/
def fP (H : Hp) (f : Bool) (a : Addr) : Prop := f = true → H a = none
theorem ok_get {f : Bool} {k : Lv} {p : Prop} (h : okF f k p) : p := by
  cases f with
  | false => exact h
  | true =>
    cases k with
    | fresh => exact h
    | _ => exact h.elim
theorem ok_fP {B H Hs : Hp} {f : Bool} {k : Lv} {p : Prop} {a : Addr} (x : Ext H Hs) (h : okF f k p) (z : lP B Hs k a) : fP H f a := by
  cases f with
  | false => exact fun y => nomatch y
  | true =>
    cases k with
    | fresh => exact fun _ => x.free z
    | _ => exact h.elim
theorem fP_cL {B Hs : Hp} {f : Bool} {a : Addr} (h : fP Hs f a) : lP B Hs (cL f) a := by
  cases f with
  | false => exact trivial
  | true => exact h rfl
theorem go_lc {K : PySem.W.Frag} {tg' : TG} {tt' : TT} {te' : TE} {f : Bool} {g : DG} {tt : DT} {te : DE} {vs : List Nat} (sg : Sg K vs tg' g) (st : SdT K tt' tt) (se : Sd K te' te) {B G0 G1 Hs : Hp} {δ : Ds} {σ : L2.St} {H1 : Hp} {Q : L2.VK} {QQ : List PyData → Prop} {l : Lv} {xs : List V} {ds : List PyData} (J : It) {Dl : Addr}
    (hgo : ∀ i H', Ext H1 H' → i < xs.length → J.go i H') (hst : ∀ i H', Ext H1 H' → xs.length ≤ i → J.stop i H') (hy : ∀ i H1' x H2, Ext H1 H1' → J.yld i H1' x H2 → i < xs.length → H2 = H1' ∧ xs[i]? = some x)
    (xb : Ext B Hs) (x1 : Ext Hs H1) (ra : RpAll K (lP B Hs l) G1 xs ds) (r : Rl K B G0 G1 δ σ H1) (hD : H1 Dl = none) (h : lcGo f l g tt te (DL.wipe δ vs) ds [] QQ)
    (k : ∀ rs us G' H', Step G1 H1 G' H' → G' Dl = none → H' Dl = some (.lst us) → RpAll K (fP Hs f) G' us rs → QQ rs → Q (.ref Dl) H') :
    ∃ W : Nat → Nat → Hp → Prop, (∃ m, W 0 m (upd H1 Dl (.lst []))) ∧ ∀ i m H, W i m H → (J.stop i H ∧ Q (.ref Dl) H) ∨ (J.go i H ∧ ∃ Nx : Hp → Prop, (∀ H', Nx H' → ∃ m', m' < m ∧ W (i + 1) m' H') ∧
      ∀ x H', J.yld i H x H' → tg' x (L2.wipe σ vs) H' fun σ2 H2 => L2.wipe σ2 vs = L2.wipe σ vs ∧ tt' σ2 H2 fun b H3 =>
        if b = true then te' σ2 H3 fun y H4 => ∃ acc, H4 Dl = some (.lst acc) ∧ acc.length < sizeLine ∧ Nx (upd H4 Dl (.lst (acc ++ [y]))) else Nx H3) := by
  have hG : G1 Dl = none := r.st.i.free hD
  refine ⟨fun i m H' => i + m = ds.length ∧ ∃ G' us rs, Step G1 H1 G' H' ∧ G' Dl = none ∧ H' Dl = some (.lst us) ∧ RpAll K (fP Hs f) G' us rs ∧ lcGo f l g tt te (DL.wipe δ vs) (ds.drop i) rs QQ,
    ⟨ds.length, by omega, G1, [], [], Step.lay r.st.i hD, hG, upd_same, .nil, h⟩, ?_⟩
  rintro i m H2 ⟨em, G2, us, rs, s2, g2, hd2, ru, h2⟩
  by_cases hi : i < ds.length
  · have e : ds.drop i = ds[i] :: ds.drop (i + 1) := List.drop_eq_getElem_cons hi
    rw [e] at h2
    refine .inr ⟨hgo i H2 s2.h (by rw [ra.length]; exact hi), fun H' => ∃ G' us rs, Step G1 H1 G' H' ∧ G' Dl = none ∧ H' Dl = some (.lst us) ∧ RpAll K (fP Hs f) G' us rs ∧ lcGo f l g tt te (DL.wipe δ vs) (ds.drop (i + 1)) rs QQ, fun H' n => ⟨m - 1, by omega, by omega, n⟩, fun x H' y => ?_⟩
    obtain ⟨rfl, ex⟩ := hy i H2 x H' s2.h y (by rw [ra.length]; exact hi)
    obtain ⟨v, ev, rv⟩ := ra.get (List.getElem?_eq_getElem hi)
    rw [ex] at ev
    cases ev
    have r2 := (r.wiped vs).step s2
    refine sg B G0 G2 Hs _ _ _ l _ _ _ _ r2 xb (rv.mono s2.g) h2 fun δ3 σ3 r3 o3 h3 => ⟨?_, ?_⟩
    · rw [o3.wipe]
      apply List.ext_getElem?
      intro j
      rw [wipe_get, wipe_get, L2.wipe_length]
      split <;> rfl
    · refine st B G0 G2 δ3 σ3 _ _ _ r3 h3 fun b G4 H4 s4 h4 => ?_
      have hd4 : H4 Dl = some (.lst us) := s4.h _ _ hd2
      have g4 : G4 Dl = none := s4.f _ g2 (by rw [hd2]; exact fun e => nomatch e)
      cases b with
      | true =>
        have r4 := r3.step s4
        refine se B G0 G4 δ3 σ3 H4 _ _ r4 h4 fun fl d w G5 H5 s5 p5 h5 => ?_
        obtain ⟨G6, s6, x6, p6, h6⟩ := p5.fix r4.st.h s5 h5
        have hd6 : H5 Dl = some (.lst us) := s6.h _ _ hd4
        have g6 : G6 Dl = none := s6.f _ g4 (by rw [hd4]; exact fun e => nomatch e)
        have sA := (s2.trans s4).trans s6
        have h7 := ok_get h6
        refine ⟨us, hd6, by rw [ru.length]; exact h7.1, G6, us ++ [w], rs ++ [d], ⟨sA.g, sA.h.under hD, sA.i.under g6, sA.f⟩, g6, upd_same, ((ru.mono s4.g).mono s6.g).append (.cons (p6.weak fun a z => ok_fP (x1.trans (s2.h.trans s4.h)) h6 z) .nil), h7.2⟩
      | false => exact ⟨G4, us, rs, s2.trans s4, g4, hd4, ru.mono s4.g, h4⟩
  · have e : ds.drop i = [] := List.drop_eq_nil_of_le (by omega)
    rw [e] at h2
    exact .inl ⟨hst i H2 s2.h (by rw [ra.length]; omega), k rs us G2 H2 s2 g2 hd2 ru h2⟩
/-- the tests of a comprehension -/
def PtD (X : Cx) (ifs : List Expr) (t : DT) : Prop := ∃ tt, PTs X ifs tt ∧ SdT X.K tt t
theorem ptd_nil : PtD X [] dYes := ⟨_, pts_nil, fun B G0 G δ σ H Q QQ r h k => k true G H (Step.refl r.st.i) h⟩
theorem ptd_one (h : TD X c t) : PtD X [c] t := by
  obtain ⟨tt, h, s⟩ := h
  exact ⟨_, pts_one h, s⟩
theorem PtD.pts {ifs : List Expr} (h : PtD X ifs t) : PTs X ifs (cvT X.K t) := by
  obtain ⟨te, h, s⟩ := h
  exact ⟨fun pins s' σ H Q I q => by
    obtain ⟨B, G0, G, δ, QQ, r, a, k⟩ := q
    exact h.run pins s' σ H Q I (s B G0 G δ σ H Q QQ r a k)⟩
section
variable {elt : Expr} {ifs : List Expr} {scope : Scope} {own : List (Str × Nat)} {tt : DT} {te : DE}
theorem it_listR {K : PySem.W.Frag} {B Hs : Hp} {δ : Ds} {σ : L2.St} {G H : Hp} {fl : Fl} {v : V} {d : PyData} {k : List PyData → Prop} (p : Rep K B Hs δ σ G H fl v d) (i : Ext G H) (h : itL d k) : ∃ a xs ds, v = .ref a ∧ SqL K H a xs ∧ RpAll K (lP B Hs fl.lv) G xs ds ∧ k ds := by
  cases d with
  | list ds =>
    obtain ⟨a, xs, rfl, hp, ra⟩ := p.list i
    exact ⟨_, _, ds, rfl, .of hp, ra, h⟩
  | dict kvs =>
    obtain ⟨a, ns, rfl, hl, rfl⟩ := rep_scr p i
    have ra : RpAll K (lP B Hs fl.lv) G (ns.map V.int) ((ns.map fun n => (PyData.int n, PyData.none)).map (·.1)) := by
      rw [List.map_map]
      exact RpAll.of_ints ns
    exact ⟨a, _, _, rfl, hl, ra, h⟩
  | _ => exact h.elim
theorem it_tupR {K : PySem.W.Frag} {B Hs : Hp} {δ : Ds} {σ : L2.St} {G H : Hp} {fl : Fl} {v : V} {d : PyData} {k : List PyData → Prop} (p : Rep K B Hs δ σ G H fl v d) (i : Ext G H) (h : itT d k) : ∃ a xs ds, v = .ref a ∧ SqT K H a xs ∧ RpAll K (lP B Hs fl.lv) G xs ds ∧ k ds := by
  cases d with
  | tuple ds =>
    obtain ⟨a, xs, rfl, hp, ra⟩ := p.tuple i
    exact ⟨_, _, ds, rfl, i.st hp, ra, h⟩
  | _ => exact h.elim
theorem fin_lc {K : PySem.W.Frag} {B : Hp} {f : Bool} {δ : Ds} {σ : L2.St} {G H G1 H1 : Hp} {Dl : Addr} {Q : L2.VK} {QQ : VK} (s1 : Step G H G1 H1) (hD : H1 Dl = none) (k : ∀ fl d w G' H', Step G H G' H' → Rep K B H δ σ G' H' fl w d → QQ fl d → Q w H') :
    ∀ rs us G' H', Step G1 H1 G' H' → G' Dl = none → H' Dl = some (.lst us) → RpAll K (fP H f) G' us rs → QQ (.new (cL f)) (.list rs) → Q (.ref Dl) H' := fun rs us G' H' s2 g2 h2 ru q =>
  k (.new (cL f)) (.list rs) _ G' H' (s1.trans s2) ⟨Dl, us, rs, rfl, rfl, s1.h.free hD, g2, h2, ru.weak fun _ z => fP_cL z⟩ q
/-- what a comprehension walks, and what it gives -/
def PID (X : Cx) (tg iter : Expr) (vs : List Nat) (g : DG) (tt : DT) (te t : DE) : Prop := ∃ wi, PI X tg iter wi ∧ Sd X.K (tLc wi (cvG X.K vs g) (cvT X.K tt) (cvE X.K te) vs) t
theorem pid_L (f : Bool) (hi : ED X iter tl) : PID X tg iter vs g tt te (dLcL f tl g tt te vs) := by
  obtain ⟨tl', hi, sl⟩ := hi
  refine ⟨_, pi_list hi, fun B G0 G δ σ H Q QQ r h k => sl B G0 G δ σ H _ _ r h fun fl d v G1 H1 s1 p1 q1 => ?_⟩
  obtain ⟨a, xs, ds, rfl, hl, ra, q⟩ := it_listR p1 s1.i q1
  exact ⟨a, rfl, ⟨xs, hl⟩, fun Dl hD => go_lc sg_cv sd_cvT sd_cv (Itl X.K a) (fun i H' x hi => ⟨xs, xs[i], x.sl hl, List.getElem?_eq_getElem hi⟩) (fun i H' x hi => ⟨xs, x.sl hl, hi⟩) (fun i H1 y H2 x hy hi => ⟨hy.1, hy.2 xs (x.sl hl)⟩) r.st.h s1.h ra (r.step s1) hD q (fin_lc s1 hD k)⟩
theorem pid_T (f : Bool) (hi : ED X iter tl) : PID X tg iter vs g tt te (dLcT f tl g tt te vs) := by
  obtain ⟨tl', hi, sl⟩ := hi
  refine ⟨_, pi_tup hi, fun B G0 G δ σ H Q QQ r h k => sl B G0 G δ σ H _ _ r h fun fl d v G1 H1 s1 p1 q1 => ?_⟩
  obtain ⟨a, xs, ds, rfl, hl, ra, q⟩ := it_tupR p1 s1.i q1
  exact ⟨a, rfl, ⟨xs, hl⟩, fun Dl hD => go_lc sg_cv sd_cvT sd_cv (Itt X.K a) (fun i H' x hi => ⟨xs, xs[i], x.st hl, List.getElem?_eq_getElem hi⟩) (fun i H' x hi => ⟨xs, x.st hl, hi⟩) (fun i H1 y H2 x hy hi => ⟨hy.1, hy.2 xs (x.st hl)⟩) r.st.h s1.h ra (r.step s1) hD q (fin_lc s1 hD k)⟩
theorem lc_rng {f : Bool} {lo : Int} {n : Nat} {B G0 G1 Hs H1 : Hp} {δ : Ds} {σ : L2.St} {Q : L2.VK} {QQ : List PyData → Prop} {vs : List Nat} (xb : Ext B Hs) (x1 : Ext Hs H1) (r : Rl X.K B G0 G1 δ σ H1) (h : lcGo f .fresh g tt te (DL.wipe δ vs) (upTo lo n) [] QQ)
    (k : ∀ (Dl : Addr), H1 Dl = none → ∀ rs us G' H', Step G1 H1 G' H' → G' Dl = none → H' Dl = some (.lst us) → RpAll X.K (fP Hs f) G' us rs → QQ rs → Q (.ref Dl) H') : ∀ Dl, H1 Dl = none →
    ∃ W : Nat → Nat → Hp → Prop, (∃ m, W 0 m (upd H1 Dl (.lst []))) ∧ ∀ i m H, W i m H → ((Itr lo n).stop i H ∧ Q (.ref Dl) H) ∨ ((Itr lo n).go i H ∧ ∃ Nx : Hp → Prop, (∀ H', Nx H' → ∃ m', m' < m ∧ W (i + 1) m' H') ∧
      ∀ x H', (Itr lo n).yld i H x H' → cvG X.K vs g x (L2.wipe σ vs) H' fun σ2 H2 => L2.wipe σ2 vs = L2.wipe σ vs ∧ cvT X.K tt σ2 H2 fun b H3 =>
        if b = true then cvE X.K te σ2 H3 fun y H4 => ∃ acc, H4 Dl = some (.lst acc) ∧ acc.length < sizeLine ∧ Nx (upd H4 Dl (.lst (acc ++ [y]))) else Nx H3) := fun Dl hD =>
  go_lc sg_cv sd_cvT sd_cv (Itr lo n) (fun i H' _ hi => by
      rw [List.length_map, List.length_range] at hi
      exact hi) (fun i H' _ hi => by
      rw [List.length_map, List.length_range] at hi
      exact hi) (fun i H1 x H2 _ hy hi => by
      rw [List.length_map, List.length_range] at hi
      refine ⟨hy.1, ?_⟩
      rw [List.getElem?_map, List.getElem?_range hi, hy.2]
      rfl) xb x1 (upTo_rp lo n) r hD h (k Dl hD)
theorem pid_R1 (f : Bool) {p pos2 : Pos} (hgl : Gl X "range") (hm : X.mg "range" = none) (ha : ED X a ta) (hst : starEach [a] X.env = [(false, eval a X.env)] := by rfl) : PID X tg (.Call (.Name "range" p) [a] [] pos2) vs g tt te (dLcR1 f ta g tt te vs) := by
  obtain ⟨ta', ha, sa⟩ := ha
  refine ⟨_, pi_range1 hgl hm (pa_cons ha pa_nil hst) hst, fun B G0 G δ σ H Q QQ r h k => sa B G0 G δ σ H _ _ r h fun fl d v G1 H1 s1 p1 q1 => ?_⟩
  cases d with
  | int n => exact ⟨n, by rw [rep_int p1], q1.1.1, q1.1.2, lc_rng r.st.h s1.h (r.step s1) q1.2 fun Dl hD => fin_lc s1 hD k⟩
  | _ => exact q1.elim
theorem pid_R2 (f : Bool) {p pos2 : Pos} (hgl : Gl X "range") (hm : X.mg "range" = none) (ha : ED X a ta) (hb : ED X b tc) (hst : starEach [a, b] X.env = [(false, eval a X.env), (false, eval b X.env)] := by rfl) (hst2 : starEach [b] X.env = [(false, eval b X.env)] := by rfl) :
    PID X tg (.Call (.Name "range" p) [a, b] [] pos2) vs g tt te (dLcR2 f ta tc g tt te vs) := by
  obtain ⟨ta', ha, sa⟩ := ha
  obtain ⟨tc', hb, sc⟩ := hb
  refine ⟨_, pi_range2 hgl hm (pa_cons ha (pa_cons hb pa_nil hst2) (by rw [hst, hst2])) hst hst2, fun B G0 G δ σ H Q QQ r h k => sa B G0 G δ σ H _ _ r h fun fl d v G1 H1 s1 p1 q1 => sc B G0 G1 δ σ H1 _ _ (r.step s1) q1 fun fl2 d2 v2 G2 H2 s2 p2 q2 => ?_⟩
  cases d with
  | int m =>
    cases d2 with
    | int n => exact ⟨m, n, by rw [rep_int p1, rep_int p2], ⟨q2.1.1, q2.1.2, q2.2.1.1, q2.2.1.2⟩, lc_rng r.st.h (s1.h.trans s2.h) ((r.step s1).step s2) q2.2.2 fun Dl hD => fin_lc (s1.trans s2) hD k⟩
    | _ => exact q2.elim
  | _ => exact q2.elim
variable {t' : DE}
theorem ed_lc (own : List (Str × Nat)) (hc : X.calm = true) (hN : X.N.Nodup) (hi : PID X tg iter (own.map (·.2)) g tt te t') (ok : BlkOk X.N X.env.scope scope own) (hg : ∀ (s : Shared) (H : Hp) (C : Addr) (cl : List (Str × Addr)) (fp : List Addr), GD (X.blk s H scope (compEnvC scope cl C X.env) fp) (own.map (·.2)) tg g)
    (ht : ∀ (s : Shared) (H : Hp) (C : Addr) (cl : List (Str × Addr)) (fp : List Addr), PtD (X.blk s H scope (compEnvC scope cl C X.env) fp) ifs tt) (he : ∀ (s : Shared) (H : Hp) (C : Addr) (cl : List (Str × Addr)) (fp : List Addr), ED (X.blk s H scope (compEnvC scope cl C X.env) fp) elt te)
    (hs : ∀ x, foldedSetIterable iter X.env x = pure x := by intro _; rfl) : ED X (.ListComp elt [⟨tg, iter, ifs, 0⟩] scope pos) t' := by
  obtain ⟨wi, hi, sl⟩ := hi
  exact ⟨_, pe_lc (g := cvG X.K (own.map (·.2)) g) (tt := cvT X.K tt) (te := cvE X.K te) hc hN hi ok (fun s H C cl fp => (hg s H C cl fp).pg) (fun s H C cl fp => (ht s H C cl fp).pts) (fun s H C cl fp => (he s H C cl fp).pe) hs, sl⟩
/-- x = [..] on one line -/
theorem sd_setLc (i : Nat) (own : List (Str × Nat)) {y : Str} {py spos : Pos} (hc : X.calm = true) (hN : X.N.Nodup) (hi : PID X tg iter (own.map (·.2)) g tt te t') (ok : BlkOk X.N X.env.scope scope own) (hg : ∀ (s : Shared) (H : Hp) (C : Addr) (cl : List (Str × Addr)) (fp : List Addr), GD (X.blk s H scope (compEnvC scope cl C X.env) fp) (own.map (·.2)) tg g)
    (ht : ∀ (s : Shared) (H : Hp) (C : Addr) (cl : List (Str × Addr)) (fp : List Addr), PtD (X.blk s H scope (compEnvC scope cl C X.env) fp) ifs tt) (he : ∀ (s : Shared) (H : Hp) (C : Addr) (cl : List (Str × Addr)) (fp : List Addr), ED (X.blk s H scope (compEnvC scope cl C X.env) fp) elt te)
    (hsw : swapsWith (.ListComp elt [⟨tg, iter, ifs, 0⟩] scope pos) (some (.Name y py)) spos.line X.env = pure true) (hy : X.N[i]? = some y := by rfl) (hyl : X.env.scope.names.lookup y = some .local := by rfl) (hs : ∀ x, foldedSetIterable iter X.env x = pure x := by intro _; rfl) :
    SD X (.Assign [.Name y py] (.ListComp elt [⟨tg, iter, ifs, 0⟩] scope pos) spos) (dSet i t') := by
  obtain ⟨wi, hi, sl⟩ := hi
  exact ⟨_, ps_setLc (g := cvG X.K (own.map (·.2)) g) (tt := cvT X.K tt) (te := cvE X.K te) hc hN hy hyl hsw hi ok (fun s H C cl fp => (hg s H C cl fp).pg) (fun s H C cl fp => (ht s H C cl fp).pts) (fun s H C cl fp => (he s H C cl fp).pe) hs, ss_set sl⟩
theorem sd_setMLc (i : Nat) (own : List (Str × Nat)) {y : Str} {py spos : Pos} (hc : X.calm = true) (hN : X.N.Nodup) (hi : PID X tg iter (own.map (·.2)) g tt te t') (ok : BlkOk X.N X.env.scope scope own) (hg : ∀ (s : Shared) (H : Hp) (C : Addr) (cl : List (Str × Addr)) (fp : List Addr), GD (X.blk s H scope (compEnvC scope cl C X.env) fp) (own.map (·.2)) tg g)
    (ht : ∀ (s : Shared) (H : Hp) (C : Addr) (cl : List (Str × Addr)) (fp : List Addr), PtD (X.blk s H scope (compEnvC scope cl C X.env) fp) ifs tt) (he : ∀ (s : Shared) (H : Hp) (C : Addr) (cl : List (Str × Addr)) (fp : List Addr), ED (X.blk s H scope (compEnvC scope cl C X.env) fp) elt te)
    (hsw : swapsWith (.ListComp elt [⟨tg, iter, ifs, 0⟩] scope pos) (some (.Name y py)) spos.line X.env = pure true) (hy : X.N[i]? = some y := by rfl) (hyl : X.env.scope.names.lookup y = some .local := by rfl) (hs : ∀ x, foldedSetIterable iter X.env x = pure x := by intro _; rfl) :
    SD X (.Assign [.Name y py] (.ListComp elt [⟨tg, iter, ifs, 0⟩] scope pos) spos) (dSetM i t') := by
  obtain ⟨wi, hi, sl⟩ := hi
  exact ⟨_, ps_setLc (g := cvG X.K (own.map (·.2)) g) (tt := cvT X.K tt) (te := cvE X.K te) hc hN hy hyl hsw hi ok (fun s H C cl fp => (hg s H C cl fp).pg) (fun s H C cl fp => (ht s H C cl fp).pts) (fun s H C cl fp => (he s H C cl fp).pe) hs, ss_setM sl⟩
theorem sd_ownLc (i : Nat) (own : List (Str × Nat)) {y : Str} {py spos : Pos} (hc : X.calm = true) (hN : X.N.Nodup) (hi : PID X tg iter (own.map (·.2)) g tt te t') (ok : BlkOk X.N X.env.scope scope own) (hg : ∀ (s : Shared) (H : Hp) (C : Addr) (cl : List (Str × Addr)) (fp : List Addr), GD (X.blk s H scope (compEnvC scope cl C X.env) fp) (own.map (·.2)) tg g)
    (ht : ∀ (s : Shared) (H : Hp) (C : Addr) (cl : List (Str × Addr)) (fp : List Addr), PtD (X.blk s H scope (compEnvC scope cl C X.env) fp) ifs tt) (he : ∀ (s : Shared) (H : Hp) (C : Addr) (cl : List (Str × Addr)) (fp : List Addr), ED (X.blk s H scope (compEnvC scope cl C X.env) fp) elt te)
    (hsw : swapsWith (.ListComp elt [⟨tg, iter, ifs, 0⟩] scope pos) (some (.Name y py)) spos.line X.env = pure true) (hy : X.N[i]? = some y := by rfl) (hyl : X.env.scope.names.lookup y = some .local := by rfl) (hs : ∀ x, foldedSetIterable iter X.env x = pure x := by intro _; rfl) :
    SD X (.Assign [.Name y py] (.ListComp elt [⟨tg, iter, ifs, 0⟩] scope pos) spos) (dOwn i t') := by
  obtain ⟨wi, hi, sl⟩ := hi
  exact ⟨_, ps_setLc (g := cvG X.K (own.map (·.2)) g) (tt := cvT X.K tt) (te := cvE X.K te) hc hN hy hyl hsw hi ok (fun s H C cl fp => (hg s H C cl fp).pg) (fun s H C cl fp => (ht s H C cl fp).pts) (fun s H C cl fp => (he s H C cl fp).pe) hs, ss_own sl⟩
theorem sd_ownMLc (i : Nat) (own : List (Str × Nat)) {y : Str} {py spos : Pos} (hc : X.calm = true) (hN : X.N.Nodup) (hi : PID X tg iter (own.map (·.2)) g tt te t') (ok : BlkOk X.N X.env.scope scope own) (hg : ∀ (s : Shared) (H : Hp) (C : Addr) (cl : List (Str × Addr)) (fp : List Addr), GD (X.blk s H scope (compEnvC scope cl C X.env) fp) (own.map (·.2)) tg g)
    (ht : ∀ (s : Shared) (H : Hp) (C : Addr) (cl : List (Str × Addr)) (fp : List Addr), PtD (X.blk s H scope (compEnvC scope cl C X.env) fp) ifs tt) (he : ∀ (s : Shared) (H : Hp) (C : Addr) (cl : List (Str × Addr)) (fp : List Addr), ED (X.blk s H scope (compEnvC scope cl C X.env) fp) elt te)
    (hsw : swapsWith (.ListComp elt [⟨tg, iter, ifs, 0⟩] scope pos) (some (.Name y py)) spos.line X.env = pure true) (hy : X.N[i]? = some y := by rfl) (hyl : X.env.scope.names.lookup y = some .local := by rfl) (hs : ∀ x, foldedSetIterable iter X.env x = pure x := by intro _; rfl) :
    SD X (.Assign [.Name y py] (.ListComp elt [⟨tg, iter, ifs, 0⟩] scope pos) spos) (dOwnM i t') := by
  obtain ⟨wi, hi, sl⟩ := hi
  exact ⟨_, ps_setLc (g := cvG X.K (own.map (·.2)) g) (tt := cvT X.K tt) (te := cvE X.K te) hc hN hy hyl hsw hi ok (fun s H C cl fp => (hg s H C cl fp).pg) (fun s H C cl fp => (ht s H C cl fp).pts) (fun s H C cl fp => (he s H C cl fp).pe) hs, ss_ownM sl⟩
end
end

/-! ### defs -/
theorem start_rl {K : PySem.W.Frag} {N : List Str} {G H : Hp} {vs : List V} {ds : List PyData} (i : Ext G H) (ra : RpAll K (fun _ => True) G vs ds) (hl : vs.length ≤ N.length) : Rl K H G G (DL.start N.length ds) (L2.start N vs) H := by
  have lk : ∀ (ds : List PyData) (m j : Nat) (s : Sl), look (ds.map (Sl.val false) ++ List.replicate m .non) j = s → s ≠ .non → ∃ d, s = .val false d ∧ ds[j]? = some d := by
    intro ds m
    induction ds with
    | nil =>
      intro j s h hn
      exfalso
      apply hn
      rw [← h]
      clear h hn
      induction m generalizing j with
      | zero => rfl
      | succ m ih =>
        cases j with
        | zero => rfl
        | succ j => exact ih j
    | cons d ds ih =>
      intro j s h hn
      cases j with
      | zero => exact ⟨d, h.symm, rfl⟩
      | succ j => exact ih j s h hn
  refine ⟨Step.refl i, ?_, fun j m d h => ?_, fun j m es h => ?_, fun j d h => ?_, fun j m p n n' es fs h => ?_⟩
  · unfold L2.start DL.start
    rw [List.length_append, List.length_append, List.length_map, List.length_map, List.length_replicate, List.length_replicate, ra.length]
  · obtain ⟨d', e, hd⟩ := lk ds _ j _ h (fun z => nomatch z)
    cases e
    obtain ⟨v, hv, rv⟩ := ra.get hd
    refine ⟨v, ?_, rv.weak fun _ _ z => nomatch z⟩
    unfold L2.start
    rw [List.getElem?_append_left (by rw [List.length_map]; exact (List.getElem?_eq_some_iff.mp hv).1), List.getElem?_map, hv]
    rfl
  · obtain ⟨d', e, hd⟩ := lk ds _ j _ h (fun z => nomatch z)
    cases e
  · obtain ⟨d', e, hd⟩ := lk ds _ j _ h (fun z => nomatch z)
    cases e
  · obtain ⟨d', e, hd⟩ := lk ds _ j _ h (fun z => nomatch z)
    cases e
theorem blkOk_in {N : List Str} {scope1 scope : Scope} {own : List (Str × Nat)} {cl : List (Str × Addr)} {C : Addr} {env : Env} (sc : Scope) (he : env.scope = sc) (h : blkC N (relS scope1 sc) scope own = true) : BlkOk N (compEnvC scope1 cl C env).scope scope own := by
  subst he
  exact blkOk_by h
theorem hu65 {k : Nat} {A : Around} (hr : Room k A) : A.units + 65 < cLine := by
  have := hr.un
  omega
section
variable {P : Program} {w : World} {K : PySem.W.Frag} {mg : Str → Option Value} {base : Heap}
/-- THE RULE for a def: its body's reading, and that the reading keeps the promise -/
theorem fn_d {x qual : Str} {st : Stmt} {f : Addr} {fd : FuncData} {N ps : List Str} {k : Nat} {S : DSp} {t : DS} (F : Fun K x qual st f fd) (Sc : FnScope N ps (defScope st)) (hl : ps.length ≤ N.length) (m : MonoS S) (kp : Keeps N.length t S)
    (hb : ∀ (cdv : Value) (A : Around) (outer : List Env) (s : Shared) (H : Hp) (E : XK), Room k (A.deeper (envOfC qual (defScope st) s.heap.objs.size f cdv)) → SsD (cxOf CX0 P w K mg base N qual (defScope st) f cdv A outer s H E).nox (defBody st) t) : FnD P w K mg base (k + 1) f fd ps S := by
  refine ⟨F.ok Sc (fun vs H Q E h => h.1) (fun cdv A outer s H vs Q E hr h => ?_), m⟩
  obtain ⟨hn, G, ds, i, ra, h⟩ := h
  obtain ⟨t', ht, st'⟩ := hb cdv A outer s H E hr
  refine ⟨t', ht, ?_⟩
  refine st' H G G (DL.start N.length ds) (L2.start N vs) H { nx := fun _ => _, rt := _ } _ (start_rl i ra (by rw [hn]; exact hl)) (kp ds _ h) ⟨fun G' δ' σ' H' _ r q => ?_, fun _ _ _ _ _ _ q => q.elim, fun _ _ _ _ _ _ q => q.elim, fun b d v G' H' s' p q => ?_⟩
  · exact q .non G' H' r.st Rp.non
  · exact q v G' H' s' p
end
end DL

set_option Elab.async false
set_option linter.all false
set_option maxRecDepth 100000
set_option maxHeartbeats 2000000
/-! DW5: more readings. -/
namespace DL
open PySem PySem.Spec L2
/-- what a lent list's reader gives: all its lists are new -/
def rFr (fl : Fl) (d : PyData) (Q : VK) : Prop := match fl with
  | .av l => (match l with
    | .fresh => Q (.av .fresh) d
    | _ => False)
  | .new l => (match l with
    | .fresh => Q (.new .fresh) d
    | _ => False)
  | .own _ _ => False
/-- e with the own list of slot i lent: all lists of what it gives are new -/
def dLendF (i : Nat) (t : DE) : DE := fun σ Q => match look σ i with
  | .own _ ds => t (put σ i (.val false (.list ds))) fun fl d => d.canLay0 = true ∧ rFr fl d Q
  | _ => False
section
variable {K : PySem.W.Frag} {F : Addr → Prop} {G : Hp} {p : Addr} {zs : List V}
mutual
theorem Rp.outF (hp : G p = some (.lst zs)) (hF : ¬ F p) : ∀ {v : V} {d : PyData}, d.canLay0 = true → Rp K F G v d → Rp K F (out G p) v d
  | _, _, _, .non => .non
  | _, _, _, .bl b => .bl b
  | _, _, _, .int i => .int i
  | _, _, _, .str x => .str x
  | _, _, c, .lst f h r => .lst f (by rw [out_ne (fun e => hF (by rw [← e]; exact f))]; exact h) (RpAll.outF hp hF (by simpa [PyData.canLay0] using c) r)
  | _, _, c, .tup h r => .tup (by
      rcases h with (q | ⟨o, q⟩) | q
      · exact .inl (.inl (out_at hp _ _ q fun _ e => nomatch e))
      · exact .inl (.inr ⟨o, out_at hp _ _ q fun _ e => nomatch e⟩)
      · exact .inr q) (RpAll.outF hp hF (by simpa [PyData.canLay0] using c) r)
  | _, _, c, .scr h => by simp [PyData.canLay0] at c
theorem RpAll.outF (hp : G p = some (.lst zs)) (hF : ¬ F p) : ∀ {v : List V} {d : List PyData}, PyData.canLayAll0 d = true → RpAll K F G v d → RpAll K F (out G p) v d
  | _, _, _, .nil => .nil
  | _, _, c, .cons h r => by
    have c' := (Bool.and_eq_true_iff.mp (by simpa [PyData.canLayAll0] using c))
    exact .cons (Rp.outF hp hF c'.1 h) (RpAll.outF hp hF c'.2 r)
end
end
section
variable {X : Cx} {a : Expr} {ta : DE}
theorem ed_lendF {i : Nat} (ha : ED X a ta) : ED X a (dLendF i ta) := by
  obtain ⟨ta', ha, sa⟩ := ha
  refine ⟨ta', ha, fun B G0 G δ σ H Q QQ r h k => ?_⟩
  unfold dLendF at h
  cases e : look δ i with
  | own m ds =>
    rw [e] at h
    obtain ⟨p, xs, h1, h2, h3, h4, h5, r', x⟩ := r.freeze (m' := false) (fun z => nomatch z) e
    refine sa B G0 _ _ σ H _ _ r' h fun fl d v G1 H1 s1 p1 q1 => ?_
    have hp1 : G1 p = some (.lst xs) := s1.g p _ upd_same
    have hF : ¬ H p = none := fun z => by rw [h4] at z; cases z
    obtain ⟨c, q1⟩ := q1
    cases fl with
    | av l =>
      cases l with
      | fresh =>
        have p1' : Rp X.K (fun b => H b = none) G1 v d := p1
        exact k (.av .fresh) d v (out G1 p) H1 (out_step h2 h4 s1) (Rp.outF hp1 hF c p1') q1
      | any => exact q1.elim
      | mine => exact q1.elim
    | new l =>
      cases l with
      | fresh =>
        obtain ⟨q, ys, es, rfl, rfl, a1, a2, a3, a4⟩ := p1
        have ne : q ≠ p := fun z => hF (by rw [← z]; exact a1)
        exact k (.new .fresh) (.list es) _ (out G1 p) H1 (out_step h2 h4 s1) ⟨q, ys, es, rfl, rfl, a1, by rw [out_ne ne]; exact a2, a3, RpAll.outF hp1 hF (by simpa [PyData.canLay0] using c) a4⟩ q1
      | any => exact q1.elim
      | mine => exact q1.elim
    | own j => exact q1.elim
  | val m d => rw [e] at h; exact h.elim
  | old d => rw [e] at h; exact h.elim
  | non => rw [e] at h; exact h.elim
end
end DL

set_option linter.all false
set_option maxRecDepth 100000
namespace RD
open PySem DL
/-- _law_draws(script, many): 0 script, 1 many, 2 found, 3 cell, 4 number, 5 k, 6 mixed, 7 base, -/
def rd__law_draws : DS := (dSeq (dOwn 2 (dLst dNil)) (dSeq (dForL (dSl (dVar 0) dNo (dPart (dC (.int 63)))) (gName 3) (dSeq (dSet 4 (dUn rAbs (dUn rToInt (dVar 3)))) (dIf (dCmp rGe (dVar 4) (dOp rPow (dC (.int 10)) (dC (.int 18)))) (dForR1 (dC (.int 60)) (gName 5) (dIf (dCmp rGt (dVar 4) (dC (.int 0))) (dSeq (dApp 2 (dOp rMod (dVar 4) (dC (.int 1000003)))) (dSet 4 (dOp rDiv (dVar 4) (dC (.int 1000003))))) dNext)) (dSeq (dSet 6 (dOp rMod (dOp rAdd (dOp rAdd (dOp rMul (dVar 4) (dC (.int 48271))) (dOp rMul (dC (.int 7)) (dUn rLen (dVar 2)))) (dC (.int 11))) (dC (.int 2147483647)))) (dForR1 (dC (.int 4)) (gName 5) (dSeq (dSet 6 (dOp rMod (dOp rAdd (dOp rAdd (dOp rAdd (dOp rMul (dVar 6) (dC (.int 69621))) (dOp rDiv (dVar 6) (dC (.int 65536)))) (dOp rMul (dC (.int 13)) (dVar 5))) (dC (.int 5))) (dC (.int 2147483629)))) (dApp 2 (dOp rMod (dOp rDiv (dVar 6) (dC (.int 8))) (dC (.int 1000003)))))))))) (dSeq (dForR1 (dVar 1) (gName 5) (dIf (dCmp rLt (dUn rLen (dVar 2)) (dVar 1)) (dSeq (dSet 7 (dC (.int 0))) (dSeq (dIf (dCmp rGt (dUn rLen (dVar 2)) (dC (.int 0))) (dSet 7 (dOp rIx (dVar 2) (dOp rMod (dVar 5) (dUn rLen (dVar 2))))) dNext) (dApp 2 (dOp rMod (dOp rAdd (dOp rAdd (dOp rMul (dVar 7) (dC (.int 16807))) (dOp rMul (dC (.int 31)) (dUn rLen (dVar 2)))) (dC (.int 17))) (dC (.int 1000003)))))) dNext)) (dRet (dSl (dVar 2) dNo (dPart (dVar 1)))))))
/-- _law_cell(draws, k): 0 draws, 1 k, -/
def rd__law_cell : DS := (dSeq (dIf (dCmp rLt (dVar 1) (dUn rLen (dVar 0))) (dRet (dOp rIx (dVar 0) (dVar 1))) dNext) (dRet (dOp rMod (dOp rAdd (dOp rAdd (dOp rMul (dOp rIx (dVar 0) (dOp rMod (dVar 1) (dUn rLen (dVar 0)))) (dC (.int 31))) (dOp rMul (dOp rIx (dVar 0) (dOp rMod (dOp rMul (dC (.int 7)) (dVar 1)) (dUn rLen (dVar 0)))) (dC (.int 17)))) (dOp rMul (dC (.int 101)) (dVar 1))) (dC (.int 1000003)))))
/-- _law_is_number(value): 0 value, -/
def rd__law_is_number : DS := (dRet (dAndV (dUn (rKind isInt) (dVar 0)) (dNotV (dUn (rKind isBool) (dVar 0)))))
/-- _law_name(draws, size, k): 0 draws, 1 size, 2 k, -/
def rd__law_name : DS := (dSeq (dIf (dCmp rEq (dOp rMod (dOp rDiv (dOp rIx (dVar 0) (dC (.int 2))) (dC (.int 7))) (dC (.int 2))) (dC (.int 0))) (dRet (dOp rMod (dOp rAdd (dOp rIx (dVar 0) (dC (.int 2))) (dVar 2)) (dVar 1))) dNext) (dRet (dOp rMod (dOp rSub (dOp rIx (dVar 0) (dC (.int 2))) (dVar 2)) (dVar 1))))
/-- _law_house(draws): 0 draws, 1 size, 2 extra, 3 scale, 4 listenings, 5 k, 6 string, 7 source, 8 error, 9 first, 10 second, 11 by, -/
def rd__law_house_6af9 (S__law_name S__law_cell : DSp) : DS := (dSeq (dSet 1 (dOp rAdd (dC (.int 1)) (dOp rMod (dOp rIx (dVar 0) (dC (.int 0))) (dC (.int 7))))) (dSeq (dSet 2 (dOp rMod (dOp rDiv (dOp rIx (dVar 0) (dC (.int 1))) (dC (.int 8))) (dC (.int 8)))) (dSeq (dIf (dCmp rEq (dOp rMod (dOp rIx (dVar 0) (dC (.int 1))) (dC (.int 8))) (dC (.int 3))) (dSeq (dSet 1 (dOp rAdd (dC (.int 8)) (dOp rMod (dOp rDiv (dOp rIx (dVar 0) (dC (.int 0))) (dC (.int 7))) (dC (.int 53))))) (dSet 2 (dOp rDiv (dVar 1) (dC (.int 2))))) dNext) (dSeq (dSet 3 (dC (.int 1))) (dSeq (dIf (dCmp rEq (dOp rMod (dOp rIx (dVar 0) (dC (.int 1))) (dC (.int 8))) (dC (.int 6))) (dSet 3 (dOp rAdd (dOp rPow (dC (.int 10)) (dC (.int 9))) (dOp rIx (dVar 0) (dC (.int 3))))) dNext) (dSeq (dOwn 4 (dLst dNil)) (dSeq (dForR2 (dC (.int 1)) (dVar 1) (gName 5) (dSeq (dSet 6 (dCall S__law_name (dCons (dVar 0) (dCons (dVar 1) (dCons (dVar 5) dNil))))) (dSeq (dSet 7 (dCall S__law_name (dCons (dVar 0) (dCons (dVar 1) (dCons (dOp rMod (dCall S__law_cell (dCons (dVar 0) (dCons (dOp rAdd (dC (.int 10)) (dOp rMul (dC (.int 3)) (dVar 5))) dNil))) (dVar 5)) dNil))))) (dSeq (dSet 8 (dOp rMul (dOp rMod (dCall S__law_cell (dCons (dVar 0) (dCons (dOp rAdd (dC (.int 11)) (dOp rMul (dC (.int 3)) (dVar 5))) dNil))) (dC (.int 8))) (dVar 3))) (dIf (dCmp rEq (dOp rMod (dCall S__law_cell (dCons (dVar 0) (dCons (dOp rAdd (dC (.int 12)) (dOp rMul (dC (.int 3)) (dVar 5))) dNil))) (dC (.int 2))) (dC (.int 0))) (dApp 4 (dTup (dCons (dVar 6) (dCons (dVar 7) (dCons (dVar 8) dNil))))) (dApp 4 (dTup (dCons (dVar 7) (dCons (dVar 6) (dCons (dVar 8) dNil)))))))))) (dSeq (dForR1 (dVar 2) (gName 5) (dSeq (dSet 9 (dOp rMod (dCall S__law_cell (dCons (dVar 0) (dCons (dOp rAdd (dC (.int 40)) (dOp rMul (dC (.int 3)) (dVar 5))) dNil))) (dVar 1))) (dSeq (dSet 10 (dOp rMod (dCall S__law_cell (dCons (dVar 0) (dCons (dOp rAdd (dC (.int 41)) (dOp rMul (dC (.int 3)) (dVar 5))) dNil))) (dVar 1))) (dIf (dCmp rNe (dVar 9) (dVar 10)) (dApp 4 (dTup (dCons (dVar 9) (dCons (dVar 10) (dCons (dOp rMul (dOp rMod (dCall S__law_cell (dCons (dVar 0) (dCons (dOp rAdd (dC (.int 42)) (dOp rMul (dC (.int 3)) (dVar 5))) dNil))) (dC (.int 12))) (dVar 3)) dNil))))) dNext)))) (dSeq (dSet 11 (dOp rMod (dOp rIx (dVar 0) (dC (.int 4))) (dOp rAdd (dUn rLen (dVar 4)) (dC (.int 1))))) (dRet (dTup (dCons (dVar 1) (dCons (dCall S__law_name (dCons (dVar 0) (dCons (dVar 1) (dCons (dOp rMul (dOp rMod (dOp rIx (dVar 0) (dC (.int 5))) (dC (.int 2))) (dOp rMod (dOp rIx (dVar 0) (dC (.int 6))) (dVar 1))) dNil)))) (dCons (dOp rAdd (dSl (dVar 4) (dPart (dVar 11)) dNo) (dSl (dVar 4) dNo (dPart (dVar 11)))) dNil))))))))))))))
/-- _law_crossing(listenings, inside): 0 listenings, 1 inside, 2 items, 3 index, 4 first, 5 second, 6 error, -/
def rd__law_crossing : DS := (dSeq (dOwnM 2 (dLst dNil)) (dSeq (dForR1 (dUn rLen (dVar 0)) (gName 3) (dSeq (dAsg (dOp rIx (dVar 0) (dVar 3)) (gTup 3 (gCons (gName 4) (gCons (gName 5) (gCons (gName 6) gNil))))) (dSeq (dIf (dAnd (dCmp rIn (dVar 4) (dVar 1)) (dCmp rNotIn (dVar 5) (dVar 1))) (dApp 2 (dTup (dCons (dNL (dVar 5)) (dCons (dNL (dVar 4)) (dCons (dNL (dVar 3)) dNil))))) dNext) (dIf (dAnd (dCmp rIn (dVar 5) (dVar 1)) (dCmp rNotIn (dVar 4) (dVar 1))) (dApp 2 (dTup (dCons (dNL (dVar 4)) (dCons (dNL (dVar 5)) (dCons (dNL (dVar 3)) dNil))))) dNext)))) (dRetF (dVar 2))))
/-- _law_grown(draws, size, root, listenings): 0 draws, 1 size, 2 root, 3 listenings, 4 inside, 5 plan, 6 k, 7 items, 8 item, -/
def rd__law_grown (S__law_crossing S__law_cell : DSp) : DS := (dSeq (dOwn 4 (dLst (dCons (dVar 2) dNil))) (dSeq (dOwn 5 (dLst dNil)) (dSeq (dForR1 (dOp rSub (dVar 1) (dC (.int 1))) (gName 6) (dSeq (dSet 7 (dLendF 4 (dCall S__law_crossing (dCons (dVar 3) (dCons (dVar 4) dNil))))) (dIf (dCmp rGt (dUn rLen (dVar 7)) (dC (.int 0))) (dSeq (dSet 8 (dOp rIx (dVar 7) (dOp rMod (dCall S__law_cell (dCons (dVar 0) (dCons (dOp rAdd (dC (.int 70)) (dVar 6)) dNil))) (dUn rLen (dVar 7))))) (dSeq (dApp 5 (dVar 8)) (dApp 4 (dOp rIx (dVar 8) (dC (.int 0)))))) dNext))) (dRet (dVar 5)))))
/-- within(width, least, most): 0 width, 1 least, 2 most, -/
def rd_within : DS := (dSeq (dIf (dAnd (dCmp rIsNot (dVar 1) (dC .none)) (dCmp rLt (dVar 0) (dVar 1))) (dRet (dC (.bool false))) dNext) (dRet (dOrV (dBool (dCmp rIs (dVar 2) (dC .none))) (dBool (dCmp rLe (dVar 0) (dVar 2))))))
/-- meets(demands, tuning): 0 demands, 1 tuning, 2 low, 3 high, 4 least, 5 most, -/
def rd_meets (S_within : DSp) : DS := (dSeq (dForL (dVar 0) (gTup 4 (gCons (gName 2) (gCons (gName 3) (gCons (gName 4) (gCons (gName 5) gNil))))) (dIf (dNot (dTest (dCall S_within (dCons (dOp rSub (dOp rIx (dVar 1) (dVar 3)) (dOp rIx (dVar 1) (dVar 2))) (dCons (dVar 4) (dCons (dVar 5) dNil)))))) (dRet (dC (.bool false))) dNext)) (dRet (dC (.bool true))))
/-- ways_of(size, plan): 0 size, 1 plan, 2 ways, 3 string, 4 at, 5 source, 6 index, -/
def rd_ways_of : DS := (dSeq (dOwn 2 (dLcR1 false (dVar 0) (gName 3) dYes (dLst dNil) [3])) (dSeq (dForR1 (dUn rLen (dVar 1)) (gName 4) (dSeq (dAsg (dOp rIx (dVar 1) (dVar 4)) (gTup 3 (gCons (gName 3) (gCons (gName 5) (gCons (gName 6) gNil))))) (dSetIx 2 (dOp rAdd (dOp rIx (dVar 2) (dVar 5)) (dLst (dCons (dVar 4) dNil))) (dVar 3)))) (dRet (dVar 2))))
/-- parting(first, second): 0 first, 1 second, 2 at, -/
def rd_parting : DS := (dRet (dOp rAdd (dLcL false (dVar 0) (gName 2) (dCmp rNotIn (dVar 2) (dVar 1)) (dVar 2) [2]) (dLcL false (dVar 1) (gName 2) (dCmp rNotIn (dVar 2) (dVar 0)) (dVar 2) [2])))
/-- pair_error(size, root, listenings, plan, first, second): 0 size, 1 root, 2 listenings, 3 plan, 4 first, 5 second, 6 ways, 7 total, 8 at, -/
def rd_pair_error (S_ways_of S_parting : DSp) : DS := (dSeq (dSet 6 (dCall S_ways_of (dCons (dVar 0) (dCons (dVar 3) dNil)))) (dSeq (dSet 7 (dC (.int 0))) (dSeq (dForL (dCall S_parting (dCons (dOp rIx (dVar 6) (dVar 4)) (dCons (dOp rIx (dVar 6) (dVar 5)) dNil))) (gName 8) (dSet 7 (dOp rAdd (dVar 7) (dOp rIx (dOp rIx (dVar 2) (dOp rIx (dOp rIx (dVar 3) (dVar 8)) (dC (.int 2)))) (dC (.int 2)))))) (dRet (dVar 7)))))
/-- tuned_by_ear(target, root, listenings, plan, slips): 0 target, 1 root, 2 listenings, 3 plan, 4 slips, 5 pitches, 6 at, 7 string, 8 source, 9 index, -/
def rd_tuned_by_ear : DS := (dSeq (dOwn 5 (dUn rToList (dVar 0))) (dSeq (dForR1 (dUn rLen (dVar 3)) (gName 6) (dSeq (dAsg (dOp rIx (dVar 3) (dVar 6)) (gTup 3 (gCons (gName 7) (gCons (gName 8) (gCons (gName 9) gNil))))) (dSetIx 5 (dOp rAdd (dOp rSub (dOp rAdd (dOp rIx (dVar 5) (dVar 8)) (dOp rIx (dVar 0) (dVar 7))) (dOp rIx (dVar 0) (dVar 8))) (dOp rIx (dVar 4) (dVar 6))) (dVar 7)))) (dRet (dVar 5))))
/-- narrowed(demand, error): 0 demand, 1 error, 2 low, 3 high, 4 least, 5 most, -/
def rd_narrowed : DS := (dSeq (dAsg (dVar 0) (gTup 4 (gCons (gName 2) (gCons (gName 3) (gCons (gName 4) (gCons (gName 5) gNil)))))) (dSeq (dIf (dCmp rIsNot (dVar 4) (dC .none)) (dSet 4 (dOp rAdd (dVar 4) (dVar 1))) dNext) (dSeq (dIf (dCmp rIsNot (dVar 5) (dC .none)) (dSet 5 (dOp rSub (dVar 5) (dVar 1))) dNext) (dRet (dTup (dCons (dVar 2) (dCons (dVar 3) (dCons (dVar 4) (dCons (dVar 5) dNil)))))))))
/-- safe_demands(size, demands, root, listenings, plan): 0 size, 1 demands, 2 root, 3 listenings, 4 plan, 5 safe, 6 demand, 7 error, -/
def rd_safe_demands (S_pair_error S_narrowed : DSp) : DS := (dSeq (dOwn 5 (dLst dNil)) (dSeq (dForL (dVar 1) (gName 6) (dSeq (dSet 7 (dCall S_pair_error (dCons (dVar 0) (dCons (dVar 2) (dCons (dVar 3) (dCons (dVar 4) (dCons (dOp rIx (dVar 6) (dC (.int 0))) (dCons (dOp rIx (dVar 6) (dC (.int 1))) dNil)))))))) (dApp 5 (dCall S_narrowed (dCons (dVar 6) (dCons (dVar 7) dNil)))))) (dRet (dVar 5))))
/-- slips_apart(listenings, plan, low_way, high_way, sign): 0 listenings, 1 plan, 2 low_way, 3 high_way, 4 sign, 5 slips, 6 at, 7 error, -/
def rd_slips_apart : DS := (dSeq (dOwn 5 (dOp rMul (dLst (dCons (dC (.int 0)) dNil)) (dUn rLen (dVar 1)))) (dSeq (dForR1 (dUn rLen (dVar 1)) (gName 6) (dSeq (dSet 7 (dOp rIx (dOp rIx (dVar 0) (dOp rIx (dOp rIx (dVar 1) (dVar 6)) (dC (.int 2)))) (dC (.int 2)))) (dSeq (dIf (dAnd (dCmp rIn (dVar 6) (dVar 3)) (dCmp rNotIn (dVar 6) (dVar 2))) (dSetIx 5 (dOp rMul (dVar 4) (dVar 7)) (dVar 6)) dNext) (dIf (dAnd (dCmp rIn (dVar 6) (dVar 2)) (dCmp rNotIn (dVar 6) (dVar 3))) (dSetIx 5 (dOp rMul (dUn rNeg (dVar 4)) (dVar 7)) (dVar 6)) dNext)))) (dRet (dVar 5))))
/-- breaking_errors(size, demands, root, listenings, plan, target): 0 size, 1 demands, 2 root, 3 listenings, 4 plan, 5 target, 6 ways, 7 demand, 8 sign, 9 slips, -/
def rd_breaking_errors (S_ways_of S_slips_apart S_meets S_tuned_by_ear : DSp) : DS := (dSeq (dSet 6 (dCall S_ways_of (dCons (dVar 0) (dCons (dVar 4) dNil)))) (dSeq (dForL (dVar 1) (gName 7) (dForT (dTup (dCons (dC (.int 1)) (dCons (dUn rNeg (dC (.int 1))) dNil))) (gName 8) (dSeq (dSet 9 (dCall S_slips_apart (dCons (dVar 3) (dCons (dVar 4) (dCons (dOp rIx (dVar 6) (dOp rIx (dVar 7) (dC (.int 0)))) (dCons (dOp rIx (dVar 6) (dOp rIx (dVar 7) (dC (.int 1)))) (dCons (dVar 8) dNil))))))) (dIf (dNot (dTest (dCall S_meets (dCons (dLst (dCons (dVar 7) dNil)) (dCons (dCall S_tuned_by_ear (dCons (dVar 5) (dCons (dVar 2) (dCons (dVar 3) (dCons (dVar 4) (dCons (dVar 9) dNil)))))) dNil))))) (dRet (dVar 9)) dNext)))) (dRet (dC .none))))
/-- _law_is_numbers(value, size): 0 value, 1 size, 2 item, -/
def rd__law_is_numbers_6e0e (S__law_is_number : DSp) : DS := (dSeq (dIf (dOr (dNot (dTest (dUn (rKind isList) (dVar 0)))) (dCmp rNe (dUn rLen (dVar 0)) (dVar 1))) (dRet (dC (.bool false))) dNext) (dSeq (dForL (dVar 0) (gName 2) (dIf (dNot (dTest (dCall S__law_is_number (dCons (dVar 2) dNil)))) (dRet (dC (.bool false))) dNext)) (dRet (dC (.bool true)))))
/-- _law_meets(demands, tuning): 0 demands, 1 tuning, 2 low, 3 high, 4 least, 5 most, 6 width, -/
def rd__law_meets_d118 : DS := (dSeq (dForL (dVar 0) (gTup 4 (gCons (gName 2) (gCons (gName 3) (gCons (gName 4) (gCons (gName 5) gNil))))) (dSeq (dSet 6 (dOp rSub (dOp rIx (dVar 1) (dVar 3)) (dOp rIx (dVar 1) (dVar 2)))) (dSeq (dIf (dAnd (dCmp rIsNot (dVar 4) (dC .none)) (dCmp rLt (dVar 6) (dVar 4))) (dRet (dC (.bool false))) dNext) (dIf (dAnd (dCmp rIsNot (dVar 5) (dC .none)) (dCmp rGt (dVar 6) (dVar 5))) (dRet (dC (.bool false))) dNext)))) (dRet (dC (.bool true))))
/-- _law_heard(target, root, plan, slips): 0 target, 1 root, 2 plan, 3 slips, 4 pitches, 5 at, 6 string, 7 source, 8 index, -/
def rd__law_heard_b0a2 : DS := (dSeq (dOwn 4 (dOp rMul (dLst (dCons (dC .none) dNil)) (dUn rLen (dVar 0)))) (dSeq (dSetIx 4 (dOp rIx (dVar 0) (dVar 1)) (dVar 1)) (dSeq (dForR1 (dUn rLen (dVar 2)) (gName 5) (dSeq (dAsg (dOp rIx (dVar 2) (dVar 5)) (gTup 3 (gCons (gName 6) (gCons (gName 7) (gCons (gName 8) gNil))))) (dSetIx 4 (dOp rAdd (dOp rAdd (dOp rSub (dOp rIx (dVar 4) (dVar 7)) (dOp rIx (dVar 0) (dVar 7))) (dOp rIx (dVar 0) (dVar 6))) (dOp rIx (dVar 3) (dVar 5))) (dVar 6)))) (dRet (dVar 4)))))
/-- _law_pair_errors(size, listenings, plan): 0 size, 1 listenings, 2 plan, 3 ways, 4 string, 5 source, 6 index, 7 rows, 8 first, 9 row, 10 second, 11 apart, -/
def rd__law_pair_errors : DS := (dSeq (dOwn 3 (dLcR1 false (dVar 0) (gName 4) dYes (dLst dNil) [4])) (dSeq (dForL (dVar 2) (gTup 3 (gCons (gName 4) (gCons (gName 5) (gCons (gName 6) gNil)))) (dSetIx 3 (dOp rAdd (dLst (dCons (dVar 6) dNil)) (dOp rIx (dVar 3) (dVar 5))) (dVar 4))) (dSeq (dOwn 7 (dLst dNil)) (dSeq (dForR1 (dVar 0) (gName 8) (dSeq (dOwn 9 (dLst dNil)) (dSeq (dForR1 (dVar 0) (gName 10) (dSeq (dSet 11 (dLcL false (dOp rIx (dVar 3) (dVar 8)) (gName 6) (dCmp rNotIn (dVar 6) (dOp rIx (dVar 3) (dVar 10))) (dVar 6) [6])) (dSeq (dSet 11 (dOp rAdd (dVar 11) (dLcL false (dOp rIx (dVar 3) (dVar 10)) (gName 6) (dCmp rNotIn (dVar 6) (dOp rIx (dVar 3) (dVar 8))) (dVar 6) [6]))) (dApp 9 (dUn rSum (dLcL false (dVar 11) (gName 6) dYes (dOp rIx (dOp rIx (dVar 1) (dVar 6)) (dC (.int 2))) [6])))))) (dFrz 9 (dApp 7 (dVar 9)))))) (dRet (dVar 7))))))
/-- _law_demands(draws, size, target, errors, spread): 0 draws, 1 size, 2 target, 3 errors, 4 spread, 5 demands, 6 k, 7 low, 8 high, 9 width, 10 least, 11 most, 12 choice, -/
def rd__law_demands_f9d5 (S__law_cell : DSp) : DS := (dSeq (dOwn 5 (dLst dNil)) (dSeq (dForR1 (dOp rMod (dOp rIx (dVar 0) (dC (.int 140))) (dC (.int 8))) (gName 6) (dSeq (dSet 7 (dOp rMod (dCall S__law_cell (dCons (dVar 0) (dCons (dOp rAdd (dC (.int 100)) (dOp rMul (dC (.int 5)) (dVar 6))) dNil))) (dVar 1))) (dSeq (dSet 8 (dOp rMod (dCall S__law_cell (dCons (dVar 0) (dCons (dOp rAdd (dC (.int 101)) (dOp rMul (dC (.int 5)) (dVar 6))) dNil))) (dVar 1))) (dSeq (dSet 9 (dOp rSub (dOp rIx (dVar 2) (dVar 8)) (dOp rIx (dVar 2) (dVar 7)))) (dSeq (dSet 10 (dOp rSub (dOp rSub (dVar 9) (dOp rIx (dOp rIx (dVar 3) (dVar 7)) (dVar 8))) (dOp rMod (dCall S__law_cell (dCons (dVar 0) (dCons (dOp rAdd (dC (.int 102)) (dOp rMul (dC (.int 5)) (dVar 6))) dNil))) (dVar 4)))) (dSeq (dSet 11 (dOp rAdd (dOp rAdd (dVar 9) (dOp rIx (dOp rIx (dVar 3) (dVar 7)) (dVar 8))) (dOp rMod (dCall S__law_cell (dCons (dVar 0) (dCons (dOp rAdd (dC (.int 103)) (dOp rMul (dC (.int 5)) (dVar 6))) dNil))) (dVar 4)))) (dSeq (dSet 12 (dCall S__law_cell (dCons (dVar 0) (dCons (dOp rAdd (dC (.int 104)) (dOp rMul (dC (.int 5)) (dVar 6))) dNil)))) (dSeq (dIf (dAnd (dCmp rGt (dVar 4) (dC (.int 1))) (dCmp rEq (dOp rMod (dOp rDiv (dVar 12) (dC (.int 9))) (dC (.int 4))) (dC (.int 0)))) (dSet 10 (dOp rAdd (dVar 10) (dC (.int 2)))) dNext) (dSeq (dIf (dAnd (dCmp rGt (dVar 4) (dC (.int 1))) (dCmp rEq (dOp rMod (dOp rDiv (dVar 12) (dC (.int 36))) (dC (.int 4))) (dC (.int 0)))) (dSet 11 (dOp rSub (dVar 11) (dC (.int 2)))) dNext) (dSeq (dIf (dOr (dCmp rEq (dOp rMod (dVar 12) (dC (.int 9))) (dC (.int 0))) (dCmp rEq (dOp rMod (dVar 12) (dC (.int 9))) (dC (.int 2)))) (dSet 10 (dC .none)) dNext) (dSeq (dIf (dOr (dCmp rEq (dOp rMod (dVar 12) (dC (.int 9))) (dC (.int 1))) (dCmp rEq (dOp rMod (dVar 12) (dC (.int 9))) (dC (.int 2)))) (dSet 11 (dC .none)) dNext) (dApp 5 (dTup (dCons (dVar 7) (dCons (dVar 8) (dCons (dVar 10) (dCons (dVar 11) dNil))))))))))))))))) (dRet (dVar 5))))
/-- _law_safe(demands, errors): 0 demands, 1 errors, 2 safe, 3 low, 4 high, 5 least, 6 most, -/
def rd__law_safe : DS := (dSeq (dOwn 2 (dLst dNil)) (dSeq (dForL (dVar 0) (gTup 4 (gCons (gName 3) (gCons (gName 4) (gCons (gName 5) (gCons (gName 6) gNil))))) (dSeq (dIf (dCmp rIsNot (dVar 5) (dC .none)) (dSet 5 (dOp rAdd (dVar 5) (dOp rIx (dOp rIx (dVar 1) (dVar 3)) (dVar 4)))) dNext) (dSeq (dIf (dCmp rIsNot (dVar 6) (dC .none)) (dSet 6 (dOp rSub (dVar 6) (dOp rIx (dOp rIx (dVar 1) (dVar 3)) (dVar 4)))) dNext) (dApp 2 (dTup (dCons (dVar 3) (dCons (dVar 4) (dCons (dVar 5) (dCons (dVar 6) dNil))))))))) (dRet (dVar 2))))
/-- _law_is_same(told, due): 0 told, 1 due, 2 k, 3 at, -/
def rd__law_is_same (S__law_is_number : DSp) : DS := (dSeq (dIf (dOr (dNot (dTest (dUn (rKind isList) (dVar 0)))) (dCmp rNe (dUn rLen (dVar 0)) (dUn rLen (dVar 1)))) (dRet (dC (.bool false))) dNext) (dSeq (dForR1 (dUn rLen (dVar 1)) (gName 2) (dSeq (dIf (dOr (dNot (dTest (dUn (rKind isTup) (dOp rIx (dVar 0) (dVar 2))))) (dCmp rNe (dUn rLen (dOp rIx (dVar 0) (dVar 2))) (dC (.int 4)))) (dRet (dC (.bool false))) dNext) (dForR1 (dC (.int 4)) (gName 3) (dIf (dOr (dAnd (dCmp rIsNot (dOp rIx (dOp rIx (dVar 0) (dVar 2)) (dVar 3)) (dC .none)) (dNot (dTest (dCall S__law_is_number (dCons (dOp rIx (dOp rIx (dVar 0) (dVar 2)) (dVar 3)) dNil))))) (dCmp rNe (dOp rIx (dOp rIx (dVar 0) (dVar 2)) (dVar 3)) (dOp rIx (dOp rIx (dVar 1) (dVar 2)) (dVar 3)))) (dRet (dC (.bool false))) dNext)))) (dRet (dC (.bool true)))))
/-- _law_breaks(demands, root, listenings, plan, target, slips): 0 demands, 1 root, 2 listenings, 3 plan, 4 target, 5 slips, 6 at, -/
def rd__law_breaks (S__law_is_numbers S__law_meets S__law_heard : DSp) : DS := (dSeq (dIf (dNot (dTest (dCall S__law_is_numbers (dCons (dVar 5) (dCons (dUn rLen (dVar 3)) dNil))))) (dRet (dC (.bool false))) dNext) (dSeq (dForR1 (dUn rLen (dVar 3)) (gName 6) (dIf (dCmp rGt (dUn rAbs (dOp rIx (dVar 5) (dVar 6))) (dOp rIx (dOp rIx (dVar 2) (dOp rIx (dOp rIx (dVar 3) (dVar 6)) (dC (.int 2)))) (dC (.int 2)))) (dRet (dC (.bool false))) dNext)) (dRet (dNotV (dCall S__law_meets (dCons (dVar 0) (dCons (dCall S__law_heard (dCons (dVar 4) (dCons (dVar 1) (dCons (dVar 3) (dCons (dVar 5) dNil))))) dNil)))))))
/-- _law_is_right(size, demands, root, listenings, plan, target, errors): 0 size, 1 demands, 2 root, 3 listenings, 4 plan, 5 target, 6 errors, 7 passed, 8 safe, 9 told, -/
def rd__law_is_right_ec74 (S__law_safe S__law_is_same S_safe_demands S_breaking_errors S__law_meets S__law_breaks : DSp) : DS := (dSeq (dSet 7 (dLst (dCons (dUn rToList (dVar 1)) (dCons (dUn rToList (dVar 3)) (dCons (dUn rToList (dVar 4)) (dCons (dUn rToList (dVar 5)) dNil)))))) (dSeq (dSet 8 (dCall S__law_safe (dCons (dVar 1) (dCons (dVar 6) dNil)))) (dSeq (dIf (dNot (dTest (dCall S__law_is_same (dCons (dCall S_safe_demands (dCons (dVar 0) (dCons (dOp rIx (dVar 7) (dC (.int 0))) (dCons (dVar 2) (dCons (dOp rIx (dVar 7) (dC (.int 1))) (dCons (dOp rIx (dVar 7) (dC (.int 2))) dNil)))))) (dCons (dVar 8) dNil))))) (dRet (dC (.bool false))) dNext) (dSeq (dSet 9 (dCall S_breaking_errors (dCons (dVar 0) (dCons (dOp rIx (dVar 7) (dC (.int 0))) (dCons (dVar 2) (dCons (dOp rIx (dVar 7) (dC (.int 1))) (dCons (dOp rIx (dVar 7) (dC (.int 2))) (dCons (dOp rIx (dVar 7) (dC (.int 3))) dNil)))))))) (dSeq (dIf (dCmp rNe (dVar 7) (dLst (dCons (dVar 1) (dCons (dVar 3) (dCons (dVar 4) (dCons (dVar 5) dNil)))))) (dRet (dC (.bool false))) dNext) (dSeq (dIf (dTest (dCall S__law_meets (dCons (dVar 8) (dCons (dVar 5) dNil)))) (dRet (dBool (dCmp rIs (dVar 9) (dC .none)))) dNext) (dRet (dCall S__law_breaks (dCons (dVar 1) (dCons (dVar 2) (dCons (dVar 3) (dCons (dVar 4) (dCons (dVar 5) (dCons (dVar 9) dNil))))))))))))))
/-- law(script): 0 script, 1 draws, 2 size, 3 root, 4 listenings, 5 plan, 6 target, 7 k, 8 errors, 9 demands, 10 turn, 11 slips, 12 at, 13 error, 14 limit, 15 low, 16 high, 17 least, 18 most, 19 beyond, 20 moved, -/
def rd_law_a14d (S__law_draws S__law_house S__law_grown S__law_cell S__law_pair_errors S__law_demands S__law_is_right S__law_meets S__law_safe S__law_heard : DSp) : DS := (dSeq (dOwnA 1 (dCall S__law_draws (dCons (dVar 0) (dCons (dC (.int 160)) dNil)))) (dSeq (dIf (dCmp rEq (dOp rMod (dOp rIx (dVar 1) (dC (.int 1))) (dC (.int 8))) (dC (.int 3))) (dSetIx 1 (dOp rAdd (dOp rMod (dOp rIx (dVar 1) (dC (.int 0))) (dC (.int 7))) (dOp rMul (dC (.int 7)) (dOp rMod (dOp rDiv (dOp rIx (dVar 1) (dC (.int 0))) (dC (.int 7))) (dC (.int 18))))) (dC (.int 0))) dNext) (dSeq (dFrz 1 (dAsg (dCall S__law_house (dCons (dVar 1) dNil)) (gTup 3 (gCons (gName 2) (gCons (gName 3) (gCons (gName 4) gNil)))))) (dSeq (dSet 5 (dCall S__law_grown (dCons (dVar 1) (dCons (dVar 2) (dCons (dVar 3) (dCons (dVar 4) dNil)))))) (dSeq (dSet 6 (dLcR1 false (dVar 2) (gName 7) dYes (dOp rSub (dOp rMod (dCall S__law_cell (dCons (dVar 1) (dCons (dOp rAdd (dC (.int 145)) (dVar 7)) dNil))) (dC (.int 2001))) (dC (.int 1000))) [7])) (dSeq (dSet 8 (dCall S__law_pair_errors (dCons (dVar 2) (dCons (dVar 4) (dCons (dVar 5) dNil))))) (dSeq (dSet 9 (dCall S__law_demands (dCons (dVar 1) (dCons (dVar 2) (dCons (dVar 6) (dCons (dVar 8) (dCons (dC (.int 4)) dNil))))))) (dSeq (dIf (dNot (dTest (dCall S__law_is_right (dCons (dVar 2) (dCons (dVar 9) (dCons (dVar 3) (dCons (dVar 4) (dCons (dVar 5) (dCons (dVar 6) (dCons (dVar 8) dNil)))))))))) (dRet (dC (.bool false))) dNext) (dSeq (dIf (dTest (dCall S__law_meets (dCons (dCall S__law_safe (dCons (dVar 9) (dCons (dVar 8) dNil))) (dCons (dVar 6) dNil)))) (dForR1 (dC (.int 4)) (gName 10) (dSeq (dOwn 11 (dLst dNil)) (dSeq (dForR1 (dUn rLen (dVar 5)) (gName 12) (dSeq (dSet 13 (dOp rIx (dOp rIx (dVar 4) (dOp rIx (dOp rIx (dVar 5) (dVar 12)) (dC (.int 2)))) (dC (.int 2)))) (dApp 11 (dOp rSub (dOp rMod (dOp rAdd (dOp rMul (dCall S__law_cell (dCons (dVar 1) (dCons (dOp rAdd (dOp rAdd (dC (.int 20)) (dVar 12)) (dOp rMul (dC (.int 9)) (dVar 10))) dNil))) (dC (.int 1000003))) (dOp rMul (dC (.int 77)) (dVar 12))) (dOp rAdd (dOp rMul (dC (.int 2)) (dVar 13)) (dC (.int 1)))) (dVar 13))))) (dFrz 11 (dIf (dNot (dTest (dCall S__law_meets (dCons (dVar 9) (dCons (dCall S__law_heard (dCons (dVar 6) (dCons (dVar 3) (dCons (dVar 5) (dCons (dVar 11) dNil))))) dNil))))) (dRet (dC (.bool false))) dNext))))) dNext) (dSeq (dSet 14 (dCall S__law_demands (dCons (dVar 1) (dCons (dVar 2) (dCons (dVar 6) (dCons (dVar 8) (dCons (dC (.int 1)) dNil))))))) (dSeq (dIf (dNot (dTest (dCall S__law_is_right (dCons (dVar 2) (dCons (dVar 14) (dCons (dVar 3) (dCons (dVar 4) (dCons (dVar 5) (dCons (dVar 6) (dCons (dVar 8) dNil)))))))))) (dRet (dC (.bool false))) dNext) (dSeq (dIf (dCmp rGt (dUn rLen (dVar 14)) (dC (.int 0))) (dSeq (dSet 12 (dOp rMod (dOp rIx (dVar 1) (dC (.int 141))) (dUn rLen (dVar 14)))) (dSeq (dAsg (dOp rIx (dVar 14) (dVar 12)) (gTup 4 (gCons (gName 15) (gCons (gName 16) (gCons (gName 17) (gCons (gName 18) gNil)))))) (dSeq (dIf (dCmp rIsNot (dVar 18) (dC .none)) (dSet 18 (dOp rSub (dVar 18) (dC (.int 1)))) (dIf (dCmp rIsNot (dVar 17) (dC .none)) (dSet 17 (dOp rAdd (dVar 17) (dC (.int 1)))) dNext)) (dSeq (dSet 19 (dOp rAdd (dOp rAdd (dSl (dVar 14) dNo (dPart (dVar 12))) (dLst (dCons (dTup (dCons (dVar 15) (dCons (dVar 16) (dCons (dVar 17) (dCons (dVar 18) dNil))))) dNil))) (dSl (dVar 14) (dPart (dOp rAdd (dVar 12) (dC (.int 1)))) dNo))) (dIf (dNot (dTest (dCall S__law_is_right (dCons (dVar 2) (dCons (dVar 19) (dCons (dVar 3) (dCons (dVar 4) (dCons (dVar 5) (dCons (dVar 6) (dCons (dVar 8) dNil)))))))))) (dRet (dC (.bool false))) dNext))))) dNext) (dSeq (dOwn 20 (dUn rToList (dVar 6))) (dSeq (dSetIx 20 (dOp rSub (dOp rAdd (dOp rIx (dVar 20) (dOp rMod (dOp rIx (dVar 1) (dC (.int 142))) (dVar 2))) (dOp rMod (dOp rIx (dVar 1) (dC (.int 143))) (dC (.int 3)))) (dC (.int 1))) (dOp rMod (dOp rIx (dVar 1) (dC (.int 142))) (dVar 2))) (dSeq (dFrz 20 (dIf (dNot (dTest (dCall S__law_is_right (dCons (dVar 2) (dCons (dVar 9) (dCons (dVar 3) (dCons (dVar 4) (dCons (dVar 5) (dCons (dVar 20) (dCons (dVar 8) dNil)))))))))) (dRet (dC (.bool false))) dNext)) (dRet (dCall S__law_is_right (dCons (dVar 2) (dCons (dVar 9) (dCons (dVar 3) (dCons (dVar 4) (dCons (dVar 5) (dCons (dVar 6) (dCons (dVar 8) dNil))))))))))))))))))))))))
/-- offsets_after(size, turns): 0 size, 1 turns, 2 offsets, 3 player, 4 model, 5 slip, -/
def rd_offsets_after : DS := (dSeq (dOwn 2 (dOp rMul (dLst (dCons (dC (.int 0)) dNil)) (dVar 0))) (dSeq (dForL (dVar 1) (gTup 3 (gCons (gName 3) (gCons (gName 4) (gCons (gName 5) gNil)))) (dSetIx 2 (dOp rAdd (dOp rIx (dVar 2) (dVar 4)) (dVar 5)) (dVar 3))) (dRet (dVar 2))))
/-- all_heard(size, turns): 0 size, 1 turns, 2 heard, 3 player, 4 at, 5 model, 6 slip, -/
def rd_all_heard : DS := (dSeq (dOwnM 2 (dLcR1 true (dVar 0) (gName 3) dYes (dLst dNil) [3])) (dSeq (dForR1 (dUn rLen (dVar 1)) (gName 4) (dSeq (dAsg (dOp rIx (dVar 1) (dVar 4)) (gTup 3 (gCons (gName 3) (gCons (gName 5) (gCons (gName 6) gNil))))) (dSetIx 2 (dOp rAdd (dOp rIx (dVar 2) (dVar 5)) (dLst (dCons (dNL (dVar 4)) dNil))) (dVar 3)))) (dRetF (dVar 2))))
/-- slips_heard(size, turns, player): 0 size, 1 turns, 2 player, -/
def rd_slips_heard (S_all_heard : DSp) : DS := (dRetF (dOp rIx (dCall S_all_heard (dCons (dVar 0) (dCons (dVar 1) dNil))) (dVar 2)))
/-- greatest_apart(size, turns, errors, first, second): 0 size, 1 turns, 2 errors, 3 first, 4 second, 5 heard, 6 at, -/
def rd_greatest_apart (S_all_heard S_parting : DSp) : DS := (dSeq (dSet 5 (dCall S_all_heard (dCons (dVar 0) (dCons (dVar 1) dNil)))) (dRet (dUn rSum (dLcL false (dCall S_parting (dCons (dOp rIx (dVar 5) (dVar 3)) (dCons (dOp rIx (dVar 5) (dVar 4)) dNil))) (gName 6) dYes (dOp rIx (dVar 2) (dVar 6)) [6]))))
/-- _law_world(draws): 0 draws, 1 size, 2 many, 3 scale, 4 turns, 5 k, 6 player, 7 model, -/
def rd__law_world_02d4 (S__law_cell : DSp) : DS := (dSeq (dSet 1 (dOp rAdd (dC (.int 2)) (dOp rMod (dOp rIx (dVar 0) (dC (.int 0))) (dC (.int 6))))) (dSeq (dSet 2 (dOp rMod (dOp rDiv (dOp rIx (dVar 0) (dC (.int 1))) (dC (.int 8))) (dC (.int 25)))) (dSeq (dIf (dCmp rEq (dOp rMod (dOp rIx (dVar 0) (dC (.int 1))) (dC (.int 8))) (dC (.int 2))) (dSeq (dSet 1 (dOp rAdd (dC (.int 8)) (dOp rMod (dOp rDiv (dOp rIx (dVar 0) (dC (.int 0))) (dC (.int 6))) (dC (.int 53))))) (dSet 2 (dOp rMod (dOp rDiv (dOp rIx (dVar 0) (dC (.int 1))) (dC (.int 8))) (dC (.int 151))))) dNext) (dSeq (dSet 3 (dC (.int 1))) (dSeq (dIf (dCmp rEq (dOp rMod (dOp rIx (dVar 0) (dC (.int 1))) (dC (.int 8))) (dC (.int 4))) (dSet 3 (dOp rAdd (dOp rPow (dC (.int 10)) (dC (.int 9))) (dOp rIx (dVar 0) (dC (.int 2))))) dNext) (dSeq (dOwn 4 (dLst dNil)) (dSeq (dForR1 (dVar 2) (gName 5) (dSeq (dSet 6 (dOp rMod (dCall S__law_cell (dCons (dVar 0) (dCons (dOp rAdd (dC (.int 3)) (dOp rMul (dC (.int 3)) (dVar 5))) dNil))) (dVar 1))) (dSeq (dSet 7 (dOp rMod (dOp rAdd (dOp rAdd (dVar 6) (dC (.int 1))) (dOp rMod (dCall S__law_cell (dCons (dVar 0) (dCons (dOp rAdd (dC (.int 4)) (dOp rMul (dC (.int 3)) (dVar 5))) dNil))) (dOp rSub (dVar 1) (dC (.int 1))))) (dVar 1))) (dApp 4 (dTup (dCons (dVar 6) (dCons (dVar 7) (dCons (dOp rMul (dOp rSub (dOp rMod (dCall S__law_cell (dCons (dVar 0) (dCons (dOp rAdd (dC (.int 5)) (dOp rMul (dC (.int 3)) (dVar 5))) dNil))) (dC (.int 41))) (dC (.int 20))) (dVar 3)) dNil)))))))) (dFrz 4 (dRet (dTup (dCons (dVar 1) (dCons (dVar 4) dNil))))))))))))
/-- _law_offsets(size, turns): 0 size, 1 turns, 2 offsets, 3 player, 4 model, 5 slip, -/
def rd__law_offsets : DS := (dSeq (dOwn 2 (dOp rMul (dLst (dCons (dC (.int 0)) dNil)) (dVar 0))) (dSeq (dForL (dVar 1) (gTup 3 (gCons (gName 3) (gCons (gName 4) (gCons (gName 5) gNil)))) (dSetIx 2 (dOp rAdd (dOp rIx (dVar 2) (dVar 4)) (dVar 5)) (dVar 3))) (dRet (dVar 2))))
/-- sounding(tuning, period, place): 0 tuning, 1 period, 2 place, 3 string, 4 octave, -/
def rd_sounding : DS := (dSeq (dAsg (dVar 2) (gTup 2 (gCons (gName 3) (gCons (gName 4) gNil)))) (dRet (dOp rAdd (dOp rIx (dVar 0) (dVar 3)) (dOp rMul (dVar 1) (dVar 4)))))
/-- place_of_note(note, count): 0 note, 1 count, -/
def rd_place_of_note : DS := (dRet (dTup (dCons (dOp rMod (dVar 0) (dVar 1)) (dCons (dOp rDiv (dVar 0) (dVar 1)) dNil))))
/-- taste_of(tastes, width): 0 tastes, 1 width, 2 taste, -/
def rd_taste_of : DS := (dSeq (dForL (dVar 0) (gName 2) (dIf (dCmp rEq (dOp rIx (dVar 2) (dC (.int 0))) (dVar 1)) (dRet (dVar 2)) dNext)) (dRet (dC .none)))
/-- tasted_pairs(chord, tastes): 0 chord, 1 tastes, 2 found, 3 i, 4 j, 5 taste, -/
def rd_tasted_pairs (S_taste_of : DSp) : DS := (dSeq (dOwn 2 (dLst dNil)) (dSeq (dForR1 (dUn rLen (dVar 0)) (gName 3) (dForR2 (dOp rAdd (dVar 3) (dC (.int 1))) (dUn rLen (dVar 0)) (gName 4) (dSeq (dSet 5 (dCall S_taste_of (dCons (dVar 1) (dCons (dOp rSub (dOp rIx (dVar 0) (dVar 4)) (dOp rIx (dVar 0) (dVar 3))) dNil)))) (dIf (dCmp rIsNot (dVar 5) (dC .none)) (dApp 2 (dTup (dCons (dOp rIx (dVar 0) (dVar 3)) (dCons (dOp rIx (dVar 0) (dVar 4)) (dCons (dOp rIx (dVar 5) (dC (.int 1))) (dCons (dOp rIx (dVar 5) (dC (.int 2))) dNil)))))) dNext)))) (dRet (dVar 2))))
/-- piece_placed(count, piece, tastes): 0 count, 1 piece, 2 tastes, 3 placed, 4 chord, 5 low, 6 high, 7 least, 8 most, -/
def rd_piece_placed (S_tasted_pairs S_place_of_note : DSp) : DS := (dSeq (dOwn 3 (dLst dNil)) (dSeq (dForL (dVar 1) (gName 4) (dForL (dCall S_tasted_pairs (dCons (dVar 4) (dCons (dVar 2) dNil))) (gTup 4 (gCons (gName 5) (gCons (gName 6) (gCons (gName 7) (gCons (gName 8) gNil))))) (dApp 3 (dTup (dCons (dCall S_place_of_note (dCons (dVar 5) (dCons (dVar 0) dNil))) (dCons (dCall S_place_of_note (dCons (dVar 6) (dCons (dVar 0) dNil))) (dCons (dVar 7) (dCons (dVar 8) dNil)))))))) (dRet (dVar 3))))
/-- distance(count, period, tuning, low, high): 0 count, 1 period, 2 tuning, 3 low, 4 high, 5 top, -/
def rd_distance (S_sounding S_place_of_note : DSp) : DS := (dSeq (dSet 5 (dCall S_sounding (dCons (dVar 2) (dCons (dVar 1) (dCons (dCall S_place_of_note (dCons (dVar 4) (dCons (dVar 0) dNil))) dNil))))) (dRet (dOp rSub (dVar 5) (dCall S_sounding (dCons (dVar 2) (dCons (dVar 1) (dCons (dCall S_place_of_note (dCons (dVar 3) (dCons (dVar 0) dNil))) dNil)))))))
/-- breaches(count, period, tuning, piece, tastes): 0 count, 1 period, 2 tuning, 3 piece, 4 tastes, 5 found, 6 at, 7 low, 8 high, 9 least, 10 most, 11 width, -/
def rd_breaches (S_tasted_pairs S_distance S_within : DSp) : DS := (dSeq (dOwn 5 (dLst dNil)) (dSeq (dForR1 (dUn rLen (dVar 3)) (gName 6) (dForL (dCall S_tasted_pairs (dCons (dOp rIx (dVar 3) (dVar 6)) (dCons (dVar 4) dNil))) (gTup 4 (gCons (gName 7) (gCons (gName 8) (gCons (gName 9) (gCons (gName 10) gNil))))) (dSeq (dSet 11 (dCall S_distance (dCons (dVar 0) (dCons (dVar 1) (dCons (dVar 2) (dCons (dVar 7) (dCons (dVar 8) dNil))))))) (dIf (dNot (dTest (dCall S_within (dCons (dVar 11) (dCons (dVar 9) (dCons (dVar 10) dNil)))))) (dApp 5 (dTup (dCons (dVar 6) (dCons (dVar 7) (dCons (dVar 8) (dCons (dVar 11) dNil)))))) dNext)))) (dRet (dVar 5))))
/-- _law_same_row(found, due): 0 found, 1 due, 2 k, -/
def rd__law_same_row (S__law_is_number : DSp) : DS := (dSeq (dIf (dOr (dNot (dTest (dUn (rKind isTup) (dVar 0)))) (dCmp rNe (dUn rLen (dVar 0)) (dUn rLen (dVar 1)))) (dRet (dC (.bool false))) dNext) (dSeq (dForR1 (dUn rLen (dVar 1)) (gName 2) (dIf (dCmp rIs (dOp rIx (dVar 1) (dVar 2)) (dC .none)) (dIf (dCmp rIsNot (dOp rIx (dVar 0) (dVar 2)) (dC .none)) (dRet (dC (.bool false))) dNext) (dIf (dOr (dNot (dTest (dCall S__law_is_number (dCons (dOp rIx (dVar 0) (dVar 2)) dNil)))) (dCmp rNe (dOp rIx (dVar 0) (dVar 2)) (dOp rIx (dVar 1) (dVar 2)))) (dRet (dC (.bool false))) dNext))) (dRet (dC (.bool true)))))
/-- _law_unlike(numbers): 0 numbers, 1 result, 2 number, -/
def rd__law_unlike : DS := (dSeq (dOwn 1 (dLst dNil)) (dSeq (dForL (dUn rSorted (dVar 0)) (gName 2) (dIf (dOr (dCmp rEq (dUn rLen (dVar 1)) (dC (.int 0))) (dCmp rNe (dOp rIx (dVar 1) (dUn rNeg (dC (.int 1)))) (dVar 2))) (dApp 1 (dVar 2)) dNext)) (dRet (dVar 1))))
/-- _law_place(note, count): 0 note, 1 count, 2 octave, -/
def rd__law_place : DS := (dSeq (dSet 2 (dOp rDiv (dVar 0) (dVar 1))) (dRet (dTup (dCons (dOp rSub (dVar 0) (dOp rMul (dVar 1) (dVar 2))) (dCons (dVar 2) dNil)))))
/-- _law_pairs(chord, tastes): 0 chord, 1 tastes, 2 result, 3 low, 4 high, 5 width, 6 least, 7 most, -/
def rd__law_pairs : DS := (dSeq (dOwn 2 (dLst dNil)) (dSeq (dForL (dVar 0) (gName 3) (dForL (dVar 0) (gName 4) (dForL (dVar 1) (gTup 3 (gCons (gName 5) (gCons (gName 6) (gCons (gName 7) gNil)))) (dIf (dAnd (dCmp rLt (dVar 3) (dVar 4)) (dCmp rEq (dOp rSub (dVar 4) (dVar 3)) (dVar 5))) (dApp 2 (dTup (dCons (dVar 3) (dCons (dVar 4) (dCons (dVar 6) (dCons (dVar 7) dNil)))))) dNext)))) (dRet (dVar 2))))
/-- _law_note_pitch(tuning, period, note): 0 tuning, 1 period, 2 note, 3 place, -/
def rd__law_note_pitch (S__law_place : DSp) : DS := (dSeq (dSet 3 (dCall S__law_place (dCons (dVar 2) (dCons (dUn rLen (dVar 0)) dNil)))) (dRet (dOp rAdd (dOp rIx (dVar 0) (dOp rIx (dVar 3) (dC (.int 0)))) (dOp rMul (dVar 1) (dOp rIx (dVar 3) (dC (.int 1)))))))
/-- _law_piece_world(draws): 0 draws, 1 count, 2 unit, 3 period, 4 hidden, 5 k, 6 tastes, 7 width, 8 taste, 9 low, 10 apart, 11 least, 12 most, 13 base, 14 piece, 15 i, -/
def rd__law_piece_world (S__law_note_pitch S__law_unlike : DSp) : DS := (dSeq (dSet 1 (dOp rAdd (dC (.int 1)) (dOp rMod (dOp rIx (dVar 0) (dC (.int 0))) (dC (.int 7))))) (dSeq (dSet 2 (dC (.int 1))) (dSeq (dSet 3 (dOp rAdd (dC (.int 6)) (dOp rMod (dOp rDiv (dOp rIx (dVar 0) (dC (.int 2))) (dC (.int 3))) (dC (.int 30))))) (dSeq (dIf (dCmp rEq (dOp rMod (dOp rIx (dVar 0) (dC (.int 1))) (dC (.int 8))) (dC (.int 0))) (dSeq (dSet 2 (dOp rAdd (dOp rPow (dC (.int 10)) (dC (.int 9))) (dOp rIx (dVar 0) (dC (.int 3))))) (dSet 3 (dOp rAdd (dOp rPow (dC (.int 10)) (dC (.int 10))) (dOp rMul (dOp rIx (dVar 0) (dC (.int 3))) (dOp rPow (dC (.int 10)) (dC (.int 4))))))) dNext) (dSeq (dIf (dCmp rEq (dOp rMod (dOp rIx (dVar 0) (dC (.int 1))) (dC (.int 8))) (dC (.int 1))) (dSet 1 (dOp rAdd (dC (.int 8)) (dOp rMod (dOp rIx (dVar 0) (dC (.int 0))) (dC (.int 53))))) dNext) (dSeq (dSet 4 (dLcR1 false (dVar 1) (gName 5) dYes (dOp rMul (dOp rAdd (dOp rSub (dOp rMod (dOp rIx (dVar 0) (dOp rAdd (dC (.int 4)) (dOp rMod (dVar 5) (dC (.int 12))))) (dC (.int 41))) (dC (.int 20))) (dOp rDiv (dVar 5) (dC (.int 12)))) (dVar 2)) [5])) (dSeq (dOwn 6 (dLst dNil)) (dSeq (dForR1 (dOp rMod (dOp rIx (dVar 0) (dC (.int 16))) (dC (.int 5))) (gName 5) (dSeq (dSet 7 (dOp rAdd (dC (.int 1)) (dOp rMod (dOp rIx (dVar 0) (dOp rAdd (dC (.int 17)) (dVar 5))) (dC (.int 9))))) (dIf (dCmp rNotIn (dVar 7) (dLcL false (dVar 6) (gName 8) dYes (dOp rIx (dVar 8) (dC (.int 0))) [8])) (dSeq (dSet 9 (dOp rMod (dOp rIx (dVar 0) (dOp rAdd (dC (.int 21)) (dVar 5))) (dC (.int 30)))) (dSeq (dSet 10 (dOp rSub (dCall S__law_note_pitch (dCons (dVar 4) (dCons (dVar 3) (dCons (dOp rAdd (dVar 9) (dVar 7)) dNil)))) (dCall S__law_note_pitch (dCons (dVar 4) (dCons (dVar 3) (dCons (dVar 9) dNil)))))) (dSeq (dSet 11 (dOp rSub (dVar 10) (dOp rMod (dOp rIx (dVar 0) (dOp rAdd (dC (.int 25)) (dVar 5))) (dOp rMul (dC (.int 6)) (dVar 2))))) (dSeq (dSet 12 (dOp rAdd (dVar 10) (dOp rMod (dOp rIx (dVar 0) (dOp rAdd (dC (.int 29)) (dVar 5))) (dOp rMul (dC (.int 6)) (dVar 2))))) (dSeq (dIf (dCmp rEq (dOp rMod (dOp rIx (dVar 0) (dC (.int 2))) (dC (.int 3))) (dC (.int 2))) (dSeq (dSet 11 (dOp rSub (dOp rAdd (dVar 10) (dOp rMod (dOp rIx (dVar 0) (dOp rAdd (dC (.int 25)) (dVar 5))) (dC (.int 21)))) (dC (.int 10)))) (dSet 12 (dOp rAdd (dVar 11) (dOp rMod (dOp rIx (dVar 0) (dOp rAdd (dC (.int 29)) (dVar 5))) (dC (.int 6)))))) dNext) (dSeq (dIf (dCmp rEq (dOp rMod (dOp rIx (dVar 0) (dOp rAdd (dC (.int 33)) (dVar 5))) (dC (.int 7))) (dC (.int 0))) (dSet 11 (dC .none)) dNext) (dSeq (dIf (dCmp rEq (dOp rMod (dOp rIx (dVar 0) (dOp rAdd (dC (.int 33)) (dVar 5))) (dC (.int 7))) (dC (.int 1))) (dSet 12 (dC .none)) dNext) (dApp 6 (dTup (dCons (dVar 7) (dCons (dVar 11) (dCons (dVar 12) dNil)))))))))))) dNext))) (dSeq (dSet 13 (dC (.int 0))) (dSeq (dIf (dCmp rEq (dOp rMod (dOp rDiv (dOp rIx (dVar 0) (dC (.int 1))) (dC (.int 8))) (dC (.int 4))) (dC (.int 0))) (dSet 13 (dOp rSub (dOp rIx (dVar 0) (dC (.int 37))) (dC (.int 500000)))) dNext) (dSeq (dOwn 14 (dLst dNil)) (dSeq (dForR1 (dOp rMod (dOp rIx (dVar 0) (dC (.int 38))) (dC (.int 5))) (gName 5) (dApp 14 (dCall S__law_unlike (dCons (dLcR1 false (dOp rMod (dOp rIx (dVar 0) (dOp rAdd (dC (.int 59)) (dVar 5))) (dC (.int 6))) (gName 15) dYes (dOp rSub (dOp rAdd (dVar 13) (dOp rMod (dOp rIx (dVar 0) (dOp rAdd (dOp rAdd (dC (.int 39)) (dOp rMul (dC (.int 5)) (dVar 5))) (dVar 15))) (dC (.int 25)))) (dC (.int 9))) [15]) dNil)))) (dFrz 6 (dFrz 14 (dRet (dTup (dCons (dVar 1) (dCons (dVar 3) (dCons (dVar 4) (dCons (dVar 14) (dCons (dVar 6) dNil)))))))))))))))))))))
/-- _law_same_rows(found, due): 0 found, 1 due, 2 at, -/
def rd__law_same_rows (S__law_same_row : DSp) : DS := (dSeq (dIf (dOr (dNot (dTest (dUn (rKind isList) (dVar 0)))) (dCmp rNe (dUn rLen (dVar 0)) (dUn rLen (dVar 1)))) (dRet (dC (.bool false))) dNext) (dSeq (dForR1 (dUn rLen (dVar 1)) (gName 2) (dIf (dNot (dTest (dCall S__law_same_row (dCons (dOp rIx (dVar 0) (dVar 2)) (dCons (dOp rIx (dVar 1) (dVar 2)) dNil))))) (dRet (dC (.bool false))) dNext)) (dRet (dC (.bool true)))))
/-- _law_breaches(period, tuning, piece, tastes): 0 period, 1 tuning, 2 piece, 3 tastes, 4 result, 5 at, 6 low, 7 high, 8 least, 9 most, 10 apart, -/
def rd__law_breaches (S__law_pairs S__law_note_pitch : DSp) : DS := (dSeq (dOwn 4 (dLst dNil)) (dSeq (dForR1 (dUn rLen (dVar 2)) (gName 5) (dForL (dCall S__law_pairs (dCons (dOp rIx (dVar 2) (dVar 5)) (dCons (dVar 3) dNil))) (gTup 4 (gCons (gName 6) (gCons (gName 7) (gCons (gName 8) (gCons (gName 9) gNil))))) (dSeq (dSet 10 (dOp rSub (dCall S__law_note_pitch (dCons (dVar 1) (dCons (dVar 0) (dCons (dVar 7) dNil)))) (dCall S__law_note_pitch (dCons (dVar 1) (dCons (dVar 0) (dCons (dVar 6) dNil)))))) (dIf (dOr (dAnd (dCmp rIsNot (dVar 8) (dC .none)) (dCmp rLt (dVar 10) (dVar 8))) (dAnd (dCmp rIsNot (dVar 9) (dC .none)) (dCmp rGt (dVar 10) (dVar 9)))) (dApp 4 (dTup (dCons (dVar 5) (dCons (dVar 6) (dCons (dVar 7) (dCons (dVar 10) dNil)))))) dNext)))) (dRet (dVar 4))))
/-- unmet(demands, tuning): 0 demands, 1 tuning, 2 found, 3 at, 4 low, 5 high, 6 least, 7 most, -/
def rd_unmet (S_within : DSp) : DS := (dSeq (dOwn 2 (dLst dNil)) (dSeq (dForR1 (dUn rLen (dVar 0)) (gName 3) (dSeq (dAsg (dOp rIx (dVar 0) (dVar 3)) (gTup 4 (gCons (gName 4) (gCons (gName 5) (gCons (gName 6) (gCons (gName 7) gNil)))))) (dIf (dNot (dTest (dCall S_within (dCons (dOp rSub (dOp rIx (dVar 1) (dVar 5)) (dOp rIx (dVar 1) (dVar 4))) (dCons (dVar 6) (dCons (dVar 7) dNil)))))) (dApp 2 (dVar 3)) dNext))) (dRet (dVar 2))))
/-- bound_at(base, rate, x): 0 base, 1 rate, 2 x, -/
def rd_bound_at : DS := (dSeq (dIf (dCmp rIs (dVar 0) (dC .none)) (dRet (dC .none)) dNext) (dRet (dOp rAdd (dVar 0) (dOp rMul (dVar 2) (dVar 1)))))
/-- demand_at(demand, x): 0 demand, 1 x, 2 low, 3 high, 4 least, 5 least_rate, 6 most, 7 most_rate, -/
def rd_demand_at (S_bound_at : DSp) : DS := (dSeq (dAsg (dVar 0) (gTup 6 (gCons (gName 2) (gCons (gName 3) (gCons (gName 4) (gCons (gName 5) (gCons (gName 6) (gCons (gName 7) gNil)))))))) (dRet (dTup (dCons (dVar 2) (dCons (dVar 3) (dCons (dCall S_bound_at (dCons (dVar 4) (dCons (dVar 5) (dCons (dVar 1) dNil)))) (dCons (dCall S_bound_at (dCons (dVar 6) (dCons (dVar 7) (dCons (dVar 1) dNil)))) dNil)))))))
/-- demands_at(moving, x): 0 moving, 1 x, 2 demand, -/
def rd_demands_at (S_demand_at : DSp) : DS := (dRet (dLcL false (dVar 0) (gName 2) dYes (dCall S_demand_at (dCons (dVar 2) (dCons (dVar 1) dNil))) [2]))
/-- moving_octave(demand): 0 demand, 1 low, 2 high, 3 least, 4 most, 5 apart, -/
def rd_moving_octave : DS := (dSeq (dAsg (dVar 0) (gTup 4 (gCons (gName 1) (gCons (gName 2) (gCons (gName 3) (gCons (gName 4) gNil)))))) (dSeq (dSet 5 (dOp rSub (dOp rIx (dVar 2) (dC (.int 1))) (dOp rIx (dVar 1) (dC (.int 1))))) (dRet (dTup (dCons (dOp rIx (dVar 1) (dC (.int 0))) (dCons (dOp rIx (dVar 2) (dC (.int 0))) (dCons (dVar 3) (dCons (dUn rNeg (dVar 5)) (dCons (dVar 4) (dCons (dUn rNeg (dVar 5)) dNil))))))))))
/-- moving_octaves(placed): 0 placed, 1 demand, -/
def rd_moving_octaves (S_moving_octave : DSp) : DS := (dRet (dLcL false (dVar 0) (gName 1) dYes (dCall S_moving_octave (dCons (dVar 1) dNil)) [1]))
/-- placed_at(placed, period): 0 placed, 1 period, -/
def rd_placed_at (S_demands_at S_moving_octaves : DSp) : DS := (dRet (dCall S_demands_at (dCons (dCall S_moving_octaves (dCons (dVar 0) dNil)) (dCons (dVar 1) dNil))))
/-- _law_all_pairs(piece, tastes): 0 piece, 1 tastes, 2 result, 3 at, 4 low, 5 high, 6 least, 7 most, -/
def rd__law_all_pairs (S__law_pairs : DSp) : DS := (dSeq (dOwn 2 (dLst dNil)) (dSeq (dForR1 (dUn rLen (dVar 0)) (gName 3) (dForL (dCall S__law_pairs (dCons (dOp rIx (dVar 0) (dVar 3)) (dCons (dVar 1) dNil))) (gTup 4 (gCons (gName 4) (gCons (gName 5) (gCons (gName 6) (gCons (gName 7) gNil))))) (dApp 2 (dTup (dCons (dVar 3) (dCons (dVar 4) (dCons (dVar 5) dNil))))))) (dRet (dVar 2))))
end RD

set_option Elab.async false
set_option linter.all false
set_option maxRecDepth 100000
/-! DX: how readings are shown. -/
namespace DL
open PySem

theorem sz {n : Nat} (h : n ≤ 16000000) : n ≤ sizeLine := Nat.le_trans h (by decide)
theorem szlt {n : Nat} (h : n < 16000000) : n < sizeLine := Nat.lt_of_lt_of_le h (by decide)
theorem sm {i : Int} (h1 : -4611686018427387904 ≤ i) (h2 : i < 4611686018427387904) : Sm i := ⟨by simpa using h1, by simpa using h2⟩

/-- a for over a list: S holds ahead of each turn -/
theorem for_inv {α : Type} {l : Lv} {g : DG} {tb : DS} {D : Ed} {σ : Ds} (en : α → PyData) (xs : List α) (S : Nat → Ds → Prop) (h0 : S 0 σ)
    (hs : ∀ (i : Nat) (hi : i < xs.length) (σ : Ds) (K : Ds → Prop), S i σ → (∀ σ', S (i + 1) σ' → K σ') → g l (en xs[i]) σ fun σ' => tb { D with nx := K, ct := K, bk := D.nx } σ') (hd : ∀ σ, S xs.length σ → D.nx σ) : forGo l g tb (xs.map en) D σ := by
  have main : ∀ (m i : Nat) (σ : Ds), i + m = xs.length → S i σ → forGo l g tb ((xs.drop i).map en) D σ := by
    intro m
    induction m with
    | zero =>
      intro i σ e h
      have e' : i = xs.length := by omega
      subst e'
      rw [List.drop_length]
      exact hd σ h
    | succ m ih =>
      intro i σ e h
      have hi : i < xs.length := by omega
      rw [List.drop_eq_getElem_cons hi]
      exact hs i hi σ _ h fun σ' h' => ih (i + 1) σ' (by omega) h'
  have := main xs.length 0 σ (by omega) h0
  exact this
theorem for_upTo {l : Lv} {g : DG} {tb : DS} {D : Ed} {σ : Ds} {lo : Int} {n : Nat} (S : Nat → Ds → Prop) (h0 : S 0 σ)
    (hs : ∀ (i : Nat) (σ : Ds) (K : Ds → Prop), i < n → S i σ → (∀ σ', S (i + 1) σ' → K σ') → g l (.int (lo + (i : Int))) σ fun σ' => tb { D with nx := K, ct := K, bk := D.nx } σ') (hd : ∀ σ, S n σ → D.nx σ) : forGo l g tb (upTo lo n) D σ := by
  refine for_inv (fun (k : Nat) => PyData.int (lo + (k : Int))) (List.range n) S h0 (fun i hi σ K h k => ?_) (by rw [List.length_range]; exact hd)
  rw [List.getElem_range]
  exact hs i σ K (by rw [List.length_range] at hi; exact hi) h k
/-- a comprehension -/
theorem lc_opt {α : Type} {f : Bool} {l : Lv} {g : DG} {tt : DT} {te : DE} {σ : Ds} {Q : List PyData → Prop} (en : α → PyData) (xs : List α) (o : α → Option PyData) (hl : xs.length ≤ 10000000)
    (hs : ∀ x ∈ xs, ∀ (P : PyData → Prop) (N : Prop), (∀ d, o x = some d → P d) → (o x = none → N) → g l (en x) σ fun σ' => tt σ' fun b => br b (te σ' fun fl d => fz fl fun k => okF f k (P d)) N) (h : Q (xs.filterMap o)) : lcGo f l g tt te σ (xs.map en) [] Q := by
  have main : ∀ (ys : List α) (acc : List PyData), (∀ y ∈ ys, y ∈ xs) → acc.length + ys.length ≤ 10000000 → Q (acc ++ ys.filterMap o) → lcGo f l g tt te σ (ys.map en) acc Q := by
    intro ys
    induction ys with
    | nil =>
      intro acc _ _ h
      rw [List.filterMap_nil, List.append_nil] at h
      exact h
    | cons y ys ih =>
      intro acc hm hl h
      rw [List.length_cons] at hl
      refine hs y (hm y List.mem_cons_self) _ _ (fun d e => ⟨szlt (by omega), ?_⟩) (fun e => ?_)
      · refine ih _ (fun z hz => hm z (List.mem_cons_of_mem _ hz)) (by rw [List.length_append, List.length_singleton]; omega) ?_
        rw [List.filterMap_cons_some e] at h
        rw [List.append_assoc]
        exact h
      · refine ih _ (fun z hz => hm z (List.mem_cons_of_mem _ hz)) (by omega) ?_
        rw [List.filterMap_cons_none e] at h
        exact h
  exact main xs [] (fun _ h => h) (by simpa using hl) h
theorem lc_map {α : Type} {f : Bool} {l : Lv} {g : DG} {tt : DT} {te : DE} {σ : Ds} {Q : List PyData → Prop} (en : α → PyData) (xs : List α) (o : α → PyData) (hl : xs.length ≤ 10000000)
    (hs : ∀ x ∈ xs, ∀ (P : PyData → Prop) (N : Prop), P (o x) → g l (en x) σ fun σ' => tt σ' fun b => br b (te σ' fun fl d => fz fl fun k => okF f k (P d)) N) (h : Q (xs.map o)) : lcGo f l g tt te σ (xs.map en) [] Q := by
  refine lc_opt en xs (fun x => some (o x)) hl (fun x hx P N hp _ => hs x hx P N (hp _ rfl)) ?_
  rw [List.filterMap_eq_map']
  exact h
theorem lc_upTo {f : Bool} {l : Lv} {g : DG} {tt : DT} {te : DE} {σ : Ds} {Q : List PyData → Prop} {lo : Int} {n : Nat} (o : Nat → PyData) (hl : n ≤ 10000000)
    (hs : ∀ (k : Nat), k < n → ∀ (P : PyData → Prop) (N : Prop), P (o k) → g l (.int (lo + (k : Int))) σ fun σ' => tt σ' fun b => br b (te σ' fun fl d => fz fl fun k => okF f k (P d)) N) (h : Q ((List.range n).map o)) : lcGo f l g tt te σ (upTo lo n) [] Q :=
  lc_map (fun (k : Nat) => PyData.int (lo + (k : Int))) (List.range n) o (by rw [List.length_range]; exact hl) (fun x hx => hs x (List.mem_range.mp hx)) h
/-! items -/
theorem at_map {α : Type} {en : α → PyData} {xs : List α} {i : Nat} (h : i < xs.length) : L2.atI (xs.map en) (i : Int) = some (en xs[i]) :=
  L2.atI_nat (by rw [List.getElem?_map, List.getElem?_eq_getElem h]; rfl)
theorem ixN_nat {n j : Nat} (h : j < n) : L2.ixN n (j : Int) = some j := by
  unfold L2.ixN
  rw [if_pos (by omega), if_pos (by omega)]
  simp
theorem flat_rep {α : Type} (n : Nat) (x : α) : (List.replicate n [x]).flatten = List.replicate n x := by
  induction n with
  | zero => rfl
  | succ n ih => rw [List.replicate_succ, List.flatten_cons, ih]; rfl
end DL
namespace DL
open PySem
theorem at_int {α : Type} {en : α → PyData} {xs : List α} {i : Int} (h0 : 0 ≤ i) (h : i.toNat < xs.length) : L2.atI (xs.map en) i = some (en xs[i.toNat]) := by
  have e : i = ((i.toNat : Nat) : Int) := by omega
  have := at_map (en := en) (xs := xs) (i := i.toNat) h
  rw [← e] at this
  exact this
theorem ixN_int {n : Nat} {i : Int} (h0 : 0 ≤ i) (h : i.toNat < n) : L2.ixN n i = some i.toNat := by
  have e : i = ((i.toNat : Nat) : Int) := by omega
  have := ixN_nat (n := n) (j := i.toNat) h
  rw [← e] at this
  exact this
theorem cut_to {α : Type} (xs : List α) (m : Nat) : cut xs none (some (m : Int)) = xs.take m := by
  unfold cut
  rw [HT.sIx_none, HT.sIx_nat, List.drop_zero, Nat.sub_zero]
  by_cases h : m ≤ xs.length
  · rw [Nat.min_eq_left h]
  · rw [Nat.min_eq_right (by omega), List.take_of_length_le (Nat.le_refl _), List.take_of_length_le (by omega)]
theorem cut_from {α : Type} (xs : List α) (m : Nat) : cut xs (some (m : Int)) none = xs.drop m := by
  unfold cut
  rw [HT.sIx_none, HT.sIx_nat]
  by_cases h : m ≤ xs.length
  · rw [Nat.min_eq_left h]
    exact List.take_of_length_le (by rw [List.length_drop]; exact Nat.le_refl _)
  · rw [Nat.min_eq_right (by omega), List.drop_of_length_le (Nat.le_refl _), List.drop_of_length_le (by omega)]
    exact List.take_nil
theorem cut_butLast {α : Type} (xs : List α) : cut xs none (some (-1)) = xs.dropLast := by
  unfold cut
  rw [HT.sIx_none, List.drop_zero, Nat.sub_zero, List.dropLast_eq_take]
  have e : HT.sIx xs.length xs.length (some (-1)) = xs.length - 1 := by
    show (if (-1 : Int) < 0 then ((-1 : Int) + (xs.length : Int)).toNat else min (-1 : Int).toNat xs.length) = _
    rw [if_pos (by decide)]
    omega
  rw [e]
/-- a list of numbers -/
abbrev eI (ns : List Int) : PyData := .list (ns.map PyData.int)
theorem set_map {α : Type} {en : α → PyData} (xs : List α) (i : Nat) (y : α) : (xs.map en).set i (en y) = (xs.set i y).map en := List.map_set.symm
theorem mul_l {a b : Int} (h : -1000000000000000000 ≤ a ∧ a ≤ 1000000000000000000) : MulC a b := .inl (.inl ⟨by omega, by omega⟩)
theorem mul_r {a b : Int} (h : -1000000000000000000 ≤ b ∧ b ≤ 1000000000000000000) : MulC a b := .inl (.inr ⟨by omega, by omega⟩)
theorem div_s {a b : Int} (h : 0 < b ∧ b < 1073741824) : DivC a b := .inl h
end DL
namespace DL
theorem md {a b : Int} (h : 0 < b) : ModC a b := h
end DL
namespace DL
open PySem
/-- data of one type -/
class En (α : Type) where
  en : α → PyData
  dp : Nat
  lay : ∀ a, (en a).canLay0 = true
  dep : ∀ a, (en a).depth ≤ dp
  eqv : ∀ a b, PyData.eqv (en a) (en b) = true ↔ a = b
open En (en)
instance : En Int where
  en := PyData.int
  dp := 0
  lay := fun _ => by simp only [PyData.canLay0]
  dep := fun _ => by simp only [PyData.depth]; omega
  eqv := fun a b => by simp only [PyData.eqv]; exact beq_iff_eq
instance : En Nat where
  en := fun n => PyData.int (n : Int)
  dp := 0
  lay := fun _ => by simp only [PyData.canLay0]
  dep := fun _ => by simp only [PyData.depth]; omega
  eqv := fun a b => by simp only [PyData.eqv, beq_iff_eq]; omega
instance : En Bool where
  en := PyData.bool
  dp := 0
  lay := fun _ => by simp only [PyData.canLay0]
  dep := fun _ => by simp only [PyData.depth]; omega
  eqv := fun a b => by simp only [PyData.eqv]; exact beq_iff_eq
theorem layAll {α : Type} [En α] : ∀ xs : List α, PyData.canLayAll0 (xs.map en) = true
  | [] => by simp only [List.map_nil, PyData.canLayAll0]
  | x :: xs => by simp only [List.map_cons, PyData.canLayAll0, En.lay x, layAll xs, Bool.and_self]
theorem depAll {α : Type} [En α] : ∀ xs : List α, PyData.depthAll (xs.map en) ≤ En.dp α
  | [] => by simp only [List.map_nil, PyData.depthAll]; omega
  | x :: xs => by
    simp only [List.map_cons, PyData.depthAll]
    have h1 := En.dep x
    have h2 := depAll xs
    omega
theorem eqvAll {α : Type} [En α] : ∀ xs ys : List α, PyData.eqvAll (xs.map en) (ys.map en) = true ↔ xs = ys
  | [], [] => by simp only [List.map_nil, PyData.eqvAll]
  | [], y :: ys => by simp [PyData.eqvAll]
  | x :: xs, [] => by simp [PyData.eqvAll]
  | x :: xs, y :: ys => by
    simp only [List.map_cons, PyData.eqvAll, Bool.and_eq_true, En.eqv x y, eqvAll xs ys, List.cons.injEq]
instance {α : Type} [En α] : En (List α) where
  en := fun xs => .list (xs.map en)
  dp := En.dp α + 1
  lay := fun xs => by simp only [PyData.canLay0]; exact layAll xs
  dep := fun xs => by simp only [PyData.depth]; have := depAll xs; omega
  eqv := fun xs ys => by simp only [PyData.eqv]; exact eqvAll xs ys
/-- a number or None -/
instance : En (Option Int) where
  en := fun o => match o with
    | none => .none
    | some i => .int i
  dp := 0
  lay := fun o => by cases o <;> simp only [PyData.canLay0]
  dep := fun o => by cases o <;> simp only [PyData.depth] <;> omega
  eqv := fun a b => by cases a <;> cases b <;> simp [PyData.eqv]
/-- a class of tuples, by its parts -/
theorem shaped_en {α : Type} [En α] (h : En.dp α ≤ 64) (a : α) : SeqAt.shaped (en a) = true := by
  have h1 := En.dep a
  show ((en a).canLay0 && decide ((en a).depth ≤ 64)) = true
  rw [En.lay a, decide_eq_true (by omega)]
  rfl
theorem eqG_en {α : Type} [En α] [DecidableEq α] {a b : α} {Q : Bool → Prop} (h : En.dp α ≤ 64) (q : Q (decide (a = b))) : eqG (en a) (en b) Q := by
  refine ⟨shaped_en h a, shaped_en h b, ?_⟩
  have e : PyData.eqv (en a) (en b) = decide (a = b) := by
    rw [Bool.eq_iff_iff, En.eqv a b, decide_eq_true_iff]
  rw [e]
  exact q
theorem eq_list {α : Type} [En α] [DecidableEq α] {xs ys : List α} {Q : Bool → Prop} (h : En.dp α ≤ 60) (q : Q (decide (xs = ys))) : rEq (.list (xs.map en)) (.list (ys.map en)) Q :=
  eqG_en (α := List α) (Nat.succ_le_succ (Nat.le_trans h (by decide))) q
theorem ne_list {α : Type} [En α] [DecidableEq α] {xs ys : List α} {Q : Bool → Prop} (h : En.dp α ≤ 60) (q : Q (!decide (xs = ys))) : rNe (.list (xs.map en)) (.list (ys.map en)) Q :=
  eq_list (Q := fun b => Q (!b)) h q
theorem in_list {α : Type} [En α] [DecidableEq α] {x : α} {xs : List α} {Q : Bool → Prop} (h : En.dp α ≤ 60) (q : Q (decide (x ∈ xs))) : rIn (en x) (.list (xs.map en)) Q := by
  refine ⟨shaped_en (by omega) x, shaped_en (α := List α) (Nat.succ_le_succ (Nat.le_trans h (by decide))) xs, ?_⟩
  have e : ((xs.map en).any fun z => PyData.eqv z (en x)) = decide (x ∈ xs) := by
    rw [Bool.eq_iff_iff, List.any_eq_true, decide_eq_true_iff]
    constructor
    · rintro ⟨z, hz, e⟩
      obtain ⟨y, hy, rfl⟩ := List.mem_map.mp hz
      rw [En.eqv y x] at e
      subst e
      exact hy
    · intro hx
      exact ⟨en x, List.mem_map_of_mem hx, (En.eqv x x).mpr rfl⟩
  rw [e]
  exact q
theorem notIn_list {α : Type} [En α] [DecidableEq α] {x : α} {xs : List α} {Q : Bool → Prop} (h : En.dp α ≤ 60) (q : Q (!decide (x ∈ xs))) : rNotIn (en x) (.list (xs.map en)) Q :=
  in_list (Q := fun b => Q (!b)) h q
end DL
namespace DL
theorem gD {α : Type} {xs : List α} {i : Nat} {d : α} (h : i < xs.length) : xs.getD i d = xs[i] := by
  rw [List.getD_eq_getElem?_getD, List.getElem?_eq_getElem h]
  rfl
end DL
namespace DL
open PySem
theorem filterMap_if {α β : Type} (p : α → Bool) (o : α → β) : ∀ xs : List α, xs.filterMap (fun x => if p x = true then some (o x) else none) = (xs.filter p).map o
  | [] => rfl
  | x :: xs => by
    have ih := filterMap_if p o xs
    rw [List.filterMap_cons, List.filter_cons]
    by_cases h : p x = true
    · rw [if_pos h, if_pos h, List.map_cons, ih]
    · rw [if_neg h, if_neg h, ih]
/-- a comprehension with a test -/
theorem lc_filt {α : Type} {f : Bool} {l : Lv} {g : DG} {tt : DT} {te : DE} {σ : Ds} {Q : List PyData → Prop} (en : α → PyData) (xs : List α) (p : α → Bool) (o : α → PyData) (hl : xs.length ≤ 10000000)
    (hs : ∀ x ∈ xs, ∀ (P : PyData → Prop) (N : Prop), (p x = true → P (o x)) → (p x = false → N) → g l (en x) σ fun σ' => tt σ' fun b => br b (te σ' fun fl d => fz fl fun k => okF f k (P d)) N) (h : Q ((xs.filter p).map o)) : lcGo f l g tt te σ (xs.map en) [] Q := by
  refine lc_opt en xs (fun x => if p x = true then some (o x) else none) hl (fun x hx P N hp hn => hs x hx P N (fun h => hp _ (if_pos h)) (fun h => hn (if_neg (by rw [h]; decide)))) ?_
  rw [filterMap_if]
  exact h
end DL
namespace DL
open PySem
open En (en)
theorem any_en {α : Type} [En α] [DecidableEq α] {x : α} {xs : List α} : ((xs.map en).any fun z => PyData.eqv z (en x)) = decide (x ∈ xs) := by
  rw [Bool.eq_iff_iff, List.any_eq_true, decide_eq_true_iff]
  constructor
  · rintro ⟨z, hz, e⟩
    obtain ⟨y, hy, rfl⟩ := List.mem_map.mp hz
    rw [En.eqv y x] at e
    subst e
    exact hy
  · intro hx
    exact ⟨en x, List.mem_map_of_mem hx, (En.eqv x x).mpr rfl⟩
/-- what an «in» asks for typed data -/
theorem in_go {α : Type} [En α] [DecidableEq α] (x : α) (xs : List α) {Q : Bool → Prop} (q : Q (decide (x ∈ xs))) (h : En.dp α ≤ 60 := by decide) : SeqAt.shaped (en x) = true ∧ SeqAt.shaped (.list (xs.map en)) = true ∧ Q ((xs.map en).any fun z => PyData.eqv z (en x)) :=
  ⟨shaped_en (by omega) x, shaped_en (α := List α) (Nat.succ_le_succ (Nat.le_trans h (by decide))) xs, by rw [any_en]; exact q⟩
theorem eqv_en {α : Type} [En α] [DecidableEq α] (a b : α) : PyData.eqv (en a) (en b) = decide (a = b) := by
  rw [Bool.eq_iff_iff, En.eqv a b, decide_eq_true_iff]
theorem eq_go {α : Type} [En α] [DecidableEq α] (a b : α) {Q : Bool → Prop} (q : Q (decide (a = b))) (h : En.dp α ≤ 64 := by decide) : SeqAt.shaped (en a) = true ∧ SeqAt.shaped (en b) = true ∧ Q (PyData.eqv (en a) (en b)) :=
  ⟨shaped_en h a, shaped_en h b, by rw [eqv_en]; exact q⟩
end DL
namespace DL
/-! sums over 0 .. n - 1 -/
def sm0 (n : Nat) (f : Nat → Int) : Int := ((List.range n).map f).sum
theorem sm0_succ (n : Nat) (f : Nat → Int) : sm0 (n + 1) f = sm0 n f + f n := by
  unfold sm0
  rw [List.range_succ, List.map_append, List.sum_append]
  simp
theorem sm0_congr {n : Nat} {f g : Nat → Int} (h : ∀ k, k < n → f k = g k) : sm0 n f = sm0 n g := by
  unfold sm0
  rw [List.map_congr_left fun k hk => h k (List.mem_range.mp hk)]
theorem sm0_add (n : Nat) (f g : Nat → Int) : sm0 n f + sm0 n g = sm0 n fun k => f k + g k := by
  induction n with
  | zero => rfl
  | succ n ih => rw [sm0_succ, sm0_succ, sm0_succ, ← ih]; omega
theorem sm0_sub (n : Nat) (f g : Nat → Int) : sm0 n f - sm0 n g = sm0 n fun k => f k - g k := by
  induction n with
  | zero => rfl
  | succ n ih => rw [sm0_succ, sm0_succ, sm0_succ, ← ih]; omega
theorem sm0_le {n : Nat} {f g : Nat → Int} (h : ∀ k, k < n → f k ≤ g k) : sm0 n f ≤ sm0 n g := by
  induction n with
  | zero => exact Int.le_refl _
  | succ n ih =>
    rw [sm0_succ, sm0_succ]
    have := ih fun k hk => h k (by omega)
    have := h n (by omega)
    omega
theorem sum_filter {α : Type} (p : α → Bool) (f : α → Int) : ∀ xs : List α, ((xs.filter p).map f).sum = (xs.map fun x => if p x = true then f x else 0).sum
  | [] => rfl
  | x :: xs => by
    have ih := sum_filter p f xs
    rw [List.filter_cons, List.map_cons, List.sum_cons]
    by_cases h : p x = true
    · rw [if_pos h, if_pos h, List.map_cons, List.sum_cons, ih]
    · rw [if_neg h, if_neg h, ih]
      omega
theorem set_range {α : Type} (m i : Nat) (F : Nat → α) (y : α) : ((List.range m).map F).set i y = (List.range m).map fun k => if k = i then y else F k := by
  apply List.ext_getElem?
  intro j
  rw [List.getElem?_set, List.length_map, List.length_range]
  by_cases hj : j < m
  · rw [List.getElem?_map, List.getElem?_map, List.getElem?_range hj]
    by_cases h : i = j
    · subst h
      rw [if_pos rfl, if_pos hj]
      simp
    · rw [if_neg h]
      simp [Ne.symm h]
  · have e1 : ((List.range m).map F)[j]? = none := List.getElem?_eq_none (by rw [List.length_map, List.length_range]; omega)
    have e2 : ((List.range m).map fun k => if k = i then y else F k)[j]? = none := List.getElem?_eq_none (by rw [List.length_map, List.length_range]; omega)
    rw [e1, e2]
    by_cases h : i = j
    · subst h
      rw [if_pos rfl, if_neg hj]
    · rw [if_neg h]
theorem gD_range {α : Type} {m i : Nat} {F : Nat → α} {d : α} (h : i < m) : ((List.range m).map F).getD i d = F i := by
  rw [gD (by rw [List.length_map, List.length_range]; exact h), List.getElem_map, List.getElem_range]
end DL
namespace DL
open PySem
open En (en)
/-- data is equal to itself -/
theorem eqv_self {d : PyData} (h : SeqAt.shaped d = true) : PyData.eqv d d = true := SeqAt.eqv_refl d (SeqAt.canLay_of_shaped h)
theorem self_go {d : PyData} (h : SeqAt.shaped d = true) {Q : Bool → Prop} (q : Q true) : SeqAt.shaped d = true ∧ SeqAt.shaped d = true ∧ Q (PyData.eqv d d) := ⟨h, h, by rw [eqv_self h]; exact q⟩
theorem shaped_L2 {α β : Type} [En α] [En β] (a : α) (b : β) (h1 : En.dp α ≤ 60 := by decide) (h2 : En.dp β ≤ 60 := by decide) : SeqAt.shaped (.list [en a, en b]) = true := by
  have e1 := En.dep a
  have e2 := En.dep b
  show (PyData.canLay0 _ && decide (PyData.depth _ ≤ 64)) = true
  have l : PyData.canLay0 (.list [en a, en b]) = true := by simp only [PyData.canLay0, PyData.canLayAll0, En.lay, Bool.and_self]
  have d : PyData.depth (.list [en a, en b]) ≤ 64 := by
    simp only [PyData.depth, PyData.depthAll]
    omega
  rw [l, decide_eq_true d]
  rfl
theorem nl_ints (ns : List Int) : ∀ x ∈ ns.map PyData.int, NL x := fun x h => by
  obtain ⟨n, _, rfl⟩ := List.mem_map.mp h
  exact .int n
theorem nl_nats (ns : List Nat) : ∀ x ∈ ns.map (en (α := Nat)), NL x := fun x h => by
  obtain ⟨n, _, rfl⟩ := List.mem_map.mp h
  exact .int n
end DL
namespace DL
open PySem
theorem nat_ints (xs : List Nat) : eI (xs.map fun (k : Nat) => (k : Int)) = .list (xs.map (En.en (α := Nat))) := by
  show PyData.list ((xs.map fun (k : Nat) => (k : Int)).map PyData.int) = _
  rw [List.map_map]
  rfl
/-! comprehensions whose items are not fixed -/
def LRel {α β : Type} (R : α → β → Prop) : List α → List β → Prop
  | [], [] => True
  | x :: xs, y :: ys => R x y ∧ LRel R xs ys
  | _, _ => False
theorem LRel.len {α β : Type} {R : α → β → Prop} : ∀ {xs : List α} {ys : List β}, LRel R xs ys → ys.length = xs.length
  | [], [], _ => rfl
  | _ :: _, _ :: _, h => by
    rw [List.length_cons, List.length_cons, h.2.len]
  | [], _ :: _, h => h.elim
  | _ :: _, [], h => h.elim
theorem LRel.at {α β : Type} {R : α → β → Prop} : ∀ {xs : List α} {ys : List β}, LRel R xs ys → ∀ (i : Nat) (h1 : i < xs.length) (h2 : i < ys.length), R xs[i] ys[i]
  | _ :: _, _ :: _, h, 0, _, _ => h.1
  | x :: xs, y :: ys, h, i + 1, h1, h2 => h.2.at i (by simpa using h1) (by simpa using h2)
  | [], _ :: _, h, _, _, _ => h.elim
  | _ :: _, [], h, _, _, _ => h.elim
  | [], [], _, i, h1, _ => absurd h1 (Nat.not_lt_zero i)
theorem LRel.all {α β : Type} {R : α → β → Prop} {T : β → Prop} (hT : ∀ x y, R x y → T y) : ∀ {xs : List α} {ys : List β}, LRel R xs ys → ∀ y ∈ ys, T y
  | _ :: _, _ :: _, h, y, hy => by
    rcases List.mem_cons.mp hy with e | e
    · rw [e]
      exact hT _ _ h.1
    · exact h.2.all hT y e
  | [], _ :: _, h, _, _ => h.elim
  | _ :: _, [], h, _, _ => h.elim
  | [], [], _, y, hy => nomatch hy
theorem lc_rel {α β : Type} {f : Bool} {l : Lv} {g : DG} {tt : DT} {te : DE} {σ : Ds} {Q : List PyData → Prop} (en : α → PyData) (eb : β → PyData) (R : α → β → Prop) (xs : List α) (hl : xs.length ≤ 10000000)
    (hs : ∀ x ∈ xs, ∀ (P : PyData → Prop) (N : Prop), (∀ y, R x y → P (eb y)) → g l (en x) σ fun σ' => tt σ' fun b => br b (te σ' fun fl d => fz fl fun k => okF f k (P d)) N) (h : ∀ ys, LRel R xs ys → Q (ys.map eb)) : lcGo f l g tt te σ (xs.map en) [] Q := by
  have main : ∀ (ys : List α) (acc : List PyData), (∀ y ∈ ys, y ∈ xs) → acc.length + ys.length ≤ 10000000 → (∀ ws, LRel R ys ws → Q (acc ++ ws.map eb)) → lcGo f l g tt te σ (ys.map en) acc Q := by
    intro ys
    induction ys with
    | nil =>
      intro acc _ _ h
      have := h [] trivial
      rw [List.map_nil, List.append_nil] at this
      exact this
    | cons y ys ih =>
      intro acc hm hl h
      rw [List.length_cons] at hl
      refine hs y (hm y List.mem_cons_self) _ _ (fun d e => ⟨szlt (by omega), ?_⟩)
      refine ih _ (fun z hz => hm z (List.mem_cons_of_mem _ hz)) (by rw [List.length_append, List.length_singleton]; omega) (fun ws hw => ?_)
      have := h (d :: ws) ⟨e, hw⟩
      rw [List.append_assoc]
      exact this
  exact main xs [] (fun _ h => h) (by simpa using hl) h
theorem lc_upToR {β : Type} {f : Bool} {l : Lv} {g : DG} {tt : DT} {te : DE} {σ : Ds} {Q : List PyData → Prop} {lo : Int} {n : Nat} (eb : β → PyData) (R : Nat → β → Prop) (hl : n ≤ 10000000)
    (hs : ∀ (k : Nat), k < n → ∀ (P : PyData → Prop) (N : Prop), (∀ y, R k y → P (eb y)) → g l (.int (lo + (k : Int))) σ fun σ' => tt σ' fun b => br b (te σ' fun fl d => fz fl fun k => okF f k (P d)) N) (h : ∀ ys, LRel R (List.range n) ys → Q (ys.map eb)) : lcGo f l g tt te σ (upTo lo n) [] Q :=
  lc_rel (fun (k : Nat) => PyData.int (lo + (k : Int))) eb R (List.range n) (by rw [List.length_range]; exact hl) (fun x hx => hs x (List.mem_range.mp hx)) h
theorem LRel.upTo {β : Type} {R : Nat → β → Prop} {n : Nat} {ys : List β} (h : LRel R (List.range n) ys) : ys.length = n ∧ ∀ i (h : i < ys.length), R i ys[i] := by
  have e : ys.length = n := by rw [h.len, List.length_range]
  refine ⟨e, fun i hi => ?_⟩
  have := h.at i (by rw [List.length_range]; omega) hi
  rw [List.getElem_range] at this
  exact this
end DL

set_option Elab.async false
set_option linter.all false
set_option maxRecDepth 100000
/-! MC: what all laws share: the draws. -/
namespace RD
open PySem DL
def scr (ns : List Int) : PyData := .dict (ns.map fun n => (PyData.int n, PyData.none))
def Good (r : List Int) : Prop := ∀ x ∈ r, 0 ≤ x ∧ x < 1000003
def S__law_draws : DSp := fun ds Q => ∃ (ns : List Int) (many : Nat), ds = [scr ns, .int many] ∧ ns.length ≤ 63 ∧ many ≤ 1000 ∧ ∀ r : List Int, r.length = many → Good r → Q .new (eI r)
theorem Good.app {r : List Int} {x : Int} (h : Good r) (h0 : 0 ≤ x ∧ x < 1000003) : Good (r ++ [x]) := fun y hy => by
  rcases List.mem_append.mp hy with q | q
  · exact h y q
  · rw [List.mem_singleton.mp q]
    exact h0
theorem md3 (a : Int) : 0 ≤ a % 1000003 ∧ a % 1000003 < 1000003 := ⟨Int.emod_nonneg _ (by decide), Int.emod_lt_of_pos _ (by decide)⟩
theorem ms__law_draws : MonoS S__law_draws := fun ds Q Q' h ⟨ns, m, e, h1, h2, q⟩ => ⟨ns, m, e, h1, h2, fun r a b => h _ _ (q r a b)⟩
theorem kp__law_draws : Keeps 8 rd__law_draws S__law_draws := by
  rintro ds Q ⟨ns, many, rfl, hns, hm, q⟩
  refine ⟨by decide, ?_⟩
  -- for cell in script[:63]
  have e63 : cut ((ns.map fun n => (PyData.int n, PyData.none)).map (·.1)) none (some 63) = (ns.take 63).map PyData.int := by
    rw [List.map_map]
    have := cut_to (ns.map PyData.int) 63
    rw [← List.map_take] at this
    exact this
  show forGo _ _ _ (cut ((ns.map fun n => (PyData.int n, PyData.none)).map (·.1)) none (some 63)) _ _
  rw [e63]
  refine for_inv PyData.int (ns.take 63) (fun i σ => ∃ fs s3 s4 s5 s6, σ = [.val false (scr ns), .val false (.int many), .own false (fs.map .int), s3, s4, s5, s6, .non] ∧ Good fs ∧ fs.length ≤ 60 * i) ⟨[], .non, .non, .non, .non, rfl, (fun x h => nomatch h), by simp⟩ (fun i hi σ K h k => ?_) (fun σ h => ?_)
  · obtain ⟨fs, s3, s4, s5, s6, rfl, hg, hl⟩ := h
    have hi63 : i < 63 := by
      rw [List.length_take] at hi
      omega
    -- number = abs(int(cell))
    generalize hn : (if (ns.take 63)[i] < 0 then -(ns.take 63)[i] else (ns.take 63)[i]) = number
    have hn0 : 0 ≤ number := by
      rw [← hn]
      split <;> omega
    refine ⟨⟨by decide, by decide, by decide⟩, br.dec (fun hb => ?_) (fun hb => ?_)⟩
    · refine ⟨sm (by decide) (by decide), for_upTo (fun j σ => ∃ fs' num s5, σ = [.val false (scr ns), .val false (.int many), .own false (fs'.map .int), .val false (.int (ns.take 63)[i]), .val false (.int num), s5, s6, .non] ∧ Good fs' ∧ fs'.length ≤ 60 * i + j ∧ 0 ≤ num)
        ⟨fs, number, s5, by rw [← hn]; rfl, hg, by omega, hn0⟩ (fun j σ K2 hj h k2 => ?_) (fun σ h => ?_)⟩
      · obtain ⟨fs', num, t5, rfl, hg', hl', h0'⟩ := h
        refine br.dec (fun hp => ?_) (fun hp => ?_)
        · refine ⟨md (by decide), szlt (by rw [List.length_map]; omega), ?_⟩
          refine ⟨div_s ⟨by decide, by decide⟩, k2 _ ⟨fs' ++ [num % 1000003], num / 1000003, _, by rw [List.map_append]; rfl, hg'.app (md3 _), by rw [List.length_append]; simp; omega, Int.ediv_nonneg h0' (by decide)⟩⟩
        · exact k2 _ ⟨fs', num, _, rfl, hg', by omega, h0'⟩
      · obtain ⟨fs', num, t5, rfl, hg', hl', h0'⟩ := h
        exact k _ ⟨fs', _, _, _, _, rfl, hg', by omega⟩
    · refine ⟨mul_r (by decide), mul_l (by decide), md (by decide), sm (by decide) (by decide), for_upTo (fun j σ => ∃ fs' mx s5, σ = [.val false (scr ns), .val false (.int many), .own false (fs'.map .int), .val false (.int (ns.take 63)[i]), .val false (.int (if (ns.take 63)[i] < 0 then -(ns.take 63)[i] else (ns.take 63)[i])), s5, .val false (.int mx), .non] ∧ Good fs' ∧ fs'.length ≤ 60 * i + j ∧ 0 ≤ mx)
        ⟨fs, _, s5, rfl, hg, by omega, Int.emod_nonneg _ (by decide)⟩ (fun j σ K2 hj h k2 => ?_) (fun σ h => ?_)⟩
      · obtain ⟨fs', mx, t5, rfl, hg', hl', h0'⟩ := h
        refine ⟨mul_r (by decide), div_s ⟨by decide, by decide⟩, mul_l (by decide), md (by decide), div_s ⟨by decide, by decide⟩, md (by decide), szlt (by rw [List.length_map]; omega), ?_⟩
        refine k2 _ ⟨fs' ++ [_], _, _, by rw [List.map_append]; rfl, hg'.app (md3 _), by rw [List.length_append]; simp; omega, Int.emod_nonneg _ (by decide)⟩
      · obtain ⟨fs', mx, t5, rfl, hg', hl', h0'⟩ := h
        exact k _ ⟨fs', _, _, _, _, rfl, hg', by omega⟩
  · obtain ⟨fs, s3, s4, s5, s6, rfl, hg, hl⟩ := h
    have hl' : fs.length ≤ 3780 := by
      rw [List.length_take] at hl
      omega
    refine ⟨sm (by omega) (by omega), for_upTo (fun j σ => ∃ fs' s5 s7, σ = [.val false (scr ns), .val false (.int many), .own false (fs'.map .int), s3, s4, s5, s6, s7] ∧ Good fs' ∧ fs'.length ≤ 3780 + j ∧ (j ≤ fs'.length ∨ many ≤ fs'.length)) ⟨fs, s5, .non, rfl, hg, by omega, by omega⟩ (fun j σ K2 hj h k2 => ?_) (fun σ h => ?_)⟩
    · obtain ⟨fs', t5, s7, rfl, hg', hl', hc⟩ := h
      have ej : ((many : Int)).toNat = many := by omega
      refine br.dec (fun hp => ?_) (fun hp => ?_)
      · have hp' : fs'.length < many := by
          have : ((fs'.map PyData.int).length : Int) < (many : Int) := hp
          rw [List.length_map] at this
          omega
        have fin : ∀ (base : Int) (σ1 : Ds) , σ1 = [.val false (scr ns), .val false (.int many), .own false (fs'.map .int), s3, s4, .val false (.int (0 + (j : Int))), s6, .val false (.int base)] → (dApp 2 (dOp rMod (dOp rAdd (dOp rAdd (dOp rMul (dVar 7) (dC (.int 16807))) (dOp rMul (dC (.int 31)) (dUn rLen (dVar 2)))) (dC (.int 17))) (dC (.int 1000003)))) { nx := K2, rt := Q, ct := K2 } σ1 := by
          rintro base σ1 rfl
          refine ⟨mul_r (by decide), mul_l (by decide), md (by decide), szlt (by rw [List.length_map]; omega), ?_⟩
          refine k2 _ ⟨fs' ++ [_], _, _, by rw [List.map_append]; rfl, hg'.app (md3 _), by rw [List.length_append]; simp; omega, .inl (by rw [List.length_append]; simp; omega)⟩
        refine br.dec (fun hq => ?_) (fun hq => ?_)
        · have hq' : 0 < fs'.length := by
            have : (0 : Int) < ((fs'.map PyData.int).length : Int) := hq
            rw [List.length_map] at this
            omega
          have hm0 : 0 ≤ (0 + (j : Int)) % ((fs'.map PyData.int).length : Int) := Int.emod_nonneg _ (by rw [List.length_map]; omega)
          have hm1 : (0 + (j : Int)) % ((fs'.map PyData.int).length : Int) < ((fs'.map PyData.int).length : Int) := Int.emod_lt_of_pos _ (by rw [List.length_map]; omega)
          refine ⟨md (by rw [List.length_map]; omega), _, at_int hm0 (by simp only [List.length_map] at hm0 hm1 ⊢; omega), ?_⟩
          exact fin _ _ rfl
        · exact fin 0 _ rfl
      · refine k2 _ ⟨fs', _, _, rfl, hg', by omega, .inr ?_⟩
        have : ¬ ((fs'.map PyData.int).length : Int) < (many : Int) := hp
        rw [List.length_map] at this
        omega
    · obtain ⟨fs', t5, s7, rfl, hg', hl', hc⟩ := h
      have := q (fs'.take many) (by rw [List.length_take]; omega) (fun x hx => hg' x (List.mem_of_mem_take hx))
      show Q .new (.list (cut (fs'.map PyData.int) none (some (many : Int))))
      rw [cut_to, ← List.map_take]
      exact this
/-! a cell of the draws -/
def S__law_cell : DSp := fun ds Q => ∃ (r : List Int) (k : Int), ds = [eI r, .int k] ∧ Good r ∧ 0 < r.length ∧ 0 ≤ k ∧ ∀ c : Int, 0 ≤ c → c < 1000003 → Q .av (.int c)
theorem ms__law_cell : MonoS S__law_cell := fun ds Q Q' h ⟨r, k, e, h1, h2, h3, q⟩ => ⟨r, k, e, h1, h2, h3, fun c a b => h _ _ (q c a b)⟩
theorem kp__law_cell : Keeps 2 rd__law_cell S__law_cell := by
  rintro ds Q ⟨r, k, rfl, hg, hl, hk, q⟩
  have hl' : (0 : Int) < ((r.map PyData.int).length : Int) := by rw [List.length_map]; omega
  refine br.dec (fun h => ?_) (fun h => ?_)
  · have h' : k.toNat < r.length := by
      rw [List.length_map] at h
      omega
    refine ⟨_, at_int hk h', ?_⟩
    have := hg _ (List.getElem_mem h')
    exact q _ this.1 this.2
  · have m : ∀ z : Int, (z % ((r.map PyData.int).length : Int)).toNat < r.length := fun z => by
      have h1 := Int.emod_lt_of_pos z hl'
      simp only [List.length_map] at h1 ⊢
      omega
    have m0 : ∀ z : Int, 0 ≤ z % ((r.map PyData.int).length : Int) := fun z => Int.emod_nonneg _ (by omega)
    refine ⟨md hl', _, at_int (m0 k) (m k), mul_r (by decide), mul_l (by decide), md hl', _, at_int (m0 _) (m _), mul_r (by decide), mul_l (by decide), md (by decide), ?_⟩
    exact q _ (md3 _).1 (md3 _).2
/-! numbers -/
def S__law_is_number : DSp := fun ds Q => ∃ d, ds = [d] ∧ Q .av (.bool (isInt d && !isBool d))
theorem ms__law_is_number : MonoS S__law_is_number := fun ds Q Q' h ⟨d, e, q⟩ => ⟨d, e, h _ _ q⟩
theorem kp__law_is_number : Keeps 1 rd__law_is_number S__law_is_number := by
  rintro ds Q ⟨d, rfl, q⟩
  cases h : isInt d with
  | true =>
    refine br.t h ?_
    rw [h] at q
    exact q
  | false =>
    refine br.f h ?_
    rw [h] at q
    exact q
def S__law_is_numbers : DSp := fun ds Q => ∃ (ns : List Int) (n : Int), ds = [eI ns, .int n] ∧ Q .av (.bool (decide ((ns.length : Int) = n)))
theorem ms__law_is_numbers : MonoS S__law_is_numbers := fun ds Q Q' h ⟨d, n, e, q⟩ => ⟨d, n, e, h _ _ q⟩
theorem kp__law_is_numbers : Keeps 3 (rd__law_is_numbers_6e0e S__law_is_number) S__law_is_numbers := by
  rintro ds Q ⟨ns, n, rfl, q⟩
  refine br.nd (fun h => ?_) (fun h => ?_)
  · rw [List.length_map] at h
    rw [decide_eq_false h] at q
    exact q
  · rw [List.length_map] at h
    rw [decide_eq_true h] at q
    refine for_inv PyData.int ns (fun i σ => ∃ s2, σ = [.val false (eI ns), .val false (.int n), s2]) ⟨.non, rfl⟩ (fun i hi σ K h k => ?_) (fun σ h => ?_)
    · obtain ⟨s2, rfl⟩ := h
      exact ⟨_, rfl, k _ ⟨_, rfl⟩⟩
    · obtain ⟨s2, rfl⟩ := h
      exact q
end RD

set_option Elab.async false
set_option linter.all false
set_option maxRecDepth 100000
/-! MP: demands, places, pieces, breaches. -/
namespace RD
open PySem DL
open En (en)
/-! widths within bounds -/
def wi (x : Int) (lo hi : Option Int) : Bool := (match lo with
  | none => true
  | some l => decide (l ≤ x)) && (match hi with
  | none => true
  | some h => decide (x ≤ h))
def S_within : DSp := fun ds Q => ∃ (x : Int) (lo hi : Option Int), ds = [.int x, en lo, en hi] ∧ Q .av (.bool (wi x lo hi))
theorem ms_within : MonoS S_within := fun ds Q Q' h ⟨x, lo, hi, e, q⟩ => ⟨x, lo, hi, e, h _ _ q⟩
theorem kp_within : Keeps 3 rd_within S_within := by
  rintro ds Q ⟨x, lo, hi, rfl, q⟩
  have up : ∀ b : Bool, Q .av (.bool (wi x none hi)) → (dRet (dOrV (dBool (dCmp rIs (dVar 2) (dC .none))) (dBool (dCmp rLe (dVar 0) (dVar 2))))) { nx := fun _ => Q .av .none, rt := Q } [.val false (.int x), .val false (en lo), .val false (en hi)] := fun b q => by
    cases hi with
    | none => exact q
    | some h => exact q
  cases lo with
  | none => exact up true q
  | some l =>
    refine br.dec (fun h => ?_) (fun h => ?_)
    · have e : wi x (some l) hi = false := by
        unfold wi
        simp only [decide_eq_false (show ¬ l ≤ x by omega), Bool.false_and]
      rw [e] at q
      exact q
    · have e : wi x (some l) hi = wi x none hi := by
        unfold wi
        simp only [decide_eq_true (show l ≤ x by omega)]
      rw [e] at q
      exact up true q
/-! demands -/
structure Dm where
  lw : Nat
  hg : Nat
  lo : Option Int
  hi : Option Int
  deriving DecidableEq
theorem opt_lay (o : Option Int) : (en o).canLay0 = true := En.lay o
theorem opt_dep (o : Option Int) : (en o).depth = 0 := Nat.le_zero.mp (En.dep o)
theorem opt_eqv (a b : Option Int) : PyData.eqv (en a) (en b) = true ↔ a = b := En.eqv a b
instance : En Dm where
  en := fun t => .tuple [.int (t.lw : Int), .int (t.hg : Int), en t.lo, en t.hi]
  dp := 1
  lay := fun t => by simp only [PyData.canLay0, PyData.canLayAll0, opt_lay, Bool.and_self]
  dep := fun t => by simp [PyData.depth, PyData.depthAll, opt_dep]
  eqv := fun a b => by
    obtain ⟨a1, a2, a3, a4⟩ := a
    obtain ⟨b1, b2, b3, b4⟩ := b
    simp [PyData.eqv, PyData.eqvAll, Int.natCast_inj, opt_eqv]
/-- a demand is met -/
def mt (t : List Int) (d : Dm) : Bool := wi (t.getD d.hg 0 - t.getD d.lw 0) d.lo d.hi
def Ok (n : Nat) (dms : List Dm) : Prop := ∀ d ∈ dms, d.lw < n ∧ d.hg < n
def S_meets : DSp := fun ds Q => ∃ (dms : List Dm) (t : List Int), ds = [.list (dms.map en), eI t] ∧ Ok t.length dms ∧ Q .av (.bool (dms.all (mt t)))
theorem ms_meets : MonoS S_meets := fun ds Q Q' h ⟨dms, t, e, h1, q⟩ => ⟨dms, t, e, h1, h _ _ q⟩
theorem kp_meets : Keeps 6 (rd_meets S_within) S_meets := by
  rintro ds Q ⟨dms, t, rfl, hk, q⟩
  refine for_inv en dms (fun i σ => ∃ s2 s3 s4 s5, σ = [.val false (.list (dms.map en)), .val false (eI t), s2, s3, s4, s5] ∧ (dms.take i).all (mt t) = true) ⟨.non, .non, .non, .non, rfl, rfl⟩ (fun i hi σ K h k => ?_) (fun σ h => ?_)
  · obtain ⟨s2, s3, s4, s5, rfl, ha⟩ := h
    obtain ⟨h1, h2⟩ := hk dms[i] (List.getElem_mem hi)
    refine ⟨rfl, _, at_map (i := dms[i].hg) h2, _, at_map (i := dms[i].lw) h1, ?_⟩
    refine ⟨_, dms[i].lo, dms[i].hi, rfl, ?_⟩
    have e : wi (t[dms[i].hg] - t[dms[i].lw]) dms[i].lo dms[i].hi = mt t dms[i] := by
      unfold mt
      rw [gD h2, gD h1]
    rw [e]
    cases hm : mt t dms[i] with
    | true =>
      refine k _ ⟨.val false (.int (dms[i].lw : Int)), .val false (.int (dms[i].hg : Int)), .val false (en dms[i].lo), .val false (en dms[i].hi), rfl, ?_⟩
      rw [List.take_succ_eq_append_getElem hi, List.all_append, ha]
      simp [hm]
    | false =>
      have e2 : dms.all (mt t) = false := by
        rw [List.all_eq_false]
        exact ⟨dms[i], List.getElem_mem hi, by rw [hm]; decide⟩
      rw [e2] at q
      exact q
  · obtain ⟨s2, s3, s4, s5, rfl, ha⟩ := h
    rw [List.take_length] at ha
    rw [ha] at q
    exact q
def broken (t : List Int) (dms : List Dm) : List Nat := (List.range dms.length).filter fun k => !mt t (dms.getD k ⟨0, 0, none, none⟩)
def S_unmet : DSp := fun ds Q => ∃ (dms : List Dm) (t : List Int), ds = [.list (dms.map en), eI t] ∧ dms.length ≤ 1000000 ∧ Ok t.length dms ∧ Q .new (en (broken t dms))
theorem ms_unmet : MonoS S_unmet := fun ds Q Q' h ⟨dms, t, e, h1, h2, q⟩ => ⟨dms, t, e, h1, h2, h _ _ q⟩
theorem kp_unmet : Keeps 8 (rd_unmet S_within) S_unmet := by
  rintro ds Q ⟨dms, t, rfl, hl, hk, q⟩
  refine ⟨by simp, sm (by simp) (by simp; omega), for_upTo (fun i σ => ∃ s3 s4 s5 s6 s7, σ = [.val false (.list (dms.map en)), .val false (eI t), .own false (((List.range i).filter fun k => !mt t (dms.getD k ⟨0, 0, none, none⟩)).map (en (α := Nat))), s3, s4, s5, s6, s7]) ⟨.non, .non, .non, .non, .non, rfl⟩ (fun i σ K hi h k => ?_) (fun σ h => ?_)⟩
  · obtain ⟨s3, s4, s5, s6, s7, rfl⟩ := h
    have hi' : i < dms.length := by simpa using hi
    have e0 : (0 : Int) + (i : Int) = (i : Int) := by omega
    obtain ⟨h1, h2⟩ := hk dms[i] (List.getElem_mem hi')
    rw [e0]
    refine ⟨_, at_map hi', rfl, _, at_map (i := dms[i].hg) h2, _, at_map (i := dms[i].lw) h1, ?_⟩
    refine ⟨_, dms[i].lo, dms[i].hi, rfl, ?_⟩
    have e : wi (t[dms[i].hg] - t[dms[i].lw]) dms[i].lo dms[i].hi = mt t (dms.getD i ⟨0, 0, none, none⟩) := by
      unfold mt
      rw [gD hi', gD h2, gD h1]
    rw [e]
    cases hm : mt t (dms.getD i ⟨0, 0, none, none⟩) with
    | true =>
      refine k _ ⟨.val false (.int (i : Int)), .val false (.int (dms[i].lw : Int)), .val false (.int (dms[i].hg : Int)), .val false (en dms[i].lo), .val false (en dms[i].hi), ?_⟩
      have : ([i].filter fun k => !mt t (dms.getD k ⟨0, 0, none, none⟩)) = [] := by
        simp only [List.filter_cons, hm, Bool.not_true, Bool.false_eq_true, if_false, List.filter_nil]
      rw [List.range_succ, List.filter_append, this, List.append_nil]
      rfl
    | false =>
      refine ⟨szlt ?_, k _ ⟨.val false (.int (i : Int)), .val false (.int (dms[i].lw : Int)), .val false (.int (dms[i].hg : Int)), .val false (en dms[i].lo), .val false (en dms[i].hi), ?_⟩⟩
      · rw [List.length_map]
        have := List.length_filter_le (fun k => !mt t (dms.getD k ⟨0, 0, none, none⟩)) (List.range i)
        rw [List.length_range] at this
        omega
      · rw [List.range_succ, List.filter_append, List.map_append]
        have : ([i].filter fun k => !mt t (dms.getD k ⟨0, 0, none, none⟩)) = [i] := by
          simp only [List.filter_cons, hm, Bool.not_false, if_true, List.filter_nil]
        rw [this]
        rfl
  · obtain ⟨s3, s4, s5, s6, s7, rfl⟩ := h
    have en1 : (((dms.map (en (α := Dm))).length : Nat) : Int).toNat = dms.length := by simp
    rw [en1]
    exact q
/-! places -/
def S_place : DSp := fun ds Q => ∃ (note : Int) (n : Nat), ds = [.int note, .int (n : Int)] ∧ 0 < n ∧ n ≤ 1000 ∧ Q .av (.tuple [.int (note % n), .int (note / n)])
theorem ms_place : MonoS S_place := fun ds Q Q' h ⟨x, n, e, h1, h2, q⟩ => ⟨x, n, e, h1, h2, h _ _ q⟩
theorem kp_place : Keeps 2 rd_place_of_note S_place := by
  rintro ds Q ⟨x, n, rfl, h1, h2, q⟩
  exact ⟨md (by omega), div_s ⟨by omega, by omega⟩, by simp, q⟩
theorem kp_lplace : Keeps 3 rd__law_place S_place := by
  rintro ds Q ⟨x, n, rfl, h1, h2, q⟩
  refine ⟨div_s ⟨by omega, by omega⟩, mul_l (by omega), by simp, ?_⟩
  rw [Int.emod_def] at q
  exact q
def Pb (p : Int) : Prop := -1000000000000000000 ≤ p ∧ p ≤ 1000000000000000000
/-- the pitch of a note -/
def pt (t : List Int) (p x : Int) : Int := t.getD (x % (t.length : Int)).toNat 0 + p * (x / (t.length : Int))
theorem pt_lt {t : List Int} (h : 0 < t.length) (x : Int) : 0 ≤ x % (t.length : Int) ∧ (x % (t.length : Int)).toNat < t.length := by
  have h1 := Int.emod_nonneg x (b := (t.length : Int)) (by omega)
  have h2 := Int.emod_lt_of_pos x (b := (t.length : Int)) (by omega)
  omega
def S_sounding : DSp := fun ds Q => ∃ (t : List Int) (p s o : Int), ds = [eI t, .int p, .tuple [.int s, .int o]] ∧ 0 ≤ s ∧ s.toNat < t.length ∧ Pb p ∧ Q .av (.int (t.getD s.toNat 0 + p * o))
theorem ms_sounding : MonoS S_sounding := fun ds Q Q' h ⟨t, p, s, o, e, h1, h2, h3, q⟩ => ⟨t, p, s, o, e, h1, h2, h3, h _ _ q⟩
theorem kp_sounding : Keeps 5 rd_sounding S_sounding := by
  rintro ds Q ⟨t, p, s, o, rfl, h1, h2, h3, q⟩
  refine ⟨rfl, _, at_int h1 h2, mul_l h3, ?_⟩
  rw [gD h2] at q
  exact q
def S_distance : DSp := fun ds Q => ∃ (t : List Int) (p lo hi : Int), ds = [.int (t.length : Int), .int p, eI t, .int lo, .int hi] ∧ 0 < t.length ∧ t.length ≤ 1000 ∧ Pb p ∧ Q .av (.int (pt t p hi - pt t p lo))
theorem ms_distance : MonoS S_distance := fun ds Q Q' h ⟨t, p, s, o, e, h1, h2, h3, q⟩ => ⟨t, p, s, o, e, h1, h2, h3, h _ _ q⟩
theorem kp_distance : Keeps 6 (rd_distance S_sounding S_place) S_distance := by
  rintro ds Q ⟨t, p, lo, hi, rfl, h1, h2, h3, q⟩
  refine ⟨hi, t.length, rfl, h1, h2, ?_⟩
  refine ⟨t, p, _, _, rfl, (pt_lt h1 hi).1, (pt_lt h1 hi).2, h3, ?_⟩
  refine ⟨lo, t.length, rfl, h1, h2, ?_⟩
  exact ⟨t, p, _, _, rfl, (pt_lt h1 lo).1, (pt_lt h1 lo).2, h3, q⟩
def S__law_note_pitch : DSp := fun ds Q => ∃ (t : List Int) (p x : Int), ds = [eI t, .int p, .int x] ∧ 0 < t.length ∧ t.length ≤ 1000 ∧ Pb p ∧ Q .av (.int (pt t p x))
theorem ms__law_note_pitch : MonoS S__law_note_pitch := fun ds Q Q' h ⟨t, p, x, e, h1, h2, h3, q⟩ => ⟨t, p, x, e, h1, h2, h3, h _ _ q⟩
theorem kp__law_note_pitch : Keeps 4 (rd__law_note_pitch S_place) S__law_note_pitch := by
  rintro ds Q ⟨t, p, x, rfl, h1, h2, h3, q⟩
  obtain ⟨m0, m1⟩ := pt_lt h1 x
  refine ⟨x, t.length, by rw [List.length_map], h1, h2, _, rfl, ?_⟩
  refine ⟨_, at_int m0 m1, _, rfl, mul_l h3, ?_⟩
  unfold pt at q
  rw [gD m1] at q
  exact q
end RD

set_option Elab.async false
set_option linter.all false
set_option maxRecDepth 100000
/-! MP2: tastes, pairs of notes, breaches. -/
namespace RD
open PySem DL
open En (en)
structure Ts where
  w : Int
  lo : Option Int
  hi : Option Int
  deriving DecidableEq
instance : En Ts where
  en := fun t => .tuple [.int t.w, en t.lo, en t.hi]
  dp := 1
  lay := fun t => by simp only [PyData.canLay0, PyData.canLayAll0, opt_lay, Bool.and_self]
  dep := fun t => by simp [PyData.depth, PyData.depthAll, opt_dep]
  eqv := fun a b => by
    obtain ⟨a1, a2, a3⟩ := a
    obtain ⟨b1, b2, b3⟩ := b
    simp [PyData.eqv, PyData.eqvAll, opt_eqv]
structure Pr where
  a : Int
  b : Int
  lo : Option Int
  hi : Option Int
  deriving DecidableEq
instance : En Pr where
  en := fun t => .tuple [.int t.a, .int t.b, en t.lo, en t.hi]
  dp := 1
  lay := fun t => by simp only [PyData.canLay0, PyData.canLayAll0, opt_lay, Bool.and_self]
  dep := fun t => by simp [PyData.depth, PyData.depthAll, opt_dep]
  eqv := fun a b => by
    obtain ⟨a1, a2, a3, a4⟩ := a
    obtain ⟨b1, b2, b3, b4⟩ := b
    simp [PyData.eqv, PyData.eqvAll, opt_eqv]
def fr (ts : List Ts) (w : Int) : Option Ts := ts.find? fun t => decide (t.w = w)
def enO (o : Option Ts) : PyData := match o with
  | none => .none
  | some t => en t
def S_taste_of : DSp := fun ds Q => ∃ (ts : List Ts) (w : Int), ds = [.list (ts.map en), .int w] ∧ Q .av (enO (fr ts w))
theorem ms_taste_of : MonoS S_taste_of := fun ds Q Q' h ⟨ts, w, e, q⟩ => ⟨ts, w, e, h _ _ q⟩
theorem kp_taste_of : Keeps 3 rd_taste_of S_taste_of := by
  rintro ds Q ⟨ts, w, rfl, q⟩
  refine for_inv en ts (fun i σ => ∃ s2, σ = [.val false (.list (ts.map en)), .val false (.int w), s2] ∧ fr (ts.take i) w = none) ⟨.non, rfl, rfl⟩ (fun i hi σ K h k => ?_) (fun σ h => ?_)
  · obtain ⟨s2, rfl, hf⟩ := h
    refine ⟨_, rfl, br.dec (fun h => ?_) (fun h => ?_)⟩
    · have h : ts[i].w = w := h
      have e : fr ts w = some ts[i] := by
        unfold fr at hf ⊢
        have e0 : (ts.find? fun t => decide (t.w = w)) = (ts.take i ++ ts.drop i).find? fun t => decide (t.w = w) := by rw [List.take_append_drop]
        rw [e0, List.find?_append, hf, List.drop_eq_getElem_cons hi, List.find?_cons_of_pos (by rw [h]; exact decide_eq_true rfl)]
        simp
      rw [e] at q
      exact q
    · have h : ¬ ts[i].w = w := h
      refine k _ ⟨.val false (en ts[i]), rfl, ?_⟩
      unfold fr at hf ⊢
      rw [List.take_succ_eq_append_getElem hi, List.find?_append, hf, List.find?_cons_of_neg (by rw [decide_eq_false h]; decide)]
      rfl
  · obtain ⟨s2, rfl, hf⟩ := h
    rw [List.take_length] at hf
    rw [hf] at q
    exact q
/-! the pairs of a chord -/
def fp (ts : List Ts) (x y : Int) : Option Pr := (fr ts (y - x)).map fun t => ⟨x, y, t.lo, t.hi⟩
def row (chord : List Int) (ts : List Ts) (i m : Nat) : List Pr := ((chord.drop (i + 1)).take m).filterMap (fp ts (chord.getD i 0))
def tpN (chord : List Int) (ts : List Ts) (i : Nat) : List Pr := (List.range i).flatMap fun k => row chord ts k chord.length
def tp (chord : List Int) (ts : List Ts) : List Pr := tpN chord ts chord.length
theorem tpN_succ (chord : List Int) (ts : List Ts) (i : Nat) : tpN chord ts (i + 1) = tpN chord ts i ++ row chord ts i chord.length := by
  unfold tpN
  rw [List.range_succ, List.flatMap_append, List.flatMap_cons, List.flatMap_nil, List.append_nil]
theorem row_full (chord : List Int) (ts : List Ts) (i : Nat) : row chord ts i (chord.length - (i + 1)) = row chord ts i chord.length := by
  unfold row
  rw [List.take_of_length_le (by rw [List.length_drop]; exact Nat.le_refl _), List.take_of_length_le (by rw [List.length_drop]; omega)]
theorem row_len (chord : List Int) (ts : List Ts) (i m : Nat) : (row chord ts i m).length ≤ m := by
  unfold row
  refine Nat.le_trans (List.length_filterMap_le _ _) ?_
  rw [List.length_take]
  omega
theorem tpN_len (chord : List Int) (ts : List Ts) : ∀ i, (tpN chord ts i).length ≤ i * chord.length
  | 0 => by simp [tpN]
  | i + 1 => by
    rw [tpN_succ, List.length_append, Nat.succ_mul]
    have := tpN_len chord ts i
    have := row_len chord ts i chord.length
    omega
theorem tp_len {chord : List Int} (ts : List Ts) (h : chord.length ≤ 100) : (tp chord ts).length ≤ 10000 :=
  Nat.le_trans (tpN_len chord ts chord.length) (Nat.mul_le_mul h h)
theorem row_succ {chord : List Int} (ts : List Ts) {i m : Nat} (h : i + 1 + m < chord.length) : row chord ts i (m + 1) = row chord ts i m ++ [chord[i + 1 + m]].filterMap (fp ts (chord.getD i 0)) := by
  unfold row
  rw [List.take_succ_eq_append_getElem (by rw [List.length_drop]; omega), List.filterMap_append, List.getElem_drop]
def S_tasted_pairs : DSp := fun ds Q => ∃ (chord : List Int) (ts : List Ts), ds = [eI chord, .list (ts.map en)] ∧ chord.length ≤ 100 ∧ Q .new (en (tp chord ts))
theorem ms_tasted_pairs : MonoS S_tasted_pairs := fun ds Q Q' h ⟨c, ts, e, h1, q⟩ => ⟨c, ts, e, h1, h _ _ q⟩
theorem kp_tasted_pairs : Keeps 6 (rd_tasted_pairs S_taste_of) S_tasted_pairs := by
  rintro ds Q ⟨c, ts, rfl, hc, q⟩
  refine ⟨by simp, sm (by simp) (by simp; omega), for_upTo (fun i σ => ∃ s3 s4 s5, σ = [.val false (eI c), .val false (.list (ts.map en)), .own false ((tpN c ts i).map en), s3, s4, s5]) ⟨.non, .non, .non, rfl⟩ (fun i σ K hi h k => ?_) (fun σ h => ?_)⟩
  · obtain ⟨s3, s4, s5, rfl⟩ := h
    have hi' : i < c.length := by simpa using hi
    have hN := tpN_len c ts i
    have hN2 : i * c.length ≤ 100 * 100 := Nat.mul_le_mul (by omega) hc
    have el : ((((c.map PyData.int).length : Nat) : Int) - (0 + (i : Int) + 1)).toNat = c.length - (i + 1) := by
      rw [List.length_map]
      omega
    refine ⟨sm (by omega) (by omega), sm (by simp) (by simp; omega), ?_⟩
    rw [el]
    refine for_upTo (fun j σ => ∃ s4 s5, σ = [.val false (eI c), .val false (.list (ts.map en)), .own false ((tpN c ts i ++ row c ts i j).map en), .val false (.int (0 + (i : Int))), s4, s5]) ⟨s4, s5, ?_⟩ (fun j σ K2 hj h k2 => ?_) (fun σ h => ?_)
    · have : row c ts i 0 = [] := by
        unfold row
        rw [List.take_zero]
        rfl
      rw [this, List.append_nil]
      rfl
    · obtain ⟨s4, s5, rfl⟩ := h
      have e0 : (0 : Int) + (i : Int) = (i : Int) := by omega
      have e1 : (0 : Int) + (i : Int) + 1 + (j : Int) = ((i + 1 + j : Nat) : Int) := by omega
      have hj' : i + 1 + j < c.length := by omega
      have hR := row_len c ts i j
      have ai : L2.atI (c.map PyData.int) (0 + (i : Int)) = some (.int c[i]) := by rw [e0]; exact at_map hi'
      have aj : L2.atI (c.map PyData.int) (0 + (i : Int) + 1 + (j : Int)) = some (.int c[i + 1 + j]) := by rw [e1]; exact at_map hj'
      refine ⟨_, aj, _, ai, ts, _, rfl, ?_⟩
      cases hf : fr ts (c[i + 1 + j] - c[i]) with
      | none =>
        refine k2 _ ⟨.val false (.int (0 + (i : Int) + 1 + (j : Int))), .val false .none, ?_⟩
        have : [c[i + 1 + j]].filterMap (fp ts (c.getD i 0)) = [] := by
          rw [gD hi']
          simp [List.filterMap_cons, fp, hf]
        rw [row_succ ts hj', this, List.append_nil]
        rfl
      | some t =>
        refine ⟨_, ai, _, aj, _, rfl, _, rfl, by simp, szlt (by rw [List.length_map, List.length_append]; omega), k2 _ ⟨.val false (.int (0 + (i : Int) + 1 + (j : Int))), .val false (en t), ?_⟩⟩
        have : [c[i + 1 + j]].filterMap (fp ts (c.getD i 0)) = [⟨c[i], c[i + 1 + j], t.lo, t.hi⟩] := by
          rw [gD hi']
          simp [List.filterMap_cons, fp, hf]
        rw [row_succ ts hj', this, ← List.append_assoc, List.map_append (l₂ := [_])]
        rfl
    · obtain ⟨s4, s5, rfl⟩ := h
      refine k _ ⟨.val false (.int (0 + (i : Int))), s4, s5, ?_⟩
      rw [tpN_succ, row_full]
  · obtain ⟨s3, s4, s5, rfl⟩ := h
    have en1 : ((((c.map PyData.int).length : Nat) : Int)).toNat = c.length := by simp
    rw [en1]
    exact q
/-! the pairs as the law finds them -/
def tpr (ts : List Ts) : List Int → List Pr
  | [] => []
  | x :: r => r.filterMap (fp ts x) ++ tpr ts r
theorem tp_tpr (ts : List Ts) : ∀ c : List Int, tp c ts = tpr ts c
  | [] => rfl
  | x :: r => by
    have ih := tp_tpr ts r
    unfold tp tpN at ih ⊢
    rw [List.length_cons, List.range_succ_eq_map, List.flatMap_cons, List.flatMap_map]
    unfold tpr
    have e1 : row (x :: r) ts 0 (r.length + 1) = r.filterMap (fp ts x) := by
      show ((r.drop 0).take (r.length + 1)).filterMap (fp ts x) = _
      rw [List.drop_zero, List.take_of_length_le (Nat.le_succ _)]
    rw [e1, ← ih]
    congr 1
    have : (fun k => row (x :: r) ts (k + 1) (r.length + 1)) = fun k => row r ts k r.length := by
      funext k
      show ((r.drop (k + 1)).take (r.length + 1)).filterMap (fp ts (r.getD k 0)) = ((r.drop (k + 1)).take r.length).filterMap (fp ts (r.getD k 0))
      rw [List.take_of_length_le (by rw [List.length_drop]; omega), List.take_of_length_le (by rw [List.length_drop]; omega)]
    exact congrArg (fun f => (List.range r.length).flatMap f) this
def Asc (c : List Int) : Prop := c.Pairwise (· < ·)
def Dis (ts : List Ts) : Prop := (ts.map (·.w)).Nodup
def lpo (x y : Int) (t : Ts) : Option Pr := if x < y ∧ y - x = t.w then some ⟨x, y, t.lo, t.hi⟩ else none
theorem lpo_up {x y : Int} (h : x < y) : ∀ ts : List Ts, Dis ts → ts.filterMap (lpo x y) = (fp ts x y).toList
  | [], _ => rfl
  | t :: ts, hd => by
    have hd' : t.w ∉ ts.map (·.w) ∧ Dis ts := by
      have := List.nodup_cons.mp hd
      exact this
    have ih := lpo_up h ts hd'.2
    by_cases e : y - x = t.w
    · have e1 : lpo x y t = some ⟨x, y, t.lo, t.hi⟩ := by
        unfold lpo
        exact if_pos ⟨h, e⟩
      have e2 : fr (t :: ts) (y - x) = some t := by
        unfold fr
        exact List.find?_cons_of_pos (decide_eq_true e.symm)
      have e3 : fr ts (y - x) = none := by
        unfold fr
        refine List.find?_eq_none.mpr fun u hu hw => hd'.1 ?_
        rw [← e, ← of_decide_eq_true hw]
        exact List.mem_map.mpr ⟨u, hu, rfl⟩
      have e4 : ts.filterMap (lpo x y) = [] := by
        rw [ih]
        unfold fp
        rw [e3]
        rfl
      rw [List.filterMap_cons_some e1, e4]
      unfold fp
      rw [e2]
      rfl
    · have e1 : lpo x y t = none := by
        unfold lpo
        exact if_neg (fun z => e z.2)
      have e2 : fr (t :: ts) (y - x) = fr ts (y - x) := by
        unfold fr
        exact List.find?_cons_of_neg (by rw [decide_eq_false (fun z => e z.symm)]; decide)
      rw [List.filterMap_cons_none e1, ih]
      unfold fp
      rw [e2]
theorem lpo_no {x y : Int} (h : ¬ x < y) (ts : List Ts) : ts.filterMap (lpo x y) = [] := by
  rw [List.filterMap_eq_nil_iff]
  intro t _
  unfold lpo
  exact if_neg (fun z => h z.1)
theorem lpo_row {x : Int} (ts : List Ts) (hd : Dis ts) : ∀ r : List Int, (∀ y ∈ r, x < y) → (r.flatMap fun y => ts.filterMap (lpo x y)) = r.filterMap (fp ts x)
  | [], _ => rfl
  | y :: r, h => by
    rw [List.flatMap_cons, lpo_row ts hd r (fun z hz => h z (List.mem_cons_of_mem _ hz)), lpo_up (h y List.mem_cons_self) ts hd, List.filterMap_cons]
    cases fp ts x y <;> rfl
def lp (c : List Int) (ts : List Ts) : List Pr := c.flatMap fun x => c.flatMap fun y => ts.filterMap (lpo x y)
theorem lp_from (ts : List Ts) (hd : Dis ts) : ∀ (s q : List Int), Asc (q ++ s) → (s.flatMap fun x => (q ++ s).flatMap fun y => ts.filterMap (lpo x y)) = tpr ts s
  | [], _, _ => rfl
  | x :: r, q, h => by
    have ih := lp_from ts hd r (q ++ [x]) (by rw [List.append_assoc]; exact h)
    rw [List.append_assoc] at ih
    have hp := List.pairwise_append.mp h
    rw [List.flatMap_cons]
    have e1 : ((q ++ x :: r).flatMap fun y => ts.filterMap (lpo x y)) = r.filterMap (fp ts x) := by
      rw [List.flatMap_append, List.flatMap_cons, lpo_no (Int.lt_irrefl x), List.nil_append, lpo_row ts hd r (fun y hy => (List.pairwise_cons.mp hp.2.1).1 y hy)]
      have : (q.flatMap fun y => ts.filterMap (lpo x y)) = [] := by
        rw [List.flatMap_eq_nil_iff]
        intro y hy
        have := hp.2.2 y hy x List.mem_cons_self
        exact lpo_no (by omega) ts
      rw [this, List.nil_append]
    rw [e1]
    unfold tpr
    congr 1
theorem lp_tp {c : List Int} {ts : List Ts} (h : Asc c) (hd : Dis ts) : lp c ts = tp c ts := by
  rw [tp_tpr]
  exact lp_from ts hd c [] h
end RD

set_option Elab.async false
set_option linter.all false
set_option maxRecDepth 100000
/-! MP3: what the program and the law say of a piece. -/
namespace RD
open PySem DL
open En (en)
theorem flatMap_len {α β : Type} (f : α → List β) (n : Nat) : ∀ xs : List α, (∀ x ∈ xs, (f x).length ≤ n) → (xs.flatMap f).length ≤ xs.length * n
  | [], _ => by simp
  | x :: xs, h => by
    rw [List.flatMap_cons, List.length_append, List.length_cons, Nat.succ_mul]
    have h1 := h x List.mem_cons_self
    have h2 := flatMap_len f n xs fun y hy => h y (List.mem_cons_of_mem _ hy)
    omega
theorem take_flat {α β : Type} (f : α → List β) {xs : List α} {i : Nat} (h : i < xs.length) : (xs.take (i + 1)).flatMap f = (xs.take i).flatMap f ++ f xs[i] := by
  rw [List.take_succ_eq_append_getElem h, List.flatMap_append, List.flatMap_cons, List.flatMap_nil, List.append_nil]
theorem take_fmap {α β : Type} (f : α → Option β) {xs : List α} {i : Nat} (h : i < xs.length) : (xs.take (i + 1)).filterMap f = (xs.take i).filterMap f ++ (f xs[i]).toList := by
  rw [List.take_succ_eq_append_getElem h, List.filterMap_append]
  cases e : f xs[i] <;> simp [List.filterMap_cons, e]
def S__law_pairs : DSp := fun ds Q => ∃ (c : List Int) (ts : List Ts), ds = [eI c, .list (ts.map en)] ∧ c.length ≤ 100 ∧ ts.length ≤ 100 ∧ Asc c ∧ Dis ts ∧ Q .new (en (tp c ts))
theorem ms__law_pairs : MonoS S__law_pairs := fun ds Q Q' h ⟨c, ts, e, h1, h2, h3, h4, q⟩ => ⟨c, ts, e, h1, h2, h3, h4, h _ _ q⟩
theorem kp__law_pairs : Keeps 8 rd__law_pairs S__law_pairs := by
  rintro ds Q ⟨c, ts, rfl, hc, ht, ha, hd, q⟩
  rw [← lp_tp ha hd] at q
  have L1 : ∀ x y, (ts.filterMap (lpo x y)).length ≤ 100 := fun x y => Nat.le_trans (List.length_filterMap_le _ _) ht
  have L2 : ∀ x, (c.flatMap fun y => ts.filterMap (lpo x y)).length ≤ 10000 := fun x => Nat.le_trans (flatMap_len _ 100 c fun y _ => L1 x y) (by omega)
  refine ⟨by simp, for_inv PyData.int c (fun i σ => ∃ s3 s4 s5 s6 s7, σ = [.val false (eI c), .val false (.list (ts.map en)), .own false (((c.take i).flatMap fun x => c.flatMap fun y => ts.filterMap (lpo x y)).map (en (α := Pr))), s3, s4, s5, s6, s7]) ⟨.non, .non, .non, .non, .non, rfl⟩ (fun i hi σ K h k => ?_) (fun σ h => ?_)⟩
  · obtain ⟨s3, s4, s5, s6, s7, rfl⟩ := h
    have hA := flatMap_len (fun x => c.flatMap fun y => ts.filterMap (lpo x y)) 10000 (c.take i) (fun x _ => L2 x)
    rw [List.length_take] at hA
    generalize hacc : ((c.take i).flatMap fun x => c.flatMap fun y => ts.filterMap (lpo x y)) = acc at *
    refine for_inv PyData.int c (fun j σ => ∃ s4 s5 s6 s7, σ = [.val false (eI c), .val false (.list (ts.map en)), .own false ((acc ++ (c.take j).flatMap fun y => ts.filterMap (lpo c[i] y)).map (en (α := Pr))), .val false (.int c[i]), s4, s5, s6, s7]) ⟨s4, s5, s6, s7, by rw [List.take_zero, List.flatMap_nil, List.append_nil]; rfl⟩ (fun j hj σ K2 h k2 => ?_) (fun σ h => ?_)
    · obtain ⟨s4, s5, s6, s7, rfl⟩ := h
      have hB := flatMap_len (fun y => ts.filterMap (lpo c[i] y)) 100 (c.take j) (fun y _ => L1 c[i] y)
      rw [List.length_take] at hB
      generalize hacb : ((c.take j).flatMap fun y => ts.filterMap (lpo c[i] y)) = acb at *
      refine for_inv en ts (fun m σ => ∃ s5 s6 s7, σ = [.val false (eI c), .val false (.list (ts.map en)), .own false ((acc ++ acb ++ (ts.take m).filterMap (lpo c[i] c[j])).map (en (α := Pr))), .val false (.int c[i]), .val false (.int c[j]), s5, s6, s7]) ⟨s5, s6, s7, by rw [List.take_zero, List.filterMap_nil, List.append_nil]; rfl⟩ (fun m hm σ K3 h k3 => ?_) (fun σ h => ?_)
      · obtain ⟨s5, s6, s7, rfl⟩ := h
        have hC := List.length_filterMap_le (lpo c[i] c[j]) (ts.take m)
        rw [List.length_take] at hC
        have no : ¬ (c[i] < c[j] ∧ c[j] - c[i] = ts[m].w) → K3 [.val false (eI c), .val false (.list (ts.map en)), .own false ((acc ++ acb ++ (ts.take m).filterMap (lpo c[i] c[j])).map (en (α := Pr))), .val false (.int c[i]), .val false (.int c[j]), .val false (.int ts[m].w), .val false (en ts[m].lo), .val false (en ts[m].hi)] := fun z => by
          refine k3 _ ⟨.val false (.int ts[m].w), .val false (en ts[m].lo), .val false (en ts[m].hi), ?_⟩
          have e1 : lpo c[i] c[j] ts[m] = none := by
            unfold lpo
            exact if_neg z
          rw [take_fmap _ hm, e1]
          simp only [Option.toList, List.append_nil]
        refine ⟨rfl, br.dec (fun h1 => br.dec (fun h2 => ?_) (fun h2 => no fun z => h2 z.2)) (fun h1 => no fun z => h1 z.1)⟩
        refine ⟨by simp, szlt (by rw [List.length_map, List.length_append, List.length_append]; omega), k3 _ ⟨.val false (.int ts[m].w), .val false (en ts[m].lo), .val false (en ts[m].hi), ?_⟩⟩
        have e1 : lpo c[i] c[j] ts[m] = some ⟨c[i], c[j], ts[m].lo, ts[m].hi⟩ := by
          unfold lpo
          exact if_pos ⟨h1, h2⟩
        rw [take_fmap _ hm, e1, ← List.append_assoc, List.map_append (l₂ := Option.toList _)]
        rfl
      · obtain ⟨s5, s6, s7, rfl⟩ := h
        refine k2 _ ⟨.val false (.int c[j]), s5, s6, s7, ?_⟩
        rw [take_flat _ hj, hacb, List.take_length, List.append_assoc]
    · obtain ⟨s4, s5, s6, s7, rfl⟩ := h
      refine k _ ⟨.val false (.int c[i]), s4, s5, s6, s7, ?_⟩
      rw [take_flat _ hi, hacc, List.take_length]
  · obtain ⟨s3, s4, s5, s6, s7, rfl⟩ := h
    rw [List.take_length]
    exact q
/-! breaches -/
structure Bh where
  k : Nat
  a : Int
  b : Int
  w : Int
  deriving DecidableEq
instance : En Bh where
  en := fun t => .tuple [.int (t.k : Int), .int t.a, .int t.b, .int t.w]
  dp := 1
  lay := fun t => by simp only [PyData.canLay0, PyData.canLayAll0, Bool.and_self]
  dep := fun t => by simp [PyData.depth, PyData.depthAll]
  eqv := fun a b => by
    obtain ⟨a1, a2, a3, a4⟩ := a
    obtain ⟨b1, b2, b3, b4⟩ := b
    simp [PyData.eqv, PyData.eqvAll, Int.natCast_inj]
def flN (ts : List Ts) (piece : List (List Int)) (i : Nat) : List (Nat × Pr) := (List.range i).flatMap fun k => (tp (piece.getD k []) ts).map fun p => (k, p)
theorem flN_succ (ts : List Ts) {piece : List (List Int)} {i : Nat} (h : i < piece.length) : flN ts piece (i + 1) = flN ts piece i ++ (tp piece[i] ts).map fun p => (i, p) := by
  unfold flN
  rw [List.range_succ, List.flatMap_append, List.flatMap_cons, List.flatMap_nil, List.append_nil, gD h]
def Few (piece : List (List Int)) : Prop := piece.length ≤ 100 ∧ ∀ c ∈ piece, c.length ≤ 100
theorem flN_len (ts : List Ts) {piece : List (List Int)} (h : Few piece) : ∀ i, i ≤ piece.length → (flN ts piece i).length ≤ 10000 * i
  | 0, _ => by simp [flN]
  | i + 1, hi => by
    rw [flN_succ ts (show i < piece.length by omega), List.length_append, List.length_map]
    have := flN_len ts h i (by omega)
    have := tp_len ts (h.2 piece[i] (List.getElem_mem (by omega)))
    omega
def bad (t : List Int) (p : Int) (x : Nat × Pr) : Bool := !wi (pt t p x.2.b - pt t p x.2.a) x.2.lo x.2.hi
def mkB (t : List Int) (p : Int) (x : Nat × Pr) : Bh := ⟨x.1, x.2.a, x.2.b, pt t p x.2.b - pt t p x.2.a⟩
def brs (t : List Int) (p : Int) (fl : List (Nat × Pr)) : List Bh := (fl.filter (bad t p)).map (mkB t p)
theorem brs_app (t : List Int) (p : Int) (a b : List (Nat × Pr)) : brs t p (a ++ b) = brs t p a ++ brs t p b := by
  unfold brs
  rw [List.filter_append, List.map_append]
theorem brs_len (t : List Int) (p : Int) (a : List (Nat × Pr)) : (brs t p a).length ≤ a.length := by
  unfold brs
  rw [List.length_map]
  exact List.length_filter_le _ _
theorem brs_one (t : List Int) (p : Int) (x : Nat × Pr) (h : bad t p x = true) : brs t p [x] = [mkB t p x] := by
  unfold brs
  rw [List.filter_cons_of_pos h, List.filter_nil]
  rfl
theorem brs_non (t : List Int) (p : Int) (x : Nat × Pr) (h : bad t p x = false) : brs t p [x] = [] := by
  unfold brs
  rw [List.filter_cons_of_neg (by rw [h]; decide), List.filter_nil]
  rfl
def S_breaches : DSp := fun ds Q => ∃ (t : List Int) (p : Int) (piece : List (List Int)) (ts : List Ts), ds = [.int (t.length : Int), .int p, eI t, .list (piece.map en), .list (ts.map en)] ∧ 0 < t.length ∧ t.length ≤ 1000 ∧ Pb p ∧ Few piece ∧ Q .new (en (brs t p (flN ts piece piece.length)))
theorem ms_breaches : MonoS S_breaches := fun ds Q Q' h ⟨t, p, piece, ts, e, h1, h2, h3, h4, q⟩ => ⟨t, p, piece, ts, e, h1, h2, h3, h4, h _ _ q⟩
theorem kp_breaches : Keeps 12 (rd_breaches S_tasted_pairs S_distance S_within) S_breaches := by
  rintro ds Q ⟨t, p, piece, ts, rfl, h1, h2, hp, hf, q⟩
  have hf1 := hf.1
  refine ⟨by simp, sm (by simp) (by simp; omega), for_upTo (fun i σ => ∃ s6 s7 s8 s9 s10 s11, σ = [.val false (.int (t.length : Int)), .val false (.int p), .val false (eI t), .val false (.list (piece.map en)), .val false (.list (ts.map en)), .own false ((brs t p (flN ts piece i)).map en), s6, s7, s8, s9, s10, s11]) ⟨.non, .non, .non, .non, .non, .non, rfl⟩ (fun i σ K hi h k => ?_) (fun σ h => ?_)⟩
  · obtain ⟨s6, s7, s8, s9, s10, s11, rfl⟩ := h
    have hi' : i < piece.length := by simpa using hi
    have e0 : (0 : Int) + (i : Int) = (i : Int) := by omega
    have hc := hf.2 piece[i] (List.getElem_mem hi')
    have hN := flN_len ts hf i (by omega)
    have hT := tp_len ts hc
    rw [e0]
    refine ⟨_, at_map hi', piece[i], ts, rfl, hc, ?_⟩
    refine for_inv en (tp piece[i] ts) (fun j σ => ∃ s7 s8 s9 s10 s11, σ = [.val false (.int (t.length : Int)), .val false (.int p), .val false (eI t), .val false (.list (piece.map en)), .val false (.list (ts.map en)), .own false ((brs t p (flN ts piece i ++ ((tp piece[i] ts).take j).map fun p => (i, p))).map en), .val false (.int (i : Int)), s7, s8, s9, s10, s11]) ⟨s7, s8, s9, s10, s11, by rw [List.take_zero, List.map_nil, List.append_nil]; rfl⟩ (fun j hj σ K2 h k2 => ?_) (fun σ h => ?_)
    · obtain ⟨s7, s8, s9, s10, s11, rfl⟩ := h
      refine ⟨rfl, ?_⟩
      generalize hx : (tp piece[i] ts)[j] = x at *
      refine ⟨t, p, x.a, x.b, rfl, h1, h2, hp, ?_⟩
      refine ⟨_, x.lo, x.hi, rfl, ?_⟩
      have es : brs t p (flN ts piece i ++ ((tp piece[i] ts).take (j + 1)).map fun p => (i, p)) = brs t p (flN ts piece i ++ ((tp piece[i] ts).take j).map fun p => (i, p)) ++ brs t p [(i, x)] := by
        rw [List.take_succ_eq_append_getElem hj, hx, List.map_append, ← List.append_assoc, brs_app]
        rfl
      cases hb : wi (pt t p x.b - pt t p x.a) x.lo x.hi with
      | true =>
        refine k2 _ ⟨.val false (.int x.a), .val false (.int x.b), .val false (en x.lo), .val false (en x.hi), .val false (.int (pt t p x.b - pt t p x.a)), ?_⟩
        rw [es, brs_non t p (i, x) (by unfold bad; rw [hb]; rfl), List.append_nil]
        rfl
      | false =>
        refine ⟨by simp, szlt ?_, k2 _ ⟨.val false (.int x.a), .val false (.int x.b), .val false (en x.lo), .val false (en x.hi), .val false (.int (pt t p x.b - pt t p x.a)), ?_⟩⟩
        · rw [List.length_map]
          refine Nat.lt_of_le_of_lt (brs_len t p _) ?_
          rw [List.length_append, List.length_map, List.length_take]
          omega
        · rw [es, brs_one t p (i, x) (by unfold bad; rw [hb]; rfl), List.map_append]
          rfl
    · obtain ⟨s7, s8, s9, s10, s11, rfl⟩ := h
      refine k _ ⟨.val false (.int (i : Int)), s7, s8, s9, s10, s11, ?_⟩
      rw [List.take_length, flN_succ ts hi']
  · obtain ⟨s6, s7, s8, s9, s10, s11, rfl⟩ := h
    have en1 : ((((piece.map (en (α := List Int))).length : Nat) : Int)).toNat = piece.length := by simp
    rw [en1]
    exact q
end RD

set_option Elab.async false
set_option linter.all false
set_option maxRecDepth 100000
/-! MP4: the law's breaches; demands of a piece. -/
namespace RD
open PySem DL
open En (en)
def FewT (ts : List Ts) : Prop := ts.length ≤ 100 ∧ Dis ts
def AllAsc (piece : List (List Int)) : Prop := ∀ c ∈ piece, Asc c
theorem out_test {lo hi : Option Int} {x : Int} {s0 s1 s2 s3 s4 s5 s6 s7 : Sl} {A N : Prop} (hp : wi x lo hi = false → A) (hn : wi x lo hi = true → N) :
    (dOr (dAnd (dCmp rIsNot (dVar 8) (dC .none)) (dCmp rLt (dVar 10) (dVar 8))) (dAnd (dCmp rIsNot (dVar 9) (dC .none)) (dCmp rGt (dVar 10) (dVar 9)))) [s0, s1, s2, s3, s4, s5, s6, s7, .val false (en lo), .val false (en hi), .val false (.int x)] fun b => br b A N := by
  have up : (wi x none hi = false → A) → (wi x none hi = true → N) → (dAnd (dCmp rIsNot (dVar 9) (dC .none)) (dCmp rGt (dVar 10) (dVar 9))) [s0, s1, s2, s3, s4, s5, s6, s7, .val false (en lo), .val false (en hi), .val false (.int x)] fun b => br b A N := fun hp hn => by
    cases hi with
    | none => exact hn rfl
    | some h =>
      refine br.dec (fun z => hp ?_) (fun z => hn ?_)
      · show (true && decide (x ≤ h)) = false
        rw [decide_eq_false (by omega)]
        rfl
      · show (true && decide (x ≤ h)) = true
        rw [decide_eq_true (by omega)]
        rfl
  cases lo with
  | none => exact up hp hn
  | some l =>
    refine br.dec (fun h => ?_) (fun h => ?_)
    · refine hp ?_
      unfold wi
      simp only [decide_eq_false (show ¬ l ≤ x by omega), Bool.false_and]
    · have e : wi x (some l) hi = wi x none hi := by
        unfold wi
        simp only [decide_eq_true (show l ≤ x by omega)]
      rw [e] at hp hn
      exact up hp hn
def S__law_breaches : DSp := fun ds Q => ∃ (t : List Int) (p : Int) (piece : List (List Int)) (ts : List Ts), ds = [.int p, eI t, .list (piece.map en), .list (ts.map en)] ∧ 0 < t.length ∧ t.length ≤ 1000 ∧ Pb p ∧ Few piece ∧ FewT ts ∧ AllAsc piece ∧ Q .new (en (brs t p (flN ts piece piece.length)))
theorem ms__law_breaches : MonoS S__law_breaches := fun ds Q Q' h ⟨t, p, piece, ts, e, h1, h2, h3, h4, h5, h6, q⟩ => ⟨t, p, piece, ts, e, h1, h2, h3, h4, h5, h6, h _ _ q⟩
theorem kp__law_breaches : Keeps 11 (rd__law_breaches S__law_pairs S__law_note_pitch) S__law_breaches := by
  rintro ds Q ⟨t, p, piece, ts, rfl, h1, h2, hp, hf, ht, ha, q⟩
  have hf1 := hf.1
  refine ⟨by simp, sm (by simp) (by simp; omega), for_upTo (fun i σ => ∃ s5 s6 s7 s8 s9 s10, σ = [.val false (.int p), .val false (eI t), .val false (.list (piece.map en)), .val false (.list (ts.map en)), .own false ((brs t p (flN ts piece i)).map en), s5, s6, s7, s8, s9, s10]) ⟨.non, .non, .non, .non, .non, .non, rfl⟩ (fun i σ K hi h k => ?_) (fun σ h => ?_)⟩
  · obtain ⟨s5, s6, s7, s8, s9, s10, rfl⟩ := h
    have hi' : i < piece.length := by simpa using hi
    have e0 : (0 : Int) + (i : Int) = (i : Int) := by omega
    have hc := hf.2 piece[i] (List.getElem_mem hi')
    have hN := flN_len ts hf i (by omega)
    have hT := tp_len ts hc
    rw [e0]
    refine ⟨_, at_map hi', piece[i], ts, rfl, hc, ht.1, ha _ (List.getElem_mem hi'), ht.2, ?_⟩
    refine for_inv en (tp piece[i] ts) (fun j σ => ∃ s6 s7 s8 s9 s10, σ = [.val false (.int p), .val false (eI t), .val false (.list (piece.map en)), .val false (.list (ts.map en)), .own false ((brs t p (flN ts piece i ++ ((tp piece[i] ts).take j).map fun p => (i, p))).map en), .val false (.int (i : Int)), s6, s7, s8, s9, s10]) ⟨s6, s7, s8, s9, s10, by rw [List.take_zero, List.map_nil, List.append_nil]; rfl⟩ (fun j hj σ K2 h k2 => ?_) (fun σ h => ?_)
    · obtain ⟨s6, s7, s8, s9, s10, rfl⟩ := h
      refine ⟨rfl, ?_⟩
      generalize hx : (tp piece[i] ts)[j] = x
      refine ⟨t, p, x.b, rfl, h1, h2, hp, ?_⟩
      refine ⟨t, p, x.a, rfl, h1, h2, hp, ?_⟩
      have es : brs t p (flN ts piece i ++ ((tp piece[i] ts).take (j + 1)).map fun p => (i, p)) = brs t p (flN ts piece i ++ ((tp piece[i] ts).take j).map fun p => (i, p)) ++ brs t p [(i, x)] := by
        rw [List.take_succ_eq_append_getElem hj, hx, List.map_append, ← List.append_assoc, brs_app]
        rfl
      refine out_test (lo := x.lo) (hi := x.hi) (x := pt t p x.b - pt t p x.a) (fun hb => ?_) (fun hb => ?_)
      · refine ⟨by simp, szlt ?_, k2 _ ⟨.val false (.int x.a), .val false (.int x.b), .val false (en x.lo), .val false (en x.hi), .val false (.int (pt t p x.b - pt t p x.a)), ?_⟩⟩
        · rw [List.length_map]
          refine Nat.lt_of_le_of_lt (brs_len t p _) ?_
          rw [List.length_append, List.length_map, List.length_take]
          omega
        · rw [es, brs_one t p (i, x) (by unfold bad; rw [hb]; rfl), List.map_append]
          rfl
      · refine k2 _ ⟨.val false (.int x.a), .val false (.int x.b), .val false (en x.lo), .val false (en x.hi), .val false (.int (pt t p x.b - pt t p x.a)), ?_⟩
        rw [es, brs_non t p (i, x) (by unfold bad; rw [hb]; rfl), List.append_nil]
        rfl
    · obtain ⟨s6, s7, s8, s9, s10, rfl⟩ := h
      refine k _ ⟨.val false (.int (i : Int)), s6, s7, s8, s9, s10, ?_⟩
      rw [List.take_length, flN_succ ts hi']
  · obtain ⟨s5, s6, s7, s8, s9, s10, rfl⟩ := h
    have en1 : ((((piece.map (en (α := List Int))).length : Nat) : Int)).toNat = piece.length := by simp
    rw [en1]
    exact q
/-! all pairs -/
structure P3 where
  k : Nat
  a : Int
  b : Int
  deriving DecidableEq
instance : En P3 where
  en := fun t => .tuple [.int (t.k : Int), .int t.a, .int t.b]
  dp := 1
  lay := fun t => by simp only [PyData.canLay0, PyData.canLayAll0, Bool.and_self]
  dep := fun t => by simp [PyData.depth, PyData.depthAll]
  eqv := fun a b => by
    obtain ⟨a1, a2, a3⟩ := a
    obtain ⟨b1, b2, b3⟩ := b
    simp [PyData.eqv, PyData.eqvAll, Int.natCast_inj]
def m3 (x : Nat × Pr) : P3 := ⟨x.1, x.2.a, x.2.b⟩
def S__law_all_pairs : DSp := fun ds Q => ∃ (piece : List (List Int)) (ts : List Ts), ds = [.list (piece.map en), .list (ts.map en)] ∧ Few piece ∧ FewT ts ∧ AllAsc piece ∧ Q .new (en ((flN ts piece piece.length).map m3))
theorem ms__law_all_pairs : MonoS S__law_all_pairs := fun ds Q Q' h ⟨piece, ts, e, h4, h5, h6, q⟩ => ⟨piece, ts, e, h4, h5, h6, h _ _ q⟩
theorem kp__law_all_pairs : Keeps 8 (rd__law_all_pairs S__law_pairs) S__law_all_pairs := by
  rintro ds Q ⟨piece, ts, rfl, hf, ht, ha, q⟩
  have hf1 := hf.1
  refine ⟨by simp, sm (by simp) (by simp; omega), for_upTo (fun i σ => ∃ s3 s4 s5 s6 s7, σ = [.val false (.list (piece.map en)), .val false (.list (ts.map en)), .own false (((flN ts piece i).map m3).map en), s3, s4, s5, s6, s7]) ⟨.non, .non, .non, .non, .non, rfl⟩ (fun i σ K hi h k => ?_) (fun σ h => ?_)⟩
  · obtain ⟨s3, s4, s5, s6, s7, rfl⟩ := h
    have hi' : i < piece.length := by simpa using hi
    have e0 : (0 : Int) + (i : Int) = (i : Int) := by omega
    have hc := hf.2 piece[i] (List.getElem_mem hi')
    have hN := flN_len ts hf i (by omega)
    have hT := tp_len ts hc
    rw [e0]
    refine ⟨_, at_map hi', piece[i], ts, rfl, hc, ht.1, ha _ (List.getElem_mem hi'), ht.2, ?_⟩
    refine for_inv en (tp piece[i] ts) (fun j σ => ∃ s4 s5 s6 s7, σ = [.val false (.list (piece.map en)), .val false (.list (ts.map en)), .own false (((flN ts piece i ++ ((tp piece[i] ts).take j).map fun p => (i, p)).map m3).map en), .val false (.int (i : Int)), s4, s5, s6, s7]) ⟨s4, s5, s6, s7, by rw [List.take_zero, List.map_nil, List.append_nil]; rfl⟩ (fun j hj σ K2 h k2 => ?_) (fun σ h => ?_)
    · obtain ⟨s4, s5, s6, s7, rfl⟩ := h
      refine ⟨rfl, by simp, szlt ?_, k2 _ ⟨.val false (.int (tp piece[i] ts)[j].a), .val false (.int (tp piece[i] ts)[j].b), .val false (en (tp piece[i] ts)[j].lo), .val false (en (tp piece[i] ts)[j].hi), ?_⟩⟩
      · rw [List.length_map, List.length_map, List.length_append, List.length_map, List.length_take]
        omega
      · rw [List.take_succ_eq_append_getElem hj, List.map_append (l₂ := [_]), ← List.append_assoc, List.map_append (l₂ := List.map _ [_]), List.map_append (l₂ := List.map _ (List.map _ [_]))]
        rfl
    · obtain ⟨s4, s5, s6, s7, rfl⟩ := h
      refine k _ ⟨.val false (.int (i : Int)), s4, s5, s6, s7, ?_⟩
      rw [List.take_length, flN_succ ts hi']
  · obtain ⟨s3, s4, s5, s6, s7, rfl⟩ := h
    have en1 : ((((piece.map (en (α := List Int))).length : Nat) : Int)).toNat = piece.length := by simp
    rw [en1]
    exact q
/-! the piece as demands -/
def ePl (n : Nat) (p : Pr) : PyData := .tuple [.tuple [.int (p.a % n), .int (p.a / n)], .tuple [.int (p.b % n), .int (p.b / n)], en p.lo, en p.hi]
def S_piece_placed : DSp := fun ds Q => ∃ (n : Nat) (piece : List (List Int)) (ts : List Ts), ds = [.int (n : Int), .list (piece.map en), .list (ts.map en)] ∧ 0 < n ∧ n ≤ 1000 ∧ Few piece ∧ Q .new (.list ((flN ts piece piece.length).map fun x => ePl n x.2))
theorem ms_piece_placed : MonoS S_piece_placed := fun ds Q Q' h ⟨n, piece, ts, e, h4, h5, h6, q⟩ => ⟨n, piece, ts, e, h4, h5, h6, h _ _ q⟩
theorem kp_piece_placed : Keeps 9 (rd_piece_placed S_tasted_pairs S_place) S_piece_placed := by
  rintro ds Q ⟨n, piece, ts, rfl, h1, h2, hf, q⟩
  have hf1 := hf.1
  refine ⟨by simp, for_inv en piece (fun i σ => ∃ s4 s5 s6 s7 s8, σ = [.val false (.int (n : Int)), .val false (.list (piece.map en)), .val false (.list (ts.map en)), .own false ((flN ts piece i).map fun x => ePl n x.2), s4, s5, s6, s7, s8]) ⟨.non, .non, .non, .non, .non, rfl⟩ (fun i hi' σ K h k => ?_) (fun σ h => ?_)⟩
  · obtain ⟨s4, s5, s6, s7, s8, rfl⟩ := h
    have hc := hf.2 piece[i] (List.getElem_mem hi')
    have hN := flN_len ts hf i (by omega)
    have hT := tp_len ts hc
    refine ⟨piece[i], ts, rfl, hc, ?_⟩
    refine for_inv en (tp piece[i] ts) (fun j σ => ∃ s5 s6 s7 s8, σ = [.val false (.int (n : Int)), .val false (.list (piece.map en)), .val false (.list (ts.map en)), .own false ((flN ts piece i ++ ((tp piece[i] ts).take j).map fun p => (i, p)).map fun x => ePl n x.2), .val false (en piece[i]), s5, s6, s7, s8]) ⟨s5, s6, s7, s8, by rw [List.take_zero, List.map_nil, List.append_nil]; rfl⟩ (fun j hj σ K2 h k2 => ?_) (fun σ h => ?_)
    · obtain ⟨s5, s6, s7, s8, rfl⟩ := h
      refine ⟨rfl, ?_⟩
      refine ⟨(tp piece[i] ts)[j].a, n, rfl, h1, h2, ?_⟩
      refine ⟨(tp piece[i] ts)[j].b, n, rfl, h1, h2, ?_⟩
      refine ⟨by simp, szlt ?_, k2 _ ⟨.val false (.int (tp piece[i] ts)[j].a), .val false (.int (tp piece[i] ts)[j].b), .val false (en (tp piece[i] ts)[j].lo), .val false (en (tp piece[i] ts)[j].hi), ?_⟩⟩
      · rw [List.length_map, List.length_append, List.length_map, List.length_take]
        omega
      · rw [List.take_succ_eq_append_getElem hj, List.map_append (l₂ := [_]), ← List.append_assoc, List.map_append (l₂ := List.map _ [_])]
        rfl
    · obtain ⟨s5, s6, s7, s8, rfl⟩ := h
      refine k _ ⟨.val false (en piece[i]), s5, s6, s7, s8, ?_⟩
      rw [List.take_length, flN_succ ts hi']
  · obtain ⟨s4, s5, s6, s7, s8, rfl⟩ := h
    exact q
def eMo (n : Nat) (p : Pr) : PyData := .tuple [.int (p.a % n), .int (p.b % n), en p.lo, .int (-(p.b / n - p.a / n)), en p.hi, .int (-(p.b / n - p.a / n))]
def S_moving_octave : DSp := fun ds Q => ∃ (n : Nat) (p : Pr), ds = [ePl n p] ∧ Q .av (eMo n p)
theorem ms_moving_octave : MonoS S_moving_octave := fun ds Q Q' h ⟨n, p, e, q⟩ => ⟨n, p, e, h _ _ q⟩
theorem kp_moving_octave : Keeps 6 rd_moving_octave S_moving_octave := by
  rintro ds Q ⟨n, p, rfl, q⟩
  exact ⟨rfl, _, rfl, _, rfl, _, rfl, _, rfl, by simp, q⟩
def S_moving_octaves : DSp := fun ds Q => ∃ (n : Nat) (ps : List (Nat × Pr)), ds = [.list (ps.map fun x => ePl n x.2)] ∧ ps.length ≤ 10000000 ∧ Q .new (.list (ps.map fun x => eMo n x.2))
theorem ms_moving_octaves : MonoS S_moving_octaves := fun ds Q Q' h ⟨n, p, e, h1, q⟩ => ⟨n, p, e, h1, h _ _ q⟩
theorem kp_moving_octaves : Keeps 2 (rd_moving_octaves S_moving_octave) S_moving_octaves := by
  rintro ds Q ⟨n, ps, rfl, h1, q⟩
  exact lc_map (fun x : Nat × Pr => ePl n x.2) ps (fun x => eMo n x.2) h1 (fun x hx P N p => ⟨n, x.2, rfl, p⟩) q
def S_bound_at : DSp := fun ds Q => ∃ (o : Option Int) (r x : Int), ds = [en o, .int r, .int x] ∧ Pb x ∧ Q .av (en (o.map fun b => b + x * r))
theorem ms_bound_at : MonoS S_bound_at := fun ds Q Q' h ⟨o, r, x, e, h1, q⟩ => ⟨o, r, x, e, h1, h _ _ q⟩
theorem kp_bound_at : Keeps 3 rd_bound_at S_bound_at := by
  rintro ds Q ⟨o, r, x, rfl, h1, q⟩
  cases o with
  | none => exact q
  | some b => exact ⟨mul_l h1, q⟩
def dmOf (n : Nat) (x : Int) (p : Pr) : Dm := ⟨(p.a % n).toNat, (p.b % n).toNat, p.lo.map fun b => b + x * -(p.b / n - p.a / n), p.hi.map fun b => b + x * -(p.b / n - p.a / n)⟩
def S_demand_at : DSp := fun ds Q => ∃ (n : Nat) (p : Pr) (x : Int), ds = [eMo n p, .int x] ∧ 0 < n ∧ Pb x ∧ Q .av (en (dmOf n x p))
theorem ms_demand_at : MonoS S_demand_at := fun ds Q Q' h ⟨n, p, x, e, h1, h2, q⟩ => ⟨n, p, x, e, h1, h2, h _ _ q⟩
theorem kp_demand_at : Keeps 8 (rd_demand_at S_bound_at) S_demand_at := by
  rintro ds Q ⟨n, p, x, rfl, h1, h2, q⟩
  refine ⟨rfl, ?_⟩
  refine ⟨p.lo, -(p.b / n - p.a / n), x, rfl, h2, ?_⟩
  refine ⟨p.hi, -(p.b / n - p.a / n), x, rfl, h2, ?_⟩
  have ea : (((p.a % n).toNat : Nat) : Int) = p.a % n := by
    have := Int.emod_nonneg p.a (b := (n : Int)) (by omega)
    omega
  have eb : (((p.b % n).toNat : Nat) : Int) = p.b % n := by
    have := Int.emod_nonneg p.b (b := (n : Int)) (by omega)
    omega
  have q : Q .av (.tuple [.int (((p.a % n).toNat : Nat) : Int), .int (((p.b % n).toNat : Nat) : Int), en (p.lo.map fun b => b + x * -(p.b / n - p.a / n)), en (p.hi.map fun b => b + x * -(p.b / n - p.a / n))]) := q
  rw [ea, eb] at q
  exact ⟨by simp, q⟩
def S_demands_at : DSp := fun ds Q => ∃ (n : Nat) (ps : List (Nat × Pr)) (x : Int), ds = [.list (ps.map fun x => eMo n x.2), .int x] ∧ 0 < n ∧ Pb x ∧ ps.length ≤ 10000000 ∧ Q .new (.list (ps.map fun y => en (dmOf n x y.2)))
theorem ms_demands_at : MonoS S_demands_at := fun ds Q Q' h ⟨n, p, x, e, h1, h2, h3, q⟩ => ⟨n, p, x, e, h1, h2, h3, h _ _ q⟩
theorem kp_demands_at : Keeps 3 (rd_demands_at S_demand_at) S_demands_at := by
  rintro ds Q ⟨n, ps, x, rfl, h1, h2, h3, q⟩
  exact lc_map (fun x : Nat × Pr => eMo n x.2) ps (fun y => en (dmOf n x y.2)) h3 (fun y hx P N p => ⟨n, y.2, x, rfl, h1, h2, p⟩) q
def S_placed_at : DSp := fun ds Q => ∃ (n : Nat) (ps : List (Nat × Pr)) (x : Int), ds = [.list (ps.map fun x => ePl n x.2), .int x] ∧ 0 < n ∧ Pb x ∧ ps.length ≤ 10000000 ∧ Q .new (.list (ps.map fun y => en (dmOf n x y.2)))
theorem ms_placed_at : MonoS S_placed_at := fun ds Q Q' h ⟨n, p, x, e, h1, h2, h3, q⟩ => ⟨n, p, x, e, h1, h2, h3, h _ _ q⟩
theorem kp_placed_at : Keeps 2 (rd_placed_at S_demands_at S_moving_octaves) S_placed_at := by
  rintro ds Q ⟨n, ps, x, rfl, h1, h2, h3, q⟩
  refine ⟨n, ps, rfl, h3, ?_⟩
  exact ⟨n, ps, x, rfl, h1, h2, h3, q⟩
end RD

set_option Elab.async false
set_option linter.all false
set_option maxRecDepth 100000
/-! MP5: the world of pieces. -/
namespace RD
open PySem DL
open En (en)
theorem seq_join {a rest : DS} {D : Ed} {σ : Ds} (P : Ds → Prop) (h : ∀ K : Ds → Prop, (∀ σ', P σ' → K σ') → a { D with nx := K } σ) (h2 : ∀ σ', P σ' → rest D σ') : dSeq a rest D σ := h _ h2
/-! rows alike -/
def eT (xs : List Int) : PyData := .tuple (xs.map PyData.int)
def S__law_same_row : DSp := fun ds Q => ∃ xs : List Int, ds = [eT xs, eT xs] ∧ xs.length ≤ 1000 ∧ Q .av (.bool true)
theorem ms__law_same_row : MonoS S__law_same_row := fun ds Q Q' h ⟨xs, e, h1, q⟩ => ⟨xs, e, h1, h _ _ q⟩
theorem kp__law_same_row : Keeps 3 (rd__law_same_row S__law_is_number) S__law_same_row := by
  rintro ds Q ⟨xs, rfl, hl, q⟩
  refine br.nd (fun h => absurd rfl h) (fun _ => ?_)
  refine ⟨sm (by simp) (by simp; omega), for_upTo (fun i σ => ∃ s2, σ = [.val false (eT xs), .val false (eT xs), s2]) ⟨.non, rfl⟩ (fun i σ K hi h k => ?_) (fun σ h => ?_)⟩
  · obtain ⟨s2, rfl⟩ := h
    have hi' : i < xs.length := by simpa using hi
    have e0 : (0 : Int) + (i : Int) = (i : Int) := by omega
    rw [e0]
    refine ⟨_, at_map hi', ?_⟩
    refine ⟨_, at_map hi', _, rfl, ?_⟩
    exact ⟨_, at_map hi', _, at_map hi', br.nd (fun h => absurd rfl h) (fun _ => k _ ⟨_, rfl⟩)⟩
  · obtain ⟨s2, rfl⟩ := h
    exact q
def S__law_same_rows : DSp := fun ds Q => ∃ rows : List (List Int), ds = [.list (rows.map eT), .list (rows.map eT)] ∧ rows.length ≤ 10000000 ∧ (∀ x ∈ rows, x.length ≤ 1000) ∧ Q .av (.bool true)
theorem ms__law_same_rows : MonoS S__law_same_rows := fun ds Q Q' h ⟨xs, e, h1, h2, q⟩ => ⟨xs, e, h1, h2, h _ _ q⟩
theorem kp__law_same_rows : Keeps 3 (rd__law_same_rows S__law_same_row) S__law_same_rows := by
  rintro ds Q ⟨xs, rfl, hl, hr, q⟩
  refine br.nd (fun h => absurd rfl h) (fun _ => ?_)
  refine ⟨sm (by simp) (by simp; omega), for_upTo (fun i σ => ∃ s2, σ = [.val false (.list (xs.map eT)), .val false (.list (xs.map eT)), s2]) ⟨.non, rfl⟩ (fun i σ K hi h k => ?_) (fun σ h => ?_)⟩
  · obtain ⟨s2, rfl⟩ := h
    have hi' : i < xs.length := by simpa using hi
    have e0 : (0 : Int) + (i : Int) = (i : Int) := by omega
    rw [e0]
    refine ⟨_, at_map hi', _, at_map hi', ?_⟩
    exact ⟨xs[i], rfl, hr _ (List.getElem_mem hi'), k _ ⟨_, rfl⟩⟩
  · obtain ⟨s2, rfl⟩ := h
    exact q
def S__law_same_numbers : DSp := fun ds Q => ∃ xs : List Int, ds = [eI xs, eI xs] ∧ xs.length ≤ 10000000 ∧ Q .av (.bool true)
theorem ms__law_same_numbers : MonoS S__law_same_numbers := fun ds Q Q' h ⟨xs, e, h1, q⟩ => ⟨xs, e, h1, h _ _ q⟩
/-! numbers, each once, in order -/
def S__law_unlike : DSp := fun ds Q => ∃ ns : List Int, ds = [eI ns] ∧ ns.length ≤ 1000 ∧ ∀ c : List Int, Asc c → c.length ≤ ns.length → Q .new (eI c)
theorem ms__law_unlike : MonoS S__law_unlike := fun ds Q Q' h ⟨xs, e, h1, q⟩ => ⟨xs, e, h1, fun c a b => h _ _ (q c a b)⟩
theorem asc_add {c : List Int} {y : Int} (h : Asc c) (hy : ∀ x ∈ c, x < y) : Asc (c ++ [y]) := by
  refine List.pairwise_append.mpr ⟨h, List.pairwise_singleton _ _, fun a ha b hb => ?_⟩
  rw [List.mem_singleton.mp hb]
  exact hy a ha
theorem kp__law_unlike : Keeps 3 rd__law_unlike S__law_unlike := by
  rintro ds Q ⟨ns, rfl, hl, q⟩
  refine ⟨by simp, ns, rfl, fun us hp hs => ?_⟩
  have hul : us.length = ns.length := hp.length_eq
  refine for_inv PyData.int us (fun i σ => ∃ (c : List Int) (s2 : Sl), σ = [.val false (eI ns), .own false (c.map .int), s2] ∧ Asc c ∧ c.length ≤ i ∧ ∀ x ∈ c, ∀ j (h : j < us.length), i ≤ j → x ≤ us[j]) ⟨[], .non, rfl, List.Pairwise.nil, by simp, fun x h => nomatch h⟩ (fun i hi σ K h k => ?_) (fun σ h => ?_)
  · obtain ⟨c, s2, rfl, ha, hc, hx⟩ := h
    have hup : ∀ j (h : j < us.length), i ≤ j → us[i] ≤ us[j] := fun j hj hij => by
      rcases Nat.lt_or_eq_of_le hij with z | z
      · exact List.pairwise_iff_getElem.mp hs i j hi hj z
      · subst z
        exact Int.le_refl _
    have app : (∀ x ∈ c, x < us[i]) → (((c.map PyData.int).length < sizeLine) ∧ K [.val false (eI ns), .own false (c.map .int ++ [.int us[i]]), .val false (.int us[i])]) := fun hlt => by
      refine ⟨szlt (by rw [List.length_map]; omega), k _ ⟨c ++ [us[i]], .val false (.int us[i]), by rw [List.map_append]; rfl, asc_add ha hlt, by rw [List.length_append]; simp; omega, fun x h j hj hij => ?_⟩⟩
      rcases List.mem_append.mp h with h | h
      · exact hx x h j hj (by omega)
      · rw [List.mem_singleton.mp h]
        exact hup j hj (by omega)
    have stay : K [.val false (eI ns), .own false (c.map .int), .val false (.int us[i])] := k _ ⟨c, .val false (.int us[i]), rfl, ha, by omega, fun x h j hj hij => hx x h j hj (by omega)⟩
    refine br.dec (fun h0 => ?_) (fun h0 => ?_)
    · have h0 : ((((c.map PyData.int).length : Nat) : Int)) = 0 := h0
      have : c = [] := by
        rw [List.length_map] at h0
        exact List.eq_nil_of_length_eq_zero (by omega)
      subst this
      exact app fun x h => nomatch h
    · have h0 : ¬ ((((c.map PyData.int).length : Nat) : Int)) = 0 := h0
      rcases List.eq_nil_or_concat c with e | ⟨c', l, e⟩
      · subst e
        exact absurd rfl h0
      · rw [List.concat_eq_append] at e
        have al : L2.atI (c.map PyData.int) (-1) = some (.int l) := by
          rw [e, List.map_append]
          exact L2.atI_last _ _
        refine ⟨_, al, br.nd (fun h => app fun x hxc => ?_) (fun h => stay)⟩
        have hlu : l ≤ us[i] := hx l (by rw [e]; simp) i hi (Nat.le_refl _)
        rw [e] at hxc
        rcases List.mem_append.mp hxc with z | z
        · rw [e] at ha
          have := (List.pairwise_append.mp ha).2.2 x z l (by simp)
          omega
        · rw [List.mem_singleton.mp z]
          have h : ¬ l = us[i] := h
          omega
  · obtain ⟨c, s2, rfl, ha, hc, hx⟩ := h
    exact q c ha (by omega)
/-! draws -/
theorem at_d {r : List Int} {i : Int} (h0 : 0 ≤ i) (h : i < (r.length : Int)) : L2.atI (r.map PyData.int) i = some (.int (r.getD i.toNat 0)) := by
  rw [gD (show i.toNat < r.length by omega)]
  exact at_int h0 (by omega)
theorem gd_good {r : List Int} (hg : Good r) (i : Nat) : 0 ≤ r.getD i 0 ∧ r.getD i 0 < 1000003 := by
  by_cases h : i < r.length
  · rw [gD h]
    exact hg _ (List.getElem_mem h)
  · unfold List.getD
    rw [List.getElem?_eq_none (by omega)]
    decide
end RD

set_option Elab.async false
set_option linter.all false
set_option maxRecDepth 100000
/-! MP6: the world of pieces. -/
namespace RD
open PySem DL
open En (en)
theorem seq_join2 {a b rest : DS} {D : Ed} {σ : Ds} (P : Ds → Prop) (h : ∀ K : Ds → Prop, (∀ σ', P σ' → K σ') → dSeq a b { D with nx := K } σ) (h2 : ∀ σ', P σ' → rest D σ') : dSeq a (dSeq b rest) D σ := h _ h2
theorem seq_join3 {a b c rest : DS} {D : Ed} {σ : Ds} (P : Ds → Prop) (h : ∀ K : Ds → Prop, (∀ σ', P σ' → K σ') → dSeq a (dSeq b c) { D with nx := K } σ) (h2 : ∀ σ', P σ' → rest D σ') : dSeq a (dSeq b (dSeq c rest)) D σ := h _ h2
theorem seq_join4 {a b c d rest : DS} {D : Ed} {σ : Ds} (P : Ds → Prop) (h : ∀ K : Ds → Prop, (∀ σ', P σ' → K σ') → dSeq a (dSeq b (dSeq c d)) { D with nx := K } σ) (h2 : ∀ σ', P σ' → rest D σ') : dSeq a (dSeq b (dSeq c (dSeq d rest))) D σ := h _ h2
theorem seq_join5 {a b c d e rest : DS} {D : Ed} {σ : Ds} (P : Ds → Prop) (h : ∀ K : Ds → Prop, (∀ σ', P σ' → K σ') → dSeq a (dSeq b (dSeq c (dSeq d e))) { D with nx := K } σ) (h2 : ∀ σ', P σ' → rest D σ') : dSeq a (dSeq b (dSeq c (dSeq d (dSeq e rest)))) D σ := h _ h2
/-- what the law knows of its world -/
structure World0 (n : Nat) (p : Int) (t : List Int) (piece : List (List Int)) (ts : List Ts) : Prop where
  len : t.length = n
  pos : 0 < n
  top : n ≤ 60
  per : 6 ≤ p ∧ p ≤ 20001000000
  few : piece.length ≤ 4
  five : ∀ c ∈ piece, c.length ≤ 5
  asc : AllAsc piece
  tas : ts.length ≤ 4
  dis : Dis ts
def S__law_piece_world : DSp := fun ds Q => ∃ r : List Int, ds = [eI r] ∧ Good r ∧ 90 ≤ r.length ∧ ∀ (n : Nat) (p : Int) (t : List Int) (piece : List (List Int)) (ts : List Ts), World0 n p t piece ts → Q .av (.tuple [.int (n : Int), .int p, eI t, .list (piece.map en), .list (ts.map en)])
theorem ms__law_piece_world : MonoS S__law_piece_world := fun ds Q Q' h ⟨r, e, h1, h2, q⟩ => ⟨r, e, h1, h2, fun n p t c s w => h _ _ (q n p t c s w)⟩
theorem dis_add {ts : List Ts} {t : Ts} (h : Dis ts) (hn : t.w ∉ ts.map (·.w)) : Dis (ts ++ [t]) := by
  unfold Dis at h ⊢
  rw [List.map_append]
  refine List.nodup_append.mpr ⟨h, by simp, fun a ha b hb => ?_⟩
  have e : b = t.w := by simpa using hb
  rw [e]
  intro z
  rw [z] at ha
  exact hn ha
theorem em {a b : Int} (h : 0 < b) : 0 ≤ a % b ∧ a % b < b := ⟨Int.emod_nonneg _ (by omega), Int.emod_lt_of_pos _ h⟩
theorem kp__law_piece_world : Keeps 16 (rd__law_piece_world S__law_note_pitch S__law_unlike) S__law_piece_world := by
  rintro ds Q ⟨r, rfl, hg, hr, q⟩
  have G := gd_good hg
  have A : ∀ i : Int, 0 ≤ i → i < 90 → L2.atI (r.map PyData.int) i = some (.int (r.getD i.toNat 0)) := fun i h0 h1 => at_d h0 (by omega)
  have N : ∀ j : Nat, (.non : Sl) = .non := fun _ => rfl
  have e3 := em (a := r.getD (Int.toNat 2) 0 / 3) (b := 30) (by decide)
  have e0 := em (a := r.getD (Int.toNat 0) 0) (b := 7) (by decide)
  have e53 := em (a := r.getD (Int.toNat 0) 0) (b := 53) (by decide)
  have g3 := G (Int.toNat 3)
  have g37 := G (Int.toNat 37)
  -- the unit and the period
  refine seq_join4 (fun σ => ∃ (u p : Int), σ = [.val false (eI r), .val false (.int (1 + r.getD (Int.toNat 0) 0 % 7)), .val false (.int u), .val false (.int p), .non, .non, .non, .non, .non, .non, .non, .non, .non, .non, .non, .non] ∧ (1 ≤ u ∧ u ≤ 1001000003) ∧ 6 ≤ p ∧ p ≤ 20001000000) (fun K k => ?_) (fun σ h => ?_)
  · refine ⟨_, A 0 (by decide) (by decide), md (by decide), _, A 2 (by decide) (by decide), div_s (by decide), md (by decide), ?_⟩
    refine ⟨_, A 1 (by decide) (by decide), md (by decide), br.dec (fun h => ?_) (fun h => ?_)⟩
    · refine ⟨⟨by decide, by decide, by decide⟩, _, A 3 (by decide) (by decide), ⟨by decide, by decide, by decide⟩, _, A 3 (by decide) (by decide), ⟨by decide, by decide, by decide⟩, mul_l (by omega), ?_⟩
      exact k _ ⟨(10 : Int) ^ 9 + r.getD (Int.toNat 3) 0, (10 : Int) ^ 10 + r.getD (Int.toNat 3) 0 * (10 : Int) ^ 4, rfl, by omega, by omega⟩
    · exact k _ ⟨1, _, rfl, by omega, by omega⟩
  obtain ⟨u, p, rfl, hu, hp⟩ := h
  have hpb : Pb p := ⟨by omega, by omega⟩
  -- the number of strings
  refine seq_join (fun σ => ∃ n : Nat, σ = [.val false (eI r), .val false (.int (n : Int)), .val false (.int u), .val false (.int p), .non, .non, .non, .non, .non, .non, .non, .non, .non, .non, .non, .non] ∧ 0 < n ∧ n ≤ 60) (fun K k => ?_) (fun σ h => ?_)
  · refine ⟨_, A 1 (by decide) (by decide), md (by decide), br.dec (fun h => ?_) (fun h => ?_)⟩
    · refine ⟨_, A 0 (by decide) (by decide), md (by decide), k _ ⟨(8 + r.getD (Int.toNat 0) 0 % 53).toNat, ?_, by omega, by omega⟩⟩
      rw [show (((8 + r.getD (Int.toNat 0) 0 % 53).toNat : Nat) : Int) = 8 + r.getD (Int.toNat 0) 0 % 53 by omega]
      rfl
    · refine k _ ⟨(1 + r.getD (Int.toNat 0) 0 % 7).toNat, ?_, by omega, by omega⟩
      rw [show (((1 + r.getD (Int.toNat 0) 0 % 7).toNat : Nat) : Int) = 1 + r.getD (Int.toNat 0) 0 % 7 by omega]
  obtain ⟨n, rfl, hn0, hn⟩ := h
  -- the hidden tuning
  refine ⟨sm (by omega) (by omega), lc_upToR (β := Int) PyData.int (fun _ _ => True) (by omega) (fun k hk P N' pk => ?_) (fun t ht => ?_)⟩
  · have ek := em (a := 0 + (k : Int)) (b := 12) (by decide)
    have eg := em (a := r.getD (4 + (0 + (k : Int)) % 12).toNat 0) (b := 41) (by decide)
    refine ⟨md (by decide), _, A _ (by omega) (by omega), md (by decide), div_s (by decide), mul_r (by omega), pk _ trivial⟩
  obtain ⟨htl, -⟩ := ht.upTo
  have htl : t.length = n := by omega
  have ht0 : 0 < t.length := by omega
  refine ⟨by simp, _, A 16 (by decide) (by decide), md (by decide), ?_⟩
  have e16 := em (a := r.getD (Int.toNat 16) 0) (b := 5) (by decide)
  -- the tastes
  refine ⟨sm (by omega) (by omega), for_upTo (fun i σ => ∃ (ts : List Ts) (s5 s7 s8 s9 s10 s11 s12 : Sl), σ = [.val false (eI r), .val false (.int (n : Int)), .val false (.int u), .val false (.int p), .val false (eI t), s5, .own false (ts.map en), s7, s8, s9, s10, s11, s12, .non, .non, .non] ∧ ts.length ≤ i ∧ Dis ts) ⟨[], _, _, _, _, _, _, _, rfl, by simp, List.nodup_nil⟩ (fun i σ K hi h k => ?_) (fun σ h => ?_)⟩
  · obtain ⟨ts, s5, s7, s8, s9, s10, s11, s12, rfl, hl, hd⟩ := h
    refine seq_join (fun σ => ∃ (w : Int), σ = [.val false (eI r), .val false (.int (n : Int)), .val false (.int u), .val false (.int p), .val false (eI t), .val false (.int (0 + (i : Int))), .own false (ts.map en), .val false (.int w), s8, s9, s10, s11, s12, .non, .non, .non]) (fun K2 k2 => ?_) (fun σ h => ?_)
    · exact ⟨_, A _ (by omega) (by omega), md (by decide), k2 _ ⟨_, rfl⟩⟩
    obtain ⟨w, rfl⟩ := h
    refine lc_map en ts (fun t => PyData.int t.w) (by omega) (fun x hx P N' pk => ⟨_, rfl, pk⟩) ?_
    have e : ts.map (fun t => PyData.int t.w) = (ts.map (·.w)).map (en (α := Int)) := by
      rw [List.map_map]
      rfl
    rw [e]
    refine in_go (α := Int) w (ts.map (·.w)) (Q := fun c => br (!c) _ _) (br.nd (fun h => ?_) (fun h => ?_))
    · -- a new width
      refine seq_join5 (fun σ => ∃ (lo hi : Option Int) (s8 s9 s10 : Sl), σ = [.val false (eI r), .val false (.int (n : Int)), .val false (.int u), .val false (.int p), .val false (eI t), .val false (.int (0 + (i : Int))), .own false (ts.map en), .val false (.int w), s8, s9, s10, .val false (en lo), .val false (en hi), .non, .non, .non]) (fun K2 k2 => ?_) (fun σ h => ?_)
      · refine ⟨_, A _ (by omega) (by omega), md (by decide), ?_⟩
        refine ⟨t, p, _, rfl, ht0, by omega, hpb, ?_⟩
        refine ⟨t, p, _, rfl, ht0, by omega, hpb, ?_⟩
        generalize pt t p (r.getD (21 + (0 + (i : Int))).toNat 0 % 30 + w) - pt t p (r.getD (21 + (0 + (i : Int))).toNat 0 % 30) = ap
        have u6 : 0 < 6 * u := by omega
        refine ⟨_, A _ (by omega) (by omega), mul_l (by decide), md u6, ?_⟩
        refine ⟨_, A _ (by omega) (by omega), mul_l (by decide), md u6, ?_⟩
        refine ⟨_, A 2 (by decide) (by decide), md (by decide), br.dec (fun h => ?_) (fun h => ?_)⟩
        · refine ⟨_, A _ (by omega) (by omega), md (by decide), _, A _ (by omega) (by omega), md (by decide), ?_⟩
          exact k2 _ ⟨some _, some _, _, _, _, rfl⟩
        · exact k2 _ ⟨some _, some _, _, _, _, rfl⟩
      obtain ⟨lo, hi', s8, s9, s10, rfl⟩ := h
      refine seq_join (fun σ => ∃ (lo hi : Option Int), σ = [.val false (eI r), .val false (.int (n : Int)), .val false (.int u), .val false (.int p), .val false (eI t), .val false (.int (0 + (i : Int))), .own false (ts.map en), .val false (.int w), s8, s9, s10, .val false (en lo), .val false (en hi), .non, .non, .non]) (fun K2 k2 => ?_) (fun σ h => ?_)
      · refine ⟨_, A _ (by omega) (by omega), md (by decide), br.dec (fun h => ?_) (fun h => ?_)⟩
        · exact k2 _ ⟨none, hi', rfl⟩
        · exact k2 _ ⟨lo, hi', rfl⟩
      obtain ⟨lo2, hi2, rfl⟩ := h
      refine seq_join (fun σ => ∃ (lo hi : Option Int), σ = [.val false (eI r), .val false (.int (n : Int)), .val false (.int u), .val false (.int p), .val false (eI t), .val false (.int (0 + (i : Int))), .own false (ts.map en), .val false (.int w), s8, s9, s10, .val false (en lo), .val false (en hi), .non, .non, .non]) (fun K2 k2 => ?_) (fun σ h => ?_)
      · refine ⟨_, A _ (by omega) (by omega), md (by decide), br.dec (fun h => ?_) (fun h => ?_)⟩
        · exact k2 _ ⟨lo2, none, rfl⟩
        · exact k2 _ ⟨lo2, hi2, rfl⟩
      obtain ⟨lo3, hi3, rfl⟩ := h
      refine ⟨by simp, szlt (by rw [List.length_map]; omega), k _ ⟨ts ++ [⟨w, lo3, hi3⟩], _, _, _, _, _, _, _, by rw [List.map_append]; rfl, by rw [List.length_append]; simp; omega, dis_add hd ?_⟩⟩
      exact h
    · exact k _ ⟨ts, _, _, _, _, _, _, _, rfl, by omega, hd⟩
  obtain ⟨ts, s5, s7, s8, s9, s10, s11, s12, rfl, hl, hd⟩ := h
  -- the base
  dsimp only
  refine seq_join2 (fun σ => ∃ (b : Int), σ = [.val false (eI r), .val false (.int (n : Int)), .val false (.int u), .val false (.int p), .val false (eI t), s5, .own false (ts.map en), s7, s8, s9, s10, s11, s12, .val false (.int b), .non, .non]) (fun K2 k2 => ?_) (fun σ h => ?_)
  · refine ⟨_, A 1 (by decide) (by decide), div_s (by decide), md (by decide), br.dec (fun h => ?_) (fun h => ?_)⟩
    · refine ⟨_, A 37 (by decide) (by decide), k2 _ ⟨_, rfl⟩⟩
    · exact k2 _ ⟨0, rfl⟩
  obtain ⟨b, rfl⟩ := h
  refine ⟨by simp, _, A 38 (by decide) (by decide), md (by decide), ?_⟩
  have e38 := em (a := r.getD (Int.toNat 38) 0) (b := 5) (by decide)
  refine ⟨sm (by omega) (by omega), for_upTo (fun i σ => ∃ (piece : List (List Int)) (s5 s15 : Sl), σ = [.val false (eI r), .val false (.int (n : Int)), .val false (.int u), .val false (.int p), .val false (eI t), s5, .own false (ts.map en), s7, s8, s9, s10, s11, s12, .val false (.int b), .own false (piece.map en), s15] ∧ piece.length ≤ i ∧ (∀ c ∈ piece, c.length ≤ 5) ∧ AllAsc piece) ⟨[], _, _, rfl, by simp, (fun x h => nomatch h), (fun x h => nomatch h)⟩ (fun i σ K hi h k => ?_) (fun σ h => ?_)⟩
  · obtain ⟨piece, s5, s15, rfl, hpl, h5, ha⟩ := h
    have e6 := em (a := r.getD (59 + (0 + (i : Int))).toNat 0) (b := 6) (by decide)
    refine ⟨_, A _ (by omega) (by omega), md (by decide), sm (by omega) (by omega), lc_upToR (β := Int) PyData.int (fun _ _ => True) (by omega) (fun j hj P N' pk => ?_) (fun ns hns => ?_)⟩
    · exact ⟨mul_l (by decide), _, A _ (by omega) (by omega), md (by decide), pk _ trivial⟩
    · obtain ⟨hnl, -⟩ := hns.upTo
      refine ⟨ns, rfl, by omega, fun c hc hcl => ?_⟩
      refine ⟨szlt (by rw [List.length_map]; omega), k _ ⟨piece ++ [c], _, s15, by rw [List.map_append]; rfl, by rw [List.length_append]; simp; omega, fun x hx => ?_, fun x hx => ?_⟩⟩
      · rcases List.mem_append.mp hx with z | z
        · exact h5 x z
        · rw [List.mem_singleton.mp z]
          omega
      · rcases List.mem_append.mp hx with z | z
        · exact ha x z
        · rw [List.mem_singleton.mp z]
          exact hc
  obtain ⟨piece, s5', s15, rfl, hpl, h5, ha⟩ := h
  exact ⟨by simp, q n p t piece ts ⟨htl, hn0, hn, hp, by omega, h5, ha, by omega, hd⟩⟩
end RD

set_option Elab.async false
set_option linter.all false
set_option maxRecDepth 100000
/-! M_K78: players who tune in turn: the mathematics. -/
namespace RD
open PySem DL
open En (en)
/-- a turn -/
structure Tn where
  pl : Nat
  md : Nat
  sl : Int
  deriving DecidableEq
instance : En Tn where
  en := fun t => .tuple [.int (t.pl : Int), .int (t.md : Int), .int t.sl]
  dp := 1
  lay := fun t => by simp only [PyData.canLay0, PyData.canLayAll0, Bool.and_self]
  dep := fun t => by simp [PyData.depth, PyData.depthAll]
  eqv := fun a b => by
    obtain ⟨a1, a2, a3⟩ := a
    obtain ⟨b1, b2, b3⟩ := b
    simp [PyData.eqv, PyData.eqvAll, Int.natCast_inj]
def offStep (o : List Int) (t : Tn) : List Int := o.set t.pl (o.getD t.md 0 + t.sl)
def offs (n : Nat) (ts : List Tn) : List Int := ts.foldl offStep (List.replicate n 0)
def Val (n : Nat) (ts : List Tn) : Prop := ∀ t ∈ ts, t.pl < n ∧ t.md < n
def S_offs : DSp := fun ds Q => ∃ (n : Nat) (ts : List Tn), ds = [.int n, .list (ts.map en)] ∧ n ≤ 1000 ∧ Val n ts ∧ Q .new (eI (offs n ts))
theorem ms_offs : MonoS S_offs := fun ds Q Q' h ⟨n, ts, e, h1, h2, q⟩ => ⟨n, ts, e, h1, h2, h _ _ q⟩
theorem offs_take (n : Nat) (ts : List Tn) (i : Nat) (h : i < ts.length) : offs n (ts.take (i + 1)) = offStep (offs n (ts.take i)) ts[i] := by
  unfold offs
  rw [List.take_succ_eq_append_getElem h, List.foldl_append]
  rfl
theorem foldl_len (ts : List Tn) : ∀ o, (ts.foldl offStep o).length = o.length := by
  induction ts with
  | nil => intro o; rfl
  | cons t ts ih => intro o; rw [List.foldl_cons, ih]; exact List.length_set
theorem offs_len (n : Nat) (ts : List Tn) : (offs n ts).length = n := by
  unfold offs
  rw [foldl_len, List.length_replicate]
theorem rep0 (n : Nat) : (List.replicate (n : Int).toNat [PyData.int 0]).flatten = (List.replicate n (0 : Int)).map PyData.int := by
  rw [flat_rep, List.map_replicate]
  simp
theorem kp_offs : Keeps 6 rd_offsets_after S_offs := by
  rintro ds Q ⟨n, ts, rfl, hn, hv, q⟩
  refine ⟨by decide, by omega, by omega, sz (by simp; omega), ?_⟩
  refine for_inv en ts (fun i σ => ∃ s3 s4 s5, σ = [.val false (.int n), .val false (.list (ts.map en)), .own false ((offs n (ts.take i)).map .int), s3, s4, s5]) ⟨.non, .non, .non, ?_⟩ (fun i hi σ K h k => ?_) (fun σ h => ?_)
  · show [_, _, Sl.own false (List.replicate (n : Int).toNat [PyData.int 0]).flatten, _, _, _] = [_, _, Sl.own false ((List.replicate n (0 : Int)).map .int), _, _, _]
    rw [rep0]
  · obtain ⟨s3, s4, s5, rfl⟩ := h
    obtain ⟨h1, h2⟩ := hv ts[i] (List.getElem_mem hi)
    have hm : ts[i].md < (offs n (ts.take i)).length := by rw [offs_len]; exact h2
    have e : ((offs n (ts.take i)).map PyData.int).set ts[i].pl (.int ((offs n (ts.take i))[ts[i].md] + ts[i].sl)) = (offs n (ts.take (i + 1))).map PyData.int := by
      rw [offs_take n ts i hi, set_map]
      unfold offStep
      rw [gD hm]
    exact ⟨rfl, _, at_map hm, _, ixN_nat (j := ts[i].pl) (by rw [List.length_map, offs_len]; exact h1), k _ ⟨_, _, _, by rw [← e]; rfl⟩⟩
  · obtain ⟨s3, s4, s5, rfl⟩ := h
    rw [List.take_length]
    exact q
theorem kp_loffs : Keeps 6 rd__law_offsets S_offs := kp_offs
/-! ### what is heard -/
def heardAll (n : Nat) (ts : List Tn) : Nat → List (List Nat)
  | 0 => List.replicate n []
  | i + 1 => match ts[i]? with
    | some t => (heardAll n ts i).set t.pl ((heardAll n ts i).getD t.md [] ++ [i])
    | none => heardAll n ts i
theorem heardAll_len (n : Nat) (ts : List Tn) : ∀ i, (heardAll n ts i).length = n
  | 0 => List.length_replicate
  | i + 1 => by
    unfold heardAll
    split
    · rw [List.length_set, heardAll_len n ts i]
    · exact heardAll_len n ts i
/-- the turns that player p heard among the first i -/
def heard (ts : List Tn) : Nat → Nat → List Nat
  | 0, _ => []
  | i + 1, p => match ts[i]? with
    | some t => if p = t.pl then heard ts i t.md ++ [i] else heard ts i p
    | none => heard ts i p
theorem heardAll_get (n : Nat) (ts : List Tn) (hv : Val n ts) : ∀ (i p : Nat), p < n → (heardAll n ts i).getD p [] = heard ts i p
  | 0, p, h => by
    unfold heardAll heard
    rw [gD (by rw [List.length_replicate]; exact h), List.getElem_replicate]
  | i + 1, p, h => by
    unfold heardAll heard
    cases e : ts[i]? with
    | none => exact heardAll_get n ts hv i p h
    | some t =>
      have ht := hv t (List.mem_of_getElem? e)
      show ((heardAll n ts i).set t.pl ((heardAll n ts i).getD t.md [] ++ [i])).getD p [] = if p = t.pl then heard ts i t.md ++ [i] else heard ts i p
      rw [heardAll_get n ts hv i t.md ht.2]
      have hl := heardAll_len n ts i
      by_cases hp : p = t.pl
      · rw [if_pos hp, hp, gD (by rw [List.length_set, hl]; exact ht.1), List.getElem_set_self]
      · rw [if_neg hp, gD (by rw [List.length_set, hl]; exact h), List.getElem_set_ne (Ne.symm hp), ← gD (d := []) (by rw [hl]; exact h)]
        exact heardAll_get n ts hv i p h
def S_all_heard : DSp := fun ds Q => ∃ (n : Nat) (ts : List Tn), ds = [.int n, .list (ts.map en)] ∧ n ≤ 1000 ∧ ts.length ≤ 1000 ∧ Val n ts ∧ Q .newF (en (heardAll n ts ts.length))
theorem ms_all_heard : MonoS S_all_heard := fun ds Q Q' h ⟨n, ts, e, h1, h2, h3, q⟩ => ⟨n, ts, e, h1, h2, h3, h _ _ q⟩
theorem heard_len (ts : List Tn) : ∀ (i p : Nat), (heard ts i p).length ≤ i
  | 0, p => Nat.le_refl _
  | i + 1, p => by
    unfold heard
    split
    · split
      · rw [List.length_append]
        have := heard_len ts i
        simp only [List.length_singleton]
        have h2 := this (by rename Tn => t; exact t.md)
        omega
      · have := heard_len ts i p; omega
    · have := heard_len ts i p; omega
theorem kp_all_heard : Keeps 7 rd_all_heard S_all_heard := by
  rintro ds Q ⟨n, ts, rfl, hn, ht, hv, q⟩
  refine ⟨sm (by omega) (by omega), lc_upTo (fun _ => PyData.list []) (by omega) (fun k hk P N p => ⟨by decide, p⟩) ?_⟩
  have e0 : (List.range (n : Int).toNat).map (fun _ => PyData.list []) = (heardAll n ts 0).map en := by
    unfold heardAll
    rw [List.map_replicate, List.map_const', List.length_range, Int.toNat_natCast]
    rfl
  refine ⟨sm (by simp) (by simp; omega), for_upTo (fun i σ => ∃ s3 s4 s5 s6, σ = [.val false (.int n), .val false (.list (ts.map en)), .own true ((heardAll n ts i).map en), s3, s4, s5, s6]) ⟨.non, .non, .non, .non, ?_⟩ (fun i σ K hi h k => ?_) (fun σ h => ?_)⟩
  · rw [← e0]
    rfl
  · obtain ⟨s3, s4, s5, s6, rfl⟩ := h
    have hi' : i < ts.length := by
      simp at hi
      exact hi
    obtain ⟨h1, h2⟩ := hv ts[i] (List.getElem_mem hi')
    have hl := heardAll_len n ts i
    have hm : ts[i].md < (heardAll n ts i).length := by rw [hl]; exact h2
    have e1 : (0 : Int) + (i : Int) = (i : Int) := by omega
    rw [e1]
    have hs : ((heardAll n ts i)[ts[i].md].map (en (α := Nat))).length + [PyData.int (i : Int)].length ≤ 16000000 := by
      have := heard_len ts i ts[i].md
      rw [← heardAll_get n ts hv i _ h2, gD hm] at this
      simp
      omega
    have e3 : ((heardAll n ts i).map (en (α := List Nat))).set ts[i].pl (.list ((heardAll n ts i)[ts[i].md].map en ++ [.int (i : Int)])) = (heardAll n ts (i + 1)).map en := by
      have e2 : heardAll n ts (i + 1) = (heardAll n ts i).set ts[i].pl ((heardAll n ts i).getD ts[i].md [] ++ [i]) := by
        conv => lhs; unfold heardAll
        rw [List.getElem?_eq_getElem hi']
      rw [e2, gD hm, ← set_map]
      show _ = ((heardAll n ts i).map en).set ts[i].pl (.list (((heardAll n ts i)[ts[i].md] ++ [i]).map en))
      rw [List.map_append]
      rfl
    exact ⟨_, at_map hi', rfl, _, at_map hm, .int _, by simp, sz hs, _, ixN_nat (j := ts[i].pl) (by rw [List.length_map, hl]; exact h1), k _ ⟨_, _, _, _, by rw [← e3]; rfl⟩⟩
  · obtain ⟨s3, s4, s5, s6, rfl⟩ := h
    have el : (((ts.map en).length : Nat) : Int).toNat = ts.length := by simp
    rw [el]
    exact q
/-! ### the defs over them -/
def S_slips_heard : DSp := fun ds Q => ∃ (n p : Nat) (ts : List Tn), ds = [.int n, .list (ts.map en), .int p] ∧ n ≤ 1000 ∧ ts.length ≤ 1000 ∧ Val n ts ∧ p < n ∧ Q .avF (en (heard ts ts.length p))
theorem ms_slips_heard : MonoS S_slips_heard := fun ds Q Q' h ⟨n, p, ts, e, h1, h2, h3, h4, q⟩ => ⟨n, p, ts, e, h1, h2, h3, h4, h _ _ q⟩
theorem kp_slips_heard : Keeps 3 (rd_slips_heard S_all_heard) S_slips_heard := by
  rintro ds Q ⟨n, p, ts, rfl, hn, ht, hv, hp, q⟩
  have hl : p < (heardAll n ts ts.length).length := by rw [heardAll_len]; exact hp
  refine ⟨n, ts, rfl, hn, ht, hv, _, at_map hl, ?_⟩
  rw [← gD (d := []) hl, heardAll_get n ts hv _ p hp]
  exact q
def part (a b : List Nat) : List Nat := (a.filter fun k => !decide (k ∈ b)) ++ b.filter fun k => !decide (k ∈ a)
def S_parting : DSp := fun ds Q => ∃ a b : List Nat, ds = [en a, en b] ∧ a.length ≤ 1000000 ∧ b.length ≤ 1000000 ∧ Q .new (en (part a b))
theorem ms_parting : MonoS S_parting := fun ds Q Q' h ⟨a, b, e, h1, h2, q⟩ => ⟨a, b, e, h1, h2, h _ _ q⟩
theorem kp_parting : Keeps 3 rd_parting S_parting := by
  rintro ds Q ⟨a, b, rfl, ha, hb, q⟩
  refine lc_filt en a (fun k => !decide (k ∈ b)) en (by omega) (fun x hx P N hp hn => in_go x b (Q := fun c => br (!c) (P (en x)) N) (br.mk hp hn)) ?_
  refine lc_filt en b (fun k => !decide (k ∈ a)) en (by omega) (fun x hx P N hp hn => in_go x a (Q := fun c => br (!c) (P (en x)) N) (br.mk hp hn)) ?_
  refine ⟨sz ?_, ?_⟩
  · have h1 := List.length_filter_le (fun k => !decide (k ∈ b)) a
    have h2 := List.length_filter_le (fun k => !decide (k ∈ a)) b
    rw [List.length_map, List.length_map]
    omega
  · rw [← List.map_append]
    exact q
def apart (ts : List Tn) (es : List Int) (f s : Nat) : Int := ((part (heard ts ts.length f) (heard ts ts.length s)).map fun k => es.getD k 0).sum
def S_greatest_apart : DSp := fun ds Q => ∃ (n f s : Nat) (ts : List Tn) (es : List Int), ds = [.int n, .list (ts.map en), eI es, .int f, .int s] ∧ n ≤ 1000 ∧ ts.length ≤ 1000 ∧ Val n ts ∧ f < n ∧ s < n ∧ es.length = ts.length ∧ Q .av (.int (apart ts es f s))
theorem ms_greatest_apart : MonoS S_greatest_apart := fun ds Q Q' h ⟨n, f, s, ts, es, e, h1, h2, h3, h4, h5, h6, q⟩ => ⟨n, f, s, ts, es, e, h1, h2, h3, h4, h5, h6, h _ _ q⟩
theorem heard_lt (ts : List Tn) : ∀ (i p k : Nat), k ∈ heard ts i p → k < i
  | 0, p, k, h => by
    unfold heard at h
    cases h
  | i + 1, p, k, h => by
    unfold heard at h
    split at h
    · split at h
      · rcases List.mem_append.mp h with h | h
        · exact Nat.lt_succ_of_lt (heard_lt ts i _ k h)
        · rw [List.mem_singleton.mp h]
          exact Nat.lt_succ_self _
      · exact Nat.lt_succ_of_lt (heard_lt ts i _ k h)
    · exact Nat.lt_succ_of_lt (heard_lt ts i _ k h)
theorem kp_greatest_apart : Keeps 7 (rd_greatest_apart S_all_heard S_parting) S_greatest_apart := by
  rintro ds Q ⟨n, f, s, ts, es, rfl, hn, ht, hv, hf, hs, he, q⟩
  have hl := heardAll_len n ts ts.length
  have e1 : ∀ p (h : p < (heardAll n ts ts.length).length), (heardAll n ts ts.length)[p] = heard ts ts.length p := fun p h => by
    rw [← gD (d := []) h, heardAll_get n ts hv _ p (by rw [hl] at h; exact h)]
  have hl1 := heard_len ts ts.length f
  have hl2 := heard_len ts ts.length s
  refine ⟨n, ts, rfl, hn, ht, hv, ?_⟩
  refine ⟨_, at_map (i := f) (by rw [hl]; exact hf), _, at_map (i := s) (by rw [hl]; exact hs), ?_⟩
  rw [e1 f, e1 s]
  refine ⟨_, _, rfl, by omega, by omega, ?_⟩
  have hp : ∀ k ∈ part (heard ts ts.length f) (heard ts ts.length s), k < es.length := fun k hk => by
    rw [he]
    rcases List.mem_append.mp hk with h | h
    · exact heard_lt ts _ _ k (List.mem_filter.mp h).1
    · exact heard_lt ts _ _ k (List.mem_filter.mp h).1
  refine lc_map en _ (fun k => PyData.int (es.getD k 0)) ?_ (fun x hx P N h => ?_) ?_
  · have h1 := List.length_filter_le (fun k => !decide (k ∈ heard ts ts.length s)) (heard ts ts.length f)
    have h2 := List.length_filter_le (fun k => !decide (k ∈ heard ts ts.length f)) (heard ts ts.length s)
    unfold part
    rw [List.length_append]
    omega
  · refine ⟨_, at_map (i := x) (hp x hx), ?_⟩
    rw [gD (hp x hx)] at h
    exact h
  · exact ⟨(part (heard ts ts.length f) (heard ts ts.length s)).map fun k => es.getD k 0, by rw [List.map_map]; rfl, q⟩
end RD

set_option Elab.async false
set_option linter.all false
set_option maxRecDepth 100000
/-! M2_K78: players who tune in turn: the law. -/
namespace RD
open PySem DL
open En (en)
instance : Inhabited Tn := ⟨⟨0, 0, 0⟩⟩
theorem heard_sum (ts : List Tn) (f : Nat → Int) : ∀ i p, ((heard ts i p).map f).sum = sm0 i fun k => if k ∈ heard ts i p then f k else 0
  | 0, p => by
    unfold heard
    rfl
  | i + 1, p => by
    rw [sm0_succ]
    cases e : ts[i]? with
    | none =>
      have eh : heard ts (i + 1) p = heard ts i p := by
        conv => lhs; unfold heard
        rw [e]
      rw [eh, heard_sum ts f i p, if_neg (fun h => absurd (heard_lt ts i p i h) (Nat.lt_irrefl _))]
      omega
    | some t =>
      by_cases hp : p = t.pl
      · have eh : heard ts (i + 1) p = heard ts i t.md ++ [i] := by
          conv => lhs; unfold heard
          rw [e]
          exact if_pos hp
        rw [eh, if_pos (List.mem_append_right _ List.mem_cons_self), List.map_append, List.sum_append, heard_sum ts f i t.md]
        have : sm0 i (fun k => if k ∈ heard ts i t.md ++ [i] then f k else 0) = sm0 i fun k => if k ∈ heard ts i t.md then f k else 0 := by
          refine sm0_congr fun k hk => ?_
          have : k ∈ heard ts i t.md ++ [i] ↔ k ∈ heard ts i t.md := by
            rw [List.mem_append, List.mem_singleton]
            constructor
            · rintro (h | h)
              · exact h
              · omega
            · exact .inl
          simp only [this]
        rw [this]
        simp
      · have eh : heard ts (i + 1) p = heard ts i p := by
          conv => lhs; unfold heard
          rw [e]
          exact if_neg hp
        rw [eh, heard_sum ts f i p, if_neg (fun h => absurd (heard_lt ts i p i h) (Nat.lt_irrefl _))]
        omega
theorem offs_sum (n : Nat) (ts : List Tn) (hv : Val n ts) : ∀ (i p : Nat), i ≤ ts.length → p < n → (offs n (ts.take i)).getD p 0 = ((heard ts i p).map fun k => (ts.getD k default).sl).sum
  | 0, p, _, hp => by
    unfold heard offs
    rw [List.take_zero, List.foldl_nil, gD (by rw [List.length_replicate]; exact hp), List.getElem_replicate]
    rfl
  | i + 1, p, hi, hp => by
    have hi' : i < ts.length := by omega
    obtain ⟨h1, h2⟩ := hv ts[i] (List.getElem_mem hi')
    rw [offs_take n ts i hi']
    unfold offStep
    rw [offs_sum n ts hv i _ (by omega) h2]
    have hl := offs_len n (ts.take i)
    by_cases h : p = ts[i].pl
    · have eh : heard ts (i + 1) p = heard ts i ts[i].md ++ [i] := by
        conv => lhs; unfold heard
        rw [List.getElem?_eq_getElem hi']
        exact if_pos h
      rw [eh, gD (by rw [List.length_set, hl]; exact hp)]
      simp only [h]
      rw [List.getElem_set_self, List.map_append, List.sum_append]
      simp only [List.map_cons, List.map_nil, List.sum_cons, List.sum_nil]
      rw [gD hi']
      omega
    · have eh : heard ts (i + 1) p = heard ts i p := by
        conv => lhs; unfold heard
        rw [List.getElem?_eq_getElem hi']
        exact if_neg h
      rw [eh, ← offs_sum n ts hv i p (by omega) hp, gD (by rw [List.length_set, hl]; exact hp), List.getElem_set_ne (Ne.symm h), gD (by rw [hl]; exact hp)]
/-- the turns with other slips -/
def withSl (ts : List Tn) (s : Nat → Int) : List Tn := (List.range ts.length).map fun k => ⟨(ts.getD k default).pl, (ts.getD k default).md, s k⟩
theorem withSl_len (ts : List Tn) (s : Nat → Int) : (withSl ts s).length = ts.length := by
  unfold withSl
  rw [List.length_map, List.length_range]
theorem withSl_at (ts : List Tn) (s : Nat → Int) (k : Nat) (h : k < ts.length) : (withSl ts s)[k]? = some ⟨ts[k].pl, ts[k].md, s k⟩ := by
  unfold withSl
  rw [List.getElem?_map, List.getElem?_range h]
  show some (⟨(ts.getD k default).pl, (ts.getD k default).md, s k⟩ : Tn) = _
  rw [gD h]
theorem withSl_val {n : Nat} {ts : List Tn} (hv : Val n ts) (s : Nat → Int) : Val n (withSl ts s) := fun t ht => by
  unfold withSl at ht
  obtain ⟨k, hk, rfl⟩ := List.mem_map.mp ht
  have hk' := List.mem_range.mp hk
  rw [gD hk']
  have := hv ts[k] (List.getElem_mem hk')
  exact this
theorem heard_with (ts : List Tn) (s : Nat → Int) : ∀ i p, i ≤ ts.length → heard (withSl ts s) i p = heard ts i p
  | 0, p, _ => rfl
  | i + 1, p, h => by
    have hi : i < ts.length := by omega
    unfold heard
    rw [withSl_at ts s i hi, List.getElem?_eq_getElem hi]
    show (if p = ts[i].pl then _ else _) = if p = ts[i].pl then _ else _
    rw [heard_with ts s i _ (by omega), heard_with ts s i p (by omega)]
theorem offs_with (n : Nat) (ts : List Tn) (hv : Val n ts) (s : Nat → Int) (p : Nat) (hp : p < n) : (offs n (withSl ts s)).getD p 0 = sm0 ts.length fun k => if k ∈ heard ts ts.length p then s k else 0 := by
  have h1 := offs_sum n (withSl ts s) (withSl_val hv s) ts.length p (by rw [withSl_len]; exact Nat.le_refl _) hp
  rw [List.take_of_length_le (by rw [withSl_len]; exact Nat.le_refl _), heard_with ts s _ p (Nat.le_refl _)] at h1
  rw [h1, heard_sum]
  refine sm0_congr fun k hk => ?_
  by_cases h : k ∈ heard ts ts.length p
  · rw [if_pos h, if_pos h, List.getD_eq_getElem?_getD, withSl_at ts s k hk]
    rfl
  · rw [if_neg h, if_neg h]
/-- what one of the two heard alone -/
def due (ts : List Tn) (es : Nat → Int) (f s : Nat) (i : Nat) : Int := sm0 i fun k => if decide (k ∈ heard ts ts.length f) ≠ decide (k ∈ heard ts ts.length s) then es k else 0
theorem apart_due (ts : List Tn) (es : List Int) (f s : Nat) : apart ts es f s = due ts (fun k => es.getD k 0) f s ts.length := by
  unfold apart part due
  rw [List.map_append, List.sum_append, sum_filter, sum_filter, heard_sum, heard_sum, sm0_add]
  refine sm0_congr fun k hk => ?_
  by_cases h1 : k ∈ heard ts ts.length f <;> by_cases h2 : k ∈ heard ts ts.length s <;> simp [h1, h2]
def ups (ts : List Tn) (es : Nat → Int) (f s : Nat) (k : Nat) : Int := if decide (k ∈ heard ts ts.length f) ≠ decide (k ∈ heard ts ts.length s) then (if k ∈ heard ts ts.length f then 0 - es k else es k) else 0
theorem diff_up (n : Nat) (ts : List Tn) (hv : Val n ts) (es : Nat → Int) (f s : Nat) (hf : f < n) (hs : s < n) : (offs n (withSl ts (ups ts es f s))).getD s 0 - (offs n (withSl ts (ups ts es f s))).getD f 0 = due ts es f s ts.length := by
  rw [offs_with n ts hv _ s hs, offs_with n ts hv _ f hf, sm0_sub]
  refine sm0_congr fun k hk => ?_
  unfold ups
  by_cases h1 : k ∈ heard ts ts.length f <;> by_cases h2 : k ∈ heard ts ts.length s <;> simp [h1, h2]
theorem diff_down (n : Nat) (ts : List Tn) (hv : Val n ts) (es : Nat → Int) (f s : Nat) (hf : f < n) (hs : s < n) : (offs n (withSl ts fun k => 0 - ups ts es f s k)).getD f 0 - (offs n (withSl ts fun k => 0 - ups ts es f s k)).getD s 0 = due ts es f s ts.length := by
  rw [offs_with n ts hv _ s hs, offs_with n ts hv _ f hf, sm0_sub]
  refine sm0_congr fun k hk => ?_
  unfold ups
  by_cases h1 : k ∈ heard ts ts.length f <;> by_cases h2 : k ∈ heard ts ts.length s <;> simp [h1, h2]
theorem diff_any (n : Nat) (ts : List Tn) (hv : Val n ts) (es d : Nat → Int) (hd : ∀ k, k < ts.length → -es k ≤ d k ∧ d k ≤ es k) (f s : Nat) (hf : f < n) (hs : s < n) :
    -(due ts es f s ts.length) ≤ (offs n (withSl ts d)).getD s 0 - (offs n (withSl ts d)).getD f 0 ∧ (offs n (withSl ts d)).getD s 0 - (offs n (withSl ts d)).getD f 0 ≤ due ts es f s ts.length := by
  rw [offs_with n ts hv _ s hs, offs_with n ts hv _ f hf, sm0_sub]
  constructor
  · have e : -(due ts es f s ts.length) = sm0 ts.length fun k => -(if decide (k ∈ heard ts ts.length f) ≠ decide (k ∈ heard ts ts.length s) then es k else 0) := by
      unfold due
      have := sm0_sub ts.length (fun _ => 0) (fun k => if decide (k ∈ heard ts ts.length f) ≠ decide (k ∈ heard ts ts.length s) then es k else 0)
      have z : sm0 ts.length (fun _ => 0) = 0 := by
        have : ∀ m, sm0 m (fun _ => 0) = 0 := fun m => by
          induction m with
          | zero => rfl
          | succ m ih => rw [sm0_succ, ih]; rfl
        exact this _
      rw [z] at this
      have e2 : ∀ x : Int, -x = 0 - x := fun x => by omega
      rw [e2, this]
      refine sm0_congr fun k _ => by rw [e2]
    rw [e]
    refine sm0_le fun k hk => ?_
    have := hd k hk
    by_cases h1 : k ∈ heard ts ts.length f <;> by_cases h2 : k ∈ heard ts ts.length s <;> simp [h1, h2] <;> omega
  · unfold due
    refine sm0_le fun k hk => ?_
    have := hd k hk
    by_cases h1 : k ∈ heard ts ts.length f <;> by_cases h2 : k ∈ heard ts ts.length s <;> simp [h1, h2] <;> omega
/-! ### the law's own defs -/
def S__law_world : DSp := fun ds Q => ∃ r : List Int, ds = [eI r] ∧ Good r ∧ r.length = 120 ∧ ∀ (n : Nat) (ts : List Tn), 2 ≤ n → n ≤ 60 → Val n ts → ts.length ≤ 150 → Q .av (.tuple [.int (n : Int), .list (ts.map en)])
theorem ms__law_world : MonoS S__law_world := fun ds Q Q' h ⟨r, e, h1, h2, q⟩ => ⟨r, e, h1, h2, fun n ts a b c d => h _ _ (q n ts a b c d)⟩
theorem at_good {r : List Int} (k : Nat) (hk : k < r.length) : L2.atI (r.map PyData.int) (k : Int) = some (.int (r.getD k 0)) := by
  rw [gD hk]
  exact at_map hk
/-- the second half of the world: from a size, a number and a scale on -/
def wTail (S__law_cell : DSp) : DS := (dSeq (dOwn 4 (dLst dNil)) (dSeq (dForR1 (dVar 2) (gName 5) (dSeq (dSet 6 (dOp rMod (dCall S__law_cell (dCons (dVar 0) (dCons (dOp rAdd (dC (.int 3)) (dOp rMul (dC (.int 3)) (dVar 5))) dNil))) (dVar 1))) (dSeq (dSet 7 (dOp rMod (dOp rAdd (dOp rAdd (dVar 6) (dC (.int 1))) (dOp rMod (dCall S__law_cell (dCons (dVar 0) (dCons (dOp rAdd (dC (.int 4)) (dOp rMul (dC (.int 3)) (dVar 5))) dNil))) (dOp rSub (dVar 1) (dC (.int 1))))) (dVar 1))) (dApp 4 (dTup (dCons (dVar 6) (dCons (dVar 7) (dCons (dOp rMul (dOp rSub (dOp rMod (dCall S__law_cell (dCons (dVar 0) (dCons (dOp rAdd (dC (.int 5)) (dOp rMul (dC (.int 3)) (dVar 5))) dNil))) (dC (.int 41))) (dC (.int 20))) (dVar 3)) dNil)))))))) (dFrz 4 (dRet (dTup (dCons (dVar 1) (dCons (dVar 4) dNil)))))))
theorem kp_wTail {Q : Rt → PyData → Prop} {r : List Int} (hg : Good r) (hl : r.length = 120) (q : ∀ (n : Nat) (ts : List Tn), 2 ≤ n → n ≤ 60 → Val n ts → ts.length ≤ 150 → Q .av (.tuple [.int (n : Int), .list (ts.map en)])) (n : Nat) (many scale : Int) (h2 : 2 ≤ n) (h60 : n ≤ 60) (hm0 : 0 ≤ many) (hm : many ≤ 150) (hsc : -10000000000 ≤ scale ∧ scale ≤ 10000000000) :
    wTail S__law_cell { nx := fun _ => Q .av .none, rt := Q } [.val false (eI r), .val false (.int (n : Int)), .val false (.int many), .val false (.int scale), .non, .non, .non, .non] := by
  refine ⟨by simp, ?_⟩
  refine ⟨sm (by omega) (by omega), for_upTo (fun i σ => ∃ ts s5 s6 s7, σ = [.val false (eI r), .val false (.int (n : Int)), .val false (.int many), .val false (.int scale), .own false ((ts : List Tn).map en), s5, s6, s7] ∧ Val n ts ∧ ts.length = i) ⟨[], _, _, _, rfl, (fun x h => nomatch h), rfl⟩ (fun i σ K hi h k => ?_) (fun σ h => ?_)⟩
  · obtain ⟨ts, s5, s6, s7, rfl, hv, ht⟩ := h
    refine ⟨mul_l (by decide), r, _, rfl, hg, by omega, by omega, fun c1 a1 b1 => ?_⟩
    refine ⟨md (by omega), mul_l (by decide), r, _, rfl, hg, by omega, by omega, fun c2 a2 b2 => ?_⟩
    refine ⟨md (by omega), md (by omega), ?_⟩
    have p0 : 0 ≤ c1 % (n : Int) := Int.emod_nonneg _ (by omega)
    have p1 : c1 % (n : Int) < n := Int.emod_lt_of_pos _ (by omega)
    have m0 : 0 ≤ (c1 % (n : Int) + 1 + c2 % ((n : Int) - 1)) % (n : Int) := Int.emod_nonneg _ (by omega)
    have m1 : (c1 % (n : Int) + 1 + c2 % ((n : Int) - 1)) % (n : Int) < n := Int.emod_lt_of_pos _ (by omega)
    refine ⟨mul_l (by decide), r, _, rfl, hg, by omega, by omega, fun c3 a3 b3 => ?_⟩
    have s0 : 0 ≤ c3 % 41 := Int.emod_nonneg _ (by decide)
    have s1 : c3 % 41 < 41 := Int.emod_lt_of_pos _ (by decide)
    refine ⟨md (by decide), mul_r (by omega), by simp, szlt (by rw [List.length_map]; omega), ?_⟩
    have hp : (((c1 % (n : Int)).toNat : Nat) : Int) = c1 % (n : Int) := by omega
    have hq : ((((c1 % (n : Int) + 1 + c2 % ((n : Int) - 1)) % (n : Int)).toNat : Nat) : Int) = (c1 % (n : Int) + 1 + c2 % ((n : Int) - 1)) % (n : Int) := by omega
    have e : en (⟨(c1 % (n : Int)).toNat, ((c1 % (n : Int) + 1 + c2 % ((n : Int) - 1)) % (n : Int)).toNat, (c3 % 41 - 20) * scale⟩ : Tn) = .tuple [.int (c1 % (n : Int)), .int ((c1 % (n : Int) + 1 + c2 % ((n : Int) - 1)) % (n : Int)), .int ((c3 % 41 - 20) * scale)] := by
      show PyData.tuple [.int ((c1 % (n : Int)).toNat : Nat), .int (((c1 % (n : Int) + 1 + c2 % ((n : Int) - 1)) % (n : Int)).toNat : Nat), _] = _
      rw [hp, hq]
    refine k _ ⟨ts ++ [_], _, _, _, by rw [List.map_append, List.map_singleton, e]; rfl, fun t h => ?_, by rw [List.length_append, ht]; rfl⟩
    rcases List.mem_append.mp h with h | h
    · exact hv t h
    · rw [List.mem_singleton.mp h]
      exact ⟨by show (c1 % (n : Int)).toNat < n; omega, by show ((c1 % (n : Int) + 1 + c2 % ((n : Int) - 1)) % (n : Int)).toNat < n; omega⟩
  · obtain ⟨ts, s5, s6, s7, rfl, hv, ht⟩ := h
    exact ⟨by simp, q n ts h2 h60 hv (by omega)⟩
theorem kp__law_world : Keeps 8 (rd__law_world_02d4 S__law_cell) S__law_world := by
  rintro ds Q ⟨r, rfl, hg, hl, q⟩
  have g0 := hg _ (List.getElem_mem (show 0 < r.length by omega))
  have g1 := hg _ (List.getElem_mem (show 1 < r.length by omega))
  have g2 := hg _ (List.getElem_mem (show 2 < r.length by omega))
  generalize hd0 : r[0] = d0 at *
  generalize hd1 : r[1] = d1 at *
  generalize hd2 : r[2] = d2 at *
  have a0 : L2.atI (r.map PyData.int) 0 = some (.int d0) := by rw [← hd0]; exact at_map (i := 0) (by omega)
  have a1 : L2.atI (r.map PyData.int) 1 = some (.int d1) := by rw [← hd1]; exact at_map (i := 1) (by omega)
  have a2 : L2.atI (r.map PyData.int) 2 = some (.int d2) := by rw [← hd2]; exact at_map (i := 2) (by omega)
  -- the scale
  have mid : ∀ (n : Nat) (many : Int), 2 ≤ n → n ≤ 60 → 0 ≤ many → many ≤ 150 →
      (dSeq (dSet 3 (dC (.int 1))) (dSeq (dIf (dCmp rEq (dOp rMod (dOp rIx (dVar 0) (dC (.int 1))) (dC (.int 8))) (dC (.int 4))) (dSet 3 (dOp rAdd (dOp rPow (dC (.int 10)) (dC (.int 9))) (dOp rIx (dVar 0) (dC (.int 2))))) dNext) (wTail S__law_cell)))
        { nx := fun _ => Q .av .none, rt := Q } [.val false (eI r), .val false (.int (n : Int)), .val false (.int many), .non, .non, .non, .non, .non] := by
    intro n many h2 h60 hm0 hm
    refine ⟨_, a1, md (by decide), br.dec (fun h => ?_) (fun h => ?_)⟩
    · refine ⟨⟨by decide, by decide, by decide⟩, _, a2, ?_⟩
      exact kp_wTail hg hl q n many ((10 : Int) ^ 9 + d2) h2 h60 hm0 hm (by omega)
    · exact kp_wTail hg hl q n many 1 h2 h60 hm0 hm (by decide)
  have e0 : 0 ≤ d0 % 6 ∧ d0 % 6 < 6 := ⟨Int.emod_nonneg _ (by decide), Int.emod_lt_of_pos _ (by decide)⟩
  have e1 : 0 ≤ d1 / 8 % 25 ∧ d1 / 8 % 25 < 25 := ⟨Int.emod_nonneg _ (by decide), Int.emod_lt_of_pos _ (by decide)⟩
  have e2 : 0 ≤ d1 / 8 % 151 ∧ d1 / 8 % 151 < 151 := ⟨Int.emod_nonneg _ (by decide), Int.emod_lt_of_pos _ (by decide)⟩
  have e3 : 0 ≤ d0 / 6 % 53 ∧ d0 / 6 % 53 < 53 := ⟨Int.emod_nonneg _ (by decide), Int.emod_lt_of_pos _ (by decide)⟩
  refine ⟨_, a0, md (by decide), _, a1, div_s (by decide), md (by decide), _, a1, md (by decide), br.dec (fun h => ?_) (fun h => ?_)⟩
  · refine ⟨_, a0, div_s (by decide), md (by decide), _, a1, div_s (by decide), md (by decide), ?_⟩
    have := mid (8 + d0 / 6 % 53).toNat (d1 / 8 % 151) (by omega) (by omega) e2.1 (by omega)
    rw [show (((8 + d0 / 6 % 53).toNat : Nat) : Int) = 8 + d0 / 6 % 53 by omega] at this
    exact this
  · have := mid (2 + d0 % 6).toNat (d1 / 8 % 25) (by omega) (by omega) e1.1 (by omega)
    rw [show (((2 + d0 % 6).toNat : Nat) : Int) = 2 + d0 % 6 by omega] at this
    exact this
end RD

set_option Elab.async false
set_option linter.all false
set_option maxRecDepth 100000
/-! M_K77: safe targets: the program's defs. A plan is a list of turns (string, source, number of a listening). -/
namespace RD
open PySem DL
open En (en)
structure Ls where
  a : Nat
  b : Nat
  e : Int
  deriving DecidableEq
instance : En Ls where
  en := fun t => .tuple [.int (t.a : Int), .int (t.b : Int), .int t.e]
  dp := 1
  lay := fun t => by simp only [PyData.canLay0, PyData.canLayAll0, Bool.and_self]
  dep := fun t => by simp [PyData.depth, PyData.depthAll]
  eqv := fun a b => by
    obtain ⟨a1, a2, a3⟩ := a
    obtain ⟨b1, b2, b3⟩ := b
    simp [PyData.eqv, PyData.eqvAll, Int.natCast_inj]
/-- the plan's numbers are numbers of listenings -/
def Pix (ls : List Ls) (pl : List Tn) : Prop := ∀ t ∈ pl, 0 ≤ t.sl ∧ t.sl.toNat < ls.length
/-- the errors along a plan -/
def errs (ls : List Ls) (pl : List Tn) : List Int := pl.map fun t => (ls.getD t.sl.toNat ⟨0, 0, 0⟩).e
theorem errs_len (ls : List Ls) (pl : List Tn) : (errs ls pl).length = pl.length := List.length_map ..
def S_ways_of : DSp := fun ds Q => ∃ (n : Nat) (ts : List Tn), ds = [.int n, .list (ts.map en)] ∧ n ≤ 1000 ∧ ts.length ≤ 1000 ∧ Val n ts ∧ Q .new (en (heardAll n ts ts.length))
theorem ms_ways_of : MonoS S_ways_of := fun ds Q Q' h ⟨n, ts, e, h1, h2, h3, q⟩ => ⟨n, ts, e, h1, h2, h3, h _ _ q⟩
theorem kp_ways_of : Keeps 7 rd_ways_of S_ways_of := by
  rintro ds Q ⟨n, ts, rfl, hn, ht, hv, q⟩
  refine ⟨sm (by omega) (by omega), lc_upTo (fun _ => PyData.list []) (by omega) (fun k hk P N p => ⟨by decide, p⟩) ?_⟩
  have e0 : (List.range (n : Int).toNat).map (fun _ => PyData.list []) = (heardAll n ts 0).map en := by
    unfold heardAll
    rw [List.map_replicate, List.map_const', List.length_range, Int.toNat_natCast]
    rfl
  refine ⟨sm (by simp) (by simp; omega), for_upTo (fun i σ => ∃ s3 s4 s5 s6, σ = [.val false (.int n), .val false (.list (ts.map en)), .own false ((heardAll n ts i).map en), s3, s4, s5, s6]) ⟨.non, .non, .non, .non, ?_⟩ (fun i σ K hi h k => ?_) (fun σ h => ?_)⟩
  · rw [← e0]
    rfl
  · obtain ⟨s3, s4, s5, s6, rfl⟩ := h
    have hi' : i < ts.length := by
      simp at hi
      exact hi
    obtain ⟨h1, h2⟩ := hv ts[i] (List.getElem_mem hi')
    have hl := heardAll_len n ts i
    have hm : ts[i].md < (heardAll n ts i).length := by rw [hl]; exact h2
    have e1 : (0 : Int) + (i : Int) = (i : Int) := by omega
    rw [e1]
    have hs : ((heardAll n ts i)[ts[i].md].map (en (α := Nat))).length + [PyData.int (i : Int)].length ≤ 16000000 := by
      have := heard_len ts i ts[i].md
      rw [← heardAll_get n ts hv i _ h2, gD hm] at this
      simp
      omega
    have e3 : ((heardAll n ts i).map (en (α := List Nat))).set ts[i].pl (.list ((heardAll n ts i)[ts[i].md].map en ++ [.int (i : Int)])) = (heardAll n ts (i + 1)).map en := by
      have e2 : heardAll n ts (i + 1) = (heardAll n ts i).set ts[i].pl ((heardAll n ts i).getD ts[i].md [] ++ [i]) := by
        conv => lhs; unfold heardAll
        rw [List.getElem?_eq_getElem hi']
      rw [e2, gD hm, ← set_map]
      show _ = ((heardAll n ts i).map en).set ts[i].pl (.list (((heardAll n ts i)[ts[i].md] ++ [i]).map en))
      rw [List.map_append]
      rfl
    exact ⟨_, at_map hi', rfl, _, at_map hm, by simp, sz hs, _, ixN_nat (j := ts[i].pl) (by rw [List.length_map, hl]; exact h1), k _ ⟨_, _, _, _, by rw [← e3]; rfl⟩⟩
  · obtain ⟨s3, s4, s5, s6, rfl⟩ := h
    have el : (((ts.map en).length : Nat) : Int).toNat = ts.length := by simp
    rw [el]
    exact q
theorem sum_take {xs : List Int} {i : Nat} (h : i < xs.length) : (xs.take (i + 1)).sum = (xs.take i).sum + xs[i] := by
  rw [List.take_succ_eq_append_getElem h, List.sum_append]
  simp
def S_pair_error : DSp := fun ds Q => ∃ (n f s : Nat) (r : Int) (ls : List Ls) (pl : List Tn), ds = [.int n, .int r, .list (ls.map en), .list (pl.map en), .int f, .int s] ∧ n ≤ 1000 ∧ pl.length ≤ 1000 ∧ Val n pl ∧ Pix ls pl ∧ f < n ∧ s < n ∧ Q .av (.int (apart pl (errs ls pl) f s))
theorem ms_pair_error : MonoS S_pair_error := fun ds Q Q' h ⟨n, f, s, r, ls, pl, e, h1, h2, h3, h4, h5, h6, q⟩ => ⟨n, f, s, r, ls, pl, e, h1, h2, h3, h4, h5, h6, h _ _ q⟩
theorem kp_pair_error : Keeps 9 (rd_pair_error S_ways_of S_parting) S_pair_error := by
  rintro ds Q ⟨n, f, s, r, ls, pl, rfl, hn, ht, hv, hx, hf, hs, q⟩
  have hl := heardAll_len n pl pl.length
  have e1 : ∀ p (h : p < (heardAll n pl pl.length).length), (heardAll n pl pl.length)[p] = heard pl pl.length p := fun p h => by
    rw [← gD (d := []) h, heardAll_get n pl hv _ p (by rw [hl] at h; exact h)]
  have hl1 := heard_len pl pl.length f
  have hl2 := heard_len pl pl.length s
  have hp : ∀ k ∈ part (heard pl pl.length f) (heard pl pl.length s), k < pl.length := fun k hk => by
    rcases List.mem_append.mp hk with h | h
    · exact heard_lt pl _ _ k (List.mem_filter.mp h).1
    · exact heard_lt pl _ _ k (List.mem_filter.mp h).1
  unfold rd_pair_error
  refine seq_join2 (fun σ => σ = [.val false (.int n), .val false (.int r), .val false (.list (ls.map en)), .val false (.list (pl.map en)), .val false (.int f), .val false (.int s), .val false (en (heardAll n pl pl.length)), .val false (.int 0), .non]) (fun K k => ?_) (fun σ h => ?_)
  · exact ⟨n, pl, rfl, hn, ht, hv, k _ rfl⟩
  subst h
  have af : L2.atI ((heardAll n pl pl.length).map (en (α := List Nat))) (f : Int) = some (en (heard pl pl.length f)) := by
    rw [← e1 f (by rw [hl]; exact hf)]
    exact at_map (by rw [hl]; exact hf)
  have as : L2.atI ((heardAll n pl pl.length).map (en (α := List Nat))) (s : Int) = some (en (heard pl pl.length s)) := by
    rw [← e1 s (by rw [hl]; exact hs)]
    exact at_map (by rw [hl]; exact hs)
  refine ⟨_, af, _, as, ?_⟩
  refine ⟨_, _, rfl, by omega, by omega, ?_⟩
  unfold apart at q
  generalize hpt : part (heard pl pl.length f) (heard pl pl.length s) = pt at *
  refine for_inv en pt (fun i σ => ∃ s8, σ = [.val false (.int n), .val false (.int r), .val false (.list (ls.map en)), .val false (.list (pl.map en)), .val false (.int f), .val false (.int s), .val false (en (heardAll n pl pl.length)), .val false (.int ((pt.map fun k => (errs ls pl).getD k 0).take i).sum), s8]) ⟨.non, rfl⟩ (fun i hi σ K h k => ?_) (fun σ h => ?_)
  · obtain ⟨s8, rfl⟩ := h
    have hk := hp pt[i] (List.getElem_mem hi)
    obtain ⟨x0, x1⟩ := hx pl[pt[i]] (List.getElem_mem hk)
    refine ⟨_, at_map (en := En.en (α := Tn)) (i := pt[i]) hk, _, rfl, _, at_int (en := En.en (α := Ls)) x0 x1, _, rfl, k _ ⟨.val false (.int (pt[i] : Nat)), ?_⟩⟩
    have e2 : (errs ls pl).getD pt[i] 0 = ls[pl[pt[i]].sl.toNat].e := by
      unfold errs
      rw [gD (by rw [List.length_map]; exact hk), List.getElem_map, gD x1]
    rw [sum_take (by rw [List.length_map]; exact hi), List.getElem_map, e2]
    rfl
  · obtain ⟨s8, rfl⟩ := h
    rw [List.take_of_length_le (by rw [List.length_map]; exact Nat.le_refl _)]
    exact q
def nar (e : Int) (d : Dm) : Dm := ⟨d.lw, d.hg, d.lo.map fun x => x + e, d.hi.map fun x => x - e⟩
def S_narrowed : DSp := fun ds Q => ∃ (d : Dm) (e : Int), ds = [en d, .int e] ∧ Q .av (en (nar e d))
theorem ms_narrowed : MonoS S_narrowed := fun ds Q Q' h ⟨d, e, z, q⟩ => ⟨d, e, z, h _ _ q⟩
theorem kp_narrowed : Keeps 6 rd_narrowed S_narrowed := by
  rintro ds Q ⟨d, e, rfl, q⟩
  obtain ⟨lw, hg, lo, hi⟩ := d
  cases lo with
  | none =>
    cases hi with
    | none => exact ⟨rfl, by simp, q⟩
    | some h => exact ⟨rfl, by simp, q⟩
  | some l =>
    cases hi with
    | none => exact ⟨rfl, by simp, q⟩
    | some h => exact ⟨rfl, by simp, q⟩
/-- the safe demands -/
def safe (ls : List Ls) (pl : List Tn) (d : Dm) : Dm := nar (apart pl (errs ls pl) d.lw d.hg) d
def S_safe_demands : DSp := fun ds Q => ∃ (n : Nat) (r : Int) (ls : List Ls) (pl : List Tn) (dms : List Dm), ds = [.int n, .list (dms.map en), .int r, .list (ls.map en), .list (pl.map en)] ∧ n ≤ 1000 ∧ pl.length ≤ 1000 ∧ Val n pl ∧ Pix ls pl ∧ dms.length ≤ 1000 ∧ Ok n dms ∧ Q .new (en (dms.map (safe ls pl)))
theorem ms_safe_demands : MonoS S_safe_demands := fun ds Q Q' h ⟨n, r, ls, pl, dms, e, h1, h2, h3, h4, h5, h6, q⟩ => ⟨n, r, ls, pl, dms, e, h1, h2, h3, h4, h5, h6, h _ _ q⟩
theorem kp_safe_demands : Keeps 8 (rd_safe_demands S_pair_error S_narrowed) S_safe_demands := by
  rintro ds Q ⟨n, r, ls, pl, dms, rfl, hn, ht, hv, hx, hd, ho, q⟩
  refine ⟨by simp, for_inv en dms (fun i σ => ∃ s6 s7, σ = [.val false (.int n), .val false (.list (dms.map en)), .val false (.int r), .val false (.list (ls.map en)), .val false (.list (pl.map en)), .own false (((dms.take i).map (safe ls pl)).map en), s6, s7]) ⟨.non, .non, rfl⟩ (fun i hi σ K h k => ?_) (fun σ h => ?_)⟩
  · obtain ⟨s6, s7, rfl⟩ := h
    obtain ⟨o1, o2⟩ := ho dms[i] (List.getElem_mem hi)
    refine ⟨_, rfl, _, rfl, ?_⟩
    refine ⟨n, dms[i].lw, dms[i].hg, r, ls, pl, rfl, hn, ht, hv, hx, o1, o2, ?_⟩
    refine ⟨dms[i], _, rfl, szlt (by rw [List.length_map, List.length_map, List.length_take]; omega), k _ ⟨.val false (en dms[i]), .val false (.int (apart pl (errs ls pl) dms[i].lw dms[i].hg)), ?_⟩⟩
    rw [List.take_succ_eq_append_getElem hi, List.map_append, List.map_append (l₂ := List.map _ [_])]
    rfl
  · obtain ⟨s6, s7, rfl⟩ := h
    rw [List.take_length]
    exact q
end RD

set_option Elab.async false
set_option linter.all false
set_option maxRecDepth 100000
/-! M2_K77: safe targets: slips along a plan. -/
namespace RD
open PySem DL
open En (en)
def slV (sg : Int) (es : List Int) (lo hi : List Nat) (k : Nat) : Int := if k ∈ hi ∧ k ∉ lo then sg * es.getD k 0 else if k ∈ lo ∧ k ∉ hi then -sg * es.getD k 0 else 0
def slA (sg : Int) (es : List Int) (lo hi : List Nat) (n i : Nat) : List Int := (List.range n).map fun k => if k < i then slV sg es lo hi k else 0
theorem slA_len (sg : Int) (es : List Int) (lo hi : List Nat) (n i : Nat) : (slA sg es lo hi n i).length = n := by
  unfold slA
  rw [List.length_map, List.length_range]
theorem slA_zero (sg : Int) (es : List Int) (lo hi : List Nat) (n : Nat) : slA sg es lo hi n 0 = List.replicate n 0 := by
  unfold slA
  have : (fun k => if k < 0 then slV sg es lo hi k else (0 : Int)) = fun _ => 0 := funext fun k => if_neg (Nat.not_lt_zero k)
  rw [this, List.map_const', List.length_range]
theorem slA_succ (sg : Int) (es : List Int) (lo hi : List Nat) (n i : Nat) : slA sg es lo hi n (i + 1) = (slA sg es lo hi n i).set i (slV sg es lo hi i) := by
  unfold slA
  rw [set_range]
  refine List.map_congr_left fun k hk => ?_
  by_cases h : k = i
  · subst h
    rw [if_pos rfl, if_pos (by omega)]
  · rw [if_neg h]
    by_cases h2 : k < i
    · rw [if_pos h2, if_pos (by omega)]
    · rw [if_neg h2, if_neg (by omega)]
theorem slA_same (sg : Int) (es : List Int) (lo hi : List Nat) (n i : Nat) (h : slV sg es lo hi i = 0) : slA sg es lo hi n (i + 1) = slA sg es lo hi n i := by
  unfold slA
  refine List.map_congr_left fun k hk => ?_
  by_cases h1 : k = i
  · subst h1
    rw [h, if_pos (by omega), if_neg (by omega)]
  · by_cases h2 : k < i
    · rw [if_pos h2, if_pos (by omega)]
    · rw [if_neg h2, if_neg (by omega)]
def S_slips_apart : DSp := fun ds Q => ∃ (ls : List Ls) (pl : List Tn) (lo hi : List Nat) (sg : Int), ds = [.list (ls.map en), .list (pl.map en), en lo, en hi, .int sg] ∧ pl.length ≤ 1000 ∧ Pix ls pl ∧ (sg = 1 ∨ sg = -1) ∧ Q .new (eI (slA sg (errs ls pl) lo hi pl.length pl.length))
theorem ms_slips_apart : MonoS S_slips_apart := fun ds Q Q' h ⟨ls, pl, lo, hi, sg, e, h1, h2, h3, q⟩ => ⟨ls, pl, lo, hi, sg, e, h1, h2, h3, h _ _ q⟩
theorem kp_slips_apart : Keeps 8 rd_slips_apart S_slips_apart := by
  rintro ds Q ⟨ls, pl, lo, hi, sg, rfl, ht, hx, hsg, q⟩
  refine ⟨by simp, by rw [List.length_map]; omega, by rw [List.length_map]; omega, sz (by simp; omega), ?_⟩
  have e00 : (List.replicate ((((pl.map (en (α := Tn))).length : Nat) : Int)).toNat [PyData.int 0]).flatten = (slA sg (errs ls pl) lo hi pl.length 0).map PyData.int := by
    rw [slA_zero, ← rep0, List.length_map]
  refine ⟨sm (by omega) (by rw [List.length_map]; omega), for_upTo (fun i σ => ∃ s6 s7, σ = [.val false (.list (ls.map en)), .val false (.list (pl.map en)), .val false (en lo), .val false (en hi), .val false (.int sg), .own false ((slA sg (errs ls pl) lo hi pl.length i).map .int), s6, s7]) ⟨.non, .non, by rw [← e00]; rfl⟩ (fun i σ K hi' h k => ?_) (fun σ h => ?_)⟩
  · obtain ⟨s6, s7, rfl⟩ := h
    have hil : i < pl.length := by simpa using hi'
    have e0 : (0 : Int) + (i : Int) = (i : Int) := by omega
    obtain ⟨x0, x1⟩ := hx pl[i] (List.getElem_mem hil)
    have e2 : (errs ls pl).getD i 0 = ls[pl[i].sl.toNat].e := by
      unfold errs
      rw [gD (by rw [List.length_map]; exact hil), List.getElem_map, gD x1]
    have hln := slA_len sg (errs ls pl) lo hi pl.length i
    have vdef : slV sg (errs ls pl) lo hi i = if i ∈ hi ∧ i ∉ lo then sg * ls[pl[i].sl.toNat].e else if i ∈ lo ∧ i ∉ hi then -sg * ls[pl[i].sl.toNat].e else 0 := by
      unfold slV
      rw [e2]
    rw [e0]
    generalize hE : ls[pl[i].sl.toNat].e = E at *
    have stE : (dSet 7 (dOp rIx (dOp rIx (dVar 0) (dOp rIx (dOp rIx (dVar 1) (dVar 6)) (dC (.int 2)))) (dC (.int 2)))) = (dSet 7 (dOp rIx (dOp rIx (dVar 0) (dOp rIx (dOp rIx (dVar 1) (dVar 6)) (dC (.int 2)))) (dC (.int 2)))) := rfl
    refine ⟨_, at_map (en := En.en (α := Tn)) hil, _, rfl, _, at_int (en := En.en (α := Ls)) x0 x1, _, rfl, ?_⟩
    rw [hE]
    have aft : ∀ (b : Prop) [Decidable b] (L : List Int), L = (if b then (slA sg (errs ls pl) lo hi pl.length i).set i (sg * E) else slA sg (errs ls pl) lo hi pl.length i) → L.length = pl.length := fun b _ L e => by
      rw [e]
      split
      · rw [List.length_set]; exact hln
      · exact hln
    refine in_go (α := Nat) i hi (Q := fun c => br c _ _) (br.dec (fun a => ?_) (fun a => ?_))
    · refine in_go (α := Nat) i lo (Q := fun c => br (!c) _ _) (br.nd (fun b => ?_) (fun b => ?_))
      · refine ⟨mul_l (by omega), _, ixN_nat (by rw [List.length_map, hln]; exact hil), ?_⟩
        refine in_go (α := Nat) i lo (Q := fun c => br c _ _) (br.dec (fun c => absurd c b) (fun _ => k _ ⟨.val false (.int (i : Int)), .val false (.int E), ?_⟩))
        rw [slA_succ, vdef, if_pos ⟨a, b⟩, ← set_map]
        rfl
      · refine in_go (α := Nat) i lo (Q := fun c => br c _ _) (br.dec (fun _ => ?_) (fun c => absurd b c))
        refine in_go (α := Nat) i hi (Q := fun c => br (!c) _ _) (br.nd (fun c => absurd a c) (fun _ => k _ ⟨.val false (.int (i : Int)), .val false (.int E), ?_⟩))
        rw [slA_same _ _ _ _ _ _ (by rw [vdef, if_neg (fun z => z.2 b), if_neg (fun z => z.2 a)])]
        rfl
    · refine in_go (α := Nat) i lo (Q := fun c => br c _ _) (br.dec (fun b => ?_) (fun b => k _ ⟨.val false (.int (i : Int)), .val false (.int E), ?_⟩))
      · refine in_go (α := Nat) i hi (Q := fun c => br (!c) _ _) (br.nd (fun _ => ?_) (fun c => absurd c a))
        refine ⟨mul_l (by omega), _, ixN_nat (by rw [List.length_map, hln]; exact hil), k _ ⟨.val false (.int (i : Int)), .val false (.int E), ?_⟩⟩
        rw [slA_succ, vdef, if_neg (fun z => a z.1), if_pos ⟨b, a⟩, ← set_map]
        rfl
      · rw [slA_same _ _ _ _ _ _ (by rw [vdef, if_neg (fun z => a z.1), if_neg (fun z => b z.1)])]
        rfl
  · obtain ⟨s6, s7, rfl⟩ := h
    rw [List.length_map, Int.toNat_natCast]
    exact q
/-- the pitches of a target, moved -/
def pch (t o : List Int) : List Int := (List.range t.length).map fun k => t.getD k 0 + o.getD k 0
theorem pch_len (t o : List Int) : (pch t o).length = t.length := by
  unfold pch
  rw [List.length_map, List.length_range]
theorem pch_at {t o : List Int} {k : Nat} (h : k < t.length) : (pch t o).getD k 0 = t.getD k 0 + o.getD k 0 := by
  unfold pch
  rw [gD_range h]
theorem pch_zero (t : List Int) : pch t (List.replicate t.length 0) = t := by
  refine List.ext_getElem (by rw [pch_len]) fun i h1 h2 => ?_
  rw [← gD (d := 0) h1, pch_at h2, gD h2, gD (by rw [List.length_replicate]; exact h2), List.getElem_replicate, Int.add_zero]
theorem pch_set {t o : List Int} (hl : o.length = t.length) {j : Nat} (hj : j < t.length) (x : Int) : pch t (o.set j x) = (pch t o).set j (t.getD j 0 + x) := by
  unfold pch
  rw [set_range]
  refine List.map_congr_left fun k hk => ?_
  have hk' := List.mem_range.mp hk
  by_cases h : k = j
  · subst h
    rw [if_pos rfl, gD (show k < (o.set k x).length by rw [List.length_set, hl]; exact hk'), List.getElem_set_self]
  · rw [if_neg h, gD (show k < (o.set j x).length by rw [List.length_set, hl]; exact hk'), List.getElem_set_ne (Ne.symm h), gD (show k < o.length by rw [hl]; exact hk')]
/-- heard with slips -/
def tun (t : List Int) (pl : List Tn) (sl : List Int) : List Int := pch t (offs t.length (withSl pl fun k => sl.getD k 0))
def S_tuned_by_ear : DSp := fun ds Q => ∃ (t : List Int) (r : Int) (ls : List Ls) (pl : List Tn) (sl : List Int), ds = [eI t, .int r, .list (ls.map en), .list (pl.map en), eI sl] ∧ t.length ≤ 1000 ∧ pl.length ≤ 1000 ∧ Val t.length pl ∧ sl.length = pl.length ∧ Q .new (eI (tun t pl sl))
theorem ms_tuned_by_ear : MonoS S_tuned_by_ear := fun ds Q Q' h ⟨t, r, ls, pl, sl, e, h1, h2, h3, h4, q⟩ => ⟨t, r, ls, pl, sl, e, h1, h2, h3, h4, h _ _ q⟩
theorem kp_tuned_by_ear : Keeps 10 rd_tuned_by_ear S_tuned_by_ear := by
  rintro ds Q ⟨t, r, ls, pl, sl, rfl, hn, ht, hv, hs, q⟩
  generalize hw : withSl pl (fun k => sl.getD k 0) = ws
  have hwl : ws.length = pl.length := by rw [← hw, withSl_len]
  have hwv : Val t.length ws := by rw [← hw]; exact withSl_val hv _
  refine ⟨sm (by omega) (by rw [List.length_map]; omega), for_upTo (fun i σ => ∃ s6 s7 s8 s9, σ = [.val false (eI t), .val false (.int r), .val false (.list (ls.map en)), .val false (.list (pl.map en)), .val false (eI sl), .own false ((pch t (offs t.length (ws.take i))).map .int), s6, s7, s8, s9]) ⟨.non, .non, .non, .non, ?_⟩ (fun i σ K hi' h k => ?_) (fun σ h => ?_)⟩
  · have : pch t (offs t.length (ws.take 0)) = t := pch_zero t
    rw [this]
    rfl
  · obtain ⟨s6, s7, s8, s9, rfl⟩ := h
    have hil : i < pl.length := by simpa using hi'
    have e0 : (0 : Int) + (i : Int) = (i : Int) := by omega
    obtain ⟨h1, h2⟩ := hv pl[i] (List.getElem_mem hil)
    have hol := offs_len t.length (ws.take i)
    have hw1 : i < ws.length := by omega
    have ew : ws[i] = ⟨pl[i].pl, pl[i].md, sl.getD i 0⟩ := by
      have := withSl_at pl (fun k => sl.getD k 0) i hil
      rw [hw, List.getElem?_eq_getElem hw1] at this
      exact Option.some.inj this
    have hpl := pch_len t (offs t.length (ws.take i))
    have eP : (pch t (offs t.length (ws.take i)))[pl[i].md]'(by rw [hpl]; exact h2) = t[pl[i].md] + (offs t.length (ws.take i)).getD pl[i].md 0 := by
      rw [← gD (d := 0) (by rw [hpl]; exact h2), pch_at h2, gD h2]
    rw [e0]
    refine ⟨_, at_map (en := En.en (α := Tn)) hil, rfl, _, at_map (i := pl[i].md) (by rw [hpl]; exact h2), _, at_map (i := pl[i].pl) h1, _, at_map (i := pl[i].md) h2, _, at_map (i := i) (by omega), _, ixN_nat (j := pl[i].pl) (by rw [List.length_map, hpl]; exact h1), k _ ⟨.val false (.int (i : Int)), .val false (.int (pl[i].pl : Int)), .val false (.int (pl[i].md : Int)), .val false (.int pl[i].sl), ?_⟩⟩
    have e3 : pch t (offs t.length (ws.take (i + 1))) = (pch t (offs t.length (ws.take i))).set pl[i].pl ((pch t (offs t.length (ws.take i)))[pl[i].md]'(by rw [hpl]; exact h2) + t[pl[i].pl] - t[pl[i].md] + sl[i]) := by
      rw [offs_take _ _ _ hw1]
      unfold offStep
      rw [ew]
      dsimp only
      rw [pch_set hol h1, eP, gD h1, gD (show i < sl.length by omega)]
      congr 1
      omega
    rw [e3, ← set_map]
    rfl
  · obtain ⟨s6, s7, s8, s9, rfl⟩ := h
    rw [List.length_map, Int.toNat_natCast, ← hwl, List.take_length]
    unfold tun at q
    rw [hw] at q
    exact q
end RD

set_option Elab.async false
set_option linter.all false
set_option maxRecDepth 100000
/-! M3_K77: safe targets: breaking errors. -/
namespace RD
open PySem DL
open En (en)
def Nn (ls : List Ls) : Prop := ∀ l ∈ ls, 0 ≤ l.e
theorem errs_nn {ls : List Ls} (h : Nn ls) (pl : List Tn) (k : Nat) : 0 ≤ (errs ls pl).getD k 0 := by
  by_cases hk : k < (errs ls pl).length
  · rw [gD hk]
    have e : (errs ls pl)[k] = (ls.getD (pl[k]'(by rw [errs_len] at hk; exact hk)).sl.toNat ⟨0, 0, 0⟩).e := by simp only [errs, List.getElem_map]
    rw [e]
    by_cases hx : (pl[k]'(by rw [errs_len] at hk; exact hk)).sl.toNat < ls.length
    · rw [gD hx]
      exact h _ (List.getElem_mem hx)
    · unfold List.getD
      rw [List.getElem?_eq_none (by omega)]
      decide
  · unfold List.getD
    rw [List.getElem?_eq_none (by omega)]
    decide
theorem sm0_zero (n : Nat) : sm0 n (fun _ => 0) = 0 := by
  induction n with
  | zero => rfl
  | succ n ih => rw [sm0_succ, ih]; rfl
theorem apart_nn {ls : List Ls} (h : Nn ls) (pl : List Tn) (f s : Nat) : 0 ≤ apart pl (errs ls pl) f s := by
  rw [apart_due]
  unfold due
  have := sm0_le (n := pl.length) (f := fun _ => 0) (g := fun k => if decide (k ∈ heard pl pl.length f) ≠ decide (k ∈ heard pl pl.length s) then (errs ls pl).getD k 0 else 0) (fun k _ => by
    show (0 : Int) ≤ _
    split
    · exact errs_nn h pl k
    · exact Int.le_refl _)
  rw [sm0_zero] at this
  exact this
theorem wsl_congr {ts : List Tn} {s s' : Nat → Int} (h : ∀ k, k < ts.length → s k = s' k) : withSl ts s = withSl ts s' := by
  unfold withSl
  refine List.map_congr_left fun k hk => ?_
  rw [h k (List.mem_range.mp hk)]
theorem slA_at {sg : Int} {es : List Int} {lo hi : List Nat} {n k : Nat} (h : k < n) : (slA sg es lo hi n n).getD k 0 = slV sg es lo hi k := by
  unfold slA
  rw [gD_range h, if_pos h]
theorem slA_bnd {sg : Int} (hs : sg = 1 ∨ sg = -1) {es : List Int} (he : ∀ k, 0 ≤ es.getD k 0) {lo hi : List Nat} {n k : Nat} (h : k < n) : -(es.getD k 0) ≤ (slA sg es lo hi n n).getD k 0 ∧ (slA sg es lo hi n n).getD k 0 ≤ es.getD k 0 := by
  rw [slA_at h]
  have := he k
  unfold slV
  rcases hs with e | e
  · subst e
    split
    · omega
    · split <;> omega
  · subst e
    split
    · omega
    · split <;> omega
theorem slV_up (es : List Int) (pl : List Tn) (f s k : Nat) : slV 1 es (heard pl pl.length f) (heard pl pl.length s) k = ups pl (fun k => es.getD k 0) f s k := by
  unfold slV ups
  by_cases a : k ∈ heard pl pl.length f
  · by_cases b : k ∈ heard pl pl.length s
    · simp [a, b]
    · simp [a, b]
  · by_cases b : k ∈ heard pl pl.length s
    · simp [a, b]
    · simp [a, b]
theorem slV_down (es : List Int) (pl : List Tn) (f s k : Nat) : slV (-1) es (heard pl pl.length f) (heard pl pl.length s) k = 0 - ups pl (fun k => es.getD k 0) f s k := by
  unfold slV ups
  by_cases a : k ∈ heard pl pl.length f
  · by_cases b : k ∈ heard pl pl.length s
    · simp [a, b]
    · simp [a, b]
  · by_cases b : k ∈ heard pl pl.length s
    · simp [a, b]
    · simp [a, b]
/-- slips for a demand -/
def dsl (ls : List Ls) (pl : List Tn) (d : Dm) (sg : Int) : List Int := slA sg (errs ls pl) (heard pl pl.length d.lw) (heard pl pl.length d.hg) pl.length pl.length
theorem mt_tun {t : List Int} {pl : List Tn} {sl : List Int} {d : Dm} (h1 : d.lw < t.length) (h2 : d.hg < t.length) {z : Int} (hz : (offs t.length (withSl pl fun k => sl.getD k 0)).getD d.hg 0 - (offs t.length (withSl pl fun k => sl.getD k 0)).getD d.lw 0 = z) : mt (tun t pl sl) d = wi (t.getD d.hg 0 - t.getD d.lw 0 + z) d.lo d.hi := by
  unfold mt tun
  rw [pch_at h1, pch_at h2]
  congr 1
  omega
theorem mt_up {t : List Int} {ls : List Ls} {pl : List Tn} {d : Dm} (hv : Val t.length pl) (h1 : d.lw < t.length) (h2 : d.hg < t.length) : mt (tun t pl (dsl ls pl d 1)) d = wi (t.getD d.hg 0 - t.getD d.lw 0 + apart pl (errs ls pl) d.lw d.hg) d.lo d.hi := by
  refine mt_tun h1 h2 ?_
  have e : withSl pl (fun k => (dsl ls pl d 1).getD k 0) = withSl pl (ups pl (fun k => (errs ls pl).getD k 0) d.lw d.hg) := wsl_congr fun k hk => by
    unfold dsl
    rw [slA_at hk, slV_up]
  rw [e, diff_up t.length pl hv _ _ _ h1 h2, apart_due]
theorem mt_down {t : List Int} {ls : List Ls} {pl : List Tn} {d : Dm} (hv : Val t.length pl) (h1 : d.lw < t.length) (h2 : d.hg < t.length) : mt (tun t pl (dsl ls pl d (-1))) d = wi (t.getD d.hg 0 - t.getD d.lw 0 + -apart pl (errs ls pl) d.lw d.hg) d.lo d.hi := by
  refine mt_tun h1 h2 ?_
  have e : withSl pl (fun k => (dsl ls pl d (-1)).getD k 0) = withSl pl (fun k => 0 - ups pl (fun k => (errs ls pl).getD k 0) d.lw d.hg k) := wsl_congr fun k hk => by
    unfold dsl
    rw [slA_at hk, slV_down]
  have := diff_down t.length pl hv (fun k => (errs ls pl).getD k 0) _ _ h1 h2
  rw [e, apart_due]
  omega
theorem wi_safe {x e : Int} (he : 0 ≤ e) (lo hi : Option Int) : wi x (lo.map fun l => l + e) (hi.map fun h => h - e) = (wi (x + e) lo hi && wi (x + -e) lo hi) := by
  rw [Bool.eq_iff_iff]
  cases lo with
  | none =>
    cases hi with
    | none => simp [wi]
    | some h =>
      simp [wi]
      omega
  | some l =>
    cases hi with
    | none =>
      simp [wi]
      omega
    | some h =>
      simp [wi]
      omega
theorem mt_safe {t : List Int} {ls : List Ls} {pl : List Tn} {d : Dm} (hn : Nn ls) (hv : Val t.length pl) (h1 : d.lw < t.length) (h2 : d.hg < t.length) : mt t (safe ls pl d) = (mt (tun t pl (dsl ls pl d 1)) d && mt (tun t pl (dsl ls pl d (-1))) d) := by
  rw [mt_up hv h1 h2, mt_down hv h1 h2, ← wi_safe (apart_nn hn pl d.lw d.hg)]
  rfl
def S_breaking_errors : DSp := fun ds Q => ∃ (r : Int) (ls : List Ls) (pl : List Tn) (dms : List Dm) (t : List Int), ds = [.int (t.length : Int), .list (dms.map en), .int r, .list (ls.map en), .list (pl.map en), eI t] ∧ t.length ≤ 1000 ∧ pl.length ≤ 1000 ∧ Val t.length pl ∧ Pix ls pl ∧ Nn ls ∧ Ok t.length dms ∧
  ((∀ d ∈ dms, mt t (safe ls pl d) = true) → Q .av .none) ∧ (∀ (sl : List Int) (d : Dm), d ∈ dms → mt t (safe ls pl d) = false → sl.length = pl.length → (∀ k, k < pl.length → -((errs ls pl).getD k 0) ≤ sl.getD k 0 ∧ sl.getD k 0 ≤ (errs ls pl).getD k 0) → mt (tun t pl sl) d = false → Q .av (eI sl))
theorem ms_breaking_errors : MonoS S_breaking_errors := fun ds Q Q' h ⟨r, ls, pl, dms, t, e, h1, h2, h3, h4, h5, h6, q1, q2⟩ => ⟨r, ls, pl, dms, t, e, h1, h2, h3, h4, h5, h6, fun a => h _ _ (q1 a), fun sl d a b c e f => h _ _ (q2 sl d a b c e f)⟩
def brkBody (S_slips_apart S_meets S_tuned_by_ear : DSp) : DS := (dSeq (dSet 9 (dCall S_slips_apart (dCons (dVar 3) (dCons (dVar 4) (dCons (dOp rIx (dVar 6) (dOp rIx (dVar 7) (dC (.int 0)))) (dCons (dOp rIx (dVar 6) (dOp rIx (dVar 7) (dC (.int 1)))) (dCons (dVar 8) dNil))))))) (dIf (dNot (dTest (dCall S_meets (dCons (dLst (dCons (dVar 7) dNil)) (dCons (dCall S_tuned_by_ear (dCons (dVar 5) (dCons (dVar 2) (dCons (dVar 3) (dCons (dVar 4) (dCons (dVar 9) dNil)))))) dNil))))) (dRet (dVar 9)) dNext))
def bk (r : Int) (ls : List Ls) (pl : List Tn) (dms : List Dm) (t : List Int) (s7 s8 s9 : Sl) : Ds := [.val false (.int (t.length : Int)), .val false (.list (dms.map en)), .val false (.int r), .val false (.list (ls.map en)), .val false (.list (pl.map en)), .val false (eI t), .val false (en (heardAll t.length pl pl.length)), s7, s8, s9]
theorem dsl_len (ls : List Ls) (pl : List Tn) (d : Dm) (sg : Int) : (dsl ls pl d sg).length = pl.length := slA_len _ _ _ _ _ _
theorem kp_brkBody {D : Ed} {r : Int} {ls : List Ls} {pl : List Tn} {dms : List Dm} {t : List Int} {d : Dm} {sg : Int} (hsg : sg = 1 ∨ sg = -1) (hn : t.length ≤ 1000) (ht : pl.length ≤ 1000) (hv : Val t.length pl) (hx : Pix ls pl) (o1 : d.lw < t.length) (o2 : d.hg < t.length)
    (hF : mt (tun t pl (dsl ls pl d sg)) d = false → D.rt .av (eI (dsl ls pl d sg))) (hT : mt (tun t pl (dsl ls pl d sg)) d = true → D.nx (bk r ls pl dms t (.val false (en d)) (.val false (.int sg)) (.val false (eI (dsl ls pl d sg))))) (s9 : Sl) :
    brkBody S_slips_apart S_meets S_tuned_by_ear D (bk r ls pl dms t (.val false (en d)) (.val false (.int sg)) s9) := by
  have hl := heardAll_len t.length pl pl.length
  have aw : ∀ p, p < t.length → L2.atI ((heardAll t.length pl pl.length).map (en (α := List Nat))) (p : Int) = some (en (heard pl pl.length p)) := fun p h => by
    have e : (heardAll t.length pl pl.length)[p]'(by rw [hl]; exact h) = heard pl pl.length p := by
      rw [← gD (d := []) (by rw [hl]; exact h), heardAll_get t.length pl hv _ p h]
    rw [← e]
    exact at_map (by rw [hl]; exact h)
  have hok1 : Ok t.length [d] := fun x h => by
    rw [List.mem_singleton.mp h]
    exact ⟨o1, o2⟩
  unfold brkBody
  refine seq_join (fun σ => σ = bk r ls pl dms t (.val false (en d)) (.val false (.int sg)) (.val false (eI (dsl ls pl d sg)))) (fun K2 k2 => ?_) (fun σ h => ?_)
  · refine ⟨_, rfl, _, aw d.lw o1, _, rfl, _, aw d.hg o2, ?_⟩
    exact ⟨ls, pl, _, _, sg, rfl, ht, hx, hsg, k2 _ rfl⟩
  subst h
  refine ⟨by simp, ?_⟩
  refine ⟨t, r, ls, pl, dsl ls pl d sg, rfl, hn, ht, hv, dsl_len ls pl d sg, ?_⟩
  refine ⟨[d], tun t pl (dsl ls pl d sg), rfl, by unfold tun; rw [pch_len]; exact hok1, ?_⟩
  have e1 : [d].all (mt (tun t pl (dsl ls pl d sg))) = mt (tun t pl (dsl ls pl d sg)) d := by simp
  rw [e1]
  cases hm1 : mt (tun t pl (dsl ls pl d sg)) d with
  | false => exact hF hm1
  | true => exact hT hm1
theorem kp_breaking_errors : Keeps 10 (rd_breaking_errors S_ways_of S_slips_apart S_meets S_tuned_by_ear) S_breaking_errors := by
  rintro ds Q ⟨r, ls, pl, dms, t, rfl, hn, ht, hv, hx, hnn, ho, q1, q2⟩
  unfold rd_breaking_errors
  refine seq_join (fun σ => σ = bk r ls pl dms t .non .non .non) (fun K k => ?_) (fun σ h => ?_)
  · exact ⟨t.length, pl, rfl, hn, ht, hv, k _ rfl⟩
  subst h
  refine for_inv en dms (fun i σ => ∃ s7 s8 s9, σ = bk r ls pl dms t s7 s8 s9 ∧ ∀ d ∈ dms.take i, mt t (safe ls pl d) = true) ⟨.non, .non, .non, rfl, fun d h => nomatch h⟩ (fun i hi σ K h k => ?_) (fun σ h => ?_)
  · obtain ⟨s7, s8, s9, rfl, ha⟩ := h
    have hdm : dms[i] ∈ dms := List.getElem_mem hi
    obtain ⟨o1, o2⟩ := ho dms[i] hdm
    have hsafe := mt_safe hnn hv o1 o2 (ls := ls)
    refine ⟨by simp, ?_⟩
    refine kp_brkBody (r := r) (ls := ls) (pl := pl) (dms := dms) (t := t) (d := dms[i]) (sg := 1) (.inl rfl) hn ht hv hx o1 o2 (fun hm1 => ?_) (fun hm1 => ?_) s9
    · exact q2 (dsl ls pl dms[i] 1) dms[i] hdm (by rw [hsafe, hm1]; rfl) (dsl_len ls pl _ 1) (fun k hk => slA_bnd (.inl rfl) (errs_nn hnn pl) hk) hm1
    refine kp_brkBody (r := r) (ls := ls) (pl := pl) (dms := dms) (t := t) (d := dms[i]) (sg := -1) (.inr rfl) hn ht hv hx o1 o2 (fun hm2 => ?_) (fun hm2 => ?_) _
    · exact q2 (dsl ls pl dms[i] (-1)) dms[i] hdm (by rw [hsafe, hm1, hm2]; rfl) (dsl_len ls pl _ (-1)) (fun k hk => slA_bnd (.inr rfl) (errs_nn hnn pl) hk) hm2
    refine k _ ⟨.val false (en dms[i]), .val false (.int (-1)), .val false (eI (dsl ls pl dms[i] (-1))), rfl, fun x hxm => ?_⟩
    rw [List.take_succ_eq_append_getElem hi] at hxm
    rcases List.mem_append.mp hxm with z | z
    · exact ha x z
    · rw [List.mem_singleton.mp z, hsafe, hm1, hm2]
      rfl
  · obtain ⟨s7, s8, s9, rfl, ha⟩ := h
    rw [List.take_length] at ha
    exact q1 ha
end RD

set_option Elab.async false
set_option linter.all false
set_option maxRecDepth 100000
/-! M4_K77: safe targets: the law's reckoning. -/
namespace RD
open PySem DL
open En (en)
theorem all_false {dms : List Dm} {t : List Int} {d : Dm} (h : d ∈ dms) (hm : mt t d = false) : dms.all (mt t) = false := by
  rw [List.all_eq_false]
  exact ⟨d, h, by rw [hm]; decide⟩
theorem kp__law_meets_d118 : Keeps 7 rd__law_meets_d118 S_meets := by
  rintro ds Q ⟨dms, t, rfl, hk, q⟩
  unfold rd__law_meets_d118
  refine seq_join (fun σ => dms.all (mt t) = true) (fun K k => ?_) (fun σ h => ?_)
  · refine for_inv en dms (fun i σ => ∃ s2 s3 s4 s5 s6, σ = [.val false (.list (dms.map en)), .val false (eI t), s2, s3, s4, s5, s6] ∧ (dms.take i).all (mt t) = true) ⟨.non, .non, .non, .non, .non, rfl, rfl⟩ (fun i hi σ K h k => ?_) (fun σ h => ?_)
    · obtain ⟨s2, s3, s4, s5, s6, rfl, ha⟩ := h
      obtain ⟨h1, h2⟩ := hk dms[i] (List.getElem_mem hi)
      have kk : mt t dms[i] = true → ∀ s2 s3 s4 s5 s6, K [.val false (.list (dms.map en)), .val false (eI t), s2, s3, s4, s5, s6] := fun hm s2 s3 s4 s5 s6 => by
        refine k _ ⟨_, _, _, _, _, rfl, ?_⟩
        rw [List.take_succ_eq_append_getElem hi, List.all_append, ha]
        simp [hm]
      have out : mt t dms[i] = false → Q .av (.bool false) := fun hm => by
        rw [all_false (List.getElem_mem hi) hm] at q
        exact q
      have e : mt t dms[i] = wi (t[dms[i].hg] - t[dms[i].lw]) dms[i].lo dms[i].hi := by
        unfold mt
        rw [gD h2, gD h1]
      generalize hdd : dms[i] = d at *
      obtain ⟨lw, hg, lo, hi2⟩ := d
      have h1 : lw < t.length := h1
      have h2 : hg < t.length := h2
      have e : mt t ⟨lw, hg, lo, hi2⟩ = wi (t[hg] - t[lw]) lo hi2 := e
      refine ⟨rfl, _, at_map (i := hg) h2, _, at_map (i := lw) h1, ?_⟩
      cases lo with
      | none =>
        cases hi2 with
        | none => exact kk (by rw [e]; rfl) _ _ _ _ _
        | some h =>
          refine br.dec (fun z => ?_) (fun z => kk ?_ _ _ _ _ _)
          · refine out ?_
            rw [e]
            have z : h < t[hg] - t[lw] := z
            show (true && decide (t[hg] - t[lw] ≤ h)) = false
            rw [decide_eq_false (by omega)]
            rfl
          · rw [e]
            have z : ¬ h < t[hg] - t[lw] := z
            show (true && decide (t[hg] - t[lw] ≤ h)) = true
            rw [decide_eq_true (by omega)]
            rfl
      | some l =>
        refine br.dec (fun y => ?_) (fun y => ?_)
        · refine out ?_
          rw [e]
          have y : t[hg] - t[lw] < l := y
          unfold wi
          simp only [decide_eq_false (show ¬ l ≤ t[hg] - t[lw] by omega), Bool.false_and]
        · have y : ¬ t[hg] - t[lw] < l := y
          cases hi2 with
          | none =>
            refine kk ?_ _ _ _ _ _
            rw [e]
            unfold wi
            simp only [decide_eq_true (show l ≤ t[hg] - t[lw] by omega), Bool.and_self]
          | some h =>
            refine br.dec (fun z => ?_) (fun z => kk ?_ _ _ _ _ _)
            · refine out ?_
              rw [e]
              have z : h < t[hg] - t[lw] := z
              unfold wi
              simp only [decide_eq_false (show ¬ t[hg] - t[lw] ≤ h by omega), Bool.and_false]
            · rw [e]
              have z : ¬ h < t[hg] - t[lw] := z
              unfold wi
              simp only [decide_eq_true (show l ≤ t[hg] - t[lw] by omega), decide_eq_true (show t[hg] - t[lw] ≤ h by omega), Bool.and_self]
    · obtain ⟨s2, s3, s4, s5, s6, rfl, ha⟩ := h
      rw [List.take_length] at ha
      exact k _ ha
  · rw [h] at q
    exact q
/-- the safe demands, by a table of errors -/
def sfe (er : List (List Int)) (d : Dm) : Dm := nar ((er.getD d.lw []).getD d.hg 0) d
def S__law_safe : DSp := fun ds Q => ∃ (dms : List Dm) (er : List (List Int)) (n : Nat), ds = [.list (dms.map en), .list (er.map en)] ∧ dms.length ≤ 1000 ∧ Ok n dms ∧ er.length = n ∧ (∀ x ∈ er, x.length = n) ∧ Q .new (en (dms.map (sfe er)))
theorem ms__law_safe : MonoS S__law_safe := fun ds Q Q' h ⟨dms, er, n, e, h1, h2, h3, h4, q⟩ => ⟨dms, er, n, e, h1, h2, h3, h4, h _ _ q⟩
theorem kp__law_safe : Keeps 7 rd__law_safe S__law_safe := by
  rintro ds Q ⟨dms, er, n, rfl, hd, ho, hl, hr, q⟩
  refine ⟨by simp, for_inv en dms (fun i σ => ∃ s3 s4 s5 s6, σ = [.val false (.list (dms.map en)), .val false (.list (er.map en)), .own false (((dms.take i).map (sfe er)).map en), s3, s4, s5, s6]) ⟨.non, .non, .non, .non, rfl⟩ (fun i hi σ K h k => ?_) (fun σ h => ?_)⟩
  · obtain ⟨s3, s4, s5, s6, rfl⟩ := h
    obtain ⟨o1, o2⟩ := ho dms[i] (List.getElem_mem hi)
    have l1 : dms[i].lw < er.length := by omega
    have l2 : dms[i].hg < (er[dms[i].lw]).length := by rw [hr _ (List.getElem_mem l1)]; exact o2
    have a1 : L2.atI (er.map (en (α := List Int))) (dms[i].lw : Int) = some (eI er[dms[i].lw]) := at_map l1
    have a2 : L2.atI ((er[dms[i].lw]).map PyData.int) (dms[i].hg : Int) = some (.int ((er.getD dms[i].lw []).getD dms[i].hg 0)) := by
      rw [gD l1, gD l2]
      exact at_map l2
    have e3 : ((dms.take (i + 1)).map (sfe er)).map (en (α := Dm)) = ((dms.take i).map (sfe er)).map en ++ [en (sfe er dms[i])] := by
      rw [List.take_succ_eq_append_getElem hi, List.map_append, List.map_append]
      rfl
    have fin : ∀ s5 s6 : Sl, K [.val false (.list (dms.map en)), .val false (.list (er.map en)), .own false (((dms.take i).map (sfe er)).map en ++ [en (sfe er dms[i])]), .val false (.int (dms[i].lw : Int)), .val false (.int (dms[i].hg : Int)), s5, s6] := fun s5 s6 => k _ ⟨_, _, _, _, by rw [e3]⟩
    have hlen : (((dms.take i).map (sfe er)).map (en (α := Dm))).length < sizeLine := szlt (by rw [List.length_map, List.length_map, List.length_take]; omega)
    generalize hdd : dms[i] = d at *
    obtain ⟨lw, hg, lo, hi2⟩ := d
    cases lo with
    | none =>
      cases hi2 with
      | none => exact ⟨rfl, by simp, hlen, fin _ _⟩
      | some h => exact ⟨rfl, _, a1, _, a2, by simp, hlen, fin _ _⟩
    | some l =>
      cases hi2 with
      | none => exact ⟨rfl, _, a1, _, a2, by simp, hlen, fin _ _⟩
      | some h => exact ⟨rfl, _, a1, _, a2, _, a1, _, a2, by simp, hlen, fin _ _⟩
  · obtain ⟨s3, s4, s5, s6, rfl⟩ := h
    rw [List.take_length]
    exact q
end RD

set_option Elab.async false
set_option linter.all false
set_option maxRecDepth 100000
/-! M5_K77: safe targets: the law's judges. -/
namespace RD
open PySem DL
open En (en)
/-- a number or None -/
theorem same_item {o : Option Int} {A B : Prop} (h : B) : (SeqAt.shaped (en o) = true) ∧ B := ⟨by cases o <;> rfl, h⟩
def S__law_is_same : DSp := fun ds Q => ∃ (dms : List Dm), ds = [.list (dms.map en), .list (dms.map en)] ∧ dms.length ≤ 1000 ∧ Q .av (.bool true)
theorem ms__law_is_same : MonoS S__law_is_same := fun ds Q Q' h ⟨dms, e, h1, q⟩ => ⟨dms, e, h1, h _ _ q⟩
theorem kp__law_is_same : Keeps 4 (rd__law_is_same S__law_is_number) S__law_is_same := by
  rintro ds Q ⟨dms, rfl, hd, q⟩
  refine br.nd (fun h => absurd rfl h) (fun _ => ?_)
  refine ⟨sm (by omega) (by rw [List.length_map]; omega), for_upTo (fun i σ => ∃ s2 s3, σ = [.val false (.list (dms.map en)), .val false (.list (dms.map en)), s2, s3]) ⟨.non, .non, rfl⟩ (fun i σ K hi h k => ?_) (fun σ h => ?_)⟩
  · obtain ⟨s2, s3, rfl⟩ := h
    have hi' : i < dms.length := by simpa using hi
    have e0 : (0 : Int) + (i : Int) = (i : Int) := by omega
    have a := at_map (en := En.en (α := Dm)) hi'
    rw [e0]
    generalize hdd : dms[i] = d at *
    obtain ⟨lw, hg, lo, hi2⟩ := d
    have a : L2.atI (dms.map (en (α := Dm))) (i : Int) = some (.tuple [.int (lw : Int), .int (hg : Int), en lo, en hi2]) := a
    refine ⟨_, a, _, a, ?_⟩
    refine ⟨sm (by decide) (by decide), for_upTo (fun j σ => ∃ s3, σ = [.val false (.list (dms.map en)), .val false (.list (dms.map en)), .val false (.int (i : Int)), s3]) ⟨s3, rfl⟩ (fun j σ K2 hj h k2 => ?_) (fun σ h => ?_)⟩
    · obtain ⟨s3, rfl⟩ := h
      have hj4 : j < 4 := hj
      have e1 : (0 : Int) + (j : Int) = (j : Int) := by omega
      rw [e1]
      have it : ∀ o : Option Int, L2.atI [PyData.int (lw : Int), .int (hg : Int), en lo, en hi2] (j : Int) = some (en o) → (dIf (dOr (dAnd (dCmp rIsNot (dOp rIx (dOp rIx (dVar 0) (dVar 2)) (dVar 3)) (dC .none)) (dNot (dTest (dCall S__law_is_number (dCons (dOp rIx (dOp rIx (dVar 0) (dVar 2)) (dVar 3)) dNil))))) (dCmp rNe (dOp rIx (dOp rIx (dVar 0) (dVar 2)) (dVar 3)) (dOp rIx (dOp rIx (dVar 1) (dVar 2)) (dVar 3)))) (dRet (dC (.bool false))) dNext) { nx := K2, rt := Q, bk := K, ct := K2 } [.val false (.list (dms.map en)), .val false (.list (dms.map en)), .val false (.int (i : Int)), .val false (.int (j : Int))] := fun o ho => by
        cases o with
        | none =>
          have ho : L2.atI [PyData.int (lw : Int), .int (hg : Int), en lo, en hi2] (j : Int) = some .none := ho
          refine ⟨_, a, _, ho, ?_⟩
          refine ⟨_, a, _, ho, _, a, _, ho, ?_⟩
          exact ⟨rfl, rfl, k2 _ ⟨_, rfl⟩⟩
        | some z =>
          have ho : L2.atI [PyData.int (lw : Int), .int (hg : Int), en lo, en hi2] (j : Int) = some (.int z) := ho
          refine ⟨_, a, _, ho, ?_⟩
          refine ⟨_, a, _, ho, ?_⟩
          refine ⟨_, rfl, ?_⟩
          exact ⟨_, a, _, ho, _, a, _, ho, br.nd (fun h => absurd rfl h) (fun _ => k2 _ ⟨_, rfl⟩)⟩
      match j, hj4 with
      | 0, _ => exact it (some (lw : Int)) rfl
      | 1, _ => exact it (some (hg : Int)) rfl
      | 2, _ => exact it lo rfl
      | 3, _ => exact it hi2 rfl
    · obtain ⟨s3, rfl⟩ := h
      exact k _ ⟨_, _, rfl⟩
  · obtain ⟨s2, s3, rfl⟩ := h
    exact q
end RD

set_option Elab.async false
set_option linter.all false
set_option maxRecDepth 100000
/-! M6_K77: safe targets: what the law hears. -/
namespace RD
open PySem DL
open En (en)
def insd (r : Nat) (pl : List Tn) (i : Nat) : List Nat := r :: (pl.take i).map (·.pl)
structure Grown (n r : Nat) (pl : List Tn) : Prop where
  root : r < n
  src : ∀ (i : Nat) (h : i < pl.length), pl[i].md ∈ insd r pl i
  full : ∀ p, p < n → p ∈ insd r pl pl.length
def hlst (t : List Int) (ins : List Nat) (o : List Int) : List PyData := (List.range t.length).map fun k => if k ∈ ins then PyData.int (t.getD k 0 + o.getD k 0) else PyData.none
theorem hlst_len (t : List Int) (ins : List Nat) (o : List Int) : (hlst t ins o).length = t.length := by
  unfold hlst
  rw [List.length_map, List.length_range]
theorem hlst_at {t : List Int} {ins : List Nat} {o : List Int} {k : Nat} (h : k < t.length) (hm : k ∈ ins) : L2.atI (hlst t ins o) (k : Int) = some (.int (t.getD k 0 + o.getD k 0)) := by
  have h2 : k < (List.range t.length).length := by rw [List.length_range]; exact h
  have := at_map (en := fun k => if k ∈ ins then PyData.int (t.getD k 0 + o.getD k 0) else PyData.none) h2
  rw [List.getElem_range, if_pos hm] at this
  exact this
theorem hlst_set {t : List Int} {ins : List Nat} {o : List Int} (hl : o.length = t.length) {j : Nat} (hj : j < t.length) (x : Int) : (hlst t ins o).set j (.int (t.getD j 0 + x)) = hlst t (ins ++ [j]) (o.set j x) := by
  unfold hlst
  rw [set_range]
  refine List.map_congr_left fun k hk => ?_
  have hk' := List.mem_range.mp hk
  by_cases h : k = j
  · subst h
    rw [if_pos rfl, if_pos (by simp), gD (show k < (o.set k x).length by rw [List.length_set, hl]; exact hk'), List.getElem_set_self]
  · rw [if_neg h]
    have e : (k ∈ ins ++ [j]) ↔ k ∈ ins := by simp [h]
    have e2 : (o.set j x).getD k 0 = o.getD k 0 := by
      rw [gD (show k < (o.set j x).length by rw [List.length_set, hl]; exact hk'), List.getElem_set_ne (Ne.symm h), gD (show k < o.length by rw [hl]; exact hk')]
    rw [e2]
    by_cases hm : k ∈ ins
    · rw [if_pos hm, if_pos (e.mpr hm)]
    · rw [if_neg hm, if_neg (fun z => hm (e.mp z))]
theorem hlst_full {t : List Int} {ins : List Nat} {o : List Int} (h : ∀ k, k < t.length → k ∈ ins) : hlst t ins o = (pch t o).map PyData.int := by
  unfold hlst pch
  rw [List.map_map]
  refine List.map_congr_left fun k hk => ?_
  rw [if_pos (h k (List.mem_range.mp hk))]
  rfl
theorem insd_succ {r : Nat} {pl : List Tn} {i : Nat} (h : i < pl.length) : insd r pl (i + 1) = insd r pl i ++ [pl[i].pl] := by
  unfold insd
  rw [List.take_succ_eq_append_getElem h, List.map_append]
  rfl
def S__law_heard_b0a2 : DSp := fun ds Q => ∃ (t : List Int) (r : Nat) (pl : List Tn) (sl : List Int), ds = [eI t, .int (r : Int), .list (pl.map en), eI sl] ∧ t.length ≤ 1000 ∧ pl.length ≤ 1000 ∧ Val t.length pl ∧ Grown t.length r pl ∧ sl.length = pl.length ∧ Q .new (eI (tun t pl sl))
theorem ms__law_heard_b0a2 : MonoS S__law_heard_b0a2 := fun ds Q Q' h ⟨t, r, pl, sl, e, h1, h2, h3, h4, h5, q⟩ => ⟨t, r, pl, sl, e, h1, h2, h3, h4, h5, h _ _ q⟩
theorem kp__law_heard_b0a2 : Keeps 9 rd__law_heard_b0a2 S__law_heard_b0a2 := by
  rintro ds Q ⟨t, r, pl, sl, rfl, hn, ht, hv, hg, hs, q⟩
  generalize hw : withSl pl (fun k => sl.getD k 0) = ws
  have hwl : ws.length = pl.length := by rw [← hw, withSl_len]
  have hr := hg.root
  have e00 : ((List.replicate ((((t.map PyData.int).length : Nat) : Int)).toNat [PyData.none]).flatten).set r (.int t[r]) = hlst t (insd r pl 0) (offs t.length (ws.take 0)) := by
    rw [flat_rep, List.length_map, Int.toNat_natCast]
    have z : List.replicate t.length PyData.none = hlst t [] (List.replicate t.length 0) := by
      refine List.ext_getElem (by rw [List.length_replicate, hlst_len]) fun i h1 h2 => ?_
      simp [hlst]
    have := hlst_set (ins := []) (o := List.replicate t.length 0) (by rw [List.length_replicate]) hr 0
    rw [Int.add_zero, gD hr, ← z] at this
    rw [this]
    have z2 : (List.replicate t.length (0 : Int)).set r 0 = List.replicate t.length 0 := by
      refine List.ext_getElem (by rw [List.length_set]) fun i h1 h2 => ?_
      rw [List.getElem_set]
      split <;> simp
    rw [z2]
    rfl
  refine ⟨by simp, by rw [List.length_map]; omega, by rw [List.length_map]; omega, sz (by simp; omega), ?_⟩
  refine ⟨_, at_map (i := r) hr, _, ixN_nat (j := r) (by rw [flat_rep, List.length_replicate, List.length_map]; omega), ?_⟩
  refine ⟨sm (by omega) (by rw [List.length_map]; omega), for_upTo (fun i σ => ∃ s5 s6 s7 s8, σ = [.val false (eI t), .val false (.int (r : Int)), .val false (.list (pl.map en)), .val false (eI sl), .own false (hlst t (insd r pl i) (offs t.length (ws.take i))), s5, s6, s7, s8]) ⟨.non, .non, .non, .non, by rw [← e00]; rfl⟩ (fun i σ K hi' h k => ?_) (fun σ h => ?_)⟩
  · obtain ⟨s5, s6, s7, s8, rfl⟩ := h
    have hil : i < pl.length := by simpa using hi'
    have e0 : (0 : Int) + (i : Int) = (i : Int) := by omega
    obtain ⟨h1, h2⟩ := hv pl[i] (List.getElem_mem hil)
    have hol := offs_len t.length (ws.take i)
    have hw1 : i < ws.length := by omega
    have ew : ws[i] = ⟨pl[i].pl, pl[i].md, sl.getD i 0⟩ := by
      have := withSl_at pl (fun k => sl.getD k 0) i hil
      rw [hw, List.getElem?_eq_getElem hw1] at this
      exact Option.some.inj this
    have hsr := hg.src i hil
    rw [e0]
    refine ⟨_, at_map (en := En.en (α := Tn)) hil, rfl, _, hlst_at h2 hsr, _, at_map (i := pl[i].md) h2, _, at_map (i := pl[i].pl) h1, _, at_map (i := i) (by omega), _, ixN_nat (j := pl[i].pl) (by rw [hlst_len]; exact h1), k _ ⟨.val false (.int (i : Int)), .val false (.int (pl[i].pl : Int)), .val false (.int (pl[i].md : Int)), .val false (.int pl[i].sl), ?_⟩⟩
    have e3 : hlst t (insd r pl (i + 1)) (offs t.length (ws.take (i + 1))) = (hlst t (insd r pl i) (offs t.length (ws.take i))).set pl[i].pl (.int (t.getD pl[i].md 0 + (offs t.length (ws.take i)).getD pl[i].md 0 - t[pl[i].md] + t[pl[i].pl] + sl[i])) := by
      rw [offs_take _ _ _ hw1, insd_succ hil]
      unfold offStep
      rw [ew]
      dsimp only
      rw [← hlst_set hol h1, gD h1, gD h2, gD (show i < sl.length by omega)]
      congr 2
      omega
    rw [e3]
    rfl
  · obtain ⟨s5, s6, s7, s8, rfl⟩ := h
    rw [List.length_map, Int.toNat_natCast, hlst_full (fun k hk => hg.full k hk), ← hwl, List.take_length]
    unfold tun at q
    rw [hw] at q
    exact q
end RD

set_option Elab.async false
set_option linter.all false
set_option maxRecDepth 100000
/-! M7_K77: safe targets: the law's judge of slips. -/
namespace RD
open PySem DL
open En (en)
def S__law_breaks : DSp := fun ds Q => ∃ (t : List Int) (r : Nat) (ls : List Ls) (pl : List Tn) (dms : List Dm) (sl : List Int) (d : Dm), ds = [.list (dms.map en), .int (r : Int), .list (ls.map en), .list (pl.map en), eI t, eI sl] ∧ t.length ≤ 1000 ∧ pl.length ≤ 1000 ∧ Val t.length pl ∧ Grown t.length r pl ∧ Pix ls pl ∧ Ok t.length dms ∧ sl.length = pl.length ∧ (∀ k, k < pl.length → -((errs ls pl).getD k 0) ≤ sl.getD k 0 ∧ sl.getD k 0 ≤ (errs ls pl).getD k 0) ∧ d ∈ dms ∧ mt (tun t pl sl) d = false ∧ Q .av (.bool true)
theorem ms__law_breaks : MonoS S__law_breaks := fun ds Q Q' h ⟨t, r, ls, pl, dms, sl, d, e, h1, h2, h3, h4, h5, h6, h7, h8, h9, h10, q⟩ => ⟨t, r, ls, pl, dms, sl, d, e, h1, h2, h3, h4, h5, h6, h7, h8, h9, h10, h _ _ q⟩
theorem kp__law_breaks : Keeps 7 (rd__law_breaks S__law_is_numbers S_meets S__law_heard_b0a2) S__law_breaks := by
  rintro ds Q ⟨t, r, ls, pl, dms, sl, d, rfl, hn, ht, hv, hg, hx, ho, hs, hb, hd, hm, q⟩
  unfold rd__law_breaks
  refine seq_join (fun σ => σ = [.val false (.list (dms.map en)), .val false (.int (r : Int)), .val false (.list (ls.map en)), .val false (.list (pl.map en)), .val false (eI t), .val false (eI sl), .non]) (fun K k => ?_) (fun σ h => ?_)
  · exact ⟨sl, (((pl.map (en (α := Tn))).length : Nat) : Int), rfl, br.nd (fun h => absurd (by rw [List.length_map, hs]) h) (fun _ => k _ rfl)⟩
  subst h
  refine seq_join (fun σ => ∃ s6, σ = [.val false (.list (dms.map en)), .val false (.int (r : Int)), .val false (.list (ls.map en)), .val false (.list (pl.map en)), .val false (eI t), .val false (eI sl), s6]) (fun K k => ?_) (fun σ h => ?_)
  · refine ⟨sm (by omega) (by rw [List.length_map]; omega), for_upTo (fun i σ => ∃ s6, σ = [.val false (.list (dms.map en)), .val false (.int (r : Int)), .val false (.list (ls.map en)), .val false (.list (pl.map en)), .val false (eI t), .val false (eI sl), s6]) ⟨.non, rfl⟩ (fun i σ K2 hi' h k2 => ?_) (fun σ h => k _ h)⟩
    obtain ⟨s6, rfl⟩ := h
    have hil : i < pl.length := by simpa using hi'
    have e0 : (0 : Int) + (i : Int) = (i : Int) := by omega
    obtain ⟨x0, x1⟩ := hx pl[i] (List.getElem_mem hil)
    have e2 : (errs ls pl).getD i 0 = ls[pl[i].sl.toNat].e := by
      unfold errs
      rw [gD (by rw [List.length_map]; exact hil), List.getElem_map, gD x1]
    have b := hb i hil
    rw [e2, gD (show i < sl.length by omega)] at b
    rw [e0]
    refine ⟨_, at_map (i := i) (show i < sl.length by omega), _, at_map (en := En.en (α := Tn)) hil, _, rfl, _, at_int (en := En.en (α := Ls)) x0 x1, _, rfl, br.dec (fun h => ?_) (fun _ => k2 _ ⟨_, rfl⟩)⟩
    have h : ls[pl[i].sl.toNat].e < (if sl[i] < 0 then -sl[i] else sl[i]) := h
    split at h <;> omega
  obtain ⟨s6, rfl⟩ := h
  refine ⟨t, r, pl, sl, rfl, hn, ht, hv, hg, hs, ?_⟩
  refine ⟨dms, tun t pl sl, rfl, by unfold tun; rw [pch_len]; exact ho, ?_⟩
  rw [all_false hd hm]
  exact q
end RD

set_option Elab.async false
set_option linter.all false
set_option maxRecDepth 100000
/-! M8_K77: safe targets: all is right. -/
namespace RD
open PySem DL
open En (en)
theorem shaped_L4 {α β γ δ : Type} [En α] [En β] [En γ] [En δ] (a : α) (b : β) (c : γ) (e : δ) (h1 : En.dp α ≤ 60 := by decide) (h2 : En.dp β ≤ 60 := by decide) (h3 : En.dp γ ≤ 60 := by decide) (h4 : En.dp δ ≤ 60 := by decide) : SeqAt.shaped (.list [en a, en b, en c, en e]) = true := by
  have e1 := En.dep a
  have e2 := En.dep b
  have e3 := En.dep c
  have e4 := En.dep e
  show (PyData.canLay0 _ && decide (PyData.depth _ ≤ 64)) = true
  have l : PyData.canLay0 (.list [en a, en b, en c, en e]) = true := by simp only [PyData.canLay0, PyData.canLayAll0, En.lay, Bool.and_self]
  have d : PyData.depth (.list [en a, en b, en c, en e]) ≤ 64 := by
    simp only [PyData.depth, PyData.depthAll]
    omega
  rw [l, decide_eq_true d]
  rfl
def Ertab (ls : List Ls) (pl : List Tn) (n : Nat) (er : List (List Int)) : Prop := er.length = n ∧ (∀ x ∈ er, x.length = n) ∧ ∀ f s, f < n → s < n → (er.getD f []).getD s 0 = apart pl (errs ls pl) f s
def S__law_is_right_ec74 : DSp := fun ds Q => ∃ (t : List Int) (r : Nat) (ls : List Ls) (pl : List Tn) (dms : List Dm) (er : List (List Int)), ds = [.int (t.length : Int), .list (dms.map en), .int (r : Int), .list (ls.map en), .list (pl.map en), eI t, .list (er.map en)] ∧ t.length ≤ 1000 ∧ pl.length ≤ 1000 ∧ dms.length ≤ 1000 ∧ Val t.length pl ∧ Grown t.length r pl ∧ Pix ls pl ∧ Nn ls ∧ Ok t.length dms ∧ Ertab ls pl t.length er ∧ Q .av (.bool true)
theorem ms__law_is_right_ec74 : MonoS S__law_is_right_ec74 := fun ds Q Q' h ⟨t, r, ls, pl, dms, er, e, h1, h2, h3, h4, h5, h6, h7, h8, h9, q⟩ => ⟨t, r, ls, pl, dms, er, e, h1, h2, h3, h4, h5, h6, h7, h8, h9, h _ _ q⟩
def ir (t : List Int) (r : Nat) (ls : List Ls) (pl : List Tn) (dms : List Dm) (er : List (List Int)) (s8 s9 : Sl) : Ds := [.val false (.int (t.length : Int)), .val false (.list (dms.map en)), .val false (.int (r : Int)), .val false (.list (ls.map en)), .val false (.list (pl.map en)), .val false (eI t), .val false (.list (er.map en)), .val false (.list [en dms, en ls, en pl, en t]), s8, s9]
theorem kp__law_is_right_ec74 : Keeps 10 (rd__law_is_right_ec74 S__law_safe S__law_is_same S_safe_demands S_breaking_errors S_meets S__law_breaks) S__law_is_right_ec74 := by
  rintro ds Q ⟨t, r, ls, pl, dms, er, rfl, hn, ht, hdl, hv, hg, hx, hnn, ho, ⟨t1, t2, t3⟩, q⟩
  have eS : dms.map (sfe er) = dms.map (safe ls pl) := List.map_congr_left fun d hd => by
    unfold sfe safe
    rw [t3 _ _ (ho d hd).1 (ho d hd).2]
  have ho2 : Ok t.length (dms.map (safe ls pl)) := fun x hx => by
    obtain ⟨d, hd, rfl⟩ := List.mem_map.mp hx
    exact ho d hd
  unfold rd__law_is_right_ec74
  refine seq_join2 (fun σ => σ = ir t r ls pl dms er (.val false (.list ((dms.map (safe ls pl)).map en))) .non) (fun K k => ?_) (fun σ h => ?_)
  · refine ⟨by simp, ?_⟩
    exact ⟨dms, er, t.length, rfl, hdl, ho, t1, t2, k _ (by rw [eS]; rfl)⟩
  subst h
  refine seq_join (fun σ => σ = ir t r ls pl dms er (.val false (.list ((dms.map (safe ls pl)).map en))) .non) (fun K k => ?_) (fun σ h => ?_)
  · refine ⟨_, rfl, _, rfl, _, rfl, ?_⟩
    refine ⟨t.length, r, ls, pl, dms, rfl, hn, ht, hv, hx, hdl, ho, ?_⟩
    exact ⟨dms.map (safe ls pl), rfl, by rw [List.length_map]; exact hdl, k _ rfl⟩
  subst h
  have fin : ∀ d9 : PyData, ((dms.map (safe ls pl)).all (mt t) = true → d9 = .none) → ((dms.map (safe ls pl)).all (mt t) = false → ∃ (sl : List Int) (d : Dm), d9 = eI sl ∧ d ∈ dms ∧ sl.length = pl.length ∧ (∀ k, k < pl.length → -((errs ls pl).getD k 0) ≤ sl.getD k 0 ∧ sl.getD k 0 ≤ (errs ls pl).getD k 0) ∧ mt (tun t pl sl) d = false) →
      (dSeq (dIf (dCmp rNe (dVar 7) (dLst (dCons (dVar 1) (dCons (dVar 3) (dCons (dVar 4) (dCons (dVar 5) dNil)))))) (dRet (dC (.bool false))) dNext) (dSeq (dIf (dTest (dCall S_meets (dCons (dVar 8) (dCons (dVar 5) dNil)))) (dRet (dBool (dCmp rIs (dVar 9) (dC .none)))) dNext) (dRet (dCall S__law_breaks (dCons (dVar 1) (dCons (dVar 2) (dCons (dVar 3) (dCons (dVar 4) (dCons (dVar 5) (dCons (dVar 9) dNil))))))))))
        { nx := fun _ => Q .av .none, rt := Q } (ir t r ls pl dms er (.val false (.list ((dms.map (safe ls pl)).map en))) (.val false d9)) := fun d9 y n => by
    refine ⟨by simp, self_go (shaped_L4 dms ls pl t) (Q := fun c => br (!c) _ _) (br.f rfl ?_)⟩
    refine ⟨dms.map (safe ls pl), t, rfl, ho2, ?_⟩
    cases ha : (dms.map (safe ls pl)).all (mt t) with
    | true =>
      have e := y ha
      subst e
      exact q
    | false =>
      obtain ⟨sl, d, rfl, hd, hsl, hb, hm⟩ := n ha
      exact ⟨t, r, ls, pl, dms, sl, d, rfl, hn, ht, hv, hg, hx, ho, hsl, hb, hd, hm, q⟩
  refine ⟨_, rfl, _, rfl, _, rfl, _, rfl, ?_⟩
  refine ⟨r, ls, pl, dms, t, rfl, hn, ht, hv, hx, hnn, ho, fun hall => ?_, fun sl d hd hs hsl hb hm => ?_⟩
  · refine fin .none (fun _ => rfl) (fun hf => ?_)
    rw [List.all_eq_false] at hf
    obtain ⟨x, hx2, hx3⟩ := hf
    obtain ⟨d, hd, rfl⟩ := List.mem_map.mp hx2
    exact absurd (hall d hd) hx3
  · refine fin (eI sl) (fun ht2 => ?_) (fun _ => ⟨sl, d, rfl, hd, hsl, hb, hm⟩)
    have := List.all_eq_true.mp ht2 _ (List.mem_map.mpr ⟨d, hd, rfl⟩)
    rw [hs] at this
    cases this
end RD

set_option Elab.async false
set_option linter.all false
set_option maxRecDepth 100000
/-! M9_K77: safe targets: the law's table of errors. -/
namespace RD
open PySem DL
open En (en)
def ix (pl : List Tn) (k : Nat) : Int := (pl.getD k default).sl
/-- the law's way: numbers of listenings, the last one first -/
def wy (pl : List Tn) (i p : Nat) : List Int := ((heard pl i p).map (ix pl)).reverse
def wys (n : Nat) (pl : List Tn) (i : Nat) : List (List Int) := (List.range n).map (wy pl i)
theorem wys_len (n : Nat) (pl : List Tn) (i : Nat) : (wys n pl i).length = n := by
  unfold wys
  rw [List.length_map, List.length_range]
theorem wys_succ {n : Nat} {pl : List Tn} {i : Nat} (h : i < pl.length) : wys n pl (i + 1) = (wys n pl i).set pl[i].pl (pl[i].sl :: wy pl i pl[i].md) := by
  unfold wys
  rw [set_range]
  refine List.map_congr_left fun p _ => ?_
  have e : heard pl (i + 1) p = if p = pl[i].pl then heard pl i pl[i].md ++ [i] else heard pl i p := by
    conv => lhs; unfold heard
    rw [List.getElem?_eq_getElem h]
  have ei : ix pl i = pl[i].sl := by
    unfold ix
    rw [gD h]
  by_cases hp : p = pl[i].pl
  · rw [if_pos hp]
    unfold wy
    rw [e, if_pos hp, List.map_append, List.reverse_append]
    show ix pl i :: _ = _
    rw [ei]
    rfl
  · rw [if_neg hp]
    unfold wy
    rw [e, if_neg hp]
def Inj (pl : List Tn) : Prop := (pl.map (·.sl)).Nodup
theorem inj_ix {pl : List Tn} (h : Inj pl) {a b : Nat} (ha : a < pl.length) (hb : b < pl.length) (e : ix pl a = ix pl b) : a = b := by
  unfold ix at e
  rw [gD ha, gD hb] at e
  have h1 : a < (pl.map (·.sl)).length := by rw [List.length_map]; exact ha
  have h2 : b < (pl.map (·.sl)).length := by rw [List.length_map]; exact hb
  rcases Nat.lt_trichotomy a b with z | z | z
  · have := List.pairwise_iff_getElem.mp h a b h1 h2 z
    simp only [List.getElem_map] at this
    exact absurd e this
  · exact z
  · have := List.pairwise_iff_getElem.mp h b a h2 h1 z
    simp only [List.getElem_map] at this
    exact absurd e.symm this
theorem mem_wy {pl : List Tn} (h : Inj pl) {s k : Nat} (hk : k < pl.length) : ix pl k ∈ wy pl pl.length s ↔ k ∈ heard pl pl.length s := by
  unfold wy
  rw [List.mem_reverse, List.mem_map]
  constructor
  · rintro ⟨j, hj, e⟩
    rw [← inj_ix h (heard_lt pl _ _ j hj) hk e]
    exact hj
  · exact fun hj => ⟨k, hj, rfl⟩
/-- what is on one way alone -/
def wdif (pl : List Tn) (f s : Nat) : List Int := (wy pl pl.length f).filter fun x => !decide (x ∈ wy pl pl.length s)
def eix (ls : List Ls) (x : Int) : Int := (ls.getD x.toNat ⟨0, 0, 0⟩).e
theorem wdif_eq {pl : List Tn} (h : Inj pl) (f s : Nat) : wdif pl f s = (((heard pl pl.length f).filter fun k => !decide (k ∈ heard pl pl.length s)).map (ix pl)).reverse := by
  unfold wdif
  conv => lhs; arg 2; unfold wy
  rw [List.filter_reverse, List.filter_map]
  congr 2
  refine List.filter_congr fun k hk => ?_
  show (!decide (ix pl k ∈ wy pl pl.length s)) = _
  rw [decide_eq_decide.mpr (mem_wy h (heard_lt pl _ _ k hk))]
theorem wdif_sum {ls : List Ls} {pl : List Tn} (h : Inj pl) (f s : Nat) : ((wdif pl f s ++ wdif pl s f).map (eix ls)).sum = apart pl (errs ls pl) f s := by
  have one : ∀ f s, ((wdif pl f s).map (eix ls)).sum = (((heard pl pl.length f).filter fun k => !decide (k ∈ heard pl pl.length s)).map fun k => (errs ls pl).getD k 0).sum := fun f s => by
    rw [wdif_eq h, ← List.map_reverse, List.map_map, List.map_reverse, List.sum_reverse]
    congr 1
    refine List.map_congr_left fun k hk => ?_
    have hk' := heard_lt pl _ _ k (List.mem_filter.mp hk).1
    show (ls.getD (ix pl k).toNat ⟨0, 0, 0⟩).e = (errs ls pl).getD k 0
    have e2 : (errs ls pl).getD k 0 = (ls.getD pl[k].sl.toNat ⟨0, 0, 0⟩).e := by
      rw [gD (by rw [errs_len]; exact hk')]
      simp only [errs, List.getElem_map]
    rw [e2]
    unfold ix
    rw [gD hk']
  unfold apart part
  rw [List.map_append, List.sum_append, one, one, List.map_append, List.sum_append]
end RD

set_option Elab.async false
set_option linter.all false
set_option maxRecDepth 100000
set_option maxHeartbeats 2000000
/-! M10_K77: safe targets: _law_pair_errors. -/
namespace RD
open PySem DL
open En (en)
def ertab (ls : List Ls) (pl : List Tn) (n : Nat) : List (List Int) := (List.range n).map fun f => (List.range n).map fun s => apart pl (errs ls pl) f s
theorem ertab_ok (ls : List Ls) (pl : List Tn) (n : Nat) : Ertab ls pl n (ertab ls pl n) := by
  refine ⟨by unfold ertab; rw [List.length_map, List.length_range], fun x hx => ?_, fun f s hf hs => ?_⟩
  · obtain ⟨f, _, rfl⟩ := List.mem_map.mp hx
    rw [List.length_map, List.length_range]
  · unfold ertab
    rw [gD_range hf, gD_range hs]
theorem wy_len (pl : List Tn) (i p : Nat) : (wy pl i p).length ≤ i := by
  unfold wy
  rw [List.length_reverse, List.length_map]
  exact heard_len pl i p
def S__law_pair_errors : DSp := fun ds Q => ∃ (n : Nat) (ls : List Ls) (pl : List Tn), ds = [.int (n : Int), .list (ls.map en), .list (pl.map en)] ∧ n ≤ 1000 ∧ pl.length ≤ 1000 ∧ Val n pl ∧ Pix ls pl ∧ Inj pl ∧ Q .new (en (ertab ls pl n))
theorem ms__law_pair_errors : MonoS S__law_pair_errors := fun ds Q Q' h ⟨n, ls, pl, e, h1, h2, h3, h4, h5, q⟩ => ⟨n, ls, pl, e, h1, h2, h3, h4, h5, h _ _ q⟩
theorem kp__law_pair_errors : Keeps 12 rd__law_pair_errors S__law_pair_errors := by
  rintro ds Q ⟨n, ls, pl, rfl, hn, ht, hv, hx, hi, q⟩
  have hxw : ∀ p, ∀ x ∈ wy pl pl.length p, 0 ≤ x ∧ x.toNat < ls.length := fun p x h => by
    unfold wy at h
    obtain ⟨k, hk, rfl⟩ := List.mem_map.mp (List.mem_reverse.mp h)
    have hk' := heard_lt pl _ _ k hk
    unfold ix
    rw [gD hk']
    exact hx _ (List.getElem_mem hk')
  unfold rd__law_pair_errors
  refine seq_join (fun σ => σ = [.val false (.int (n : Int)), .val false (.list (ls.map en)), .val false (.list (pl.map en)), .own false ((wys n pl 0).map en), .non, .non, .non, .non, .non, .non, .non, .non]) (fun K k => ?_) (fun σ h => ?_)
  · refine ⟨sm (by omega) (by omega), lc_upTo (fun _ => PyData.list []) (by omega) (fun k hk P N p => ⟨by decide, p⟩) ?_⟩
    refine k _ ?_
    have e0 : (List.range (n : Int).toNat).map (fun _ => PyData.list []) = (wys n pl 0).map en := by
      unfold wys
      rw [List.map_map, Int.toNat_natCast]
      rfl
    rw [← e0]
    rfl
  subst h
  refine seq_join (fun σ => ∃ s4 s5 s6, σ = [.val false (.int (n : Int)), .val false (.list (ls.map en)), .val false (.list (pl.map en)), .own false ((wys n pl pl.length).map en), s4, s5, s6, .non, .non, .non, .non, .non]) (fun K k => ?_) (fun σ h => ?_)
  · refine for_inv en pl (fun i σ => ∃ s4 s5 s6, σ = [.val false (.int (n : Int)), .val false (.list (ls.map en)), .val false (.list (pl.map en)), .own false ((wys n pl i).map en), s4, s5, s6, .non, .non, .non, .non, .non]) ⟨.non, .non, .non, rfl⟩ (fun i hi' σ K2 h k2 => ?_) (fun σ h => k _ h)
    obtain ⟨s4, s5, s6, rfl⟩ := h
    obtain ⟨h1, h2⟩ := hv pl[i] (List.getElem_mem hi')
    have hl := wys_len n pl i
    have hm : pl[i].md < (wys n pl i).length := by rw [hl]; exact h2
    have ew : (wys n pl i)[pl[i].md] = wy pl i pl[i].md := by
      simp only [wys, List.getElem_map, List.getElem_range]
    have hwl := wy_len pl i pl[i].md
    have a : L2.atI ((wys n pl i).map (en (α := List Int))) (pl[i].md : Int) = some (eI (wy pl i pl[i].md)) := by
      rw [← ew]
      exact at_map hm
    refine ⟨rfl, by simp, _, a, sz (by simp; omega), _, ixN_nat (j := pl[i].pl) (by rw [List.length_map, hl]; exact h1), k2 _ ⟨.val false (.int (pl[i].pl : Int)), .val false (.int (pl[i].md : Int)), .val false (.int pl[i].sl), ?_⟩⟩
    rw [wys_succ hi', ← set_map]
    rfl
  obtain ⟨s4, s5, s6, rfl⟩ := h
  have aw : ∀ p, p < n → L2.atI ((wys n pl pl.length).map (en (α := List Int))) (p : Int) = some (eI (wy pl pl.length p)) := fun p h => by
    have e : (wys n pl pl.length)[p]'(by rw [wys_len]; exact h) = wy pl pl.length p := by
      simp only [wys, List.getElem_map, List.getElem_range]
    rw [← e]
    exact at_map (by rw [wys_len]; exact h)
  refine seq_join2 (fun σ => ∃ s4 s5 s6 s8 s9 s10 s11, σ = [.val false (.int (n : Int)), .val false (.list (ls.map en)), .val false (.list (pl.map en)), .own false ((wys n pl pl.length).map en), s4, s5, s6, .own false ((ertab ls pl n).map en), s8, s9, s10, s11]) (fun K k => ?_) (fun σ h => ?_)
  · refine ⟨by simp, sm (by omega) (by omega), for_upTo (fun i σ => ∃ s4 s5 s6 s8 s9 s10 s11, σ = [.val false (.int (n : Int)), .val false (.list (ls.map en)), .val false (.list (pl.map en)), .own false ((wys n pl pl.length).map en), s4, s5, s6, .own false ((((List.range i).map fun f => (List.range n).map fun s => apart pl (errs ls pl) f s)).map en), s8, s9, s10, s11]) ⟨s4, s5, s6, .non, .non, .non, .non, rfl⟩ (fun i σ K2 hi' h k2 => ?_) (fun σ h => ?_)⟩
    · obtain ⟨s4, s5, s6, s8, s9, s10, s11, rfl⟩ := h
      have hin : i < n := by omega
      have e0 : (0 : Int) + (i : Int) = (i : Int) := by omega
      rw [e0]
      refine seq_join2 (fun σ => ∃ s4 s5 s6 s10 s11, σ = [.val false (.int (n : Int)), .val false (.list (ls.map en)), .val false (.list (pl.map en)), .own false ((wys n pl pl.length).map en), s4, s5, s6, .own false ((((List.range i).map fun f => (List.range n).map fun s => apart pl (errs ls pl) f s)).map en), .val false (.int (i : Int)), .own false (((List.range n).map fun s => apart pl (errs ls pl) i s).map .int), s10, s11]) (fun K3 k3 => ?_) (fun σ h => ?_)
      · refine ⟨by simp, sm (by omega) (by omega), for_upTo (fun j σ => ∃ s4 s5 s6 s10 s11, σ = [.val false (.int (n : Int)), .val false (.list (ls.map en)), .val false (.list (pl.map en)), .own false ((wys n pl pl.length).map en), s4, s5, s6, .own false ((((List.range i).map fun f => (List.range n).map fun s => apart pl (errs ls pl) f s)).map en), .val false (.int (i : Int)), .own false (((List.range j).map fun s => apart pl (errs ls pl) i s).map .int), s10, s11]) ⟨s4, s5, s6, s10, s11, rfl⟩ (fun j σ K4 hj h k4 => ?_) (fun σ h => ?_)⟩
        · obtain ⟨s4, s5, s6, s10, s11, rfl⟩ := h
          have hjn : j < n := by omega
          have e1 : (0 : Int) + (j : Int) = (j : Int) := by omega
          rw [e1]
          have d1 : (wdif pl i j).length ≤ 1000 := Nat.le_trans (List.length_filter_le _ _) (Nat.le_trans (wy_len pl _ _) ht)
          have d2 : (wdif pl j i).length ≤ 1000 := Nat.le_trans (List.length_filter_le _ _) (Nat.le_trans (wy_len pl _ _) ht)
          refine seq_join2 (fun σ => ∃ s4 s5 s6, σ = [.val false (.int (n : Int)), .val false (.list (ls.map en)), .val false (.list (pl.map en)), .own false ((wys n pl pl.length).map en), s4, s5, s6, .own false ((((List.range i).map fun f => (List.range n).map fun s => apart pl (errs ls pl) f s)).map en), .val false (.int (i : Int)), .own false (((List.range j).map fun s => apart pl (errs ls pl) i s).map .int), .val false (.int (j : Int)), .val false (eI (wdif pl i j ++ wdif pl j i))]) (fun K5 k5 => ?_) (fun σ h => ?_)
          · refine ⟨_, aw i hin, ?_⟩
            refine lc_filt PyData.int (wy pl pl.length i) (fun k => !decide (k ∈ wy pl pl.length j)) PyData.int (Nat.le_trans (wy_len pl _ _) (by omega)) (fun x hx P N hp hn => ⟨_, aw j hjn, in_go (α := Int) x (wy pl pl.length j) (Q := fun c => br (!c) (P (en x)) N) (br.mk hp hn)⟩) ?_
            refine ⟨_, aw j hjn, ?_⟩
            refine lc_filt PyData.int (wy pl pl.length j) (fun k => !decide (k ∈ wy pl pl.length i)) PyData.int (Nat.le_trans (wy_len pl _ _) (by omega)) (fun x hx P N hp hn => ⟨_, aw i hin, in_go (α := Int) x (wy pl pl.length i) (Q := fun c => br (!c) (P (en x)) N) (br.mk hp hn)⟩) ?_
            refine ⟨sz (by rw [List.length_map, List.length_map]; unfold wdif at d1 d2; omega), k5 _ ⟨s4, s5, s6, ?_⟩⟩
            show _ = [_, _, _, _, _, _, _, _, _, _, _, Sl.val false (.list ((wdif pl i j ++ wdif pl j i).map PyData.int))]
            rw [List.map_append]
            rfl
          obtain ⟨s4, s5, s6, rfl⟩ := h
          refine lc_map PyData.int (wdif pl i j ++ wdif pl j i) (fun x => PyData.int (eix ls x)) (by rw [List.length_append]; omega) (fun x hx P N p => ?_) ?_
          · have hb : 0 ≤ x ∧ x.toNat < ls.length := by
              rcases List.mem_append.mp hx with z | z
              · exact hxw _ _ (List.mem_filter.mp z).1
              · exact hxw _ _ (List.mem_filter.mp z).1
            refine ⟨_, at_int (en := En.en (α := Ls)) hb.1 hb.2, _, rfl, ?_⟩
            unfold eix at p
            rw [gD hb.2] at p
            exact p
          refine ⟨(wdif pl i j ++ wdif pl j i).map (eix ls), by rw [List.map_map]; rfl, szlt (by rw [List.length_map, List.length_map, List.length_range]; omega), k4 _ ⟨s4, s5, s6, .val false (.int (j : Int)), .val false (eI (wdif pl i j ++ wdif pl j i)), ?_⟩⟩
          rw [wdif_sum hi, List.range_succ, List.map_append, List.map_append (l₂ := List.map _ [j])]
          rfl
        · obtain ⟨s4, s5, s6, s10, s11, rfl⟩ := h
          exact k3 _ ⟨s4, s5, s6, s10, s11, by rw [Int.toNat_natCast]⟩
      obtain ⟨s4, s5, s6, s10, s11, rfl⟩ := h
      refine ⟨szlt (by rw [List.length_map, List.length_map, List.length_range]; omega), k2 _ ⟨s4, s5, s6, .val false (.int (i : Int)), .val false (.list (((List.range n).map fun s => apart pl (errs ls pl) i s).map .int)), s10, s11, ?_⟩⟩
      rw [List.range_succ, List.map_append, List.map_append (l₂ := List.map _ [i])]
      rfl
    · obtain ⟨s4, s5, s6, s8, s9, s10, s11, rfl⟩ := h
      exact k _ ⟨s4, s5, s6, s8, s9, s10, s11, by rw [Int.toNat_natCast]; rfl⟩
  obtain ⟨s4, s5, s6, s8, s9, s10, s11, rfl⟩ := h
  exact q
end RD

set_option Elab.async false
set_option linter.all false
set_option maxRecDepth 100000
set_option maxHeartbeats 2000000
/-! M11_K77: safe targets: the house that is drawn. -/
namespace RD
open PySem DL
open En (en)
/-! names of places along the hidden tree -/
def nm (d : Int) (n : Nat) (k : Int) : Int := if d / 7 % 2 = 0 then (d + k) % (n : Int) else (d - k) % (n : Int)
theorem nm_lt {d : Int} {n : Nat} (h : 0 < n) (k : Int) : 0 ≤ nm d n k ∧ nm d n k < n := by
  unfold nm
  split
  · exact em (by omega)
  · exact em (by omega)
theorem nm_onto {d : Int} {n : Nat} (h : 0 < n) {p : Int} (h0 : 0 ≤ p) (h1 : p < n) : ∃ k : Nat, k < n ∧ nm d n (k : Int) = p := by
  by_cases hd : d / 7 % 2 = 0
  · have e := em (a := p - d) (b := (n : Int)) (by omega)
    refine ⟨((p - d) % (n : Int)).toNat, by omega, ?_⟩
    unfold nm
    rw [if_pos hd, Int.toNat_of_nonneg e.1]
    have : (d + (p - d) % (n : Int)) % (n : Int) = p % (n : Int) := by
      rw [Int.add_emod, Int.emod_emod_of_dvd _ (Int.dvd_refl _), ← Int.add_emod]
      congr 1
      omega
    rw [this]
    exact Int.emod_eq_of_lt h0 h1
  · have e := em (a := d - p) (b := (n : Int)) (by omega)
    refine ⟨((d - p) % (n : Int)).toNat, by omega, ?_⟩
    unfold nm
    rw [if_neg hd, Int.toNat_of_nonneg e.1]
    have : (d - (d - p) % (n : Int)) % (n : Int) = p % (n : Int) := by
      rw [Int.sub_emod, Int.emod_emod_of_dvd _ (Int.dvd_refl _), ← Int.sub_emod]
      congr 1
      omega
    rw [this]
    exact Int.emod_eq_of_lt h0 h1
def S__law_name : DSp := fun ds Q => ∃ (r : List Int) (n : Nat) (k : Int), ds = [eI r, .int (n : Int), .int k] ∧ 2 < r.length ∧ 0 < n ∧ Q .av (.int (nm (r.getD 2 0) n k))
theorem ms__law_name : MonoS S__law_name := fun ds Q Q' h ⟨r, n, k, e, h1, h2, q⟩ => ⟨r, n, k, e, h1, h2, h _ _ q⟩
theorem kp__law_name : Keeps 3 rd__law_name S__law_name := by
  rintro ds Q ⟨r, n, k, rfl, hr, hn, q⟩
  have a : L2.atI (r.map PyData.int) 2 = some (.int (r.getD 2 0)) := at_good 2 hr
  unfold nm at q
  refine ⟨_, a, div_s ⟨by decide, by decide⟩, md (by decide), br.dec (fun h => ?_) (fun h => ?_)⟩
  · rw [if_pos h] at q
    exact ⟨_, a, md (by omega), q⟩
  · rw [if_neg h] at q
    exact ⟨_, a, md (by omega), q⟩
/-! the listenings join all strings -/
def LsOk (n : Nat) (ls : List Ls) : Prop := ∀ l ∈ ls, l.a < n ∧ l.b < n ∧ 0 ≤ l.e
def Conn (n : Nat) (ls : List Ls) : Prop := ∀ S : Nat → Prop, (∀ l ∈ ls, S l.a ↔ S l.b) → ∀ p q, p < n → q < n → (S p ↔ S q)
/-- a piece of the tree up to place i -/
def Tree (d : Int) (n i : Nat) (ls : List Ls) : Prop := ∀ k : Nat, 0 < k → k < i → ∃ c : Nat, c < k ∧ ∃ l ∈ ls, ((l.a : Int) = nm d n k ∧ (l.b : Int) = nm d n c) ∨ ((l.b : Int) = nm d n k ∧ (l.a : Int) = nm d n c)
theorem Tree.mono {d : Int} {n i : Nat} {ls ls' : List Ls} (h : Tree d n i ls) (hs : ∀ l ∈ ls, l ∈ ls') : Tree d n i ls' := fun k h0 h1 => by
  obtain ⟨c, hc, l, hl, e⟩ := h k h0 h1
  exact ⟨c, hc, l, hs l hl, e⟩
theorem Tree.conn {d : Int} {n : Nat} {ls : List Ls} (h : Tree d n n ls) (hn : 0 < n) : Conn n ls := fun S hS p q hp hq => by
  have main : ∀ k : Nat, k < n → (S (nm d n k).toNat ↔ S (nm d n (0 : Nat)).toNat) := by
    intro k
    induction k using Nat.strongRecOn with
    | _ k ih =>
      intro hk
      by_cases h0 : k = 0
      · subst h0
        exact Iff.rfl
      · obtain ⟨c, hc, l, hl, e⟩ := h k (by omega) hk
        have i1 := ih c hc (by omega)
        have i2 := hS l hl
        rcases e with ⟨e1, e2⟩ | ⟨e1, e2⟩
        · have a1 : (nm d n (k : Int)).toNat = l.a := by omega
          have a2 : (nm d n (c : Int)).toNat = l.b := by omega
          rw [a2] at i1
          rw [a1]
          exact i2.trans i1
        · have a1 : (nm d n (k : Int)).toNat = l.b := by omega
          have a2 : (nm d n (c : Int)).toNat = l.a := by omega
          rw [a2] at i1
          rw [a1]
          exact i2.symm.trans i1
  obtain ⟨a, ha, ea⟩ := nm_onto (d := d) hn (p := (p : Int)) (by omega) (by omega)
  obtain ⟨b, hb, eb⟩ := nm_onto (d := d) hn (p := (q : Int)) (by omega) (by omega)
  have m1 := main a ha
  have m2 := main b hb
  rw [ea, Int.toNat_natCast] at m1
  rw [eb, Int.toNat_natCast] at m2
  exact m1.trans m2.symm
/-! the house -/
def House (n : Nat) (ls : List Ls) : Prop := 1 ≤ n ∧ n ≤ 60 ∧ ls.length ≤ 200 ∧ LsOk n ls ∧ Conn n ls
def S__law_house_6af9 : DSp := fun ds Q => ∃ r : List Int, ds = [eI r] ∧ Good r ∧ 10 ≤ r.length ∧ ∀ (n root : Nat) (ls : List Ls), root < n → House n ls → Q .av (.tuple [.int (n : Int), .int (root : Int), .list (ls.map en)])
theorem ms__law_house_6af9 : MonoS S__law_house_6af9 := fun ds Q Q' h ⟨r, e, h1, h2, q⟩ => ⟨r, e, h1, h2, fun n p t c w => h _ _ (q n p t c w)⟩
theorem take_drop_mem {α : Type} {xs : List α} {k : Nat} {x : α} : x ∈ xs.drop k ++ xs.take k ↔ x ∈ xs := by
  conv => rhs; rw [← List.take_append_drop k xs]
  rw [List.mem_append, List.mem_append]
  exact Or.comm
theorem kp__law_house_6af9 : Keeps 12 (rd__law_house_6af9 S__law_name S__law_cell) S__law_house_6af9 := by
  rintro ds Q ⟨r, rfl, hg, hl, q⟩
  have a : ∀ k : Nat, k < r.length → L2.atI (r.map PyData.int) (k : Int) = some (.int (r.getD k 0)) := fun k h => at_good k h
  have a0 := a 0 (by omega)
  have a1 := a 1 (by omega)
  have a3 := a 3 (by omega)
  have a4 := a 4 (by omega)
  have a5 := a 5 (by omega)
  have a6 := a 6 (by omega)
  have g := gd_good hg
  have g0 := g 0
  have g1 := g 1
  have g3 := g 3
  unfold rd__law_house_6af9
  refine seq_join3 (fun σ => ∃ (n : Nat) (ex : Int), 1 ≤ n ∧ n ≤ 60 ∧ 0 ≤ ex ∧ ex ≤ 30 ∧ σ = [.val false (eI r), .val false (.int (n)), .val false (.int (ex)), .non, .non, .non, .non, .non, .non, .non, .non, .non]) (fun K k => ?_) (fun σ h => ?_)
  · have m0 := em (a := r.getD 0 0) (b := 7) (by decide)
    have m1 := em (a := r.getD 1 0 / 8) (b := 8) (by decide)
    have m2 := em (a := r.getD 0 0 / 7) (b := 53) (by decide)
    refine ⟨_, a0, md (by decide), _, a1, div_s ⟨by decide, by decide⟩, md (by decide), _, a1, md (by decide), br.dec (fun h => ?_) (fun h => ?_)⟩
    · refine ⟨_, a0, div_s ⟨by decide, by decide⟩, md (by decide), div_s ⟨by decide, by decide⟩, k _ ⟨(8 + r.getD 0 0 / 7 % 53).toNat, (8 + r.getD 0 0 / 7 % 53) / 2, by omega, by omega, by omega, by omega, ?_⟩⟩
      rw [Int.toNat_of_nonneg (by omega)]
      rfl
    · refine k _ ⟨(1 + r.getD 0 0 % 7).toNat, r.getD 1 0 / 8 % 8, by omega, by omega, by omega, by omega, ?_⟩
      rw [Int.toNat_of_nonneg (by omega)]
      rfl
  obtain ⟨n, ex, n1, n60, x0, x30, rfl⟩ := h
  refine seq_join2 (fun σ => ∃ sc : Int, 0 ≤ sc ∧ sc ≤ 2000000000 ∧ σ = [.val false (eI r), .val false (.int (n)), .val false (.int (ex)), .val false (.int (sc)), .non, .non, .non, .non, .non, .non, .non, .non]) (fun K k => ?_) (fun σ h => ?_)
  · refine ⟨_, a1, md (by decide), br.dec (fun h => ?_) (fun h => k _ ⟨1, by omega, by omega, rfl⟩)⟩
    exact ⟨⟨by decide, by decide, by decide⟩, _, a3, k _ ⟨10 ^ 9 + r.getD 3 0, by omega, by omega, rfl⟩⟩
  obtain ⟨sc, s0, s1, rfl⟩ := h
  refine seq_join2 (fun σ => ∃ (ls : List Ls) (s5 s6 s7 s8 : Sl), ls.length ≤ 60 ∧ LsOk n ls ∧ Conn n ls ∧ σ = [.val false (eI r), .val false (.int (n)), .val false (.int (ex)), .val false (.int (sc)), .own false ((ls).map en), s5, s6, s7, s8, .non, .non, .non]) (fun K k => ?_) (fun σ h => ?_)
  · refine ⟨by simp, sm (by decide) (by decide), sm (by omega) (by omega), for_upTo (fun i σ => ∃ (ls : List Ls) (s5 s6 s7 s8 : Sl), ls.length ≤ i ∧ LsOk n ls ∧ Tree (r.getD 2 0) n (i + 1) ls ∧ σ = [.val false (eI r), .val false (.int (n)), .val false (.int (ex)), .val false (.int (sc)), .own false ((ls).map en), s5, s6, s7, s8, .non, .non, .non]) ⟨[], .non, .non, .non, .non, by simp, (fun l h => nomatch h), (fun k h0 h1 => by omega), rfl⟩ (fun i σ K2 hi h k2 => ?_) (fun σ h => ?_)⟩
    · obtain ⟨ls, s5, s6, s7, s8, l1, l2, l3, rfl⟩ := h
      have hi' : i < n - 1 := by omega
      have c1 : (1 : Int) + (i : Int) = ((1 + i : Nat) : Int) := by omega
      rw [c1]
      refine ⟨r, n, ((1 + i : Nat) : Int), rfl, by omega, by omega, ?_⟩
      refine ⟨mul_l (by decide), r, _, rfl, hg, by omega, by omega, fun c c0 _ => ⟨md (by omega), r, n, c % ((1 + i : Nat) : Int), rfl, by omega, by omega, ?_⟩⟩
      refine ⟨mul_l (by decide), r, _, rfl, hg, by omega, by omega, fun c' c0' _ => ⟨md (by decide), mul_r (by omega), ?_⟩⟩
      have mc := em (a := c) (b := ((1 + i : Nat) : Int)) (by omega)
      have m8 := em (a := c') (b := 8) (by decide)
      have n1' := nm_lt (d := r.getD 2 0) (n := n) (by omega) ((1 + i : Nat) : Int)
      have n2' := nm_lt (d := r.getD 2 0) (n := n) (by omega) (c % ((1 + i : Nat) : Int))
      have he : 0 ≤ c' % 8 * sc := Int.mul_nonneg m8.1 s0
      have hlen : (ls.map (en (α := Ls))).length < sizeLine := szlt (by rw [List.length_map]; omega)
      have fin : ∀ x : Ls, ((x.a : Int) = nm (r.getD 2 0) n ((1 + i : Nat) : Int) ∧ (x.b : Int) = nm (r.getD 2 0) n (c % ((1 + i : Nat) : Int))) ∨ ((x.b : Int) = nm (r.getD 2 0) n ((1 + i : Nat) : Int) ∧ (x.a : Int) = nm (r.getD 2 0) n (c % ((1 + i : Nat) : Int))) → x.e = c' % 8 * sc → LsOk n (ls ++ [x]) ∧ Tree (r.getD 2 0) n (i + 1 + 1) (ls ++ [x]) := fun x hx hxe => by
        refine ⟨fun l h => ?_, fun j h0 h1 => ?_⟩
        · rcases List.mem_append.mp h with z | z
          · exact l2 l z
          · rw [List.mem_singleton.mp z]
            omega
        · by_cases hj : j = 1 + i
          · subst hj
            refine ⟨(c % ((1 + i : Nat) : Int)).toNat, by omega, x, by simp, ?_⟩
            rw [Int.toNat_of_nonneg mc.1]
            exact hx
          · obtain ⟨y, hy, l, hl, e⟩ := l3 j h0 (by omega)
            exact ⟨y, hy, l, List.mem_append_left _ hl, e⟩
      have z1 : ∀ z : Int, 0 ≤ z → ((z.toNat : Nat) : Int) = z := fun z h => Int.toNat_of_nonneg h
      refine ⟨mul_l (by decide), r, _, rfl, hg, by omega, by omega, fun c'' _ _ => ⟨md (by decide), br.dec (fun h => ?_) (fun h => ?_)⟩⟩
      · obtain ⟨f1, f2⟩ := fin ⟨(nm (r.getD 2 0) n ((1 + i : Nat) : Int)).toNat, (nm (r.getD 2 0) n (c % ((1 + i : Nat) : Int))).toNat, c' % 8 * sc⟩ (.inl ⟨z1 _ n1'.1, z1 _ n2'.1⟩) rfl
        refine ⟨by simp, hlen, k2 _ ⟨_, .val false (.int (((1 + i : Nat) : Int))), .val false (.int (nm (r.getD 2 0) n ((1 + i : Nat) : Int))), .val false (.int (nm (r.getD 2 0) n (c % ((1 + i : Nat) : Int)))), .val false (.int (c' % 8 * sc)), by rw [List.length_append, List.length_singleton]; omega, f1, f2, ?_⟩⟩
        rw [List.map_append]
        simp only [List.map_cons, List.map_nil]
        show _ = [_, _, _, _, Sl.own false (ls.map en ++ [PyData.tuple [.int (((nm (r.getD 2 0) n ((1 + i : Nat) : Int)).toNat : Nat) : Int), .int (((nm (r.getD 2 0) n (c % ((1 + i : Nat) : Int))).toNat : Nat) : Int), _]]), _, _, _, _, _, _, _]
        rw [z1 _ n1'.1, z1 _ n2'.1]
        rfl
      · obtain ⟨f1, f2⟩ := fin ⟨(nm (r.getD 2 0) n (c % ((1 + i : Nat) : Int))).toNat, (nm (r.getD 2 0) n ((1 + i : Nat) : Int)).toNat, c' % 8 * sc⟩ (.inr ⟨z1 _ n1'.1, z1 _ n2'.1⟩) rfl
        refine ⟨by simp, hlen, k2 _ ⟨_, .val false (.int (((1 + i : Nat) : Int))), .val false (.int (nm (r.getD 2 0) n ((1 + i : Nat) : Int))), .val false (.int (nm (r.getD 2 0) n (c % ((1 + i : Nat) : Int)))), .val false (.int (c' % 8 * sc)), by rw [List.length_append, List.length_singleton]; omega, f1, f2, ?_⟩⟩
        rw [List.map_append]
        simp only [List.map_cons, List.map_nil]
        show _ = [_, _, _, _, Sl.own false (ls.map en ++ [PyData.tuple [.int (((nm (r.getD 2 0) n (c % ((1 + i : Nat) : Int))).toNat : Nat) : Int), .int (((nm (r.getD 2 0) n ((1 + i : Nat) : Int)).toNat : Nat) : Int), _]]), _, _, _, _, _, _, _]
        rw [z1 _ n1'.1, z1 _ n2'.1]
        rfl
    · obtain ⟨ls, s5, s6, s7, s8, l1, l2, l3, rfl⟩ := h
      have e1 : ((n : Int) - 1).toNat + 1 = n := by omega
      rw [e1] at l3
      exact k _ ⟨ls, s5, s6, s7, s8, by omega, l2, l3.conn (by omega), rfl⟩
  obtain ⟨ls, s5, s6, s7, s8, l1, l2, l3, rfl⟩ := h
  refine seq_join (fun σ => ∃ (ls : List Ls) (s5 s6 s7 s8 s9 s10 : Sl), ls.length ≤ 90 ∧ LsOk n ls ∧ Conn n ls ∧ σ = [.val false (eI r), .val false (.int (n)), .val false (.int (ex)), .val false (.int (sc)), .own false ((ls).map en), s5, s6, s7, s8, s9, s10, .non]) (fun K k => ?_) (fun σ h => ?_)
  · refine ⟨sm (by omega) (by omega), for_upTo (fun i σ => ∃ (ls : List Ls) (s5 s6 s7 s8 s9 s10 : Sl), ls.length ≤ 60 + i ∧ LsOk n ls ∧ Conn n ls ∧ σ = [.val false (eI r), .val false (.int (n)), .val false (.int (ex)), .val false (.int (sc)), .own false ((ls).map en), s5, s6, s7, s8, s9, s10, .non]) ⟨ls, s5, s6, s7, s8, .non, .non, by omega, l2, l3, rfl⟩ (fun i σ K2 hi h k2 => ?_) (fun σ h => ?_)⟩
    · obtain ⟨ls, s5, s6, s7, s8, s9, s10, l1, l2, l3, rfl⟩ := h
      refine ⟨mul_l (by decide), r, _, rfl, hg, by omega, by omega, fun c c0 _ => ⟨md (by omega), ?_⟩⟩
      refine ⟨mul_l (by decide), r, _, rfl, hg, by omega, by omega, fun c' c0' _ => ⟨md (by omega), br.nd (fun h => ?_) (fun h => k2 _ ⟨ls, _, _, _, _, _, _, by omega, l2, l3, rfl⟩)⟩⟩
      refine ⟨mul_l (by decide), r, _, rfl, hg, by omega, by omega, fun c'' c0'' _ => ⟨md (by decide), mul_r (by omega), by simp, szlt (by rw [List.length_map]; omega), ?_⟩⟩
      have m1 := em (a := c) (b := (n : Int)) (by omega)
      have m2 := em (a := c') (b := (n : Int)) (by omega)
      have m8 := em (a := c'') (b := 12) (by decide)
      have he : 0 ≤ c'' % 12 * sc := Int.mul_nonneg m8.1 s0
      refine k2 _ ⟨ls ++ [⟨(c % (n : Int)).toNat, (c' % (n : Int)).toNat, c'' % 12 * sc⟩], .val false (.int (0 + (i : Int))), s6, s7, s8, .val false (.int (c % (n : Int))), .val false (.int (c' % (n : Int))), by rw [List.length_append, List.length_singleton]; omega, fun l h => ?_, fun S hS => l3 S fun l h => hS l (List.mem_append_left _ h), ?_⟩
      · rcases List.mem_append.mp h with z | z
        · exact l2 l z
        · rw [List.mem_singleton.mp z]
          exact ⟨by show (c % (n : Int)).toNat < n; omega, by show (c' % (n : Int)).toNat < n; omega, he⟩
      · rw [List.map_append]
        simp only [List.map_cons, List.map_nil]
        show _ = [_, _, _, _, Sl.own false (ls.map en ++ [PyData.tuple [.int (((c % (n : Int)).toNat : Nat) : Int), .int (((c' % (n : Int)).toNat : Nat) : Int), _]]), _, _, _, _, _, _, _]
        rw [Int.toNat_of_nonneg m1.1, Int.toNat_of_nonneg m2.1]
        rfl
    · obtain ⟨ls, s5, s6, s7, s8, s9, s10, l1, l2, l3, rfl⟩ := h
      exact k _ ⟨ls, s5, s6, s7, s8, s9, s10, by omega, l2, l3, rfl⟩
  obtain ⟨ls, s5, s6, s7, s8, s9, s10, l1, l2, l3, rfl⟩ := h
  have mb := em (a := r.getD 4 0) (b := (ls.length : Int) + 1) (by omega)
  refine ⟨_, a4, md (by rw [List.length_map]; omega), _, a5, md (by decide), _, a6, md (by omega), mul_l ⟨?_, ?_⟩, r, n, _, rfl, by omega, by omega, ?_⟩
  · have := em (a := r.getD 5 0) (b := 2) (by decide)
    omega
  · have := em (a := r.getD 5 0) (b := 2) (by decide)
    omega
  have nn := nm_lt (d := r.getD 2 0) (n := n) (by omega) (r.getD 5 0 % 2 * (r.getD 6 0 % (n : Int)))
  have eB : ((r.getD 4 0 % ((ls.length : Int) + 1)).toNat : Int) = r.getD 4 0 % (((ls.map (en (α := Ls))).length : Int) + 1) := by
    rw [List.length_map]
    omega
  have c1 : cut (ls.map (en (α := Ls))) (some (r.getD 4 0 % (((ls.map (en (α := Ls))).length : Int) + 1))) none = (ls.drop (r.getD 4 0 % ((ls.length : Int) + 1)).toNat).map en := by
    rw [← eB, cut_from, List.map_drop]
  have c2 : cut (ls.map (en (α := Ls))) none (some (r.getD 4 0 % (((ls.map (en (α := Ls))).length : Int) + 1))) = (ls.take (r.getD 4 0 % ((ls.length : Int) + 1)).toNat).map en := by
    rw [← eB, cut_to, List.map_take]
  refine ⟨?_, by simp, ?_⟩
  · rw [c1, c2]
    exact sz (by rw [List.length_map, List.length_map, List.length_drop, List.length_take]; omega)
  · rw [c1, c2, ← List.map_append]
    have := q n (nm (r.getD 2 0) n (r.getD 5 0 % 2 * (r.getD 6 0 % (n : Int)))).toNat (ls.drop (r.getD 4 0 % ((ls.length : Int) + 1)).toNat ++ ls.take (r.getD 4 0 % ((ls.length : Int) + 1)).toNat) (by omega) ⟨by omega, n60, by rw [List.length_append, List.length_drop, List.length_take]; omega, fun l h => l2 l (take_drop_mem.mp h), fun S hS => l3 S fun l h => hS l (take_drop_mem.mpr h)⟩
    rw [Int.toNat_of_nonneg nn.1] at this
    exact this
end RD

set_option Elab.async false
set_option linter.all false
set_option maxRecDepth 100000
set_option maxHeartbeats 2000000
/-! M12_K77: safe targets: a plan that grows. -/
namespace RD
open PySem DL
open En (en)
/-- an item that leads out -/
def Item (ls : List Ls) (ins : List Nat) (t : Tn) : Prop := t.pl ∉ ins ∧ t.md ∈ ins ∧ 0 ≤ t.sl ∧ ∃ h : t.sl.toNat < ls.length, (ls[t.sl.toNat].a = t.md ∧ ls[t.sl.toNat].b = t.pl) ∨ (ls[t.sl.toNat].a = t.pl ∧ ls[t.sl.toNat].b = t.md)
def Crs (ins : List Nat) (l : Ls) : Prop := (l.a ∈ ins ∧ l.b ∉ ins) ∨ (l.b ∈ ins ∧ l.a ∉ ins)
def S__law_crossing : DSp := fun ds Q => ∃ (ls : List Ls) (ins : List Nat), ds = [.list (ls.map en), en ins] ∧ ls.length ≤ 1000 ∧ ∀ its : List Tn, its.length ≤ 2000 → (∀ t ∈ its, Item ls ins t) → (∀ l ∈ ls, Crs ins l → its ≠ []) → Q .newF (.list (its.map en))
theorem ms__law_crossing : MonoS S__law_crossing := fun ds Q Q' h ⟨ls, ins, e, h1, q⟩ => ⟨ls, ins, e, h1, fun its a b c => h _ _ (q its a b c)⟩
theorem kp__law_crossing : Keeps 7 rd__law_crossing S__law_crossing := by
  rintro ds Q ⟨ls, ins, rfl, hl, q⟩
  refine ⟨by simp, sm (by omega) (by rw [List.length_map]; omega), for_upTo (fun i σ => ∃ (its : List Tn) (s3 s4 s5 s6 : Sl), its.length ≤ 2 * i ∧ (∀ t ∈ its, Item ls ins t) ∧ (∀ l ∈ ls.take i, Crs ins l → its ≠ []) ∧ σ = [.val false (.list (ls.map en)), .val false (en ins), .own true (its.map en), s3, s4, s5, s6]) ⟨[], .non, .non, .non, .non, by simp, (fun t h => nomatch h), (fun t h => nomatch h), rfl⟩ (fun i σ K hi h k => ?_) (fun σ h => ?_)⟩
  · obtain ⟨its, s3, s4, s5, s6, n1, n2, n3, rfl⟩ := h
    have hi' : i < ls.length := by simpa using hi
    have e0 : (0 : Int) + (i : Int) = (i : Int) := by omega
    rw [e0]
    have hlen : (its.map (en (α := Tn))).length < sizeLine := szlt (by rw [List.length_map]; omega)
    have hA : ∀ t : Tn, Item ls ins t → ∀ x ∈ its ++ [t], Item ls ins x := fun t ht x hx => by
      rcases List.mem_append.mp hx with z | z
      · exact n2 x z
      · rw [List.mem_singleton.mp z]
        exact ht
    refine seq_join (fun σ => σ = [.val false (.list (ls.map en)), .val false (en ins), .own true (its.map en), .val false (.int (i)), .val false (.int (ls[i].a)), .val false (.int (ls[i].b)), .val false (.int (ls[i].e))]) (fun K2 k2 => ?_) (fun σ h => ?_)
    · exact ⟨_, at_map (en := En.en (α := Ls)) hi', rfl, k2 _ rfl⟩
    subst h
    refine seq_join (fun σ => ∃ its2 : List Tn, its2.length ≤ 2 * i + 1 ∧ (∀ t ∈ its2, Item ls ins t) ∧ ((ls[i].a ∈ ins ∧ ls[i].b ∉ ins) → its2 ≠ []) ∧ (its ≠ [] → its2 ≠ []) ∧ σ = [.val false (.list (ls.map en)), .val false (en ins), .own true (its2.map en), .val false (.int (i)), .val false (.int (ls[i].a)), .val false (.int (ls[i].b)), .val false (.int (ls[i].e))]) (fun K2 k2 => ?_) (fun σ h => ?_)
    · refine in_go (α := Nat) ls[i].a ins (Q := fun c => br c _ _) (br.dec (fun a => ?_) (fun a => k2 _ ⟨its, by omega, n2, fun z => absurd z.1 a, fun z => z, rfl⟩))
      refine in_go (α := Nat) ls[i].b ins (Q := fun c => br (!c) _ _) (br.nd (fun b => ?_) (fun b => k2 _ ⟨its, by omega, n2, fun z => absurd b z.2, fun z => z, rfl⟩))
      refine ⟨.int _, .int _, .int _, by simp, hlen, k2 _ ⟨its ++ [⟨ls[i].b, ls[i].a, (i : Int)⟩], by rw [List.length_append, List.length_singleton]; omega, hA _ ⟨b, a, Int.natCast_nonneg i, by simpa using hi', .inl ⟨rfl, rfl⟩⟩, fun _ => by simp, fun _ => by simp, ?_⟩⟩
      rw [List.map_append]
      rfl
    obtain ⟨its2, m1, m2, m3, m4, rfl⟩ := h
    have fin : ∀ its3 : List Tn, its3.length ≤ 2 * i + 2 → (∀ t ∈ its3, Item ls ins t) → (Crs ins ls[i] → its3 ≠ []) → (its ≠ [] → its3 ≠ []) → K [.val false (.list (ls.map en)), .val false (en ins), .own true (its3.map en), .val false (.int (i)), .val false (.int (ls[i].a)), .val false (.int (ls[i].b)), .val false (.int (ls[i].e))] := fun its2 m1 m2 m3 m4 => by
      refine k _ ⟨its2, _, _, _, _, by omega, m2, fun l hlm c => ?_, rfl⟩
      rw [List.take_succ_eq_append_getElem hi'] at hlm
      rcases List.mem_append.mp hlm with z | z
      · exact m4 (n3 l z c)
      · rw [List.mem_singleton.mp z] at c
        exact m3 c
    refine in_go (α := Nat) ls[i].b ins (Q := fun c => br c _ _) (br.dec (fun a => ?_) (fun a => fin its2 (by omega) m2 (fun c => c.elim m3 (fun z => absurd z.1 a)) m4))
    refine in_go (α := Nat) ls[i].a ins (Q := fun c => br (!c) _ _) (br.nd (fun b => ?_) (fun b => fin its2 (by omega) m2 (fun c => c.elim m3 (fun z => absurd b z.2)) m4))
    refine ⟨.int _, .int _, .int _, by simp, szlt (by rw [List.length_map]; omega), ?_⟩
    have := fin (its2 ++ [⟨ls[i].a, ls[i].b, (i : Int)⟩]) (by rw [List.length_append, List.length_singleton]; omega) (fun x hx => ?_) (fun _ => by simp) (fun _ => by simp)
    · rw [List.map_append] at this
      exact this
    · rcases List.mem_append.mp hx with z | z
      · exact m2 x z
      · rw [List.mem_singleton.mp z]
        exact ⟨b, a, Int.natCast_nonneg i, by simpa using hi', .inr ⟨rfl, rfl⟩⟩
  · obtain ⟨its, s3, s4, s5, s6, n1, n2, n3, rfl⟩ := h
    have e : (((ls.map (en (α := Ls))).length : Nat) : Int).toNat = ls.length := by simp
    rw [e, List.take_length] at n3
    rw [e] at n1
    exact q its (by omega) n2 n3
/-! pigeonhole -/
theorem nodup_len : ∀ (n : Nat) (l : List Nat), l.Nodup → (∀ x ∈ l, x < n) → l.length ≤ n
  | 0, [], _, _ => Nat.le_refl _
  | 0, x :: _, _, h => absurd (h x List.mem_cons_self) (Nat.not_lt_zero x)
  | n + 1, l, hd, h => by
    have ih := nodup_len n (l.erase n) (hd.erase n) (fun x hx => by
      have h1 := h x (List.mem_of_mem_erase hx)
      have h2 : x ≠ n := (List.Nodup.mem_erase_iff hd).mp hx |>.1
      omega)
    by_cases hm : n ∈ l
    · rw [List.length_erase_of_mem hm] at ih
      omega
    · rw [List.erase_of_not_mem hm] at ih
      omega
theorem all_in {n : Nat} {l : List Nat} (hd : l.Nodup) (h : ∀ x ∈ l, x < n) (hl : n ≤ l.length) {p : Nat} (hp : p < n) : p ∈ l := by
  by_cases hm : p ∈ l
  · exact hm
  · have := nodup_len n (p :: l) (List.nodup_cons.mpr ⟨hm, hd⟩) (fun x hx => by
      rcases List.mem_cons.mp hx with e | e
      · omega
      · exact h x e)
    rw [List.length_cons] at this
    omega
theorem crosses {n : Nat} {ls : List Ls} (hc : Conn n ls) {ins : List Nat} {r p : Nat} (hr : r < n) (hri : r ∈ ins) (hp : p < n) (hpi : p ∉ ins) : ∃ l ∈ ls, Crs ins l := by
  refine Classical.byContradiction fun hn => ?_
  have := hc (fun x => x ∈ ins) (fun l hl => by
    refine ⟨fun a => Classical.byContradiction fun b => hn ⟨l, hl, .inl ⟨a, b⟩⟩, fun a => Classical.byContradiction fun b => hn ⟨l, hl, .inr ⟨a, b⟩⟩⟩) r p hr hp
  exact hpi (this.mp hri)
theorem layL {α : Type} [En α] (xs : List α) : PyData.canLay0 (.list (xs.map en)) = true := by
  simp only [PyData.canLay0]
  exact layAll xs
/-- a plan so far -/
structure Gw (n r : Nat) (ls : List Ls) (pl : List Tn) : Prop where
  len : pl.length < n
  val : Val n pl
  pix : Pix ls pl
  inj : Inj pl
  src : ∀ (i : Nat) (h : i < pl.length), pl[i].md ∈ insd r pl i
  nod : (insd r pl pl.length).Nodup
  lt : ∀ x ∈ insd r pl pl.length, x < n
  both : ∀ t ∈ pl, ∃ h : t.sl.toNat < ls.length, ls[t.sl.toNat].a ∈ insd r pl pl.length ∧ ls[t.sl.toNat].b ∈ insd r pl pl.length
theorem insd_full (r : Nat) (pl : List Tn) : insd r pl pl.length = r :: pl.map (·.pl) := by
  unfold insd
  rw [List.take_length]
theorem insd_app {r : Nat} {pl : List Tn} {t : Tn} {i : Nat} (h : i ≤ pl.length) : insd r (pl ++ [t]) i = insd r pl i := by
  unfold insd
  rw [List.take_append_of_le_length h]
theorem insd_snoc (r : Nat) (pl : List Tn) (t : Tn) : insd r (pl ++ [t]) (pl ++ [t]).length = insd r pl pl.length ++ [t.pl] := by
  rw [insd_full, insd_full, List.map_append]
  rfl
theorem insd_mono {r : Nat} {pl : List Tn} {i x : Nat} (h : x ∈ insd r pl i) : x ∈ insd r pl pl.length := by
  unfold insd at h
  rw [insd_full]
  rcases List.mem_cons.mp h with e | e
  · rw [e]
    exact List.mem_cons_self
  · obtain ⟨t, ht, e⟩ := List.mem_map.mp e
    exact List.mem_cons_of_mem _ (List.mem_map.mpr ⟨t, List.mem_of_mem_take ht, e⟩)
theorem Gw.more {n r : Nat} {ls : List Ls} {pl : List Tn} (g : Gw n r ls pl) (hls : LsOk n ls) {t : Tn} (h : Item ls (insd r pl pl.length) t) : Gw n r ls (pl ++ [t]) := by
  obtain ⟨h1, h2, h3, h4, h5⟩ := h
  have hp : t.pl < n ∧ t.md < n := by
    have := hls _ (List.getElem_mem h4)
    omega
  have il : (insd r pl pl.length ++ [t.pl]).Nodup := by
    rw [List.nodup_append]
    refine ⟨g.nod, by simp, fun a ha b hb e => ?_⟩
    rw [List.mem_singleton.mp hb] at e
    rw [e] at ha
    exact h1 ha
  have lt : ∀ x ∈ insd r pl pl.length ++ [t.pl], x < n := fun x hx => by
    rcases List.mem_append.mp hx with z | z
    · exact g.lt x z
    · rw [List.mem_singleton.mp z]
      exact hp.1
  refine ⟨?_, fun x hx => ?_, fun x hx => ?_, ?_, fun i hi => ?_, by rw [insd_snoc]; exact il, by rw [insd_snoc]; exact lt, fun x hx => ?_⟩
  · have := nodup_len n _ il lt
    rw [List.length_append, insd_full, List.length_cons, List.length_map] at this
    rw [List.length_append]
    simp at this ⊢
    omega
  · rcases List.mem_append.mp hx with z | z
    · exact g.val x z
    · rw [List.mem_singleton.mp z]
      exact hp
  · rcases List.mem_append.mp hx with z | z
    · exact g.pix x z
    · rw [List.mem_singleton.mp z]
      exact ⟨h3, h4⟩
  · unfold Inj
    rw [List.map_append, List.nodup_append]
    refine ⟨g.inj, by simp, fun a ha b hb e => ?_⟩
    obtain ⟨x, hx, rfl⟩ := List.mem_map.mp ha
    have hb' : b = t.sl := by simpa using hb
    rw [hb'] at e
    obtain ⟨y1, y2, y3⟩ := g.both x hx
    simp only [e] at y2 y3
    rcases h5 with ⟨e1, e2⟩ | ⟨e1, e2⟩
    · rw [e2] at y3
      exact h1 y3
    · rw [e1] at y2
      exact h1 y2
  · rw [List.length_append, List.length_singleton] at hi
    by_cases hi2 : i < pl.length
    · rw [List.getElem_append_left hi2, insd_app (by omega)]
      exact g.src i hi2
    · have : i = pl.length := by omega
      subst this
      rw [List.getElem_append_right (by omega), insd_app (Nat.le_refl _)]
      simp only [Nat.sub_self, List.getElem_cons_zero]
      exact h2
  · rw [insd_snoc]
    rcases List.mem_append.mp hx with z | z
    · obtain ⟨y1, y2, y3⟩ := g.both x z
      exact ⟨y1, List.mem_append_left _ y2, List.mem_append_left _ y3⟩
    · rw [List.mem_singleton.mp z]
      refine ⟨h4, ?_⟩
      rcases h5 with ⟨e1, e2⟩ | ⟨e1, e2⟩
      · rw [e1, e2]
        exact ⟨List.mem_append_left _ h2, by simp⟩
      · rw [e1, e2]
        exact ⟨by simp, List.mem_append_left _ h2⟩
def S__law_grown : DSp := fun ds Q => ∃ (d : List Int) (n r : Nat) (ls : List Ls), ds = [eI d, .int (n : Int), .int (r : Int), .list (ls.map en)] ∧ Good d ∧ 0 < d.length ∧ r < n ∧ House n ls ∧ ∀ pl : List Tn, pl.length ≤ 60 → Val n pl → Pix ls pl → Inj pl → Grown n r pl → Q .new (.list (pl.map en))
theorem ms__law_grown : MonoS S__law_grown := fun ds Q Q' h ⟨d, n, r, ls, e, h1, h2, h3, h4, q⟩ => ⟨d, n, r, ls, e, h1, h2, h3, h4, fun pl a b c d e => h _ _ (q pl a b c d e)⟩
theorem kp__law_grown : Keeps 9 (rd__law_grown S__law_crossing S__law_cell) S__law_grown := by
  rintro ds Q ⟨d, n, r, ls, rfl, hg, hd, hr, ⟨n1, n60, l200, hls, hc⟩, q⟩
  refine ⟨by simp, by simp, sm (by omega) (by omega), for_upTo (fun i σ => ∃ (pl : List Tn) (s6 s7 s8 : Sl), Gw n r ls pl ∧ (i ≤ pl.length ∨ ∀ p, p < n → p ∈ insd r pl pl.length) ∧ σ = [.val false (eI d), .val false (.int (n)), .val false (.int (r)), .val false (.list (ls.map en)), .own false ((insd r pl pl.length).map (en (α := Nat))), .own false (pl.map en), s6, s7, s8]) ⟨[], .non, .non, .non, ⟨by simp; omega, (fun t h => nomatch h), (fun t h => nomatch h), List.nodup_nil, (fun i h => nomatch h), by simp [insd], fun x hx => ?_, (fun t h => nomatch h)⟩, .inl (Nat.le_refl _), rfl⟩ (fun i σ K hi h k => ?_) (fun σ h => ?_)⟩
  · simp [insd] at hx
    omega
  · obtain ⟨pl, s6, s7, s8, g, hc2, rfl⟩ := h
    refine ⟨ls, insd r pl pl.length, rfl, by omega, fun its b1 b2 b3 => ⟨layL its, ?_⟩⟩
    refine br.dec (fun h => ?_) (fun h => ?_)
    · have h : (0 : Int) < ((its.map (en (α := Tn))).length : Int) := h
      rw [List.length_map] at h
      refine ⟨d, _, rfl, hg, hd, by omega, fun c c0 _ => ⟨md (by rw [List.length_map]; exact h), ?_⟩⟩
      have mc := em (a := c) (b := (its.length : Int)) h
      rw [List.length_map]
      have hx : (c % (its.length : Int)).toNat < its.length := by omega
      refine ⟨_, at_int (en := En.en (α := Tn)) mc.1 hx, szlt (by rw [List.length_map]; have := g.len; omega), ?_⟩
      have g2 := g.more hls (b2 _ (List.getElem_mem hx))
      have hl2 := nodup_len n _ g.nod g.lt
      refine ⟨_, rfl, szlt (by rw [List.length_map]; omega), ?_⟩
      refine k _ ⟨pl ++ [its[(c % (its.length : Int)).toNat]], .val false (.int (0 + (i : Int))), .val false (.list (its.map en)), .val false (en its[(c % (its.length : Int)).toNat]), g2, ?_, ?_⟩
      · rcases hc2 with z | z
        · exact .inl (by rw [List.length_append, List.length_singleton]; omega)
        · refine .inr fun p hp => ?_
          rw [insd_snoc]
          exact List.mem_append_left _ (z p hp)
      · rw [insd_snoc, List.map_append, List.map_append]
        rfl
    · refine k _ ⟨pl, _, _, _, g, ?_, rfl⟩
      have h : ¬ (0 : Int) < ((its.map (en (α := Tn))).length : Int) := h
      rw [List.length_map] at h
      have h0 : its = [] := List.eq_nil_of_length_eq_zero (by omega)
      refine .inr fun p hp => Classical.byContradiction fun hpi => ?_
      obtain ⟨l, hl, cl⟩ := crosses hc hr (by rw [insd_full]; exact List.mem_cons_self) hp hpi
      exact b3 l hl cl h0
  · obtain ⟨pl, s6, s7, s8, g, hc2, rfl⟩ := h
    have := g.len
    refine q pl (by omega) g.val g.pix g.inj ⟨hr, g.src, fun p hp => ?_⟩
    rcases hc2 with z | z
    · exact all_in g.nod g.lt (by rw [insd_full, List.length_cons, List.length_map]; omega) hp
    · exact z p hp
end RD

set_option Elab.async false
set_option linter.all false
set_option maxRecDepth 100000
set_option maxHeartbeats 2000000
/-! M13_K77: safe targets: the law. -/
namespace RD
open PySem DL
open En (en)
def S__law_demands_f9d5 : DSp := fun ds Q => ∃ (d t : List Int) (er : List (List Int)) (sp : Int), ds = [eI d, .int (t.length : Int), eI t, .list (er.map en), .int sp] ∧ Good d ∧ 141 ≤ d.length ∧ 0 < t.length ∧ t.length ≤ 60 ∧ er.length = t.length ∧ (∀ x ∈ er, x.length = t.length) ∧ 0 < sp ∧ ∀ dms : List Dm, dms.length ≤ 7 → Ok t.length dms → Q .new (.list (dms.map en))
theorem ms__law_demands_f9d5 : MonoS S__law_demands_f9d5 := fun ds Q Q' h ⟨d, t, er, sp, e, h1, h2, h3, h4, h5, h6, h7, q⟩ => ⟨d, t, er, sp, e, h1, h2, h3, h4, h5, h6, h7, fun pl a b => h _ _ (q pl a b)⟩
theorem kp__law_demands_f9d5 : Keeps 13 (rd__law_demands_f9d5 S__law_cell) S__law_demands_f9d5 := by
  rintro ds Q ⟨d, t, er, sp, rfl, hg, hd, t1, t60, e1, e2, hsp, q⟩
  have a140 : L2.atI (d.map PyData.int) 140 = some (.int (d.getD 140 0)) := at_good 140 (by omega)
  have m140 := em (a := d.getD 140 0) (b := 8) (by decide)
  refine ⟨by simp, _, a140, md (by decide), sm (by omega) (by omega), for_upTo (fun i σ => ∃ (dms : List Dm) (s6 s7 s8 s9 s10 s11 s12 : Sl), dms.length ≤ i ∧ Ok t.length dms ∧ σ = [.val false (eI d), .val false (.int (t.length)), .val false (eI t), .val false (.list (er.map en)), .val false (.int (sp)), .own false (dms.map en), s6, s7, s8, s9, s10, s11, s12]) ⟨[], .non, .non, .non, .non, .non, .non, .non, by simp, (fun x h => nomatch h), rfl⟩ (fun i σ K hi h k => ?_) (fun σ h => ?_)⟩
  · obtain ⟨dms, s6, s7, s8, s9, s10, s11, s12, l1, l2, rfl⟩ := h
    have e0 : (0 : Int) + (i : Int) = (i : Int) := by omega
    rw [e0]
    refine seq_join2 (fun σ => ∃ L H : Nat, L < t.length ∧ H < t.length ∧ σ = [.val false (eI d), .val false (.int (t.length)), .val false (eI t), .val false (.list (er.map en)), .val false (.int (sp)), .own false (dms.map en), .val false (.int (i)), .val false (.int (L)), .val false (.int (H)), s9, s10, s11, s12]) (fun K2 k2 => ?_) (fun σ h => ?_)
    · refine ⟨mul_l (by decide), d, _, rfl, hg, by omega, by omega, fun c _ _ => ⟨md (by omega), mul_l (by decide), d, _, rfl, hg, by omega, by omega, fun c' _ _ => ⟨md (by omega), ?_⟩⟩⟩
      have m1 := em (a := c) (b := (t.length : Int)) (by omega)
      have m2 := em (a := c') (b := (t.length : Int)) (by omega)
      refine k2 _ ⟨(c % (t.length : Int)).toNat, (c' % (t.length : Int)).toNat, by omega, by omega, ?_⟩
      rw [Int.toNat_of_nonneg m1.1, Int.toNat_of_nonneg m2.1]
      rfl
    obtain ⟨L, H, hL, hH, rfl⟩ := h
    have l1' : L < er.length := by omega
    have l2' : H < (er[L]).length := by rw [e2 _ (List.getElem_mem l1')]; exact hH
    have a1 : L2.atI (er.map (en (α := List Int))) (L : Int) = some (eI er[L]) := at_map l1'
    have a2 : L2.atI ((er[L]).map PyData.int) (H : Int) = some (.int (er[L])[H]) := at_map l2'
    refine seq_join4 (fun σ => ∃ w x y z : Int, σ = [.val false (eI d), .val false (.int (t.length)), .val false (eI t), .val false (.list (er.map en)), .val false (.int (sp)), .own false (dms.map en), .val false (.int (i)), .val false (.int (L)), .val false (.int (H)), .val false (.int (w)), .val false (.int (x)), .val false (.int (y)), .val false (.int (z))]) (fun K2 k2 => ?_) (fun σ h => ?_)
    · refine ⟨_, at_map (i := H) hH, _, at_map (i := L) hL, _, a1, _, a2, mul_l (by decide), d, _, rfl, hg, by omega, by omega, fun c _ _ => ⟨md hsp, ?_⟩⟩
      refine ⟨_, a1, _, a2, mul_l (by decide), d, _, rfl, hg, by omega, by omega, fun c _ _ => ⟨md hsp, ?_⟩⟩
      refine ⟨mul_l (by decide), d, _, rfl, hg, by omega, by omega, fun c _ _ => k2 _ ⟨_, _, _, _, rfl⟩⟩
    obtain ⟨w, x, y, z, rfl⟩ := h
    refine seq_join (fun σ => ∃ x : Int, σ = [.val false (eI d), .val false (.int (t.length)), .val false (eI t), .val false (.list (er.map en)), .val false (.int (sp)), .own false (dms.map en), .val false (.int (i)), .val false (.int (L)), .val false (.int (H)), .val false (.int (w)), .val false (.int (x)), .val false (.int (y)), .val false (.int (z))]) (fun K2 k2 => ?_) (fun σ h => ?_)
    · refine br.dec (fun h => ⟨div_s ⟨by decide, by decide⟩, md (by decide), br.dec (fun h => k2 _ ⟨_, rfl⟩) (fun h => k2 _ ⟨_, rfl⟩)⟩) (fun h => k2 _ ⟨_, rfl⟩)
    obtain ⟨x, rfl⟩ := h
    refine seq_join (fun σ => ∃ y : Int, σ = [.val false (eI d), .val false (.int (t.length)), .val false (eI t), .val false (.list (er.map en)), .val false (.int (sp)), .own false (dms.map en), .val false (.int (i)), .val false (.int (L)), .val false (.int (H)), .val false (.int (w)), .val false (.int (x)), .val false (.int (y)), .val false (.int (z))]) (fun K2 k2 => ?_) (fun σ h => ?_)
    · refine br.dec (fun h => ⟨div_s ⟨by decide, by decide⟩, md (by decide), br.dec (fun h => k2 _ ⟨_, rfl⟩) (fun h => k2 _ ⟨_, rfl⟩)⟩) (fun h => k2 _ ⟨_, rfl⟩)
    obtain ⟨y, rfl⟩ := h
    refine seq_join (fun σ => ∃ lo : Option Int, σ = [.val false (eI d), .val false (.int (t.length)), .val false (eI t), .val false (.list (er.map en)), .val false (.int (sp)), .own false (dms.map en), .val false (.int (i)), .val false (.int (L)), .val false (.int (H)), .val false (.int (w)), .val false (en lo), .val false (.int (y)), .val false (.int (z))]) (fun K2 k2 => ?_) (fun σ h => ?_)
    · refine ⟨md (by decide), br.dec (fun h => k2 _ ⟨none, rfl⟩) (fun h => ⟨md (by decide), br.dec (fun h => k2 _ ⟨none, rfl⟩) (fun h => k2 _ ⟨some x, rfl⟩)⟩)⟩
    obtain ⟨lo, rfl⟩ := h
    refine seq_join (fun σ => ∃ hg : Option Int, σ = [.val false (eI d), .val false (.int (t.length)), .val false (eI t), .val false (.list (er.map en)), .val false (.int (sp)), .own false (dms.map en), .val false (.int (i)), .val false (.int (L)), .val false (.int (H)), .val false (.int (w)), .val false (en lo), .val false (en hg), .val false (.int (z))]) (fun K2 k2 => ?_) (fun σ h => ?_)
    · refine ⟨md (by decide), br.dec (fun h => k2 _ ⟨none, rfl⟩) (fun h => ⟨md (by decide), br.dec (fun h => k2 _ ⟨none, rfl⟩) (fun h => k2 _ ⟨some y, rfl⟩)⟩)⟩
    obtain ⟨hi2, rfl⟩ := h
    refine ⟨by simp, szlt (by rw [List.length_map]; omega), k _ ⟨dms ++ [⟨L, H, lo, hi2⟩], .val false (.int (i)), .val false (.int (L)), .val false (.int (H)), .val false (.int (w)), .val false (en lo), .val false (en hi2), .val false (.int (z)), by rw [List.length_append, List.length_singleton]; omega, fun x hx => ?_, ?_⟩⟩
    · rcases List.mem_append.mp hx with z | z
      · exact l2 x z
      · rw [List.mem_singleton.mp z]
        exact ⟨hL, hH⟩
    · rw [List.map_append]
      rfl
  · obtain ⟨dms, s6, s7, s8, s9, s10, s11, s12, l1, l2, rfl⟩ := h
    exact q dms (by omega) l2
/-! slips within the errors do no harm -/
theorem wi_mid {x e z : Int} (h0 : -e ≤ z) (h1 : z ≤ e) {lo hi : Option Int} (h : wi x (lo.map fun l => l + e) (hi.map fun h => h - e) = true) : wi (x + z) lo hi = true := by
  cases lo with
  | none =>
    cases hi with
    | none => simp [wi]
    | some h =>
      simp [wi] at *
      omega
  | some l =>
    cases hi with
    | none =>
      simp [wi] at *
      omega
    | some h =>
      simp [wi] at *
      omega
theorem safe_any {t : List Int} {ls : List Ls} {pl : List Tn} {d : Dm} (hv : Val t.length pl) (h1 : d.lw < t.length) (h2 : d.hg < t.length) (hs : mt t (safe ls pl d) = true) {sl : List Int} (hb : ∀ k, k < pl.length → -((errs ls pl).getD k 0) ≤ sl.getD k 0 ∧ sl.getD k 0 ≤ (errs ls pl).getD k 0) : mt (tun t pl sl) d = true := by
  rw [mt_tun h1 h2 rfl]
  have := diff_any t.length pl hv (fun k => (errs ls pl).getD k 0) (fun k => sl.getD k 0) hb d.lw d.hg h1 h2
  rw [← apart_due] at this
  exact wi_mid this.1 this.2 hs
def S_law_a14d : DSp := fun ds Q => ∃ ns : List Int, ds = [scr ns] ∧ ns.length ≤ 63 ∧ Q .av (.bool true)
theorem ms_law_a14d : MonoS S_law_a14d := fun ds Q Q' h ⟨ns, e, h1, q⟩ => ⟨ns, e, h1, h _ _ q⟩
theorem good_set {r : List Int} (h : Good r) (i : Nat) {x : Int} (h0 : 0 ≤ x ∧ x < 1000003) : Good (r.set i x) := fun y hy => by
  rcases List.mem_or_eq_of_mem_set hy with z | z
  · exact h y z
  · rw [z]
    exact h0
theorem ok_cut {n : Nat} {dms : List Dm} {x : Dm} {i : Nat} (h : Ok n dms) (hx : x.lw < n ∧ x.hg < n) : Ok n (dms.take i ++ [x] ++ dms.drop (i + 1)) := fun d hd => by
  rcases List.mem_append.mp hd with z | z
  · rcases List.mem_append.mp z with z | z
    · exact h d (List.mem_of_mem_take z)
    · rw [List.mem_singleton.mp z]
      exact hx
  · exact h d (List.mem_of_mem_drop z)
theorem kp_law_a14d : Keeps 21 (rd_law_a14d S__law_draws S__law_house_6af9 S__law_grown S__law_cell S__law_pair_errors S__law_demands_f9d5 S__law_is_right_ec74 S_meets S__law_safe S__law_heard_b0a2) S_law_a14d := by
  rintro ds Q ⟨ns, rfl, hns, q⟩
  unfold rd_law_a14d
  refine seq_join2 (fun σ => ∃ d : List Int, Good d ∧ d.length = 160 ∧ σ = [.val false (scr ns), .own false (d.map .int), .non, .non, .non, .non, .non, .non, .non, .non, .non, .non, .non, .non, .non, .non, .non, .non, .non, .non, .non]) (fun K k => ?_) (fun σ h => ?_)
  · refine ⟨ns, 160, rfl, hns, by decide, fun d hl hg => ?_⟩
    have g0 := gd_good hg 0
    have m7 := em (a := d.getD 0 0) (b := 7) (by decide)
    have m18 := em (a := d.getD 0 0 / 7) (b := 18) (by decide)
    refine ⟨_, at_good 1 (by omega), md (by decide), br.dec (fun h => ?_) (fun h => k _ ⟨d, hg, hl, rfl⟩)⟩
    refine ⟨_, at_good 0 (by omega), md (by decide), _, at_good 0 (by omega), div_s ⟨by decide, by decide⟩, md (by decide), mul_l (by decide), _, ixN_nat (j := 0) (by rw [List.length_map]; omega), k _ ⟨d.set 0 (d.getD 0 0 % 7 + 7 * (d.getD 0 0 / 7 % 18)), good_set hg 0 (by omega), by rw [List.length_set]; exact hl, ?_⟩⟩
    rw [← set_map]
    rfl
  obtain ⟨d, hg, hl, rfl⟩ := h
  have hd0 : 0 < d.length := by omega
  refine seq_join3 (fun σ => ∃ (t : List Int) (r : Nat) (ls : List Ls) (pl : List Tn), r < t.length ∧ House t.length ls ∧ pl.length ≤ 60 ∧ Val t.length pl ∧ Pix ls pl ∧ Inj pl ∧ Grown t.length r pl ∧ σ = [.val false (scr ns), .val false (eI d), .val false (.int (t.length)), .val false (.int (r)), .val false (.list (ls.map en)), .val false (.list (pl.map en)), .val false (eI t), .non, .non, .non, .non, .non, .non, .non, .non, .non, .non, .non, .non, .non, .non]) (fun K k => ?_) (fun σ h => ?_)
  · refine ⟨d, rfl, hg, by omega, fun n r ls hr hH => ⟨rfl, d, n, r, ls, rfl, hg, hd0, hr, hH, fun pl p1 p2 p3 p4 p5 => ?_⟩⟩
    refine ⟨sm (by omega) (by have := hH.2.1; omega), lc_upToR (β := Int) PyData.int (fun _ _ => True) (by have := hH.2.1; omega) (fun j hj P N p => ⟨d, _, rfl, hg, hd0, by omega, fun c _ _ => ⟨md (by decide), p (c % 2001 - 1000) trivial⟩⟩) (fun t ht => ?_)⟩
    have htl := ht.upTo.1
    rw [Int.toNat_natCast] at htl
    subst htl
    exact k _ ⟨t, r, ls, pl, hr, hH, p1, p2, p3, p4, p5, rfl⟩
  obtain ⟨t, r, ls, pl, hr, ⟨n1, n60, l200, hls, hc⟩, p1, p2, p3, p4, p5, rfl⟩ := h
  have hnn : Nn ls := fun l h => (hls l h).2.2
  refine seq_join2 (fun σ => ∃ (er : List (List Int)) (dms : List Dm) (s7 : Sl), Ertab ls pl t.length er ∧ dms.length ≤ 7 ∧ Ok t.length dms ∧ σ = [.val false (scr ns), .val false (eI d), .val false (.int (t.length)), .val false (.int (r)), .val false (.list (ls.map en)), .val false (.list (pl.map en)), .val false (eI t), s7, .val false (.list (er.map en)), .val false (.list (dms.map en)), .non, .non, .non, .non, .non, .non, .non, .non, .non, .non, .non]) (fun K k => ?_) (fun σ h => ?_)
  · refine ⟨t.length, ls, pl, rfl, by omega, by omega, p2, p3, p4, ?_⟩
    have z := ertab_ok ls pl t.length
    exact ⟨d, t, ertab ls pl t.length, 4, rfl, hg, by omega, by omega, n60, z.1, z.2.1, by decide, fun dms d1 d2 => k _ ⟨_, dms, .non, z, d1, d2, rfl⟩⟩
  obtain ⟨er, dms, s7, hE, d1, d2, rfl⟩ := h
  refine seq_join (fun σ => σ = [.val false (scr ns), .val false (eI d), .val false (.int (t.length)), .val false (.int (r)), .val false (.list (ls.map en)), .val false (.list (pl.map en)), .val false (eI t), s7, .val false (.list (er.map en)), .val false (.list (dms.map en)), .non, .non, .non, .non, .non, .non, .non, .non, .non, .non, .non]) (fun K k => ?_) (fun σ h => ?_)
  · exact ⟨t, r, ls, pl, dms, er, rfl, by omega, by omega, by omega, p2, p5, p3, hnn, d2, hE, k _ rfl⟩
  subst h
  have eS : dms.map (sfe er) = dms.map (safe ls pl) := List.map_congr_left fun x hd => by
    unfold sfe safe
    rw [hE.2.2 _ _ (d2 x hd).1 (d2 x hd).2]
  have ho2 : Ok t.length (dms.map (safe ls pl)) := fun x hx => by
    obtain ⟨d, hd, rfl⟩ := List.mem_map.mp hx
    exact d2 d hd
  refine seq_join (fun σ => ∃ s10 s11 s12 s13 : Sl, σ = [.val false (scr ns), .val false (eI d), .val false (.int (t.length)), .val false (.int (r)), .val false (.list (ls.map en)), .val false (.list (pl.map en)), .val false (eI t), s7, .val false (.list (er.map en)), .val false (.list (dms.map en)), s10, s11, s12, s13, .non, .non, .non, .non, .non, .non, .non]) (fun K k => ?_) (fun σ h => ?_)
  · refine ⟨dms, er, t.length, rfl, by omega, d2, hE.1, hE.2.1, ?_⟩
    refine ⟨dms.map (safe ls pl), t, by rw [eS]; rfl, ho2, br.mk (fun hall => ?_) (fun _ => k _ ⟨_, _, _, _, rfl⟩)⟩
    have hsafe : ∀ x ∈ dms, mt t (safe ls pl x) = true := fun x hx => List.all_eq_true.mp hall _ (List.mem_map_of_mem hx)
    refine ⟨sm (by decide) (by decide), for_upTo (fun i σ => ∃ s10 s11 s12 s13 : Sl, σ = [.val false (scr ns), .val false (eI d), .val false (.int (t.length)), .val false (.int (r)), .val false (.list (ls.map en)), .val false (.list (pl.map en)), .val false (eI t), s7, .val false (.list (er.map en)), .val false (.list (dms.map en)), s10, s11, s12, s13, .non, .non, .non, .non, .non, .non, .non]) ⟨_, _, _, _, rfl⟩ (fun i σ K2 hi h k2 => ?_) (fun σ h => k _ h)⟩
    obtain ⟨s10, s11, s12, s13, rfl⟩ := h
    have e0 : (0 : Int) + (i : Int) = (i : Int) := by omega
    rw [e0]
    refine seq_join2 (fun σ => ∃ (sl : List Int) (s12 s13 : Sl), sl.length = pl.length ∧ (∀ k, k < pl.length → -((errs ls pl).getD k 0) ≤ sl.getD k 0 ∧ sl.getD k 0 ≤ (errs ls pl).getD k 0) ∧ σ = [.val false (scr ns), .val false (eI d), .val false (.int (t.length)), .val false (.int (r)), .val false (.list (ls.map en)), .val false (.list (pl.map en)), .val false (eI t), s7, .val false (.list (er.map en)), .val false (.list (dms.map en)), .val false (.int (i)), .own false (sl.map .int), s12, s13, .non, .non, .non, .non, .non, .non, .non]) (fun K3 k3 => ?_) (fun σ h => ?_)
    · refine ⟨by simp, sm (by omega) (by rw [List.length_map]; omega), for_upTo (fun j σ => ∃ (sl : List Int) (s12 s13 : Sl), sl.length = j ∧ (∀ k, k < j → -((errs ls pl).getD k 0) ≤ sl.getD k 0 ∧ sl.getD k 0 ≤ (errs ls pl).getD k 0) ∧ σ = [.val false (scr ns), .val false (eI d), .val false (.int (t.length)), .val false (.int (r)), .val false (.list (ls.map en)), .val false (.list (pl.map en)), .val false (eI t), s7, .val false (.list (er.map en)), .val false (.list (dms.map en)), .val false (.int (i)), .own false (sl.map .int), s12, s13, .non, .non, .non, .non, .non, .non, .non]) ⟨[], _, _, rfl, (fun k h => by omega), rfl⟩ (fun j σ K4 hj h k4 => ?_) (fun σ h => ?_)⟩
      · obtain ⟨sl, s12, s13, c1, c2, rfl⟩ := h
        have hj' : j < pl.length := by simpa using hj
        have e0 : (0 : Int) + (j : Int) = (j : Int) := by omega
        rw [e0]
        obtain ⟨x0, x1⟩ := p3 pl[j] (List.getElem_mem hj')
        have eE : (errs ls pl).getD j 0 = ls[pl[j].sl.toNat].e := by
          unfold errs
          rw [gD (by rw [List.length_map]; exact hj'), List.getElem_map, gD x1]
        have eN := hnn _ (List.getElem_mem x1)
        refine ⟨_, at_map (en := En.en (α := Tn)) hj', _, rfl, _, at_int (en := En.en (α := Ls)) x0 x1, _, rfl, ?_⟩
        generalize hE2 : ls[pl[j].sl.toNat].e = E at *
        refine ⟨mul_l (by decide), d, _, rfl, hg, hd0, by omega, fun c _ _ => ⟨mul_r (by decide), mul_l (by decide), mul_l (by decide), md (by omega), szlt (by rw [List.length_map]; omega), ?_⟩⟩
        have mz := em (a := c * 1000003 + 77 * (j : Int)) (b := 2 * E + 1) (by omega)
        refine k4 _ ⟨sl ++ [(c * 1000003 + 77 * (j : Int)) % (2 * E + 1) - E], .val false (.int (j)), .val false (.int (E)), by rw [List.length_append, List.length_singleton]; omega, fun k hk => ?_, ?_⟩
        · by_cases hkj : k < j
          · have : (sl ++ [(c * 1000003 + 77 * (j : Int)) % (2 * E + 1) - E]).getD k 0 = sl.getD k 0 := by
              rw [gD (show k < (sl ++ _).length by rw [List.length_append]; omega), List.getElem_append_left (by omega), gD (by omega)]
            rw [this]
            exact c2 k hkj
          · have hk2 : k = sl.length := by omega
            subst hk2
            have : (sl ++ [(c * 1000003 + 77 * (j : Int)) % (2 * E + 1) - E]).getD sl.length 0 = (c * 1000003 + 77 * (j : Int)) % (2 * E + 1) - E := by
              rw [gD (show sl.length < (sl ++ _).length by rw [List.length_append, List.length_singleton]; omega), List.getElem_append_right (by omega)]
              simp
            rw [this, c1, eE]
            omega
        · rw [List.map_append]
          rfl
      · obtain ⟨sl, s12, s13, c1, c2, rfl⟩ := h
        have e : (((pl.map (en (α := Tn))).length : Nat) : Int).toNat = pl.length := by simp
        rw [e] at c1 c2
        exact k3 _ ⟨sl, s12, s13, c1, c2, rfl⟩
    obtain ⟨sl, s12, s13, c1, c2, rfl⟩ := h
    refine ⟨t, r, pl, sl, rfl, by omega, by omega, p2, p5, c1, ?_⟩
    refine ⟨dms, tun t pl sl, rfl, by unfold tun; rw [pch_len]; exact d2, ?_⟩
    have : dms.all (mt (tun t pl sl)) = true := List.all_eq_true.mpr fun x hx => safe_any p2 (d2 x hx).1 (d2 x hx).2 (hsafe x hx) c2
    rw [this]
    exact k2 _ ⟨_, _, _, _, rfl⟩
  obtain ⟨s10, s11, s12, s13, rfl⟩ := h
  refine seq_join (fun σ => ∃ (lm : List Dm), lm.length ≤ 7 ∧ Ok t.length lm ∧ σ = [.val false (scr ns), .val false (eI d), .val false (.int (t.length)), .val false (.int (r)), .val false (.list (ls.map en)), .val false (.list (pl.map en)), .val false (eI t), s7, .val false (.list (er.map en)), .val false (.list (dms.map en)), s10, s11, s12, s13, .val false (.list (lm.map en)), .non, .non, .non, .non, .non, .non]) (fun K k => ?_) (fun σ h => ?_)
  · exact ⟨d, t, er, 1, rfl, hg, by omega, by omega, n60, hE.1, hE.2.1, by decide, fun lm d1 d2 => k _ ⟨lm, d1, d2, rfl⟩⟩
  obtain ⟨lm, m1, m2, rfl⟩ := h
  refine seq_join (fun σ => σ = [.val false (scr ns), .val false (eI d), .val false (.int (t.length)), .val false (.int (r)), .val false (.list (ls.map en)), .val false (.list (pl.map en)), .val false (eI t), s7, .val false (.list (er.map en)), .val false (.list (dms.map en)), s10, s11, s12, s13, .val false (.list (lm.map en)), .non, .non, .non, .non, .non, .non]) (fun K k => ?_) (fun σ h => ?_)
  · exact ⟨t, r, ls, pl, lm, er, rfl, by omega, by omega, by omega, p2, p5, p3, hnn, m2, hE, k _ rfl⟩
  subst h
  refine seq_join (fun σ => ∃ s12 s15 s16 s17 s18 s19 : Sl, σ = [.val false (scr ns), .val false (eI d), .val false (.int (t.length)), .val false (.int (r)), .val false (.list (ls.map en)), .val false (.list (pl.map en)), .val false (eI t), s7, .val false (.list (er.map en)), .val false (.list (dms.map en)), s10, s11, s12, s13, .val false (.list (lm.map en)), s15, s16, s17, s18, s19, .non]) (fun K k => ?_) (fun σ h => ?_)
  · refine br.dec (fun h => ?_) (fun h => k _ ⟨_, _, _, _, _, _, rfl⟩)
    have h : (0 : Int) < ((lm.map (en (α := Dm))).length : Int) := h
    rw [List.length_map] at h
    have ma := em (a := d.getD 141 0) (b := (lm.length : Int)) h
    have hx : (d.getD 141 0 % (lm.length : Int)).toNat < lm.length := by omega
    obtain ⟨at', hat⟩ : ∃ at' : Nat, (at' : Int) = d.getD 141 0 % (lm.length : Int) := ⟨_, Int.toNat_of_nonneg ma.1⟩
    have hat2 : at' < lm.length := by omega
    refine seq_join2 (fun σ => ∃ x : Dm, x.lw < t.length ∧ x.hg < t.length ∧ σ = [.val false (scr ns), .val false (eI d), .val false (.int (t.length)), .val false (.int (r)), .val false (.list (ls.map en)), .val false (.list (pl.map en)), .val false (eI t), s7, .val false (.list (er.map en)), .val false (.list (dms.map en)), s10, s11, .val false (.int (at')), s13, .val false (.list (lm.map en)), .val false (.int (x.lw)), .val false (.int (x.hg)), .val false (en x.lo), .val false (en x.hi), .non, .non]) (fun K2 k2 => ?_) (fun σ h => ?_)
    · refine ⟨_, at_good 141 (by omega), md (by rw [List.length_map]; exact h), ?_⟩
      rw [List.length_map, ← hat]
      refine ⟨_, at_map (en := En.en (α := Dm)) hat2, rfl, k2 _ ⟨lm[at'], (m2 _ (List.getElem_mem hat2)).1, (m2 _ (List.getElem_mem hat2)).2, rfl⟩⟩
    obtain ⟨⟨lw, hg', lo, hi⟩, y1, y2, rfl⟩ := h
    refine seq_join (fun σ => ∃ x : Dm, x.lw < t.length ∧ x.hg < t.length ∧ σ = [.val false (scr ns), .val false (eI d), .val false (.int (t.length)), .val false (.int (r)), .val false (.list (ls.map en)), .val false (.list (pl.map en)), .val false (eI t), s7, .val false (.list (er.map en)), .val false (.list (dms.map en)), s10, s11, .val false (.int (at')), s13, .val false (.list (lm.map en)), .val false (.int (x.lw)), .val false (.int (x.hg)), .val false (en x.lo), .val false (en x.hi), .non, .non]) (fun K2 k2 => ?_) (fun σ h => ?_)
    · cases hi with
      | some z => exact k2 _ ⟨⟨lw, hg', lo, some (z - 1)⟩, y1, y2, rfl⟩
      | none =>
        cases lo with
        | some z => exact k2 _ ⟨⟨lw, hg', some (z + 1), none⟩, y1, y2, rfl⟩
        | none => exact k2 _ ⟨⟨lw, hg', none, none⟩, y1, y2, rfl⟩
    obtain ⟨x, y1, y2, rfl⟩ := h
    have c1 : cut (lm.map (en (α := Dm))) none (some (at' : Int)) = (lm.take at').map en := by rw [cut_to, List.map_take]
    have c2 : cut (lm.map (en (α := Dm))) (some ((at' : Int) + 1)) none = (lm.drop (at' + 1)).map en := by
      have : (at' : Int) + 1 = ((at' + 1 : Nat) : Int) := by omega
      rw [this, cut_from, List.map_drop]
    refine seq_join (fun σ => σ = [.val false (scr ns), .val false (eI d), .val false (.int (t.length)), .val false (.int (r)), .val false (.list (ls.map en)), .val false (.list (pl.map en)), .val false (eI t), s7, .val false (.list (er.map en)), .val false (.list (dms.map en)), s10, s11, .val false (.int (at')), s13, .val false (.list (lm.map en)), .val false (.int (x.lw)), .val false (.int (x.hg)), .val false (en x.lo), .val false (en x.hi), .val false (.list ((lm.take at' ++ [x] ++ lm.drop (at' + 1)).map en)), .non]) (fun K2 k2 => ?_) (fun σ h => ?_)
    · refine ⟨by simp, by simp, ?_, ?_, k2 _ ?_⟩
      · rw [c1]
        exact sz (by rw [List.length_map, List.length_take]; simp; omega)
      · rw [c1, c2]
        exact sz (by rw [List.length_append, List.length_map, List.length_take, List.length_map, List.length_drop]; simp; omega)
      · rw [c1, c2, List.map_append, List.map_append]
        rfl
    subst h
    exact ⟨t, r, ls, pl, lm.take at' ++ [x] ++ lm.drop (at' + 1), er, rfl, by omega, by omega, by simp; omega, p2, p5, p3, hnn, ok_cut m2 ⟨y1, y2⟩, hE, k _ ⟨_, _, _, _, _, _, rfl⟩⟩
  obtain ⟨s12, s15, s16, s17, s18, s19, rfl⟩ := h
  refine seq_join2 (fun σ => ∃ mv : List Int, mv.length = t.length ∧ σ = [.val false (scr ns), .val false (eI d), .val false (.int (t.length)), .val false (.int (r)), .val false (.list (ls.map en)), .val false (.list (pl.map en)), .val false (eI t), s7, .val false (.list (er.map en)), .val false (.list (dms.map en)), s10, s11, s12, s13, .val false (.list (lm.map en)), s15, s16, s17, s18, s19, .own false (mv.map .int)]) (fun K k => ?_) (fun σ h => ?_)
  · have ma := em (a := d.getD 142 0) (b := (t.length : Int)) (by omega)
    have hx : (d.getD 142 0 % (t.length : Int)).toNat < t.length := by omega
    refine ⟨_, at_good 142 (by omega), md (by omega), _, at_int (en := PyData.int) ma.1 hx, _, at_good 143 (by omega), md (by decide), _, at_good 142 (by omega), md (by omega), _, ixN_int ma.1 (by rw [List.length_map]; exact hx), k _ ⟨t.set (d.getD 142 0 % (t.length : Int)).toNat (t[(d.getD 142 0 % (t.length : Int)).toNat] + d.getD 143 0 % 3 - 1), by rw [List.length_set], ?_⟩⟩
    rw [← set_map]
    rfl
  obtain ⟨mv, hmv, rfl⟩ := h
  refine seq_join (fun σ => σ = [.val false (scr ns), .val false (eI d), .val false (.int (t.length)), .val false (.int (r)), .val false (.list (ls.map en)), .val false (.list (pl.map en)), .val false (eI t), s7, .val false (.list (er.map en)), .val false (.list (dms.map en)), s10, s11, s12, s13, .val false (.list (lm.map en)), s15, s16, s17, s18, s19, .val false (eI mv)]) (fun K k => ?_) (fun σ h => ?_)
  · exact ⟨mv, r, ls, pl, dms, er, by rw [hmv], by omega, by omega, by omega, by rw [hmv]; exact p2, by rw [hmv]; exact p5, p3, hnn, by rw [hmv]; exact d2, by rw [hmv]; exact hE, k _ rfl⟩
  subst h
  exact ⟨t, r, ls, pl, dms, er, rfl, by omega, by omega, by omega, p2, p5, p3, hnn, d2, hE, q⟩
end RD

set_option Elab.async false
set_option linter.all false
set_option maxRecDepth 100000
set_option maxHeartbeats 4000000
namespace K77
open PySem PySem.Spec L2 DL RD
abbrev pg : Program := PySem.Challenge.pw_keystuned_k77_safe_targets
def topS (i : Nat) : Stmt := pg.main.body.getD i (.Pass ⟨0, 0, 0, 0⟩)
abbrev st_within : Stmt := topS 1
theorem sc_within : FnScope ["width", "least", "most"] ["width", "least", "most"] (defScope st_within) := ⟨rfl, rfl, rfl, by decide +kernel, rfl, by decide +kernel, by decide +kernel⟩
abbrev st_meets : Stmt := topS 2
theorem sc_meets : FnScope ["demands", "tuning", "low", "high", "least", "most"] ["demands", "tuning"] (defScope st_meets) := ⟨rfl, rfl, rfl, by decide +kernel, rfl, by decide +kernel, by decide +kernel⟩
abbrev st_ways_of : Stmt := topS 4
theorem sc_ways_of : FnScope ["size", "plan", "ways", "string", "at", "source", "index"] ["size", "plan"] (defScope st_ways_of) := ⟨rfl, rfl, rfl, by decide +kernel, rfl, by decide +kernel, by decide +kernel⟩
abbrev st_parting : Stmt := topS 5
theorem sc_parting : FnScope ["first", "second", "at"] ["first", "second"] (defScope st_parting) := ⟨rfl, rfl, rfl, by decide +kernel, rfl, by decide +kernel, by decide +kernel⟩
abbrev st_pair_error : Stmt := topS 6
theorem sc_pair_error : FnScope ["size", "root", "listenings", "plan", "first", "second", "ways", "total", "at"] ["size", "root", "listenings", "plan", "first", "second"] (defScope st_pair_error) := ⟨rfl, rfl, rfl, by decide +kernel, rfl, by decide +kernel, by decide +kernel⟩
abbrev st_tuned_by_ear : Stmt := topS 7
theorem sc_tuned_by_ear : FnScope ["target", "root", "listenings", "plan", "slips", "pitches", "at", "string", "source", "index"] ["target", "root", "listenings", "plan", "slips"] (defScope st_tuned_by_ear) := ⟨rfl, rfl, rfl, by decide +kernel, rfl, by decide +kernel, by decide +kernel⟩
abbrev st_narrowed : Stmt := topS 9
theorem sc_narrowed : FnScope ["demand", "error", "low", "high", "least", "most"] ["demand", "error"] (defScope st_narrowed) := ⟨rfl, rfl, rfl, by decide +kernel, rfl, by decide +kernel, by decide +kernel⟩
abbrev st_safe_demands : Stmt := topS 10
theorem sc_safe_demands : FnScope ["size", "demands", "root", "listenings", "plan", "safe", "demand", "error"] ["size", "demands", "root", "listenings", "plan"] (defScope st_safe_demands) := ⟨rfl, rfl, rfl, by decide +kernel, rfl, by decide +kernel, by decide +kernel⟩
abbrev st_slips_apart : Stmt := topS 11
theorem sc_slips_apart : FnScope ["listenings", "plan", "low_way", "high_way", "sign", "slips", "at", "error"] ["listenings", "plan", "low_way", "high_way", "sign"] (defScope st_slips_apart) := ⟨rfl, rfl, rfl, by decide +kernel, rfl, by decide +kernel, by decide +kernel⟩
abbrev st_breaking_errors : Stmt := topS 12
theorem sc_breaking_errors : FnScope ["size", "demands", "root", "listenings", "plan", "target", "ways", "demand", "sign", "slips"] ["size", "demands", "root", "listenings", "plan", "target"] (defScope st_breaking_errors) := ⟨rfl, rfl, rfl, by decide +kernel, rfl, by decide +kernel, by decide +kernel⟩
abbrev st__law_draws : Stmt := topS 14
theorem sc__law_draws : FnScope ["script", "many", "found", "cell", "number", "k", "mixed", "base"] ["script", "many"] (defScope st__law_draws) := ⟨rfl, rfl, rfl, by decide +kernel, rfl, by decide +kernel, by decide +kernel⟩
abbrev st__law_cell : Stmt := topS 15
theorem sc__law_cell : FnScope ["draws", "k"] ["draws", "k"] (defScope st__law_cell) := ⟨rfl, rfl, rfl, by decide +kernel, rfl, by decide +kernel, by decide +kernel⟩
abbrev st__law_is_number : Stmt := topS 16
theorem sc__law_is_number : FnScope ["value"] ["value"] (defScope st__law_is_number) := ⟨rfl, rfl, rfl, by decide +kernel, rfl, by decide +kernel, by decide +kernel⟩
abbrev st__law_is_numbers : Stmt := topS 17
theorem sc__law_is_numbers : FnScope ["value", "size", "item"] ["value", "size"] (defScope st__law_is_numbers) := ⟨rfl, rfl, rfl, by decide +kernel, rfl, by decide +kernel, by decide +kernel⟩
abbrev st__law_name : Stmt := topS 18
theorem sc__law_name : FnScope ["draws", "size", "k"] ["draws", "size", "k"] (defScope st__law_name) := ⟨rfl, rfl, rfl, by decide +kernel, rfl, by decide +kernel, by decide +kernel⟩
abbrev st__law_house : Stmt := topS 19
theorem sc__law_house : FnScope ["draws", "size", "extra", "scale", "listenings", "k", "string", "source", "error", "first", "second", "by"] ["draws"] (defScope st__law_house) := ⟨rfl, rfl, rfl, by decide +kernel, rfl, by decide +kernel, by decide +kernel⟩
abbrev st__law_crossing : Stmt := topS 20
theorem sc__law_crossing : FnScope ["listenings", "inside", "items", "index", "first", "second", "error"] ["listenings", "inside"] (defScope st__law_crossing) := ⟨rfl, rfl, rfl, by decide +kernel, rfl, by decide +kernel, by decide +kernel⟩
abbrev st__law_grown : Stmt := topS 21
theorem sc__law_grown : FnScope ["draws", "size", "root", "listenings", "inside", "plan", "k", "items", "item"] ["draws", "size", "root", "listenings"] (defScope st__law_grown) := ⟨rfl, rfl, rfl, by decide +kernel, rfl, by decide +kernel, by decide +kernel⟩
abbrev st__law_meets : Stmt := topS 22
theorem sc__law_meets : FnScope ["demands", "tuning", "low", "high", "least", "most", "width"] ["demands", "tuning"] (defScope st__law_meets) := ⟨rfl, rfl, rfl, by decide +kernel, rfl, by decide +kernel, by decide +kernel⟩
abbrev st__law_heard : Stmt := topS 23
theorem sc__law_heard : FnScope ["target", "root", "plan", "slips", "pitches", "at", "string", "source", "index"] ["target", "root", "plan", "slips"] (defScope st__law_heard) := ⟨rfl, rfl, rfl, by decide +kernel, rfl, by decide +kernel, by decide +kernel⟩
abbrev st__law_pair_errors : Stmt := topS 24
theorem sc__law_pair_errors : FnScope ["size", "listenings", "plan", "ways", "string", "source", "index", "rows", "first", "row", "second", "apart"] ["size", "listenings", "plan"] (defScope st__law_pair_errors) := ⟨rfl, rfl, rfl, by decide +kernel, rfl, by decide +kernel, by decide +kernel⟩
abbrev st__law_demands : Stmt := topS 25
theorem sc__law_demands : FnScope ["draws", "size", "target", "errors", "spread", "demands", "k", "low", "high", "width", "least", "most", "choice"] ["draws", "size", "target", "errors", "spread"] (defScope st__law_demands) := ⟨rfl, rfl, rfl, by decide +kernel, rfl, by decide +kernel, by decide +kernel⟩
abbrev st__law_safe : Stmt := topS 26
theorem sc__law_safe : FnScope ["demands", "errors", "safe", "low", "high", "least", "most"] ["demands", "errors"] (defScope st__law_safe) := ⟨rfl, rfl, rfl, by decide +kernel, rfl, by decide +kernel, by decide +kernel⟩
abbrev st__law_is_same : Stmt := topS 27
theorem sc__law_is_same : FnScope ["told", "due", "k", "at"] ["told", "due"] (defScope st__law_is_same) := ⟨rfl, rfl, rfl, by decide +kernel, rfl, by decide +kernel, by decide +kernel⟩
abbrev st__law_breaks : Stmt := topS 28
theorem sc__law_breaks : FnScope ["demands", "root", "listenings", "plan", "target", "slips", "at"] ["demands", "root", "listenings", "plan", "target", "slips"] (defScope st__law_breaks) := ⟨rfl, rfl, rfl, by decide +kernel, rfl, by decide +kernel, by decide +kernel⟩
abbrev st__law_is_right : Stmt := topS 29
theorem sc__law_is_right : FnScope ["size", "demands", "root", "listenings", "plan", "target", "errors", "passed", "safe", "told"] ["size", "demands", "root", "listenings", "plan", "target", "errors"] (defScope st__law_is_right) := ⟨rfl, rfl, rfl, by decide +kernel, rfl, by decide +kernel, by decide +kernel⟩
abbrev st_law : Stmt := topS 30
theorem sc_law : FnScope ["script", "draws", "size", "root", "listenings", "plan", "target", "k", "errors", "demands", "turn", "slips", "at", "error", "limit", "low", "high", "least", "most", "beyond", "moved"] ["script"] (defScope st_law) := ⟨rfl, rfl, rfl, by decide +kernel, rfl, by decide +kernel, by decide +kernel⟩
structure Txt (K : PySem.W.Frag) (mg : Str → Option Value) where
  f_within : Addr
  d_within : FuncData
  F_within : Fun K "within" "within" st_within f_within d_within
  b_within : Binds K d_within ["width", "least", "most"] []
  g_within : mg "within" = some (.ref f_within)
  f_meets : Addr
  d_meets : FuncData
  F_meets : Fun K "meets" "meets" st_meets f_meets d_meets
  b_meets : Binds K d_meets ["demands", "tuning"] []
  g_meets : mg "meets" = some (.ref f_meets)
  f_ways_of : Addr
  d_ways_of : FuncData
  F_ways_of : Fun K "ways_of" "ways_of" st_ways_of f_ways_of d_ways_of
  b_ways_of : Binds K d_ways_of ["size", "plan"] []
  g_ways_of : mg "ways_of" = some (.ref f_ways_of)
  f_parting : Addr
  d_parting : FuncData
  F_parting : Fun K "parting" "parting" st_parting f_parting d_parting
  b_parting : Binds K d_parting ["first", "second"] []
  g_parting : mg "parting" = some (.ref f_parting)
  f_pair_error : Addr
  d_pair_error : FuncData
  F_pair_error : Fun K "pair_error" "pair_error" st_pair_error f_pair_error d_pair_error
  b_pair_error : Binds K d_pair_error ["size", "root", "listenings", "plan", "first", "second"] []
  g_pair_error : mg "pair_error" = some (.ref f_pair_error)
  f_tuned_by_ear : Addr
  d_tuned_by_ear : FuncData
  F_tuned_by_ear : Fun K "tuned_by_ear" "tuned_by_ear" st_tuned_by_ear f_tuned_by_ear d_tuned_by_ear
  b_tuned_by_ear : Binds K d_tuned_by_ear ["target", "root", "listenings", "plan", "slips"] []
  g_tuned_by_ear : mg "tuned_by_ear" = some (.ref f_tuned_by_ear)
  f_narrowed : Addr
  d_narrowed : FuncData
  F_narrowed : Fun K "narrowed" "narrowed" st_narrowed f_narrowed d_narrowed
  b_narrowed : Binds K d_narrowed ["demand", "error"] []
  g_narrowed : mg "narrowed" = some (.ref f_narrowed)
  f_safe_demands : Addr
  d_safe_demands : FuncData
  F_safe_demands : Fun K "safe_demands" "safe_demands" st_safe_demands f_safe_demands d_safe_demands
  b_safe_demands : Binds K d_safe_demands ["size", "demands", "root", "listenings", "plan"] []
  g_safe_demands : mg "safe_demands" = some (.ref f_safe_demands)
  f_slips_apart : Addr
  d_slips_apart : FuncData
  F_slips_apart : Fun K "slips_apart" "slips_apart" st_slips_apart f_slips_apart d_slips_apart
  b_slips_apart : Binds K d_slips_apart ["listenings", "plan", "low_way", "high_way", "sign"] []
  g_slips_apart : mg "slips_apart" = some (.ref f_slips_apart)
  f_breaking_errors : Addr
  d_breaking_errors : FuncData
  F_breaking_errors : Fun K "breaking_errors" "breaking_errors" st_breaking_errors f_breaking_errors d_breaking_errors
  b_breaking_errors : Binds K d_breaking_errors ["size", "demands", "root", "listenings", "plan", "target"] []
  g_breaking_errors : mg "breaking_errors" = some (.ref f_breaking_errors)
  f__law_draws : Addr
  d__law_draws : FuncData
  F__law_draws : Fun K "_law_draws" "_law_draws" st__law_draws f__law_draws d__law_draws
  b__law_draws : Binds K d__law_draws ["script", "many"] []
  g__law_draws : mg "_law_draws" = some (.ref f__law_draws)
  f__law_cell : Addr
  d__law_cell : FuncData
  F__law_cell : Fun K "_law_cell" "_law_cell" st__law_cell f__law_cell d__law_cell
  b__law_cell : Binds K d__law_cell ["draws", "k"] []
  g__law_cell : mg "_law_cell" = some (.ref f__law_cell)
  f__law_is_number : Addr
  d__law_is_number : FuncData
  F__law_is_number : Fun K "_law_is_number" "_law_is_number" st__law_is_number f__law_is_number d__law_is_number
  b__law_is_number : Binds K d__law_is_number ["value"] []
  g__law_is_number : mg "_law_is_number" = some (.ref f__law_is_number)
  f__law_is_numbers : Addr
  d__law_is_numbers : FuncData
  F__law_is_numbers : Fun K "_law_is_numbers" "_law_is_numbers" st__law_is_numbers f__law_is_numbers d__law_is_numbers
  b__law_is_numbers : Binds K d__law_is_numbers ["value", "size"] []
  g__law_is_numbers : mg "_law_is_numbers" = some (.ref f__law_is_numbers)
  f__law_name : Addr
  d__law_name : FuncData
  F__law_name : Fun K "_law_name" "_law_name" st__law_name f__law_name d__law_name
  b__law_name : Binds K d__law_name ["draws", "size", "k"] []
  g__law_name : mg "_law_name" = some (.ref f__law_name)
  f__law_house : Addr
  d__law_house : FuncData
  F__law_house : Fun K "_law_house" "_law_house" st__law_house f__law_house d__law_house
  b__law_house : Binds K d__law_house ["draws"] []
  g__law_house : mg "_law_house" = some (.ref f__law_house)
  f__law_crossing : Addr
  d__law_crossing : FuncData
  F__law_crossing : Fun K "_law_crossing" "_law_crossing" st__law_crossing f__law_crossing d__law_crossing
  b__law_crossing : Binds K d__law_crossing ["listenings", "inside"] []
  g__law_crossing : mg "_law_crossing" = some (.ref f__law_crossing)
  f__law_grown : Addr
  d__law_grown : FuncData
  F__law_grown : Fun K "_law_grown" "_law_grown" st__law_grown f__law_grown d__law_grown
  b__law_grown : Binds K d__law_grown ["draws", "size", "root", "listenings"] []
  g__law_grown : mg "_law_grown" = some (.ref f__law_grown)
  f__law_meets : Addr
  d__law_meets : FuncData
  F__law_meets : Fun K "_law_meets" "_law_meets" st__law_meets f__law_meets d__law_meets
  b__law_meets : Binds K d__law_meets ["demands", "tuning"] []
  g__law_meets : mg "_law_meets" = some (.ref f__law_meets)
  f__law_heard : Addr
  d__law_heard : FuncData
  F__law_heard : Fun K "_law_heard" "_law_heard" st__law_heard f__law_heard d__law_heard
  b__law_heard : Binds K d__law_heard ["target", "root", "plan", "slips"] []
  g__law_heard : mg "_law_heard" = some (.ref f__law_heard)
  f__law_pair_errors : Addr
  d__law_pair_errors : FuncData
  F__law_pair_errors : Fun K "_law_pair_errors" "_law_pair_errors" st__law_pair_errors f__law_pair_errors d__law_pair_errors
  b__law_pair_errors : Binds K d__law_pair_errors ["size", "listenings", "plan"] []
  g__law_pair_errors : mg "_law_pair_errors" = some (.ref f__law_pair_errors)
  f__law_demands : Addr
  d__law_demands : FuncData
  F__law_demands : Fun K "_law_demands" "_law_demands" st__law_demands f__law_demands d__law_demands
  b__law_demands : Binds K d__law_demands ["draws", "size", "target", "errors", "spread"] []
  g__law_demands : mg "_law_demands" = some (.ref f__law_demands)
  f__law_safe : Addr
  d__law_safe : FuncData
  F__law_safe : Fun K "_law_safe" "_law_safe" st__law_safe f__law_safe d__law_safe
  b__law_safe : Binds K d__law_safe ["demands", "errors"] []
  g__law_safe : mg "_law_safe" = some (.ref f__law_safe)
  f__law_is_same : Addr
  d__law_is_same : FuncData
  F__law_is_same : Fun K "_law_is_same" "_law_is_same" st__law_is_same f__law_is_same d__law_is_same
  b__law_is_same : Binds K d__law_is_same ["told", "due"] []
  g__law_is_same : mg "_law_is_same" = some (.ref f__law_is_same)
  f__law_breaks : Addr
  d__law_breaks : FuncData
  F__law_breaks : Fun K "_law_breaks" "_law_breaks" st__law_breaks f__law_breaks d__law_breaks
  b__law_breaks : Binds K d__law_breaks ["demands", "root", "listenings", "plan", "target", "slips"] []
  g__law_breaks : mg "_law_breaks" = some (.ref f__law_breaks)
  f__law_is_right : Addr
  d__law_is_right : FuncData
  F__law_is_right : Fun K "_law_is_right" "_law_is_right" st__law_is_right f__law_is_right d__law_is_right
  b__law_is_right : Binds K d__law_is_right ["size", "demands", "root", "listenings", "plan", "target", "errors"] []
  g__law_is_right : mg "_law_is_right" = some (.ref f__law_is_right)
  f_law : Addr
  d_law : FuncData
  F_law : Fun K "law" "law" st_law f_law d_law
  b_law : Binds K d_law ["script"] []
  g_law : mg "law" = some (.ref f_law)
  z_abs : mg "abs" = none
  z_bool : mg "bool" = none
  z_int : mg "int" = none
  z_isinstance : mg "isinstance" = none
  z_len : mg "len" = none
  z_list : mg "list" = none
  z_range : mg "range" = none
  z_sum : mg "sum" = none
  z_tuple : mg "tuple" = none
section
variable {P : Program} {w : World} {K : PySem.W.Frag} {mg : Str → Option Value} {base : Heap}
theorem wk_within (T : Txt K mg) {S : DSp} (m : MonoS S) (kp : Keeps 3 (rd_within) S) : FnD P w K mg base 1 T.f_within T.d_within ["width", "least", "most"] S := by
  refine fn_d (N := ["width", "least", "most"]) T.F_within sc_within (by decide) m kp fun cdv A outer s H E hr => ?_
  have nd : (["width", "least", "most"] : List Str).Nodup := sc_within.nd
  exact (sd_cons (sd_if (WD.td (wd_and (td_isNot (ed_var 1) ed_non) (wd_and1 (td_lt (ed_var 0) (ed_var 1))))) (sd_one (sd_ret ed_bl)) sd_nil)
  (sd_one (sd_ret (ed_or (ed_is (ed_var 2) ed_non) (ed_one (ed_le (ed_var 0) (ed_var 2)))))))
theorem wk_meets (T : Txt K mg) {S_within : DSp} (G_within : FnD P w K mg base 1 T.f_within T.d_within ["width", "least", "most"] S_within) {S : DSp} (m : MonoS S) (kp : Keeps 6 (rd_meets S_within) S) : FnD P w K mg base 2 T.f_meets T.d_meets ["demands", "tuning"] S := by
  refine fn_d (N := ["demands", "tuning", "low", "high", "least", "most"]) T.F_meets sc_meets (by decide) m kp fun cdv A outer s H E hr => ?_
  have nd : (["demands", "tuning", "low", "high", "least", "most"] : List Str).Nodup := sc_meets.nd
  have C_within : FnD P w K mg base 1 T.f_within T.d_within ["width", "least", "most"] S_within := G_within.up (by decide)
  exact (sd_cons (sd_forL (vs := [2, 3, 4, 5]) PassesOwn.never rfl (ed_var 0) (gd_tup rfl (gds_cons (gd_name 2 nd) (gds_cons (gd_name 3 nd) (gds_cons (gd_name 4 nd) (gds_cons (gd_name 5 nd) gds_nil))))) (sd_one (sd_if (td_not (td_val (ed_call C_within hr (by rfl) T.g_within T.F_within.kp T.b_within (ad_cons (ed_sub (ed_ix (ed_var 1) (ed_var 3)) (ed_ix (ed_var 1) (ed_var 2))) (ad_cons (ed_var 4) (ad_cons (ed_var 5) ad_nil)))))) (sd_one (sd_ret ed_bl)) sd_nil)))
  (sd_one (sd_ret ed_bl)))
theorem wk_ways_of (T : Txt K mg) {S : DSp} (m : MonoS S) (kp : Keeps 7 (rd_ways_of) S) : FnD P w K mg base 1 T.f_ways_of T.d_ways_of ["size", "plan"] S := by
  refine fn_d (N := ["size", "plan", "ways", "string", "at", "source", "index"]) T.F_ways_of sc_ways_of (by decide) m kp fun cdv A outer s H E hr => ?_
  have nd : (["size", "plan", "ways", "string", "at", "source", "index"] : List Str).Nodup := sc_ways_of.nd
  exact (sd_cons (sd_ownLc 2 [("string", 3)] rfl nd (pid_R1 false (by rfl) T.z_range (ed_var 0)) (blkOk_by (own := [("string", 3)]) (N := ["size", "plan", "ways", "string", "at", "source", "index"]) (sc := defScope st_ways_of) (by decide +kernel)) (fun _ _ _ _ _ => (gd_name 3 nd)) (fun _ _ _ _ _ => ptd_nil) (fun _ _ _ _ _ => (ed_lst ad_nil)) (sw_true rfl rfl rfl (by decide +kernel)))
  (sd_cons (sd_forR1 (vs := [4]) PassesOwn.never rfl (by rfl) T.z_range (ed_len (by rfl) T.z_len (ed_var 1)) (gd_name 4 nd) (sd_cons (sd_asg (vs := [3, 5, 6]) (ed_ix (ed_var 1) (ed_var 4)) (gd_tup rfl (gds_cons (gd_name 3 nd) (gds_cons (gd_name 5 nd) (gds_cons (gd_name 6 nd) gds_nil)))))
  (sd_one (sd_setIx 2 (ed_add (ed_ix (ed_var 2) (ed_var 5)) (ed_lst (ad_cons (ed_var 4) ad_nil))) (pv 2) (ed_var 3)))))
  (sd_one (sd_ret (ed_var 2)))))
theorem wk_parting (T : Txt K mg) {S : DSp} (m : MonoS S) (kp : Keeps 3 (rd_parting) S) : FnD P w K mg base 1 T.f_parting T.d_parting ["first", "second"] S := by
  refine fn_d (N := ["first", "second", "at"]) T.F_parting sc_parting (by decide) m kp fun cdv A outer s H E hr => ?_
  have nd : (["first", "second", "at"] : List Str).Nodup := sc_parting.nd
  exact (sd_one (sd_ret (ed_add (ed_lc [("at", 2)] rfl nd (pid_L false (ed_var 0)) (blkOk_by (own := [("at", 2)]) (N := ["first", "second", "at"]) (sc := defScope st_parting) (by decide +kernel)) (fun _ _ _ _ _ => (gd_name 2 nd)) (fun _ _ _ _ _ => (ptd_one (td_notIn (hu65 hr) (ed_var 2) (ed_var 1)))) (fun _ _ _ _ _ => (ed_var 2))) (ed_lc [("at", 2)] rfl nd (pid_L false (ed_var 1)) (blkOk_by (own := [("at", 2)]) (N := ["first", "second", "at"]) (sc := defScope st_parting) (by decide +kernel)) (fun _ _ _ _ _ => (gd_name 2 nd)) (fun _ _ _ _ _ => (ptd_one (td_notIn (hu65 hr) (ed_var 2) (ed_var 0)))) (fun _ _ _ _ _ => (ed_var 2))))))
theorem wk_pair_error (T : Txt K mg) {S_ways_of : DSp} (G_ways_of : FnD P w K mg base 1 T.f_ways_of T.d_ways_of ["size", "plan"] S_ways_of) {S_parting : DSp} (G_parting : FnD P w K mg base 1 T.f_parting T.d_parting ["first", "second"] S_parting) {S : DSp} (m : MonoS S) (kp : Keeps 9 (rd_pair_error S_ways_of S_parting) S) : FnD P w K mg base 2 T.f_pair_error T.d_pair_error ["size", "root", "listenings", "plan", "first", "second"] S := by
  refine fn_d (N := ["size", "root", "listenings", "plan", "first", "second", "ways", "total", "at"]) T.F_pair_error sc_pair_error (by decide) m kp fun cdv A outer s H E hr => ?_
  have nd : (["size", "root", "listenings", "plan", "first", "second", "ways", "total", "at"] : List Str).Nodup := sc_pair_error.nd
  have C_ways_of : FnD P w K mg base 1 T.f_ways_of T.d_ways_of ["size", "plan"] S_ways_of := G_ways_of.up (by decide)
  have C_parting : FnD P w K mg base 1 T.f_parting T.d_parting ["first", "second"] S_parting := G_parting.up (by decide)
  exact (sd_cons (sd_set 6 nd (ed_call C_ways_of hr (by rfl) T.g_ways_of T.F_ways_of.kp T.b_ways_of (ad_cons (ed_var 0) (ad_cons (ed_var 3) ad_nil))))
  (sd_cons (sd_set 7 nd ed_int)
  (sd_cons (sd_forL (vs := [8]) PassesOwn.never rfl (ed_call C_parting hr (by rfl) T.g_parting T.F_parting.kp T.b_parting (ad_cons (ed_ix (ed_var 6) (ed_var 4)) (ad_cons (ed_ix (ed_var 6) (ed_var 5)) ad_nil))) (gd_name 8 nd) (sd_one (sd_set 7 nd (ed_add (ed_var 7) (ed_ix (ed_ix (ed_var 2) (ed_ix (ed_ix (ed_var 3) (ed_var 8)) ed_int)) ed_int)))))
  (sd_one (sd_ret (ed_var 7))))))
theorem wk_tuned_by_ear (T : Txt K mg) {S : DSp} (m : MonoS S) (kp : Keeps 10 (rd_tuned_by_ear) S) : FnD P w K mg base 1 T.f_tuned_by_ear T.d_tuned_by_ear ["target", "root", "listenings", "plan", "slips"] S := by
  refine fn_d (N := ["target", "root", "listenings", "plan", "slips", "pitches", "at", "string", "source", "index"]) T.F_tuned_by_ear sc_tuned_by_ear (by decide) m kp fun cdv A outer s H E hr => ?_
  have nd : (["target", "root", "listenings", "plan", "slips", "pitches", "at", "string", "source", "index"] : List Str).Nodup := sc_tuned_by_ear.nd
  exact (sd_cons (sd_own 5 nd (ed_toList (by rfl) T.z_list (ed_var 0)))
  (sd_cons (sd_forR1 (vs := [6]) PassesOwn.never rfl (by rfl) T.z_range (ed_len (by rfl) T.z_len (ed_var 3)) (gd_name 6 nd) (sd_cons (sd_asg (vs := [7, 8, 9]) (ed_ix (ed_var 3) (ed_var 6)) (gd_tup rfl (gds_cons (gd_name 7 nd) (gds_cons (gd_name 8 nd) (gds_cons (gd_name 9 nd) gds_nil)))))
  (sd_one (sd_setIx 5 (ed_add (ed_sub (ed_add (ed_ix (ed_var 5) (ed_var 8)) (ed_ix (ed_var 0) (ed_var 7))) (ed_ix (ed_var 0) (ed_var 8))) (ed_ix (ed_var 4) (ed_var 6))) (pv 5) (ed_var 7)))))
  (sd_one (sd_ret (ed_var 5)))))
theorem wk_narrowed (T : Txt K mg) {S : DSp} (m : MonoS S) (kp : Keeps 6 (rd_narrowed) S) : FnD P w K mg base 1 T.f_narrowed T.d_narrowed ["demand", "error"] S := by
  refine fn_d (N := ["demand", "error", "low", "high", "least", "most"]) T.F_narrowed sc_narrowed (by decide) m kp fun cdv A outer s H E hr => ?_
  have nd : (["demand", "error", "low", "high", "least", "most"] : List Str).Nodup := sc_narrowed.nd
  exact (sd_cons (sd_asg (vs := [2, 3, 4, 5]) (ed_var 0) (gd_tup rfl (gds_cons (gd_name 2 nd) (gds_cons (gd_name 3 nd) (gds_cons (gd_name 4 nd) (gds_cons (gd_name 5 nd) gds_nil))))))
  (sd_cons (sd_if (td_isNot (ed_var 4) ed_non) (sd_one (sd_set 4 nd (ed_add (ed_var 4) (ed_var 1)))) sd_nil)
  (sd_cons (sd_if (td_isNot (ed_var 5) ed_non) (sd_one (sd_set 5 nd (ed_sub (ed_var 5) (ed_var 1)))) sd_nil)
  (sd_one (sd_ret (ed_tup (ad_cons (ed_var 2) (ad_cons (ed_var 3) (ad_cons (ed_var 4) (ad_cons (ed_var 5) ad_nil))))))))))
theorem wk_safe_demands (T : Txt K mg) {S_pair_error : DSp} (G_pair_error : FnD P w K mg base 2 T.f_pair_error T.d_pair_error ["size", "root", "listenings", "plan", "first", "second"] S_pair_error) {S_narrowed : DSp} (G_narrowed : FnD P w K mg base 1 T.f_narrowed T.d_narrowed ["demand", "error"] S_narrowed) {S : DSp} (m : MonoS S) (kp : Keeps 8 (rd_safe_demands S_pair_error S_narrowed) S) : FnD P w K mg base 3 T.f_safe_demands T.d_safe_demands ["size", "demands", "root", "listenings", "plan"] S := by
  refine fn_d (N := ["size", "demands", "root", "listenings", "plan", "safe", "demand", "error"]) T.F_safe_demands sc_safe_demands (by decide) m kp fun cdv A outer s H E hr => ?_
  have nd : (["size", "demands", "root", "listenings", "plan", "safe", "demand", "error"] : List Str).Nodup := sc_safe_demands.nd
  have C_pair_error : FnD P w K mg base 2 T.f_pair_error T.d_pair_error ["size", "root", "listenings", "plan", "first", "second"] S_pair_error := G_pair_error.up (by decide)
  have C_narrowed : FnD P w K mg base 2 T.f_narrowed T.d_narrowed ["demand", "error"] S_narrowed := G_narrowed.up (by decide)
  exact (sd_cons (sd_own 5 nd (ed_lst ad_nil))
  (sd_cons (sd_forL (vs := [6]) PassesOwn.never rfl (ed_var 1) (gd_name 6 nd) (sd_cons (sd_set 7 nd (ed_call C_pair_error hr (by rfl) T.g_pair_error T.F_pair_error.kp T.b_pair_error (ad_cons (ed_var 0) (ad_cons (ed_var 2) (ad_cons (ed_var 3) (ad_cons (ed_var 4) (ad_cons (ed_ix (ed_var 6) ed_int) (ad_cons (ed_ix (ed_var 6) ed_int) ad_nil))))))))
  (sd_one (sd_app 5 (pv 5) (ed_call C_narrowed hr (by rfl) T.g_narrowed T.F_narrowed.kp T.b_narrowed (ad_cons (ed_var 6) (ad_cons (ed_var 7) ad_nil)))))))
  (sd_one (sd_ret (ed_var 5)))))
theorem wk_slips_apart (T : Txt K mg) {S : DSp} (m : MonoS S) (kp : Keeps 8 (rd_slips_apart) S) : FnD P w K mg base 1 T.f_slips_apart T.d_slips_apart ["listenings", "plan", "low_way", "high_way", "sign"] S := by
  refine fn_d (N := ["listenings", "plan", "low_way", "high_way", "sign", "slips", "at", "error"]) T.F_slips_apart sc_slips_apart (by decide) m kp fun cdv A outer s H E hr => ?_
  have nd : (["listenings", "plan", "low_way", "high_way", "sign", "slips", "at", "error"] : List Str).Nodup := sc_slips_apart.nd
  exact (sd_cons (sd_own 5 nd (ed_mul (ed_lst (ad_cons ed_int ad_nil)) (ed_len (by rfl) T.z_len (ed_var 1))))
  (sd_cons (sd_forR1 (vs := [6]) PassesOwn.never rfl (by rfl) T.z_range (ed_len (by rfl) T.z_len (ed_var 1)) (gd_name 6 nd) (sd_cons (sd_set 7 nd (ed_ix (ed_ix (ed_var 0) (ed_ix (ed_ix (ed_var 1) (ed_var 6)) ed_int)) ed_int))
  (sd_cons (sd_if (WD.td (wd_and (td_in (hu65 hr) (ed_var 6) (ed_var 3)) (wd_and1 (td_notIn (hu65 hr) (ed_var 6) (ed_var 2))))) (sd_one (sd_setIx 5 (ed_mul (ed_var 4) (ed_var 7)) (pv 5) (ed_var 6))) sd_nil)
  (sd_one (sd_if (WD.td (wd_and (td_in (hu65 hr) (ed_var 6) (ed_var 2)) (wd_and1 (td_notIn (hu65 hr) (ed_var 6) (ed_var 3))))) (sd_one (sd_setIx 5 (ed_mul (ed_neg (ed_var 4)) (ed_var 7)) (pv 5) (ed_var 6))) sd_nil)))))
  (sd_one (sd_ret (ed_var 5)))))
theorem wk_breaking_errors (T : Txt K mg) {S_ways_of : DSp} (G_ways_of : FnD P w K mg base 1 T.f_ways_of T.d_ways_of ["size", "plan"] S_ways_of) {S_slips_apart : DSp} (G_slips_apart : FnD P w K mg base 1 T.f_slips_apart T.d_slips_apart ["listenings", "plan", "low_way", "high_way", "sign"] S_slips_apart) {S_meets : DSp} (G_meets : FnD P w K mg base 2 T.f_meets T.d_meets ["demands", "tuning"] S_meets) {S_tuned_by_ear : DSp} (G_tuned_by_ear : FnD P w K mg base 1 T.f_tuned_by_ear T.d_tuned_by_ear ["target", "root", "listenings", "plan", "slips"] S_tuned_by_ear) {S : DSp} (m : MonoS S) (kp : Keeps 10 (rd_breaking_errors S_ways_of S_slips_apart S_meets S_tuned_by_ear) S) : FnD P w K mg base 3 T.f_breaking_errors T.d_breaking_errors ["size", "demands", "root", "listenings", "plan", "target"] S := by
  refine fn_d (N := ["size", "demands", "root", "listenings", "plan", "target", "ways", "demand", "sign", "slips"]) T.F_breaking_errors sc_breaking_errors (by decide) m kp fun cdv A outer s H E hr => ?_
  have nd : (["size", "demands", "root", "listenings", "plan", "target", "ways", "demand", "sign", "slips"] : List Str).Nodup := sc_breaking_errors.nd
  have C_ways_of : FnD P w K mg base 2 T.f_ways_of T.d_ways_of ["size", "plan"] S_ways_of := G_ways_of.up (by decide)
  have C_slips_apart : FnD P w K mg base 2 T.f_slips_apart T.d_slips_apart ["listenings", "plan", "low_way", "high_way", "sign"] S_slips_apart := G_slips_apart.up (by decide)
  have C_meets : FnD P w K mg base 2 T.f_meets T.d_meets ["demands", "tuning"] S_meets := G_meets.up (by decide)
  have C_tuned_by_ear : FnD P w K mg base 2 T.f_tuned_by_ear T.d_tuned_by_ear ["target", "root", "listenings", "plan", "slips"] S_tuned_by_ear := G_tuned_by_ear.up (by decide)
  exact (sd_cons (sd_set 6 nd (ed_call C_ways_of hr (by rfl) T.g_ways_of T.F_ways_of.kp T.b_ways_of (ad_cons (ed_var 0) (ad_cons (ed_var 4) ad_nil))))
  (sd_cons (sd_forL (vs := [7]) PassesOwn.never rfl (ed_var 1) (gd_name 7 nd) (sd_one (sd_forT (vs := [8]) PassesOwn.never rfl (ed_tup (ad_cons ed_int (ad_cons (ed_neg ed_int) ad_nil))) (gd_name 8 nd) (sd_cons (sd_set 9 nd (ed_call C_slips_apart hr (by rfl) T.g_slips_apart T.F_slips_apart.kp T.b_slips_apart (ad_cons (ed_var 3) (ad_cons (ed_var 4) (ad_cons (ed_ix (ed_var 6) (ed_ix (ed_var 7) ed_int)) (ad_cons (ed_ix (ed_var 6) (ed_ix (ed_var 7) ed_int)) (ad_cons (ed_var 8) ad_nil)))))))
  (sd_one (sd_if (td_not (td_val (ed_call C_meets hr (by rfl) T.g_meets T.F_meets.kp T.b_meets (ad_cons (ed_lst (ad_cons (ed_var 7) ad_nil)) (ad_cons (ed_call C_tuned_by_ear hr (by rfl) T.g_tuned_by_ear T.F_tuned_by_ear.kp T.b_tuned_by_ear (ad_cons (ed_var 5) (ad_cons (ed_var 2) (ad_cons (ed_var 3) (ad_cons (ed_var 4) (ad_cons (ed_var 9) ad_nil)))))) ad_nil))))) (sd_one (sd_ret (ed_var 9))) sd_nil))))))
  (sd_one (sd_ret ed_non))))
theorem wk__law_draws (T : Txt K mg) {S : DSp} (m : MonoS S) (kp : Keeps 8 (rd__law_draws) S) : FnD P w K mg base 1 T.f__law_draws T.d__law_draws ["script", "many"] S := by
  refine fn_d (N := ["script", "many", "found", "cell", "number", "k", "mixed", "base"]) T.F__law_draws sc__law_draws (by decide) m kp fun cdv A outer s H E hr => ?_
  have nd : (["script", "many", "found", "cell", "number", "k", "mixed", "base"] : List Str).Nodup := sc__law_draws.nd
  exact (sd_cons (sd_own 2 nd (ed_lst ad_nil))
  (sd_cons (sd_forL (vs := [3]) PassesOwn.never rfl (ed_sl (ed_var 0) od_none (od_some ed_int)) (gd_name 3 nd) (sd_cons (sd_set 4 nd (ed_abs (by rfl) T.z_abs (ed_toInt (by rfl) T.z_int (ed_var 3))))
  (sd_one (sd_if (td_ge (ed_var 4) (ed_pow ed_int ed_int)) (sd_one (sd_forR1 (vs := [5]) PassesOwn.never rfl (by rfl) T.z_range ed_int (gd_name 5 nd) (sd_one (sd_if (td_gt (ed_var 4) ed_int) (sd_cons (sd_app 2 (pv 2) (ed_mod (ed_var 4) ed_int))
  (sd_one (sd_set 4 nd (ed_div (ed_var 4) ed_int)))) sd_nil)))) (sd_cons (sd_set 6 nd (ed_mod (ed_add (ed_add (ed_mul (ed_var 4) ed_int) (ed_mul ed_int (ed_len (by rfl) T.z_len (ed_var 2)))) ed_int) ed_int))
  (sd_one (sd_forR1 (vs := [5]) PassesOwn.never rfl (by rfl) T.z_range ed_int (gd_name 5 nd) (sd_cons (sd_set 6 nd (ed_mod (ed_add (ed_add (ed_add (ed_mul (ed_var 6) ed_int) (ed_div (ed_var 6) ed_int)) (ed_mul ed_int (ed_var 5))) ed_int) ed_int))
  (sd_one (sd_app 2 (pv 2) (ed_mod (ed_div (ed_var 6) ed_int) ed_int)))))))))))
  (sd_cons (sd_forR1 (vs := [5]) PassesOwn.never rfl (by rfl) T.z_range (ed_var 1) (gd_name 5 nd) (sd_one (sd_if (td_lt (ed_len (by rfl) T.z_len (ed_var 2)) (ed_var 1)) (sd_cons (sd_set 7 nd ed_int)
  (sd_cons (sd_if (td_gt (ed_len (by rfl) T.z_len (ed_var 2)) ed_int) (sd_one (sd_set 7 nd (ed_ix (ed_var 2) (ed_mod (ed_var 5) (ed_len (by rfl) T.z_len (ed_var 2)))))) sd_nil)
  (sd_one (sd_app 2 (pv 2) (ed_mod (ed_add (ed_add (ed_mul (ed_var 7) ed_int) (ed_mul ed_int (ed_len (by rfl) T.z_len (ed_var 2)))) ed_int) ed_int))))) sd_nil)))
  (sd_one (sd_ret (ed_sl (ed_var 2) od_none (od_some (ed_var 1))))))))
theorem wk__law_cell (T : Txt K mg) {S : DSp} (m : MonoS S) (kp : Keeps 2 (rd__law_cell) S) : FnD P w K mg base 1 T.f__law_cell T.d__law_cell ["draws", "k"] S := by
  refine fn_d (N := ["draws", "k"]) T.F__law_cell sc__law_cell (by decide) m kp fun cdv A outer s H E hr => ?_
  have nd : (["draws", "k"] : List Str).Nodup := sc__law_cell.nd
  exact (sd_cons (sd_if (td_lt (ed_var 1) (ed_len (by rfl) T.z_len (ed_var 0))) (sd_one (sd_ret (ed_ix (ed_var 0) (ed_var 1)))) sd_nil)
  (sd_one (sd_ret (ed_mod (ed_add (ed_add (ed_mul (ed_ix (ed_var 0) (ed_mod (ed_var 1) (ed_len (by rfl) T.z_len (ed_var 0)))) ed_int) (ed_mul (ed_ix (ed_var 0) (ed_mod (ed_mul ed_int (ed_var 1)) (ed_len (by rfl) T.z_len (ed_var 0)))) ed_int)) (ed_mul ed_int (ed_var 1))) ed_int))))
theorem wk__law_is_number (T : Txt K mg) {S : DSp} (m : MonoS S) (kp : Keeps 1 (rd__law_is_number) S) : FnD P w K mg base 1 T.f__law_is_number T.d__law_is_number ["value"] S := by
  refine fn_d (N := ["value"]) T.F__law_is_number sc__law_is_number (by decide) m kp fun cdv A outer s H E hr => ?_
  have nd : (["value"] : List Str).Nodup := sc__law_is_number.nd
  exact (sd_one (sd_ret (ed_and (ed_isInt (by rfl) T.z_isinstance (by rfl) T.z_int (ed_var 0)) (ed_one (ed_not (ed_isBool (by rfl) T.z_isinstance (by rfl) T.z_bool (ed_var 0)))))))
theorem wk__law_is_numbers (T : Txt K mg) {S__law_is_number : DSp} (G__law_is_number : FnD P w K mg base 1 T.f__law_is_number T.d__law_is_number ["value"] S__law_is_number) {S : DSp} (m : MonoS S) (kp : Keeps 3 (rd__law_is_numbers_6e0e S__law_is_number) S) : FnD P w K mg base 2 T.f__law_is_numbers T.d__law_is_numbers ["value", "size"] S := by
  refine fn_d (N := ["value", "size", "item"]) T.F__law_is_numbers sc__law_is_numbers (by decide) m kp fun cdv A outer s H E hr => ?_
  have nd : (["value", "size", "item"] : List Str).Nodup := sc__law_is_numbers.nd
  have C__law_is_number : FnD P w K mg base 1 T.f__law_is_number T.d__law_is_number ["value"] S__law_is_number := G__law_is_number.up (by decide)
  exact (sd_cons (sd_if (WD.td (wd_or (td_not (td_val (ed_isList (by rfl) T.z_isinstance (by rfl) T.z_list (ed_var 0)))) (wd_or1 (td_ne hr.units (ed_len (by rfl) T.z_len (ed_var 0)) (ed_var 1))))) (sd_one (sd_ret ed_bl)) sd_nil)
  (sd_cons (sd_forL (vs := [2]) PassesOwn.never rfl (ed_var 0) (gd_name 2 nd) (sd_one (sd_if (td_not (td_val (ed_call C__law_is_number hr (by rfl) T.g__law_is_number T.F__law_is_number.kp T.b__law_is_number (ad_cons (ed_var 2) ad_nil)))) (sd_one (sd_ret ed_bl)) sd_nil)))
  (sd_one (sd_ret ed_bl))))
theorem wk__law_name (T : Txt K mg) {S : DSp} (m : MonoS S) (kp : Keeps 3 (rd__law_name) S) : FnD P w K mg base 1 T.f__law_name T.d__law_name ["draws", "size", "k"] S := by
  refine fn_d (N := ["draws", "size", "k"]) T.F__law_name sc__law_name (by decide) m kp fun cdv A outer s H E hr => ?_
  have nd : (["draws", "size", "k"] : List Str).Nodup := sc__law_name.nd
  exact (sd_cons (sd_if (td_eq hr.units (ed_mod (ed_div (ed_ix (ed_var 0) ed_int) ed_int) ed_int) ed_int) (sd_one (sd_ret (ed_mod (ed_add (ed_ix (ed_var 0) ed_int) (ed_var 2)) (ed_var 1)))) sd_nil)
  (sd_one (sd_ret (ed_mod (ed_sub (ed_ix (ed_var 0) ed_int) (ed_var 2)) (ed_var 1)))))
theorem wk__law_house (T : Txt K mg) {S__law_name : DSp} (G__law_name : FnD P w K mg base 1 T.f__law_name T.d__law_name ["draws", "size", "k"] S__law_name) {S__law_cell : DSp} (G__law_cell : FnD P w K mg base 1 T.f__law_cell T.d__law_cell ["draws", "k"] S__law_cell) {S : DSp} (m : MonoS S) (kp : Keeps 12 (rd__law_house_6af9 S__law_name S__law_cell) S) : FnD P w K mg base 2 T.f__law_house T.d__law_house ["draws"] S := by
  refine fn_d (N := ["draws", "size", "extra", "scale", "listenings", "k", "string", "source", "error", "first", "second", "by"]) T.F__law_house sc__law_house (by decide) m kp fun cdv A outer s H E hr => ?_
  have nd : (["draws", "size", "extra", "scale", "listenings", "k", "string", "source", "error", "first", "second", "by"] : List Str).Nodup := sc__law_house.nd
  have C__law_name : FnD P w K mg base 1 T.f__law_name T.d__law_name ["draws", "size", "k"] S__law_name := G__law_name.up (by decide)
  have C__law_cell : FnD P w K mg base 1 T.f__law_cell T.d__law_cell ["draws", "k"] S__law_cell := G__law_cell.up (by decide)
  exact (sd_cons (sd_set 1 nd (ed_add ed_int (ed_mod (ed_ix (ed_var 0) ed_int) ed_int)))
  (sd_cons (sd_set 2 nd (ed_mod (ed_div (ed_ix (ed_var 0) ed_int) ed_int) ed_int))
  (sd_cons (sd_if (td_eq hr.units (ed_mod (ed_ix (ed_var 0) ed_int) ed_int) ed_int) (sd_cons (sd_set 1 nd (ed_add ed_int (ed_mod (ed_div (ed_ix (ed_var 0) ed_int) ed_int) ed_int)))
  (sd_one (sd_set 2 nd (ed_div (ed_var 1) ed_int)))) sd_nil)
  (sd_cons (sd_set 3 nd ed_int)
  (sd_cons (sd_if (td_eq hr.units (ed_mod (ed_ix (ed_var 0) ed_int) ed_int) ed_int) (sd_one (sd_set 3 nd (ed_add (ed_pow ed_int ed_int) (ed_ix (ed_var 0) ed_int)))) sd_nil)
  (sd_cons (sd_own 4 nd (ed_lst ad_nil))
  (sd_cons (sd_forR2 (vs := [5]) PassesOwn.never rfl (by rfl) T.z_range ed_int (ed_var 1) (gd_name 5 nd) (sd_cons (sd_set 6 nd (ed_call C__law_name hr (by rfl) T.g__law_name T.F__law_name.kp T.b__law_name (ad_cons (ed_var 0) (ad_cons (ed_var 1) (ad_cons (ed_var 5) ad_nil)))))
  (sd_cons (sd_set 7 nd (ed_call C__law_name hr (by rfl) T.g__law_name T.F__law_name.kp T.b__law_name (ad_cons (ed_var 0) (ad_cons (ed_var 1) (ad_cons (ed_mod (ed_call C__law_cell hr (by rfl) T.g__law_cell T.F__law_cell.kp T.b__law_cell (ad_cons (ed_var 0) (ad_cons (ed_add ed_int (ed_mul ed_int (ed_var 5))) ad_nil))) (ed_var 5)) ad_nil)))))
  (sd_cons (sd_set 8 nd (ed_mul (ed_mod (ed_call C__law_cell hr (by rfl) T.g__law_cell T.F__law_cell.kp T.b__law_cell (ad_cons (ed_var 0) (ad_cons (ed_add ed_int (ed_mul ed_int (ed_var 5))) ad_nil))) ed_int) (ed_var 3)))
  (sd_one (sd_if (td_eq hr.units (ed_mod (ed_call C__law_cell hr (by rfl) T.g__law_cell T.F__law_cell.kp T.b__law_cell (ad_cons (ed_var 0) (ad_cons (ed_add ed_int (ed_mul ed_int (ed_var 5))) ad_nil))) ed_int) ed_int) (sd_one (sd_app 4 (pv 4) (ed_tup (ad_cons (ed_var 6) (ad_cons (ed_var 7) (ad_cons (ed_var 8) ad_nil)))))) (sd_one (sd_app 4 (pv 4) (ed_tup (ad_cons (ed_var 7) (ad_cons (ed_var 6) (ad_cons (ed_var 8) ad_nil))))))))))))
  (sd_cons (sd_forR1 (vs := [5]) PassesOwn.never rfl (by rfl) T.z_range (ed_var 2) (gd_name 5 nd) (sd_cons (sd_set 9 nd (ed_mod (ed_call C__law_cell hr (by rfl) T.g__law_cell T.F__law_cell.kp T.b__law_cell (ad_cons (ed_var 0) (ad_cons (ed_add ed_int (ed_mul ed_int (ed_var 5))) ad_nil))) (ed_var 1)))
  (sd_cons (sd_set 10 nd (ed_mod (ed_call C__law_cell hr (by rfl) T.g__law_cell T.F__law_cell.kp T.b__law_cell (ad_cons (ed_var 0) (ad_cons (ed_add ed_int (ed_mul ed_int (ed_var 5))) ad_nil))) (ed_var 1)))
  (sd_one (sd_if (td_ne hr.units (ed_var 9) (ed_var 10)) (sd_one (sd_app 4 (pv 4) (ed_tup (ad_cons (ed_var 9) (ad_cons (ed_var 10) (ad_cons (ed_mul (ed_mod (ed_call C__law_cell hr (by rfl) T.g__law_cell T.F__law_cell.kp T.b__law_cell (ad_cons (ed_var 0) (ad_cons (ed_add ed_int (ed_mul ed_int (ed_var 5))) ad_nil))) ed_int) (ed_var 3)) ad_nil)))))) sd_nil)))))
  (sd_cons (sd_set 11 nd (ed_mod (ed_ix (ed_var 0) ed_int) (ed_add (ed_len (by rfl) T.z_len (ed_var 4)) ed_int)))
  (sd_one (sd_ret (ed_tup (ad_cons (ed_var 1) (ad_cons (ed_call C__law_name hr (by rfl) T.g__law_name T.F__law_name.kp T.b__law_name (ad_cons (ed_var 0) (ad_cons (ed_var 1) (ad_cons (ed_mul (ed_mod (ed_ix (ed_var 0) ed_int) ed_int) (ed_mod (ed_ix (ed_var 0) ed_int) (ed_var 1))) ad_nil)))) (ad_cons (ed_add (ed_sl (ed_var 4) (od_some (ed_var 11)) od_none) (ed_sl (ed_var 4) od_none (od_some (ed_var 11)))) ad_nil)))))))))))))))
theorem wk__law_crossing (T : Txt K mg) {S : DSp} (m : MonoS S) (kp : Keeps 7 (rd__law_crossing) S) : FnD P w K mg base 1 T.f__law_crossing T.d__law_crossing ["listenings", "inside"] S := by
  refine fn_d (N := ["listenings", "inside", "items", "index", "first", "second", "error"]) T.F__law_crossing sc__law_crossing (by decide) m kp fun cdv A outer s H E hr => ?_
  have nd : (["listenings", "inside", "items", "index", "first", "second", "error"] : List Str).Nodup := sc__law_crossing.nd
  exact (sd_cons (sd_ownM 2 nd (ed_lst ad_nil))
  (sd_cons (sd_forR1 (vs := [3]) PassesOwn.never rfl (by rfl) T.z_range (ed_len (by rfl) T.z_len (ed_var 0)) (gd_name 3 nd) (sd_cons (sd_asg (vs := [4, 5, 6]) (ed_ix (ed_var 0) (ed_var 3)) (gd_tup rfl (gds_cons (gd_name 4 nd) (gds_cons (gd_name 5 nd) (gds_cons (gd_name 6 nd) gds_nil)))))
  (sd_cons (sd_if (WD.td (wd_and (td_in (hu65 hr) (ed_var 4) (ed_var 1)) (wd_and1 (td_notIn (hu65 hr) (ed_var 5) (ed_var 1))))) (sd_one (sd_app 2 (pv 2) (ed_tup (ad_cons (ed_nl (ed_var 5)) (ad_cons (ed_nl (ed_var 4)) (ad_cons (ed_nl (ed_var 3)) ad_nil)))))) sd_nil)
  (sd_one (sd_if (WD.td (wd_and (td_in (hu65 hr) (ed_var 5) (ed_var 1)) (wd_and1 (td_notIn (hu65 hr) (ed_var 4) (ed_var 1))))) (sd_one (sd_app 2 (pv 2) (ed_tup (ad_cons (ed_nl (ed_var 4)) (ad_cons (ed_nl (ed_var 5)) (ad_cons (ed_nl (ed_var 3)) ad_nil)))))) sd_nil)))))
  (sd_one (sd_retF (ed_var 2)))))
theorem wk__law_grown (T : Txt K mg) {S__law_crossing : DSp} (G__law_crossing : FnD P w K mg base 1 T.f__law_crossing T.d__law_crossing ["listenings", "inside"] S__law_crossing) {S__law_cell : DSp} (G__law_cell : FnD P w K mg base 1 T.f__law_cell T.d__law_cell ["draws", "k"] S__law_cell) {S : DSp} (m : MonoS S) (kp : Keeps 9 (rd__law_grown S__law_crossing S__law_cell) S) : FnD P w K mg base 2 T.f__law_grown T.d__law_grown ["draws", "size", "root", "listenings"] S := by
  refine fn_d (N := ["draws", "size", "root", "listenings", "inside", "plan", "k", "items", "item"]) T.F__law_grown sc__law_grown (by decide) m kp fun cdv A outer s H E hr => ?_
  have nd : (["draws", "size", "root", "listenings", "inside", "plan", "k", "items", "item"] : List Str).Nodup := sc__law_grown.nd
  have C__law_crossing : FnD P w K mg base 1 T.f__law_crossing T.d__law_crossing ["listenings", "inside"] S__law_crossing := G__law_crossing.up (by decide)
  have C__law_cell : FnD P w K mg base 1 T.f__law_cell T.d__law_cell ["draws", "k"] S__law_cell := G__law_cell.up (by decide)
  exact (sd_cons (sd_own 4 nd (ed_lst (ad_cons (ed_var 2) ad_nil)))
  (sd_cons (sd_own 5 nd (ed_lst ad_nil))
  (sd_cons (sd_forR1 (vs := [6]) PassesOwn.never rfl (by rfl) T.z_range (ed_sub (ed_var 1) ed_int) (gd_name 6 nd) (sd_cons (sd_set 7 nd (ed_lendF (i := 4) (ed_call C__law_crossing hr (by rfl) T.g__law_crossing T.F__law_crossing.kp T.b__law_crossing (ad_cons (ed_var 3) (ad_cons (ed_var 4) ad_nil)))))
  (sd_one (sd_if (td_gt (ed_len (by rfl) T.z_len (ed_var 7)) ed_int) (sd_cons (sd_set 8 nd (ed_ix (ed_var 7) (ed_mod (ed_call C__law_cell hr (by rfl) T.g__law_cell T.F__law_cell.kp T.b__law_cell (ad_cons (ed_var 0) (ad_cons (ed_add ed_int (ed_var 6)) ad_nil))) (ed_len (by rfl) T.z_len (ed_var 7)))))
  (sd_cons (sd_app 5 (pv 5) (ed_var 8))
  (sd_one (sd_app 4 (pv 4) (ed_ix (ed_var 8) ed_int))))) sd_nil))))
  (sd_one (sd_ret (ed_var 5))))))
theorem wk__law_meets (T : Txt K mg) {S : DSp} (m : MonoS S) (kp : Keeps 7 (rd__law_meets_d118) S) : FnD P w K mg base 1 T.f__law_meets T.d__law_meets ["demands", "tuning"] S := by
  refine fn_d (N := ["demands", "tuning", "low", "high", "least", "most", "width"]) T.F__law_meets sc__law_meets (by decide) m kp fun cdv A outer s H E hr => ?_
  have nd : (["demands", "tuning", "low", "high", "least", "most", "width"] : List Str).Nodup := sc__law_meets.nd
  exact (sd_cons (sd_forL (vs := [2, 3, 4, 5]) PassesOwn.never rfl (ed_var 0) (gd_tup rfl (gds_cons (gd_name 2 nd) (gds_cons (gd_name 3 nd) (gds_cons (gd_name 4 nd) (gds_cons (gd_name 5 nd) gds_nil))))) (sd_cons (sd_set 6 nd (ed_sub (ed_ix (ed_var 1) (ed_var 3)) (ed_ix (ed_var 1) (ed_var 2))))
  (sd_cons (sd_if (WD.td (wd_and (td_isNot (ed_var 4) ed_non) (wd_and1 (td_lt (ed_var 6) (ed_var 4))))) (sd_one (sd_ret ed_bl)) sd_nil)
  (sd_one (sd_if (WD.td (wd_and (td_isNot (ed_var 5) ed_non) (wd_and1 (td_gt (ed_var 6) (ed_var 5))))) (sd_one (sd_ret ed_bl)) sd_nil)))))
  (sd_one (sd_ret ed_bl)))
theorem wk__law_heard (T : Txt K mg) {S : DSp} (m : MonoS S) (kp : Keeps 9 (rd__law_heard_b0a2) S) : FnD P w K mg base 1 T.f__law_heard T.d__law_heard ["target", "root", "plan", "slips"] S := by
  refine fn_d (N := ["target", "root", "plan", "slips", "pitches", "at", "string", "source", "index"]) T.F__law_heard sc__law_heard (by decide) m kp fun cdv A outer s H E hr => ?_
  have nd : (["target", "root", "plan", "slips", "pitches", "at", "string", "source", "index"] : List Str).Nodup := sc__law_heard.nd
  exact (sd_cons (sd_own 4 nd (ed_mul (ed_lst (ad_cons ed_non ad_nil)) (ed_len (by rfl) T.z_len (ed_var 0))))
  (sd_cons (sd_setIx 4 (ed_ix (ed_var 0) (ed_var 1)) (pv 4) (ed_var 1))
  (sd_cons (sd_forR1 (vs := [5]) PassesOwn.never rfl (by rfl) T.z_range (ed_len (by rfl) T.z_len (ed_var 2)) (gd_name 5 nd) (sd_cons (sd_asg (vs := [6, 7, 8]) (ed_ix (ed_var 2) (ed_var 5)) (gd_tup rfl (gds_cons (gd_name 6 nd) (gds_cons (gd_name 7 nd) (gds_cons (gd_name 8 nd) gds_nil)))))
  (sd_one (sd_setIx 4 (ed_add (ed_add (ed_sub (ed_ix (ed_var 4) (ed_var 7)) (ed_ix (ed_var 0) (ed_var 7))) (ed_ix (ed_var 0) (ed_var 6))) (ed_ix (ed_var 3) (ed_var 5))) (pv 4) (ed_var 6)))))
  (sd_one (sd_ret (ed_var 4))))))
theorem wk__law_pair_errors (T : Txt K mg) {S : DSp} (m : MonoS S) (kp : Keeps 12 (rd__law_pair_errors) S) : FnD P w K mg base 1 T.f__law_pair_errors T.d__law_pair_errors ["size", "listenings", "plan"] S := by
  refine fn_d (N := ["size", "listenings", "plan", "ways", "string", "source", "index", "rows", "first", "row", "second", "apart"]) T.F__law_pair_errors sc__law_pair_errors (by decide) m kp fun cdv A outer s H E hr => ?_
  have nd : (["size", "listenings", "plan", "ways", "string", "source", "index", "rows", "first", "row", "second", "apart"] : List Str).Nodup := sc__law_pair_errors.nd
  exact (sd_cons (sd_own 3 nd (ed_lc [("string", 4)] rfl nd (pid_R1 false (by rfl) T.z_range (ed_var 0)) (blkOk_by (own := [("string", 4)]) (N := ["size", "listenings", "plan", "ways", "string", "source", "index", "rows", "first", "row", "second", "apart"]) (sc := defScope st__law_pair_errors) (by decide +kernel)) (fun _ _ _ _ _ => (gd_name 4 nd)) (fun _ _ _ _ _ => ptd_nil) (fun _ _ _ _ _ => (ed_lst ad_nil))))
  (sd_cons (sd_forL (vs := [4, 5, 6]) PassesOwn.never rfl (ed_var 2) (gd_tup rfl (gds_cons (gd_name 4 nd) (gds_cons (gd_name 5 nd) (gds_cons (gd_name 6 nd) gds_nil)))) (sd_one (sd_setIx 3 (ed_add (ed_lst (ad_cons (ed_var 6) ad_nil)) (ed_ix (ed_var 3) (ed_var 5))) (pv 3) (ed_var 4))))
  (sd_cons (sd_own 7 nd (ed_lst ad_nil))
  (sd_cons (sd_forR1 (vs := [8]) PassesOwn.never rfl (by rfl) T.z_range (ed_var 0) (gd_name 8 nd) (sd_cons (sd_own 9 nd (ed_lst ad_nil))
  (sd_cons (sd_forR1 (vs := [10]) PassesOwn.never rfl (by rfl) T.z_range (ed_var 0) (gd_name 10 nd) (sd_cons (sd_setLc 11 [("index", 6)] rfl nd (pid_L false (ed_ix (ed_var 3) (ed_var 8))) (blkOk_by (own := [("index", 6)]) (N := ["size", "listenings", "plan", "ways", "string", "source", "index", "rows", "first", "row", "second", "apart"]) (sc := defScope st__law_pair_errors) (by decide +kernel)) (fun _ _ _ _ _ => (gd_name 6 nd)) (fun _ _ _ _ _ => (ptd_one (td_notIn (hu65 hr) (ed_var 6) (ed_ix (ed_var 3) (ed_var 10))))) (fun _ _ _ _ _ => (ed_var 6)) (sw_true rfl rfl rfl (by decide +kernel)))
  (sd_cons (sd_set 11 nd (ed_add (ed_var 11) (ed_lc [("index", 6)] rfl nd (pid_L false (ed_ix (ed_var 3) (ed_var 10))) (blkOk_by (own := [("index", 6)]) (N := ["size", "listenings", "plan", "ways", "string", "source", "index", "rows", "first", "row", "second", "apart"]) (sc := defScope st__law_pair_errors) (by decide +kernel)) (fun _ _ _ _ _ => (gd_name 6 nd)) (fun _ _ _ _ _ => (ptd_one (td_notIn (hu65 hr) (ed_var 6) (ed_ix (ed_var 3) (ed_var 8))))) (fun _ _ _ _ _ => (ed_var 6)))))
  (sd_one (sd_app 9 (pv 9) (ed_sum rfl (by rfl) T.z_sum (ed_lc [("index", 6)] rfl nd (pid_L false (ed_var 11)) (blkOk_by (own := [("index", 6)]) (N := ["size", "listenings", "plan", "ways", "string", "source", "index", "rows", "first", "row", "second", "apart"]) (sc := defScope st__law_pair_errors) (by decide +kernel)) (fun _ _ _ _ _ => (gd_name 6 nd)) (fun _ _ _ _ _ => ptd_nil) (fun _ _ _ _ _ => (ed_ix (ed_ix (ed_var 1) (ed_var 6)) ed_int)))))))))
  (sd_one (sd_frz 9 (sd_app 7 (pv 7) (ed_var 9)))))))
  (sd_one (sd_ret (ed_var 7)))))))
theorem wk__law_demands (T : Txt K mg) {S__law_cell : DSp} (G__law_cell : FnD P w K mg base 1 T.f__law_cell T.d__law_cell ["draws", "k"] S__law_cell) {S : DSp} (m : MonoS S) (kp : Keeps 13 (rd__law_demands_f9d5 S__law_cell) S) : FnD P w K mg base 2 T.f__law_demands T.d__law_demands ["draws", "size", "target", "errors", "spread"] S := by
  refine fn_d (N := ["draws", "size", "target", "errors", "spread", "demands", "k", "low", "high", "width", "least", "most", "choice"]) T.F__law_demands sc__law_demands (by decide) m kp fun cdv A outer s H E hr => ?_
  have nd : (["draws", "size", "target", "errors", "spread", "demands", "k", "low", "high", "width", "least", "most", "choice"] : List Str).Nodup := sc__law_demands.nd
  have C__law_cell : FnD P w K mg base 1 T.f__law_cell T.d__law_cell ["draws", "k"] S__law_cell := G__law_cell.up (by decide)
  exact (sd_cons (sd_own 5 nd (ed_lst ad_nil))
  (sd_cons (sd_forR1 (vs := [6]) PassesOwn.never rfl (by rfl) T.z_range (ed_mod (ed_ix (ed_var 0) ed_int) ed_int) (gd_name 6 nd) (sd_cons (sd_set 7 nd (ed_mod (ed_call C__law_cell hr (by rfl) T.g__law_cell T.F__law_cell.kp T.b__law_cell (ad_cons (ed_var 0) (ad_cons (ed_add ed_int (ed_mul ed_int (ed_var 6))) ad_nil))) (ed_var 1)))
  (sd_cons (sd_set 8 nd (ed_mod (ed_call C__law_cell hr (by rfl) T.g__law_cell T.F__law_cell.kp T.b__law_cell (ad_cons (ed_var 0) (ad_cons (ed_add ed_int (ed_mul ed_int (ed_var 6))) ad_nil))) (ed_var 1)))
  (sd_cons (sd_set 9 nd (ed_sub (ed_ix (ed_var 2) (ed_var 8)) (ed_ix (ed_var 2) (ed_var 7))))
  (sd_cons (sd_set 10 nd (ed_sub (ed_sub (ed_var 9) (ed_ix (ed_ix (ed_var 3) (ed_var 7)) (ed_var 8))) (ed_mod (ed_call C__law_cell hr (by rfl) T.g__law_cell T.F__law_cell.kp T.b__law_cell (ad_cons (ed_var 0) (ad_cons (ed_add ed_int (ed_mul ed_int (ed_var 6))) ad_nil))) (ed_var 4))))
  (sd_cons (sd_set 11 nd (ed_add (ed_add (ed_var 9) (ed_ix (ed_ix (ed_var 3) (ed_var 7)) (ed_var 8))) (ed_mod (ed_call C__law_cell hr (by rfl) T.g__law_cell T.F__law_cell.kp T.b__law_cell (ad_cons (ed_var 0) (ad_cons (ed_add ed_int (ed_mul ed_int (ed_var 6))) ad_nil))) (ed_var 4))))
  (sd_cons (sd_set 12 nd (ed_call C__law_cell hr (by rfl) T.g__law_cell T.F__law_cell.kp T.b__law_cell (ad_cons (ed_var 0) (ad_cons (ed_add ed_int (ed_mul ed_int (ed_var 6))) ad_nil))))
  (sd_cons (sd_if (WD.td (wd_and (td_gt (ed_var 4) ed_int) (wd_and1 (td_eq hr.units (ed_mod (ed_div (ed_var 12) ed_int) ed_int) ed_int)))) (sd_one (sd_set 10 nd (ed_add (ed_var 10) ed_int))) sd_nil)
  (sd_cons (sd_if (WD.td (wd_and (td_gt (ed_var 4) ed_int) (wd_and1 (td_eq hr.units (ed_mod (ed_div (ed_var 12) ed_int) ed_int) ed_int)))) (sd_one (sd_set 11 nd (ed_sub (ed_var 11) ed_int))) sd_nil)
  (sd_cons (sd_if (WD.td (wd_or (td_eq hr.units (ed_mod (ed_var 12) ed_int) ed_int) (wd_or1 (td_eq hr.units (ed_mod (ed_var 12) ed_int) ed_int)))) (sd_one (sd_set 10 nd ed_non)) sd_nil)
  (sd_cons (sd_if (WD.td (wd_or (td_eq hr.units (ed_mod (ed_var 12) ed_int) ed_int) (wd_or1 (td_eq hr.units (ed_mod (ed_var 12) ed_int) ed_int)))) (sd_one (sd_set 11 nd ed_non)) sd_nil)
  (sd_one (sd_app 5 (pv 5) (ed_tup (ad_cons (ed_var 7) (ad_cons (ed_var 8) (ad_cons (ed_var 10) (ad_cons (ed_var 11) ad_nil))))))))))))))))))
  (sd_one (sd_ret (ed_var 5)))))
theorem wk__law_safe (T : Txt K mg) {S : DSp} (m : MonoS S) (kp : Keeps 7 (rd__law_safe) S) : FnD P w K mg base 1 T.f__law_safe T.d__law_safe ["demands", "errors"] S := by
  refine fn_d (N := ["demands", "errors", "safe", "low", "high", "least", "most"]) T.F__law_safe sc__law_safe (by decide) m kp fun cdv A outer s H E hr => ?_
  have nd : (["demands", "errors", "safe", "low", "high", "least", "most"] : List Str).Nodup := sc__law_safe.nd
  exact (sd_cons (sd_own 2 nd (ed_lst ad_nil))
  (sd_cons (sd_forL (vs := [3, 4, 5, 6]) PassesOwn.never rfl (ed_var 0) (gd_tup rfl (gds_cons (gd_name 3 nd) (gds_cons (gd_name 4 nd) (gds_cons (gd_name 5 nd) (gds_cons (gd_name 6 nd) gds_nil))))) (sd_cons (sd_if (td_isNot (ed_var 5) ed_non) (sd_one (sd_set 5 nd (ed_add (ed_var 5) (ed_ix (ed_ix (ed_var 1) (ed_var 3)) (ed_var 4))))) sd_nil)
  (sd_cons (sd_if (td_isNot (ed_var 6) ed_non) (sd_one (sd_set 6 nd (ed_sub (ed_var 6) (ed_ix (ed_ix (ed_var 1) (ed_var 3)) (ed_var 4))))) sd_nil)
  (sd_one (sd_app 2 (pv 2) (ed_tup (ad_cons (ed_var 3) (ad_cons (ed_var 4) (ad_cons (ed_var 5) (ad_cons (ed_var 6) ad_nil))))))))))
  (sd_one (sd_ret (ed_var 2)))))
theorem wk__law_is_same (T : Txt K mg) {S__law_is_number : DSp} (G__law_is_number : FnD P w K mg base 1 T.f__law_is_number T.d__law_is_number ["value"] S__law_is_number) {S : DSp} (m : MonoS S) (kp : Keeps 4 (rd__law_is_same S__law_is_number) S) : FnD P w K mg base 2 T.f__law_is_same T.d__law_is_same ["told", "due"] S := by
  refine fn_d (N := ["told", "due", "k", "at"]) T.F__law_is_same sc__law_is_same (by decide) m kp fun cdv A outer s H E hr => ?_
  have nd : (["told", "due", "k", "at"] : List Str).Nodup := sc__law_is_same.nd
  have C__law_is_number : FnD P w K mg base 1 T.f__law_is_number T.d__law_is_number ["value"] S__law_is_number := G__law_is_number.up (by decide)
  exact (sd_cons (sd_if (WD.td (wd_or (td_not (td_val (ed_isList (by rfl) T.z_isinstance (by rfl) T.z_list (ed_var 0)))) (wd_or1 (td_ne hr.units (ed_len (by rfl) T.z_len (ed_var 0)) (ed_len (by rfl) T.z_len (ed_var 1)))))) (sd_one (sd_ret ed_bl)) sd_nil)
  (sd_cons (sd_forR1 (vs := [2]) PassesOwn.never rfl (by rfl) T.z_range (ed_len (by rfl) T.z_len (ed_var 1)) (gd_name 2 nd) (sd_cons (sd_if (WD.td (wd_or (td_not (td_val (ed_isTup (by rfl) T.z_isinstance (by rfl) T.z_tuple (ed_ix (ed_var 0) (ed_var 2))))) (wd_or1 (td_ne hr.units (ed_len (by rfl) T.z_len (ed_ix (ed_var 0) (ed_var 2))) ed_int)))) (sd_one (sd_ret ed_bl)) sd_nil)
  (sd_one (sd_forR1 (vs := [3]) PassesOwn.never rfl (by rfl) T.z_range ed_int (gd_name 3 nd) (sd_one (sd_if (WD.td (wd_or (WD.td (wd_and (td_isNot (ed_ix (ed_ix (ed_var 0) (ed_var 2)) (ed_var 3)) ed_non) (wd_and1 (td_not (td_val (ed_call C__law_is_number hr (by rfl) T.g__law_is_number T.F__law_is_number.kp T.b__law_is_number (ad_cons (ed_ix (ed_ix (ed_var 0) (ed_var 2)) (ed_var 3)) ad_nil))))))) (wd_or1 (td_ne hr.units (ed_ix (ed_ix (ed_var 0) (ed_var 2)) (ed_var 3)) (ed_ix (ed_ix (ed_var 1) (ed_var 2)) (ed_var 3)))))) (sd_one (sd_ret ed_bl)) sd_nil))))))
  (sd_one (sd_ret ed_bl))))
theorem wk__law_breaks (T : Txt K mg) {S__law_is_numbers : DSp} (G__law_is_numbers : FnD P w K mg base 2 T.f__law_is_numbers T.d__law_is_numbers ["value", "size"] S__law_is_numbers) {S__law_meets : DSp} (G__law_meets : FnD P w K mg base 1 T.f__law_meets T.d__law_meets ["demands", "tuning"] S__law_meets) {S__law_heard : DSp} (G__law_heard : FnD P w K mg base 1 T.f__law_heard T.d__law_heard ["target", "root", "plan", "slips"] S__law_heard) {S : DSp} (m : MonoS S) (kp : Keeps 7 (rd__law_breaks S__law_is_numbers S__law_meets S__law_heard) S) : FnD P w K mg base 3 T.f__law_breaks T.d__law_breaks ["demands", "root", "listenings", "plan", "target", "slips"] S := by
  refine fn_d (N := ["demands", "root", "listenings", "plan", "target", "slips", "at"]) T.F__law_breaks sc__law_breaks (by decide) m kp fun cdv A outer s H E hr => ?_
  have nd : (["demands", "root", "listenings", "plan", "target", "slips", "at"] : List Str).Nodup := sc__law_breaks.nd
  have C__law_is_numbers : FnD P w K mg base 2 T.f__law_is_numbers T.d__law_is_numbers ["value", "size"] S__law_is_numbers := G__law_is_numbers.up (by decide)
  have C__law_meets : FnD P w K mg base 2 T.f__law_meets T.d__law_meets ["demands", "tuning"] S__law_meets := G__law_meets.up (by decide)
  have C__law_heard : FnD P w K mg base 2 T.f__law_heard T.d__law_heard ["target", "root", "plan", "slips"] S__law_heard := G__law_heard.up (by decide)
  exact (sd_cons (sd_if (td_not (td_val (ed_call C__law_is_numbers hr (by rfl) T.g__law_is_numbers T.F__law_is_numbers.kp T.b__law_is_numbers (ad_cons (ed_var 5) (ad_cons (ed_len (by rfl) T.z_len (ed_var 3)) ad_nil))))) (sd_one (sd_ret ed_bl)) sd_nil)
  (sd_cons (sd_forR1 (vs := [6]) PassesOwn.never rfl (by rfl) T.z_range (ed_len (by rfl) T.z_len (ed_var 3)) (gd_name 6 nd) (sd_one (sd_if (td_gt (ed_abs (by rfl) T.z_abs (ed_ix (ed_var 5) (ed_var 6))) (ed_ix (ed_ix (ed_var 2) (ed_ix (ed_ix (ed_var 3) (ed_var 6)) ed_int)) ed_int)) (sd_one (sd_ret ed_bl)) sd_nil)))
  (sd_one (sd_ret (ed_not (ed_call C__law_meets hr (by rfl) T.g__law_meets T.F__law_meets.kp T.b__law_meets (ad_cons (ed_var 0) (ad_cons (ed_call C__law_heard hr (by rfl) T.g__law_heard T.F__law_heard.kp T.b__law_heard (ad_cons (ed_var 4) (ad_cons (ed_var 1) (ad_cons (ed_var 3) (ad_cons (ed_var 5) ad_nil))))) ad_nil))))))))
theorem wk__law_is_right (T : Txt K mg) {S__law_safe : DSp} (G__law_safe : FnD P w K mg base 1 T.f__law_safe T.d__law_safe ["demands", "errors"] S__law_safe) {S__law_is_same : DSp} (G__law_is_same : FnD P w K mg base 2 T.f__law_is_same T.d__law_is_same ["told", "due"] S__law_is_same) {S_safe_demands : DSp} (G_safe_demands : FnD P w K mg base 3 T.f_safe_demands T.d_safe_demands ["size", "demands", "root", "listenings", "plan"] S_safe_demands) {S_breaking_errors : DSp} (G_breaking_errors : FnD P w K mg base 3 T.f_breaking_errors T.d_breaking_errors ["size", "demands", "root", "listenings", "plan", "target"] S_breaking_errors) {S__law_meets : DSp} (G__law_meets : FnD P w K mg base 1 T.f__law_meets T.d__law_meets ["demands", "tuning"] S__law_meets) {S__law_breaks : DSp} (G__law_breaks : FnD P w K mg base 3 T.f__law_breaks T.d__law_breaks ["demands", "root", "listenings", "plan", "target", "slips"] S__law_breaks) {S : DSp} (m : MonoS S) (kp : Keeps 10 (rd__law_is_right_ec74 S__law_safe S__law_is_same S_safe_demands S_breaking_errors S__law_meets S__law_breaks) S) : FnD P w K mg base 4 T.f__law_is_right T.d__law_is_right ["size", "demands", "root", "listenings", "plan", "target", "errors"] S := by
  refine fn_d (N := ["size", "demands", "root", "listenings", "plan", "target", "errors", "passed", "safe", "told"]) T.F__law_is_right sc__law_is_right (by decide) m kp fun cdv A outer s H E hr => ?_
  have nd : (["size", "demands", "root", "listenings", "plan", "target", "errors", "passed", "safe", "told"] : List Str).Nodup := sc__law_is_right.nd
  have C__law_safe : FnD P w K mg base 3 T.f__law_safe T.d__law_safe ["demands", "errors"] S__law_safe := G__law_safe.up (by decide)
  have C__law_is_same : FnD P w K mg base 3 T.f__law_is_same T.d__law_is_same ["told", "due"] S__law_is_same := G__law_is_same.up (by decide)
  have C_safe_demands : FnD P w K mg base 3 T.f_safe_demands T.d_safe_demands ["size", "demands", "root", "listenings", "plan"] S_safe_demands := G_safe_demands.up (by decide)
  have C_breaking_errors : FnD P w K mg base 3 T.f_breaking_errors T.d_breaking_errors ["size", "demands", "root", "listenings", "plan", "target"] S_breaking_errors := G_breaking_errors.up (by decide)
  have C__law_meets : FnD P w K mg base 3 T.f__law_meets T.d__law_meets ["demands", "tuning"] S__law_meets := G__law_meets.up (by decide)
  have C__law_breaks : FnD P w K mg base 3 T.f__law_breaks T.d__law_breaks ["demands", "root", "listenings", "plan", "target", "slips"] S__law_breaks := G__law_breaks.up (by decide)
  exact (sd_cons (sd_set 7 nd (ed_lst (ad_cons (ed_toList (by rfl) T.z_list (ed_var 1)) (ad_cons (ed_toList (by rfl) T.z_list (ed_var 3)) (ad_cons (ed_toList (by rfl) T.z_list (ed_var 4)) (ad_cons (ed_toList (by rfl) T.z_list (ed_var 5)) ad_nil))))))
  (sd_cons (sd_set 8 nd (ed_call C__law_safe hr (by rfl) T.g__law_safe T.F__law_safe.kp T.b__law_safe (ad_cons (ed_var 1) (ad_cons (ed_var 6) ad_nil))))
  (sd_cons (sd_if (td_not (td_val (ed_call C__law_is_same hr (by rfl) T.g__law_is_same T.F__law_is_same.kp T.b__law_is_same (ad_cons (ed_call C_safe_demands hr (by rfl) T.g_safe_demands T.F_safe_demands.kp T.b_safe_demands (ad_cons (ed_var 0) (ad_cons (ed_ix (ed_var 7) ed_int) (ad_cons (ed_var 2) (ad_cons (ed_ix (ed_var 7) ed_int) (ad_cons (ed_ix (ed_var 7) ed_int) ad_nil)))))) (ad_cons (ed_var 8) ad_nil))))) (sd_one (sd_ret ed_bl)) sd_nil)
  (sd_cons (sd_set 9 nd (ed_call C_breaking_errors hr (by rfl) T.g_breaking_errors T.F_breaking_errors.kp T.b_breaking_errors (ad_cons (ed_var 0) (ad_cons (ed_ix (ed_var 7) ed_int) (ad_cons (ed_var 2) (ad_cons (ed_ix (ed_var 7) ed_int) (ad_cons (ed_ix (ed_var 7) ed_int) (ad_cons (ed_ix (ed_var 7) ed_int) ad_nil))))))))
  (sd_cons (sd_if (td_ne hr.units (ed_var 7) (ed_lst (ad_cons (ed_var 1) (ad_cons (ed_var 3) (ad_cons (ed_var 4) (ad_cons (ed_var 5) ad_nil)))))) (sd_one (sd_ret ed_bl)) sd_nil)
  (sd_cons (sd_if (td_val (ed_call C__law_meets hr (by rfl) T.g__law_meets T.F__law_meets.kp T.b__law_meets (ad_cons (ed_var 8) (ad_cons (ed_var 5) ad_nil)))) (sd_one (sd_ret (ed_is (ed_var 9) ed_non))) sd_nil)
  (sd_one (sd_ret (ed_call C__law_breaks hr (by rfl) T.g__law_breaks T.F__law_breaks.kp T.b__law_breaks (ad_cons (ed_var 1) (ad_cons (ed_var 2) (ad_cons (ed_var 3) (ad_cons (ed_var 4) (ad_cons (ed_var 5) (ad_cons (ed_var 9) ad_nil)))))))))))))))
theorem wk_law (T : Txt K mg) {S__law_draws : DSp} (G__law_draws : FnD P w K mg base 1 T.f__law_draws T.d__law_draws ["script", "many"] S__law_draws) {S__law_house : DSp} (G__law_house : FnD P w K mg base 2 T.f__law_house T.d__law_house ["draws"] S__law_house) {S__law_grown : DSp} (G__law_grown : FnD P w K mg base 2 T.f__law_grown T.d__law_grown ["draws", "size", "root", "listenings"] S__law_grown) {S__law_cell : DSp} (G__law_cell : FnD P w K mg base 1 T.f__law_cell T.d__law_cell ["draws", "k"] S__law_cell) {S__law_pair_errors : DSp} (G__law_pair_errors : FnD P w K mg base 1 T.f__law_pair_errors T.d__law_pair_errors ["size", "listenings", "plan"] S__law_pair_errors) {S__law_demands : DSp} (G__law_demands : FnD P w K mg base 2 T.f__law_demands T.d__law_demands ["draws", "size", "target", "errors", "spread"] S__law_demands) {S__law_is_right : DSp} (G__law_is_right : FnD P w K mg base 4 T.f__law_is_right T.d__law_is_right ["size", "demands", "root", "listenings", "plan", "target", "errors"] S__law_is_right) {S__law_meets : DSp} (G__law_meets : FnD P w K mg base 1 T.f__law_meets T.d__law_meets ["demands", "tuning"] S__law_meets) {S__law_safe : DSp} (G__law_safe : FnD P w K mg base 1 T.f__law_safe T.d__law_safe ["demands", "errors"] S__law_safe) {S__law_heard : DSp} (G__law_heard : FnD P w K mg base 1 T.f__law_heard T.d__law_heard ["target", "root", "plan", "slips"] S__law_heard) {S : DSp} (m : MonoS S) (kp : Keeps 21 (rd_law_a14d S__law_draws S__law_house S__law_grown S__law_cell S__law_pair_errors S__law_demands S__law_is_right S__law_meets S__law_safe S__law_heard) S) : FnD P w K mg base 5 T.f_law T.d_law ["script"] S := by
  refine fn_d (N := ["script", "draws", "size", "root", "listenings", "plan", "target", "k", "errors", "demands", "turn", "slips", "at", "error", "limit", "low", "high", "least", "most", "beyond", "moved"]) T.F_law sc_law (by decide) m kp fun cdv A outer s H E hr => ?_
  have nd : (["script", "draws", "size", "root", "listenings", "plan", "target", "k", "errors", "demands", "turn", "slips", "at", "error", "limit", "low", "high", "least", "most", "beyond", "moved"] : List Str).Nodup := sc_law.nd
  have C__law_draws : FnD P w K mg base 4 T.f__law_draws T.d__law_draws ["script", "many"] S__law_draws := G__law_draws.up (by decide)
  have C__law_house : FnD P w K mg base 4 T.f__law_house T.d__law_house ["draws"] S__law_house := G__law_house.up (by decide)
  have C__law_grown : FnD P w K mg base 4 T.f__law_grown T.d__law_grown ["draws", "size", "root", "listenings"] S__law_grown := G__law_grown.up (by decide)
  have C__law_cell : FnD P w K mg base 4 T.f__law_cell T.d__law_cell ["draws", "k"] S__law_cell := G__law_cell.up (by decide)
  have C__law_pair_errors : FnD P w K mg base 4 T.f__law_pair_errors T.d__law_pair_errors ["size", "listenings", "plan"] S__law_pair_errors := G__law_pair_errors.up (by decide)
  have C__law_demands : FnD P w K mg base 4 T.f__law_demands T.d__law_demands ["draws", "size", "target", "errors", "spread"] S__law_demands := G__law_demands.up (by decide)
  have C__law_is_right : FnD P w K mg base 4 T.f__law_is_right T.d__law_is_right ["size", "demands", "root", "listenings", "plan", "target", "errors"] S__law_is_right := G__law_is_right.up (by decide)
  have C__law_meets : FnD P w K mg base 4 T.f__law_meets T.d__law_meets ["demands", "tuning"] S__law_meets := G__law_meets.up (by decide)
  have C__law_safe : FnD P w K mg base 4 T.f__law_safe T.d__law_safe ["demands", "errors"] S__law_safe := G__law_safe.up (by decide)
  have C__law_heard : FnD P w K mg base 4 T.f__law_heard T.d__law_heard ["target", "root", "plan", "slips"] S__law_heard := G__law_heard.up (by decide)
  exact (sd_cons (sd_ownA 1 nd (ed_call C__law_draws hr (by rfl) T.g__law_draws T.F__law_draws.kp T.b__law_draws (ad_cons (ed_var 0) (ad_cons ed_int ad_nil))))
  (sd_cons (sd_if (td_eq hr.units (ed_mod (ed_ix (ed_var 1) ed_int) ed_int) ed_int) (sd_one (sd_setIx 1 (ed_add (ed_mod (ed_ix (ed_var 1) ed_int) ed_int) (ed_mul ed_int (ed_mod (ed_div (ed_ix (ed_var 1) ed_int) ed_int) ed_int))) (pv 1) ed_int)) sd_nil)
  (sd_cons (sd_frz 1 (sd_asg (vs := [2, 3, 4]) (ed_call C__law_house hr (by rfl) T.g__law_house T.F__law_house.kp T.b__law_house (ad_cons (ed_var 1) ad_nil)) (gd_tup rfl (gds_cons (gd_name 2 nd) (gds_cons (gd_name 3 nd) (gds_cons (gd_name 4 nd) gds_nil))))))
  (sd_cons (sd_set 5 nd (ed_call C__law_grown hr (by rfl) T.g__law_grown T.F__law_grown.kp T.b__law_grown (ad_cons (ed_var 1) (ad_cons (ed_var 2) (ad_cons (ed_var 3) (ad_cons (ed_var 4) ad_nil))))))
  (sd_cons (sd_setLc 6 [("k", 7)] rfl nd (pid_R1 false (by rfl) T.z_range (ed_var 2)) (blkOk_by (own := [("k", 7)]) (N := ["script", "draws", "size", "root", "listenings", "plan", "target", "k", "errors", "demands", "turn", "slips", "at", "error", "limit", "low", "high", "least", "most", "beyond", "moved"]) (sc := defScope st_law) (by decide +kernel)) (fun _ _ _ _ _ => (gd_name 7 nd)) (fun _ _ _ _ _ => ptd_nil) (fun _ _ _ _ _ => (ed_sub (ed_mod (ed_call C__law_cell hr (by rfl) T.g__law_cell T.F__law_cell.kp T.b__law_cell (ad_cons (ed_var 1) (ad_cons (ed_add ed_int (ed_var 7)) ad_nil))) ed_int) ed_int)) (sw_true rfl rfl rfl (by decide +kernel)))
  (sd_cons (sd_set 8 nd (ed_call C__law_pair_errors hr (by rfl) T.g__law_pair_errors T.F__law_pair_errors.kp T.b__law_pair_errors (ad_cons (ed_var 2) (ad_cons (ed_var 4) (ad_cons (ed_var 5) ad_nil)))))
  (sd_cons (sd_set 9 nd (ed_call C__law_demands hr (by rfl) T.g__law_demands T.F__law_demands.kp T.b__law_demands (ad_cons (ed_var 1) (ad_cons (ed_var 2) (ad_cons (ed_var 6) (ad_cons (ed_var 8) (ad_cons ed_int ad_nil)))))))
  (sd_cons (sd_if (td_not (td_val (ed_call C__law_is_right hr (by rfl) T.g__law_is_right T.F__law_is_right.kp T.b__law_is_right (ad_cons (ed_var 2) (ad_cons (ed_var 9) (ad_cons (ed_var 3) (ad_cons (ed_var 4) (ad_cons (ed_var 5) (ad_cons (ed_var 6) (ad_cons (ed_var 8) ad_nil)))))))))) (sd_one (sd_ret ed_bl)) sd_nil)
  (sd_cons (sd_if (td_val (ed_call C__law_meets hr (by rfl) T.g__law_meets T.F__law_meets.kp T.b__law_meets (ad_cons (ed_call C__law_safe hr (by rfl) T.g__law_safe T.F__law_safe.kp T.b__law_safe (ad_cons (ed_var 9) (ad_cons (ed_var 8) ad_nil))) (ad_cons (ed_var 6) ad_nil)))) (sd_one (sd_forR1 (vs := [10]) PassesOwn.never rfl (by rfl) T.z_range ed_int (gd_name 10 nd) (sd_cons (sd_own 11 nd (ed_lst ad_nil))
  (sd_cons (sd_forR1 (vs := [12]) PassesOwn.never rfl (by rfl) T.z_range (ed_len (by rfl) T.z_len (ed_var 5)) (gd_name 12 nd) (sd_cons (sd_set 13 nd (ed_ix (ed_ix (ed_var 4) (ed_ix (ed_ix (ed_var 5) (ed_var 12)) ed_int)) ed_int))
  (sd_one (sd_app 11 (pv 11) (ed_sub (ed_mod (ed_add (ed_mul (ed_call C__law_cell hr (by rfl) T.g__law_cell T.F__law_cell.kp T.b__law_cell (ad_cons (ed_var 1) (ad_cons (ed_add (ed_add ed_int (ed_var 12)) (ed_mul ed_int (ed_var 10))) ad_nil))) ed_int) (ed_mul ed_int (ed_var 12))) (ed_add (ed_mul ed_int (ed_var 13)) ed_int)) (ed_var 13))))))
  (sd_one (sd_frz 11 (sd_if (td_not (td_val (ed_call C__law_meets hr (by rfl) T.g__law_meets T.F__law_meets.kp T.b__law_meets (ad_cons (ed_var 9) (ad_cons (ed_call C__law_heard hr (by rfl) T.g__law_heard T.F__law_heard.kp T.b__law_heard (ad_cons (ed_var 6) (ad_cons (ed_var 3) (ad_cons (ed_var 5) (ad_cons (ed_var 11) ad_nil))))) ad_nil))))) (sd_one (sd_ret ed_bl)) sd_nil))))))) sd_nil)
  (sd_cons (sd_set 14 nd (ed_call C__law_demands hr (by rfl) T.g__law_demands T.F__law_demands.kp T.b__law_demands (ad_cons (ed_var 1) (ad_cons (ed_var 2) (ad_cons (ed_var 6) (ad_cons (ed_var 8) (ad_cons ed_int ad_nil)))))))
  (sd_cons (sd_if (td_not (td_val (ed_call C__law_is_right hr (by rfl) T.g__law_is_right T.F__law_is_right.kp T.b__law_is_right (ad_cons (ed_var 2) (ad_cons (ed_var 14) (ad_cons (ed_var 3) (ad_cons (ed_var 4) (ad_cons (ed_var 5) (ad_cons (ed_var 6) (ad_cons (ed_var 8) ad_nil)))))))))) (sd_one (sd_ret ed_bl)) sd_nil)
  (sd_cons (sd_if (td_gt (ed_len (by rfl) T.z_len (ed_var 14)) ed_int) (sd_cons (sd_set 12 nd (ed_mod (ed_ix (ed_var 1) ed_int) (ed_len (by rfl) T.z_len (ed_var 14))))
  (sd_cons (sd_asg (vs := [15, 16, 17, 18]) (ed_ix (ed_var 14) (ed_var 12)) (gd_tup rfl (gds_cons (gd_name 15 nd) (gds_cons (gd_name 16 nd) (gds_cons (gd_name 17 nd) (gds_cons (gd_name 18 nd) gds_nil))))))
  (sd_cons (sd_if (td_isNot (ed_var 18) ed_non) (sd_one (sd_set 18 nd (ed_sub (ed_var 18) ed_int))) (sd_one (sd_if (td_isNot (ed_var 17) ed_non) (sd_one (sd_set 17 nd (ed_add (ed_var 17) ed_int))) sd_nil)))
  (sd_cons (sd_set 19 nd (ed_add (ed_add (ed_sl (ed_var 14) od_none (od_some (ed_var 12))) (ed_lst (ad_cons (ed_tup (ad_cons (ed_var 15) (ad_cons (ed_var 16) (ad_cons (ed_var 17) (ad_cons (ed_var 18) ad_nil))))) ad_nil))) (ed_sl (ed_var 14) (od_some (ed_add (ed_var 12) ed_int)) od_none)))
  (sd_one (sd_if (td_not (td_val (ed_call C__law_is_right hr (by rfl) T.g__law_is_right T.F__law_is_right.kp T.b__law_is_right (ad_cons (ed_var 2) (ad_cons (ed_var 19) (ad_cons (ed_var 3) (ad_cons (ed_var 4) (ad_cons (ed_var 5) (ad_cons (ed_var 6) (ad_cons (ed_var 8) ad_nil)))))))))) (sd_one (sd_ret ed_bl)) sd_nil)))))) sd_nil)
  (sd_cons (sd_own 20 nd (ed_toList (by rfl) T.z_list (ed_var 6)))
  (sd_cons (sd_setIx 20 (ed_sub (ed_add (ed_ix (ed_var 20) (ed_mod (ed_ix (ed_var 1) ed_int) (ed_var 2))) (ed_mod (ed_ix (ed_var 1) ed_int) ed_int)) ed_int) (pv 20) (ed_mod (ed_ix (ed_var 1) ed_int) (ed_var 2)))
  (sd_cons (sd_frz 20 (sd_if (td_not (td_val (ed_call C__law_is_right hr (by rfl) T.g__law_is_right T.F__law_is_right.kp T.b__law_is_right (ad_cons (ed_var 2) (ad_cons (ed_var 9) (ad_cons (ed_var 3) (ad_cons (ed_var 4) (ad_cons (ed_var 5) (ad_cons (ed_var 20) (ad_cons (ed_var 8) ad_nil)))))))))) (sd_one (sd_ret ed_bl)) sd_nil))
  (sd_one (sd_ret (ed_call C__law_is_right hr (by rfl) T.g__law_is_right T.F__law_is_right.kp T.b__law_is_right (ad_cons (ed_var 2) (ad_cons (ed_var 9) (ad_cons (ed_var 3) (ad_cons (ed_var 4) (ad_cons (ed_var 5) (ad_cons (ed_var 6) (ad_cons (ed_var 8) ad_nil)))))))))))))))))))))))))
end
end K77

set_option Elab.async false
set_option linter.all false
set_option maxRecDepth 100000
set_option maxHeartbeats 4000000
/-! E_K77: the end of this law. -/
namespace K77
open PySem PySem.Spec PyProof.Rows L2 DL RD
def spLaw (K : PySem.W.Frag) : Sp := fun vs H Q _ => ∃ (a : Addr) (ns : List Int), vs = [.ref a] ∧ SqL K H a (ns.map V.int) ∧ ns.length ≤ 63 ∧ ∀ H2 : Hp, Q (.bl true) H2
theorem spLaw_spD {K : PySem.W.Frag} {vs : List V} {H : Hp} {Q : L2.VK} {E : XK} (h : spLaw K vs H Q E) : spD K 1 S_law_a14d vs H Q E := by
  obtain ⟨a, ns, rfl, hS, hl, q⟩ := h
  refine ⟨rfl, H, [scr ns], Ext.refl H, .cons (.scr hS) .nil, ns, rfl, hl, fun v G2 H2 st rp => ?_⟩
  have rp : Rp K (fun _ => True) G2 v (.bool true) := rp
  cases rp
  exact q H2
theorem all_mk {l : PySem.W.OpenLaw} {w : World} {K : PySem.W.Frag} {h : Heap} {mg : Str → Option Value} {fa : Addr} (X : K.In h) (G : h.Ns mainGlobals mg) (hfa : mg "law" = some (.ref fa))
    {f0 : Addr} {od0 an0 : Option Addr} {sl0 : Array (Option Value)} {oc0 kV0 dc0 pm0 cd0 ct0 : Value}
    (a0 : PySem.W.nsIn K mainGlobals "within" = some (some (.ref f0))) (l0 : K.lookup f0 = some ⟨oc0, od0, .func (PySem.W.fnOf "within" "within" (defArgs st_within) (defBody st_within) (defScope st_within) .none kV0 dc0 pm0 an0 cd0 ct0), sl0⟩) (c0 : PySem.W.codeIn K cd0 "within" = true) (k0 : PySem.W.keepIn K (.ref f0) = true)
    {f1 : Addr} {od1 an1 : Option Addr} {sl1 : Array (Option Value)} {oc1 kV1 dc1 pm1 cd1 ct1 : Value}
    (a1 : PySem.W.nsIn K mainGlobals "meets" = some (some (.ref f1))) (l1 : K.lookup f1 = some ⟨oc1, od1, .func (PySem.W.fnOf "meets" "meets" (defArgs st_meets) (defBody st_meets) (defScope st_meets) .none kV1 dc1 pm1 an1 cd1 ct1), sl1⟩) (c1 : PySem.W.codeIn K cd1 "meets" = true) (k1 : PySem.W.keepIn K (.ref f1) = true)
    {f2 : Addr} {od2 an2 : Option Addr} {sl2 : Array (Option Value)} {oc2 kV2 dc2 pm2 cd2 ct2 : Value}
    (a2 : PySem.W.nsIn K mainGlobals "ways_of" = some (some (.ref f2))) (l2 : K.lookup f2 = some ⟨oc2, od2, .func (PySem.W.fnOf "ways_of" "ways_of" (defArgs st_ways_of) (defBody st_ways_of) (defScope st_ways_of) .none kV2 dc2 pm2 an2 cd2 ct2), sl2⟩) (c2 : PySem.W.codeIn K cd2 "ways_of" = true) (k2 : PySem.W.keepIn K (.ref f2) = true)
    {f3 : Addr} {od3 an3 : Option Addr} {sl3 : Array (Option Value)} {oc3 kV3 dc3 pm3 cd3 ct3 : Value}
    (a3 : PySem.W.nsIn K mainGlobals "parting" = some (some (.ref f3))) (l3 : K.lookup f3 = some ⟨oc3, od3, .func (PySem.W.fnOf "parting" "parting" (defArgs st_parting) (defBody st_parting) (defScope st_parting) .none kV3 dc3 pm3 an3 cd3 ct3), sl3⟩) (c3 : PySem.W.codeIn K cd3 "parting" = true) (k3 : PySem.W.keepIn K (.ref f3) = true)
    {f4 : Addr} {od4 an4 : Option Addr} {sl4 : Array (Option Value)} {oc4 kV4 dc4 pm4 cd4 ct4 : Value}
    (a4 : PySem.W.nsIn K mainGlobals "pair_error" = some (some (.ref f4))) (l4 : K.lookup f4 = some ⟨oc4, od4, .func (PySem.W.fnOf "pair_error" "pair_error" (defArgs st_pair_error) (defBody st_pair_error) (defScope st_pair_error) .none kV4 dc4 pm4 an4 cd4 ct4), sl4⟩) (c4 : PySem.W.codeIn K cd4 "pair_error" = true) (k4 : PySem.W.keepIn K (.ref f4) = true)
    {f5 : Addr} {od5 an5 : Option Addr} {sl5 : Array (Option Value)} {oc5 kV5 dc5 pm5 cd5 ct5 : Value}
    (a5 : PySem.W.nsIn K mainGlobals "tuned_by_ear" = some (some (.ref f5))) (l5 : K.lookup f5 = some ⟨oc5, od5, .func (PySem.W.fnOf "tuned_by_ear" "tuned_by_ear" (defArgs st_tuned_by_ear) (defBody st_tuned_by_ear) (defScope st_tuned_by_ear) .none kV5 dc5 pm5 an5 cd5 ct5), sl5⟩) (c5 : PySem.W.codeIn K cd5 "tuned_by_ear" = true) (k5 : PySem.W.keepIn K (.ref f5) = true)
    {f6 : Addr} {od6 an6 : Option Addr} {sl6 : Array (Option Value)} {oc6 kV6 dc6 pm6 cd6 ct6 : Value}
    (a6 : PySem.W.nsIn K mainGlobals "narrowed" = some (some (.ref f6))) (l6 : K.lookup f6 = some ⟨oc6, od6, .func (PySem.W.fnOf "narrowed" "narrowed" (defArgs st_narrowed) (defBody st_narrowed) (defScope st_narrowed) .none kV6 dc6 pm6 an6 cd6 ct6), sl6⟩) (c6 : PySem.W.codeIn K cd6 "narrowed" = true) (k6 : PySem.W.keepIn K (.ref f6) = true)
    {f7 : Addr} {od7 an7 : Option Addr} {sl7 : Array (Option Value)} {oc7 kV7 dc7 pm7 cd7 ct7 : Value}
    (a7 : PySem.W.nsIn K mainGlobals "safe_demands" = some (some (.ref f7))) (l7 : K.lookup f7 = some ⟨oc7, od7, .func (PySem.W.fnOf "safe_demands" "safe_demands" (defArgs st_safe_demands) (defBody st_safe_demands) (defScope st_safe_demands) .none kV7 dc7 pm7 an7 cd7 ct7), sl7⟩) (c7 : PySem.W.codeIn K cd7 "safe_demands" = true) (k7 : PySem.W.keepIn K (.ref f7) = true)
    {f8 : Addr} {od8 an8 : Option Addr} {sl8 : Array (Option Value)} {oc8 kV8 dc8 pm8 cd8 ct8 : Value}
    (a8 : PySem.W.nsIn K mainGlobals "slips_apart" = some (some (.ref f8))) (l8 : K.lookup f8 = some ⟨oc8, od8, .func (PySem.W.fnOf "slips_apart" "slips_apart" (defArgs st_slips_apart) (defBody st_slips_apart) (defScope st_slips_apart) .none kV8 dc8 pm8 an8 cd8 ct8), sl8⟩) (c8 : PySem.W.codeIn K cd8 "slips_apart" = true) (k8 : PySem.W.keepIn K (.ref f8) = true)
    {f9 : Addr} {od9 an9 : Option Addr} {sl9 : Array (Option Value)} {oc9 kV9 dc9 pm9 cd9 ct9 : Value}
    (a9 : PySem.W.nsIn K mainGlobals "breaking_errors" = some (some (.ref f9))) (l9 : K.lookup f9 = some ⟨oc9, od9, .func (PySem.W.fnOf "breaking_errors" "breaking_errors" (defArgs st_breaking_errors) (defBody st_breaking_errors) (defScope st_breaking_errors) .none kV9 dc9 pm9 an9 cd9 ct9), sl9⟩) (c9 : PySem.W.codeIn K cd9 "breaking_errors" = true) (k9 : PySem.W.keepIn K (.ref f9) = true)
    {f10 : Addr} {od10 an10 : Option Addr} {sl10 : Array (Option Value)} {oc10 kV10 dc10 pm10 cd10 ct10 : Value}
    (a10 : PySem.W.nsIn K mainGlobals "_law_draws" = some (some (.ref f10))) (l10 : K.lookup f10 = some ⟨oc10, od10, .func (PySem.W.fnOf "_law_draws" "_law_draws" (defArgs st__law_draws) (defBody st__law_draws) (defScope st__law_draws) .none kV10 dc10 pm10 an10 cd10 ct10), sl10⟩) (c10 : PySem.W.codeIn K cd10 "_law_draws" = true) (k10 : PySem.W.keepIn K (.ref f10) = true)
    {f11 : Addr} {od11 an11 : Option Addr} {sl11 : Array (Option Value)} {oc11 kV11 dc11 pm11 cd11 ct11 : Value}
    (a11 : PySem.W.nsIn K mainGlobals "_law_cell" = some (some (.ref f11))) (l11 : K.lookup f11 = some ⟨oc11, od11, .func (PySem.W.fnOf "_law_cell" "_law_cell" (defArgs st__law_cell) (defBody st__law_cell) (defScope st__law_cell) .none kV11 dc11 pm11 an11 cd11 ct11), sl11⟩) (c11 : PySem.W.codeIn K cd11 "_law_cell" = true) (k11 : PySem.W.keepIn K (.ref f11) = true)
    {f12 : Addr} {od12 an12 : Option Addr} {sl12 : Array (Option Value)} {oc12 kV12 dc12 pm12 cd12 ct12 : Value}
    (a12 : PySem.W.nsIn K mainGlobals "_law_is_number" = some (some (.ref f12))) (l12 : K.lookup f12 = some ⟨oc12, od12, .func (PySem.W.fnOf "_law_is_number" "_law_is_number" (defArgs st__law_is_number) (defBody st__law_is_number) (defScope st__law_is_number) .none kV12 dc12 pm12 an12 cd12 ct12), sl12⟩) (c12 : PySem.W.codeIn K cd12 "_law_is_number" = true) (k12 : PySem.W.keepIn K (.ref f12) = true)
    {f13 : Addr} {od13 an13 : Option Addr} {sl13 : Array (Option Value)} {oc13 kV13 dc13 pm13 cd13 ct13 : Value}
    (a13 : PySem.W.nsIn K mainGlobals "_law_is_numbers" = some (some (.ref f13))) (l13 : K.lookup f13 = some ⟨oc13, od13, .func (PySem.W.fnOf "_law_is_numbers" "_law_is_numbers" (defArgs st__law_is_numbers) (defBody st__law_is_numbers) (defScope st__law_is_numbers) .none kV13 dc13 pm13 an13 cd13 ct13), sl13⟩) (c13 : PySem.W.codeIn K cd13 "_law_is_numbers" = true) (k13 : PySem.W.keepIn K (.ref f13) = true)
    {f14 : Addr} {od14 an14 : Option Addr} {sl14 : Array (Option Value)} {oc14 kV14 dc14 pm14 cd14 ct14 : Value}
    (a14 : PySem.W.nsIn K mainGlobals "_law_name" = some (some (.ref f14))) (l14 : K.lookup f14 = some ⟨oc14, od14, .func (PySem.W.fnOf "_law_name" "_law_name" (defArgs st__law_name) (defBody st__law_name) (defScope st__law_name) .none kV14 dc14 pm14 an14 cd14 ct14), sl14⟩) (c14 : PySem.W.codeIn K cd14 "_law_name" = true) (k14 : PySem.W.keepIn K (.ref f14) = true)
    {f15 : Addr} {od15 an15 : Option Addr} {sl15 : Array (Option Value)} {oc15 kV15 dc15 pm15 cd15 ct15 : Value}
    (a15 : PySem.W.nsIn K mainGlobals "_law_house" = some (some (.ref f15))) (l15 : K.lookup f15 = some ⟨oc15, od15, .func (PySem.W.fnOf "_law_house" "_law_house" (defArgs st__law_house) (defBody st__law_house) (defScope st__law_house) .none kV15 dc15 pm15 an15 cd15 ct15), sl15⟩) (c15 : PySem.W.codeIn K cd15 "_law_house" = true) (k15 : PySem.W.keepIn K (.ref f15) = true)
    {f16 : Addr} {od16 an16 : Option Addr} {sl16 : Array (Option Value)} {oc16 kV16 dc16 pm16 cd16 ct16 : Value}
    (a16 : PySem.W.nsIn K mainGlobals "_law_crossing" = some (some (.ref f16))) (l16 : K.lookup f16 = some ⟨oc16, od16, .func (PySem.W.fnOf "_law_crossing" "_law_crossing" (defArgs st__law_crossing) (defBody st__law_crossing) (defScope st__law_crossing) .none kV16 dc16 pm16 an16 cd16 ct16), sl16⟩) (c16 : PySem.W.codeIn K cd16 "_law_crossing" = true) (k16 : PySem.W.keepIn K (.ref f16) = true)
    {f17 : Addr} {od17 an17 : Option Addr} {sl17 : Array (Option Value)} {oc17 kV17 dc17 pm17 cd17 ct17 : Value}
    (a17 : PySem.W.nsIn K mainGlobals "_law_grown" = some (some (.ref f17))) (l17 : K.lookup f17 = some ⟨oc17, od17, .func (PySem.W.fnOf "_law_grown" "_law_grown" (defArgs st__law_grown) (defBody st__law_grown) (defScope st__law_grown) .none kV17 dc17 pm17 an17 cd17 ct17), sl17⟩) (c17 : PySem.W.codeIn K cd17 "_law_grown" = true) (k17 : PySem.W.keepIn K (.ref f17) = true)
    {f18 : Addr} {od18 an18 : Option Addr} {sl18 : Array (Option Value)} {oc18 kV18 dc18 pm18 cd18 ct18 : Value}
    (a18 : PySem.W.nsIn K mainGlobals "_law_meets" = some (some (.ref f18))) (l18 : K.lookup f18 = some ⟨oc18, od18, .func (PySem.W.fnOf "_law_meets" "_law_meets" (defArgs st__law_meets) (defBody st__law_meets) (defScope st__law_meets) .none kV18 dc18 pm18 an18 cd18 ct18), sl18⟩) (c18 : PySem.W.codeIn K cd18 "_law_meets" = true) (k18 : PySem.W.keepIn K (.ref f18) = true)
    {f19 : Addr} {od19 an19 : Option Addr} {sl19 : Array (Option Value)} {oc19 kV19 dc19 pm19 cd19 ct19 : Value}
    (a19 : PySem.W.nsIn K mainGlobals "_law_heard" = some (some (.ref f19))) (l19 : K.lookup f19 = some ⟨oc19, od19, .func (PySem.W.fnOf "_law_heard" "_law_heard" (defArgs st__law_heard) (defBody st__law_heard) (defScope st__law_heard) .none kV19 dc19 pm19 an19 cd19 ct19), sl19⟩) (c19 : PySem.W.codeIn K cd19 "_law_heard" = true) (k19 : PySem.W.keepIn K (.ref f19) = true)
    {f20 : Addr} {od20 an20 : Option Addr} {sl20 : Array (Option Value)} {oc20 kV20 dc20 pm20 cd20 ct20 : Value}
    (a20 : PySem.W.nsIn K mainGlobals "_law_pair_errors" = some (some (.ref f20))) (l20 : K.lookup f20 = some ⟨oc20, od20, .func (PySem.W.fnOf "_law_pair_errors" "_law_pair_errors" (defArgs st__law_pair_errors) (defBody st__law_pair_errors) (defScope st__law_pair_errors) .none kV20 dc20 pm20 an20 cd20 ct20), sl20⟩) (c20 : PySem.W.codeIn K cd20 "_law_pair_errors" = true) (k20 : PySem.W.keepIn K (.ref f20) = true)
    {f21 : Addr} {od21 an21 : Option Addr} {sl21 : Array (Option Value)} {oc21 kV21 dc21 pm21 cd21 ct21 : Value}
    (a21 : PySem.W.nsIn K mainGlobals "_law_demands" = some (some (.ref f21))) (l21 : K.lookup f21 = some ⟨oc21, od21, .func (PySem.W.fnOf "_law_demands" "_law_demands" (defArgs st__law_demands) (defBody st__law_demands) (defScope st__law_demands) .none kV21 dc21 pm21 an21 cd21 ct21), sl21⟩) (c21 : PySem.W.codeIn K cd21 "_law_demands" = true) (k21 : PySem.W.keepIn K (.ref f21) = true)
    {f22 : Addr} {od22 an22 : Option Addr} {sl22 : Array (Option Value)} {oc22 kV22 dc22 pm22 cd22 ct22 : Value}
    (a22 : PySem.W.nsIn K mainGlobals "_law_safe" = some (some (.ref f22))) (l22 : K.lookup f22 = some ⟨oc22, od22, .func (PySem.W.fnOf "_law_safe" "_law_safe" (defArgs st__law_safe) (defBody st__law_safe) (defScope st__law_safe) .none kV22 dc22 pm22 an22 cd22 ct22), sl22⟩) (c22 : PySem.W.codeIn K cd22 "_law_safe" = true) (k22 : PySem.W.keepIn K (.ref f22) = true)
    {f23 : Addr} {od23 an23 : Option Addr} {sl23 : Array (Option Value)} {oc23 kV23 dc23 pm23 cd23 ct23 : Value}
    (a23 : PySem.W.nsIn K mainGlobals "_law_is_same" = some (some (.ref f23))) (l23 : K.lookup f23 = some ⟨oc23, od23, .func (PySem.W.fnOf "_law_is_same" "_law_is_same" (defArgs st__law_is_same) (defBody st__law_is_same) (defScope st__law_is_same) .none kV23 dc23 pm23 an23 cd23 ct23), sl23⟩) (c23 : PySem.W.codeIn K cd23 "_law_is_same" = true) (k23 : PySem.W.keepIn K (.ref f23) = true)
    {f24 : Addr} {od24 an24 : Option Addr} {sl24 : Array (Option Value)} {oc24 kV24 dc24 pm24 cd24 ct24 : Value}
    (a24 : PySem.W.nsIn K mainGlobals "_law_breaks" = some (some (.ref f24))) (l24 : K.lookup f24 = some ⟨oc24, od24, .func (PySem.W.fnOf "_law_breaks" "_law_breaks" (defArgs st__law_breaks) (defBody st__law_breaks) (defScope st__law_breaks) .none kV24 dc24 pm24 an24 cd24 ct24), sl24⟩) (c24 : PySem.W.codeIn K cd24 "_law_breaks" = true) (k24 : PySem.W.keepIn K (.ref f24) = true)
    {f25 : Addr} {od25 an25 : Option Addr} {sl25 : Array (Option Value)} {oc25 kV25 dc25 pm25 cd25 ct25 : Value}
    (a25 : PySem.W.nsIn K mainGlobals "_law_is_right" = some (some (.ref f25))) (l25 : K.lookup f25 = some ⟨oc25, od25, .func (PySem.W.fnOf "_law_is_right" "_law_is_right" (defArgs st__law_is_right) (defBody st__law_is_right) (defScope st__law_is_right) .none kV25 dc25 pm25 an25 cd25 ct25), sl25⟩) (c25 : PySem.W.codeIn K cd25 "_law_is_right" = true) (k25 : PySem.W.keepIn K (.ref f25) = true)
    {f26 : Addr} {od26 an26 : Option Addr} {sl26 : Array (Option Value)} {oc26 kV26 dc26 pm26 cd26 ct26 : Value}
    (a26 : PySem.W.nsIn K mainGlobals "law" = some (some (.ref f26))) (l26 : K.lookup f26 = some ⟨oc26, od26, .func (PySem.W.fnOf "law" "law" (defArgs st_law) (defBody st_law) (defScope st_law) .none kV26 dc26 pm26 an26 cd26 ct26), sl26⟩) (c26 : PySem.W.codeIn K cd26 "law" = true) (k26 : PySem.W.keepIn K (.ref f26) = true)
    (z0 : PySem.W.nsIn K mainGlobals "abs" = some none)
    (z1 : PySem.W.nsIn K mainGlobals "bool" = some none)
    (z2 : PySem.W.nsIn K mainGlobals "int" = some none)
    (z3 : PySem.W.nsIn K mainGlobals "isinstance" = some none)
    (z4 : PySem.W.nsIn K mainGlobals "len" = some none)
    (z5 : PySem.W.nsIn K mainGlobals "list" = some none)
    (z6 : PySem.W.nsIn K mainGlobals "range" = some none)
    (z7 : PySem.W.nsIn K mainGlobals "sum" = some none)
    (z8 : PySem.W.nsIn K mainGlobals "tuple" = some none)
    : ∃ fd : FuncData, (∀ (s : Shared) (v : Value), BindsTo s fd ⟨[v], []⟩ [("script", v)]) ∧ ∀ base : Heap, K.In base → base.Ns mainGlobals mg → FnOk l.prog w K mg base CX0 5 fa fd ["script"] (spLaw K) := by
  have e := hfa.symm.trans (PySem.W.mg_of X G a26)
  cases e
  have F0 := fun_mk (st := st_within) l0 c0 k0
  have b0 := F0.binds (ps := ["width", "least", "most"]) fun _ _ _ _ _ _ us hl => match us, hl with | [_, _, _], _ => rfl
  have F1 := fun_mk (st := st_meets) l1 c1 k1
  have b1 := F1.binds (ps := ["demands", "tuning"]) fun _ _ _ _ _ _ us hl => match us, hl with | [_, _], _ => rfl
  have F2 := fun_mk (st := st_ways_of) l2 c2 k2
  have b2 := F2.binds (ps := ["size", "plan"]) fun _ _ _ _ _ _ us hl => match us, hl with | [_, _], _ => rfl
  have F3 := fun_mk (st := st_parting) l3 c3 k3
  have b3 := F3.binds (ps := ["first", "second"]) fun _ _ _ _ _ _ us hl => match us, hl with | [_, _], _ => rfl
  have F4 := fun_mk (st := st_pair_error) l4 c4 k4
  have b4 := F4.binds (ps := ["size", "root", "listenings", "plan", "first", "second"]) fun _ _ _ _ _ _ us hl => match us, hl with | [_, _, _, _, _, _], _ => rfl
  have F5 := fun_mk (st := st_tuned_by_ear) l5 c5 k5
  have b5 := F5.binds (ps := ["target", "root", "listenings", "plan", "slips"]) fun _ _ _ _ _ _ us hl => match us, hl with | [_, _, _, _, _], _ => rfl
  have F6 := fun_mk (st := st_narrowed) l6 c6 k6
  have b6 := F6.binds (ps := ["demand", "error"]) fun _ _ _ _ _ _ us hl => match us, hl with | [_, _], _ => rfl
  have F7 := fun_mk (st := st_safe_demands) l7 c7 k7
  have b7 := F7.binds (ps := ["size", "demands", "root", "listenings", "plan"]) fun _ _ _ _ _ _ us hl => match us, hl with | [_, _, _, _, _], _ => rfl
  have F8 := fun_mk (st := st_slips_apart) l8 c8 k8
  have b8 := F8.binds (ps := ["listenings", "plan", "low_way", "high_way", "sign"]) fun _ _ _ _ _ _ us hl => match us, hl with | [_, _, _, _, _], _ => rfl
  have F9 := fun_mk (st := st_breaking_errors) l9 c9 k9
  have b9 := F9.binds (ps := ["size", "demands", "root", "listenings", "plan", "target"]) fun _ _ _ _ _ _ us hl => match us, hl with | [_, _, _, _, _, _], _ => rfl
  have F10 := fun_mk (st := st__law_draws) l10 c10 k10
  have b10 := F10.binds (ps := ["script", "many"]) fun _ _ _ _ _ _ us hl => match us, hl with | [_, _], _ => rfl
  have F11 := fun_mk (st := st__law_cell) l11 c11 k11
  have b11 := F11.binds (ps := ["draws", "k"]) fun _ _ _ _ _ _ us hl => match us, hl with | [_, _], _ => rfl
  have F12 := fun_mk (st := st__law_is_number) l12 c12 k12
  have b12 := F12.binds (ps := ["value"]) fun _ _ _ _ _ _ us hl => match us, hl with | [_], _ => rfl
  have F13 := fun_mk (st := st__law_is_numbers) l13 c13 k13
  have b13 := F13.binds (ps := ["value", "size"]) fun _ _ _ _ _ _ us hl => match us, hl with | [_, _], _ => rfl
  have F14 := fun_mk (st := st__law_name) l14 c14 k14
  have b14 := F14.binds (ps := ["draws", "size", "k"]) fun _ _ _ _ _ _ us hl => match us, hl with | [_, _, _], _ => rfl
  have F15 := fun_mk (st := st__law_house) l15 c15 k15
  have b15 := F15.binds (ps := ["draws"]) fun _ _ _ _ _ _ us hl => match us, hl with | [_], _ => rfl
  have F16 := fun_mk (st := st__law_crossing) l16 c16 k16
  have b16 := F16.binds (ps := ["listenings", "inside"]) fun _ _ _ _ _ _ us hl => match us, hl with | [_, _], _ => rfl
  have F17 := fun_mk (st := st__law_grown) l17 c17 k17
  have b17 := F17.binds (ps := ["draws", "size", "root", "listenings"]) fun _ _ _ _ _ _ us hl => match us, hl with | [_, _, _, _], _ => rfl
  have F18 := fun_mk (st := st__law_meets) l18 c18 k18
  have b18 := F18.binds (ps := ["demands", "tuning"]) fun _ _ _ _ _ _ us hl => match us, hl with | [_, _], _ => rfl
  have F19 := fun_mk (st := st__law_heard) l19 c19 k19
  have b19 := F19.binds (ps := ["target", "root", "plan", "slips"]) fun _ _ _ _ _ _ us hl => match us, hl with | [_, _, _, _], _ => rfl
  have F20 := fun_mk (st := st__law_pair_errors) l20 c20 k20
  have b20 := F20.binds (ps := ["size", "listenings", "plan"]) fun _ _ _ _ _ _ us hl => match us, hl with | [_, _, _], _ => rfl
  have F21 := fun_mk (st := st__law_demands) l21 c21 k21
  have b21 := F21.binds (ps := ["draws", "size", "target", "errors", "spread"]) fun _ _ _ _ _ _ us hl => match us, hl with | [_, _, _, _, _], _ => rfl
  have F22 := fun_mk (st := st__law_safe) l22 c22 k22
  have b22 := F22.binds (ps := ["demands", "errors"]) fun _ _ _ _ _ _ us hl => match us, hl with | [_, _], _ => rfl
  have F23 := fun_mk (st := st__law_is_same) l23 c23 k23
  have b23 := F23.binds (ps := ["told", "due"]) fun _ _ _ _ _ _ us hl => match us, hl with | [_, _], _ => rfl
  have F24 := fun_mk (st := st__law_breaks) l24 c24 k24
  have b24 := F24.binds (ps := ["demands", "root", "listenings", "plan", "target", "slips"]) fun _ _ _ _ _ _ us hl => match us, hl with | [_, _, _, _, _, _], _ => rfl
  have F25 := fun_mk (st := st__law_is_right) l25 c25 k25
  have b25 := F25.binds (ps := ["size", "demands", "root", "listenings", "plan", "target", "errors"]) fun _ _ _ _ _ _ us hl => match us, hl with | [_, _, _, _, _, _, _], _ => rfl
  have F26 := fun_mk (st := st_law) l26 c26 k26
  have b26 := F26.binds (ps := ["script"]) fun _ _ _ _ _ _ us hl => match us, hl with | [_], _ => rfl
  let T : Txt K mg := {
    f_within := _, d_within := _, F_within := F0, b_within := b0, g_within := PySem.W.mg_of X G a0,
    f_meets := _, d_meets := _, F_meets := F1, b_meets := b1, g_meets := PySem.W.mg_of X G a1,
    f_ways_of := _, d_ways_of := _, F_ways_of := F2, b_ways_of := b2, g_ways_of := PySem.W.mg_of X G a2,
    f_parting := _, d_parting := _, F_parting := F3, b_parting := b3, g_parting := PySem.W.mg_of X G a3,
    f_pair_error := _, d_pair_error := _, F_pair_error := F4, b_pair_error := b4, g_pair_error := PySem.W.mg_of X G a4,
    f_tuned_by_ear := _, d_tuned_by_ear := _, F_tuned_by_ear := F5, b_tuned_by_ear := b5, g_tuned_by_ear := PySem.W.mg_of X G a5,
    f_narrowed := _, d_narrowed := _, F_narrowed := F6, b_narrowed := b6, g_narrowed := PySem.W.mg_of X G a6,
    f_safe_demands := _, d_safe_demands := _, F_safe_demands := F7, b_safe_demands := b7, g_safe_demands := PySem.W.mg_of X G a7,
    f_slips_apart := _, d_slips_apart := _, F_slips_apart := F8, b_slips_apart := b8, g_slips_apart := PySem.W.mg_of X G a8,
    f_breaking_errors := _, d_breaking_errors := _, F_breaking_errors := F9, b_breaking_errors := b9, g_breaking_errors := PySem.W.mg_of X G a9,
    f__law_draws := _, d__law_draws := _, F__law_draws := F10, b__law_draws := b10, g__law_draws := PySem.W.mg_of X G a10,
    f__law_cell := _, d__law_cell := _, F__law_cell := F11, b__law_cell := b11, g__law_cell := PySem.W.mg_of X G a11,
    f__law_is_number := _, d__law_is_number := _, F__law_is_number := F12, b__law_is_number := b12, g__law_is_number := PySem.W.mg_of X G a12,
    f__law_is_numbers := _, d__law_is_numbers := _, F__law_is_numbers := F13, b__law_is_numbers := b13, g__law_is_numbers := PySem.W.mg_of X G a13,
    f__law_name := _, d__law_name := _, F__law_name := F14, b__law_name := b14, g__law_name := PySem.W.mg_of X G a14,
    f__law_house := _, d__law_house := _, F__law_house := F15, b__law_house := b15, g__law_house := PySem.W.mg_of X G a15,
    f__law_crossing := _, d__law_crossing := _, F__law_crossing := F16, b__law_crossing := b16, g__law_crossing := PySem.W.mg_of X G a16,
    f__law_grown := _, d__law_grown := _, F__law_grown := F17, b__law_grown := b17, g__law_grown := PySem.W.mg_of X G a17,
    f__law_meets := _, d__law_meets := _, F__law_meets := F18, b__law_meets := b18, g__law_meets := PySem.W.mg_of X G a18,
    f__law_heard := _, d__law_heard := _, F__law_heard := F19, b__law_heard := b19, g__law_heard := PySem.W.mg_of X G a19,
    f__law_pair_errors := _, d__law_pair_errors := _, F__law_pair_errors := F20, b__law_pair_errors := b20, g__law_pair_errors := PySem.W.mg_of X G a20,
    f__law_demands := _, d__law_demands := _, F__law_demands := F21, b__law_demands := b21, g__law_demands := PySem.W.mg_of X G a21,
    f__law_safe := _, d__law_safe := _, F__law_safe := F22, b__law_safe := b22, g__law_safe := PySem.W.mg_of X G a22,
    f__law_is_same := _, d__law_is_same := _, F__law_is_same := F23, b__law_is_same := b23, g__law_is_same := PySem.W.mg_of X G a23,
    f__law_breaks := _, d__law_breaks := _, F__law_breaks := F24, b__law_breaks := b24, g__law_breaks := PySem.W.mg_of X G a24,
    f__law_is_right := _, d__law_is_right := _, F__law_is_right := F25, b__law_is_right := b25, g__law_is_right := PySem.W.mg_of X G a25,
    f_law := _, d_law := _, F_law := F26, b_law := b26, g_law := PySem.W.mg_of X G a26,
    z_abs := PySem.W.mg_none_of X G z0,
    z_bool := PySem.W.mg_none_of X G z1,
    z_int := PySem.W.mg_none_of X G z2,
    z_isinstance := PySem.W.mg_none_of X G z3,
    z_len := PySem.W.mg_none_of X G z4,
    z_list := PySem.W.mg_none_of X G z5,
    z_range := PySem.W.mg_none_of X G z6,
    z_sum := PySem.W.mg_none_of X G z7,
    z_tuple := PySem.W.mg_none_of X G z8 }
  refine ⟨PySem.W.fnOf "law" "law" (defArgs st_law) (defBody st_law) (defScope st_law) .none kV26 dc26 pm26 an26 cd26 ct26, fun s v => .of_eq rfl, fun base _ _ => ?_⟩
  have G_within := wk_within (P := l.prog) (w := w) (base := base) T  ms_within kp_within
  have G_meets := wk_meets (P := l.prog) (w := w) (base := base) T G_within ms_meets kp_meets
  have G_ways_of := wk_ways_of (P := l.prog) (w := w) (base := base) T  ms_ways_of kp_ways_of
  have G_parting := wk_parting (P := l.prog) (w := w) (base := base) T  ms_parting kp_parting
  have G_pair_error := wk_pair_error (P := l.prog) (w := w) (base := base) T G_ways_of G_parting ms_pair_error kp_pair_error
  have G_tuned_by_ear := wk_tuned_by_ear (P := l.prog) (w := w) (base := base) T  ms_tuned_by_ear kp_tuned_by_ear
  have G_narrowed := wk_narrowed (P := l.prog) (w := w) (base := base) T  ms_narrowed kp_narrowed
  have G_safe_demands := wk_safe_demands (P := l.prog) (w := w) (base := base) T G_pair_error G_narrowed ms_safe_demands kp_safe_demands
  have G_slips_apart := wk_slips_apart (P := l.prog) (w := w) (base := base) T  ms_slips_apart kp_slips_apart
  have G_breaking_errors := wk_breaking_errors (P := l.prog) (w := w) (base := base) T G_ways_of G_slips_apart G_meets G_tuned_by_ear ms_breaking_errors kp_breaking_errors
  have G__law_draws := wk__law_draws (P := l.prog) (w := w) (base := base) T  ms__law_draws kp__law_draws
  have G__law_cell := wk__law_cell (P := l.prog) (w := w) (base := base) T  ms__law_cell kp__law_cell
  have G__law_is_number := wk__law_is_number (P := l.prog) (w := w) (base := base) T  ms__law_is_number kp__law_is_number
  have G__law_is_numbers := wk__law_is_numbers (P := l.prog) (w := w) (base := base) T G__law_is_number ms__law_is_numbers kp__law_is_numbers
  have G__law_name := wk__law_name (P := l.prog) (w := w) (base := base) T  ms__law_name kp__law_name
  have G__law_house := wk__law_house (P := l.prog) (w := w) (base := base) T G__law_name G__law_cell ms__law_house_6af9 kp__law_house_6af9
  have G__law_crossing := wk__law_crossing (P := l.prog) (w := w) (base := base) T  ms__law_crossing kp__law_crossing
  have G__law_grown := wk__law_grown (P := l.prog) (w := w) (base := base) T G__law_crossing G__law_cell ms__law_grown kp__law_grown
  have G__law_meets := wk__law_meets (P := l.prog) (w := w) (base := base) T  ms_meets kp__law_meets_d118
  have G__law_heard := wk__law_heard (P := l.prog) (w := w) (base := base) T  ms__law_heard_b0a2 kp__law_heard_b0a2
  have G__law_pair_errors := wk__law_pair_errors (P := l.prog) (w := w) (base := base) T  ms__law_pair_errors kp__law_pair_errors
  have G__law_demands := wk__law_demands (P := l.prog) (w := w) (base := base) T G__law_cell ms__law_demands_f9d5 kp__law_demands_f9d5
  have G__law_safe := wk__law_safe (P := l.prog) (w := w) (base := base) T  ms__law_safe kp__law_safe
  have G__law_is_same := wk__law_is_same (P := l.prog) (w := w) (base := base) T G__law_is_number ms__law_is_same kp__law_is_same
  have G__law_breaks := wk__law_breaks (P := l.prog) (w := w) (base := base) T G__law_is_numbers G__law_meets G__law_heard ms__law_breaks kp__law_breaks
  have G__law_is_right := wk__law_is_right (P := l.prog) (w := w) (base := base) T G__law_safe G__law_is_same G_safe_demands G_breaking_errors G__law_meets G__law_breaks ms__law_is_right_ec74 kp__law_is_right_ec74
  have G_law := wk_law (P := l.prog) (w := w) (base := base) T G__law_draws G__law_house G__law_grown G__law_cell G__law_pair_errors G__law_demands G__law_is_right G__law_meets G__law_safe G__law_heard ms_law_a14d kp_law_a14d
  exact G_law.ok.imp fun vs H Q E h => spLaw_spD h
end K77
open PySem PySem.W PyProof.Rows
set_option maxHeartbeats 0 in
theorem PySem.Challenge.cw_keystuned_k77_safe_targets_holds : PySem.Challenge.rw_keystuned_k77_safe_targets.Holds := by
  w_on; o_law; k_head; (case hw => w_witness2)
  k_fill
  refine L2.walk_of (l := PySem.Challenge.rw_keystuned_k77_safe_targets) (n := 63) (k := 5) (x := "script") (CX := fun _ => L2.CX0) (sp := fun w => K77.spLaw _) rfl (by decide) rfl ⟨rfl, by decide, by decide⟩ (fun w h Y => PySem.W.kIn_of Y) ?F (fun _ _ a ns hl _ hS => ⟨a, ns, rfl, hS, hl, fun _ => rfl⟩) (fun _ _ _ _ _ h => h)
  case F =>
    intro w mg fa h KX G hmg
    refine' K77.all_mk KX G hmg ?a0 ?l0 ?c0 ?k0 ?a1 ?l1 ?c1 ?k1 ?a2 ?l2 ?c2 ?k2 ?a3 ?l3 ?c3 ?k3 ?a4 ?l4 ?c4 ?k4 ?a5 ?l5 ?c5 ?k5 ?a6 ?l6 ?c6 ?k6 ?a7 ?l7 ?c7 ?k7 ?a8 ?l8 ?c8 ?k8 ?a9 ?l9 ?c9 ?k9 ?a10 ?l10 ?c10 ?k10 ?a11 ?l11 ?c11 ?k11 ?a12 ?l12 ?c12 ?k12 ?a13 ?l13 ?c13 ?k13 ?a14 ?l14 ?c14 ?k14 ?a15 ?l15 ?c15 ?k15 ?a16 ?l16 ?c16 ?k16 ?a17 ?l17 ?c17 ?k17 ?a18 ?l18 ?c18 ?k18 ?a19 ?l19 ?c19 ?k19 ?a20 ?l20 ?c20 ?k20 ?a21 ?l21 ?c21 ?k21 ?a22 ?l22 ?c22 ?k22 ?a23 ?l23 ?c23 ?k23 ?a24 ?l24 ?c24 ?k24 ?a25 ?l25 ?c25 ?k25 ?a26 ?l26 ?c26 ?k26 ?z0 ?z1 ?z2 ?z3 ?z4 ?z5 ?z6 ?z7 ?z8
    (case a0 => k_is); (case l0 => k_is); (case c0 => k_is); (case k0 => k_is); (case a1 => k_is); (case l1 => k_is); (case c1 => k_is); (case k1 => k_is); (case a2 => k_is); (case l2 => k_is); (case c2 => k_is); (case k2 => k_is); (case a3 => k_is); (case l3 => k_is); (case c3 => k_is); (case k3 => k_is); (case a4 => k_is); (case l4 => k_is); (case c4 => k_is); (case k4 => k_is); (case a5 => k_is); (case l5 => k_is); (case c5 => k_is); (case k5 => k_is); (case a6 => k_is); (case l6 => k_is); (case c6 => k_is); (case k6 => k_is); (case a7 => k_is); (case l7 => k_is); (case c7 => k_is); (case k7 => k_is); (case a8 => k_is); (case l8 => k_is); (case c8 => k_is); (case k8 => k_is); (case a9 => k_is); (case l9 => k_is); (case c9 => k_is); (case k9 => k_is); (case a10 => k_is); (case l10 => k_is); (case c10 => k_is); (case k10 => k_is); (case a11 => k_is); (case l11 => k_is); (case c11 => k_is); (case k11 => k_is); (case a12 => k_is); (case l12 => k_is); (case c12 => k_is); (case k12 => k_is); (case a13 => k_is); (case l13 => k_is); (case c13 => k_is); (case k13 => k_is); (case a14 => k_is); (case l14 => k_is); (case c14 => k_is); (case k14 => k_is); (case a15 => k_is); (case l15 => k_is); (case c15 => k_is); (case k15 => k_is); (case a16 => k_is); (case l16 => k_is); (case c16 => k_is); (case k16 => k_is); (case a17 => k_is); (case l17 => k_is); (case c17 => k_is); (case k17 => k_is); (case a18 => k_is); (case l18 => k_is); (case c18 => k_is); (case k18 => k_is); (case a19 => k_is); (case l19 => k_is); (case c19 => k_is); (case k19 => k_is); (case a20 => k_is); (case l20 => k_is); (case c20 => k_is); (case k20 => k_is); (case a21 => k_is); (case l21 => k_is); (case c21 => k_is); (case k21 => k_is); (case a22 => k_is); (case l22 => k_is); (case c22 => k_is); (case k22 => k_is); (case a23 => k_is); (case l23 => k_is); (case c23 => k_is); (case k23 => k_is); (case a24 => k_is); (case l24 => k_is); (case c24 => k_is); (case k24 => k_is); (case a25 => k_is); (case l25 => k_is); (case c25 => k_is); (case k25 => k_is); (case a26 => k_is); (case l26 => k_is); (case c26 => k_is); (case k26 => k_is); (case z0 => k_is); (case z1 => k_is); (case z2 => k_is); (case z3 => k_is); (case z4 => k_is); (case z5 => k_is); (case z6 => k_is); (case z7 => k_is); (case z8 => k_is)

