import PyProof.Rows.All
import Wide.All
import OpenK.AllK
import Wide.FinOn
import KE.KStateDown
import HandS.ForMost
import HandS.Exc
import HandS.WordsExc
import HandS.CallSlots
import HandS.TryOnly
import HandS.ExcOwn
import HandS.IsInst
import HandS.TupAny
import HandS.Style
import HandS.StrMore
import HandS.Wide
import HandS.Defaults
import HandS.HeadHook1
import HandS.HeadHook2
import KE.DataCmp
import KE.SortKeyHeap
import HandS.More
import HandS.Text
import HandS.HeadEnd
import KE.SortData
import KE.SortUse
import HandS.SortKw
import HandS.ForExc
import HandS.Head0
import HandS.Head1
import HandS.Head2
import PySem.Challenge.RW_heldpasts_k23_whole_codes_go_as_values_d
section
set_option linter.all false
/-! The data layer, pure part: data, the small heap, readings (combinators) of a small Python. No library is imported. -/
namespace Dl

/-- a value as data: tuples and frozen lists are data, whatever may change stands by its address -/
inductive D where
  | non | bl (b : Bool) | int (i : Int) | str (x : List Nat) | ty (n : String) | obj (a : Nat) | tup (xs : List D) | lst (xs : List D)
  deriving Inhabited

mutual
def deqD : (a b : D) → Decidable (a = b)
  | .non, .non => isTrue rfl
  | .bl a, .bl b => if h : a = b then isTrue (by rw [h]) else isFalse fun e => h (D.bl.inj e)
  | .int a, .int b => if h : a = b then isTrue (by rw [h]) else isFalse fun e => h (D.int.inj e)
  | .str a, .str b => if h : a = b then isTrue (by rw [h]) else isFalse fun e => h (D.str.inj e)
  | .ty a, .ty b => if h : a = b then isTrue (by rw [h]) else isFalse fun e => h (D.ty.inj e)
  | .obj a, .obj b => if h : a = b then isTrue (by rw [h]) else isFalse fun e => h (D.obj.inj e)
  | .tup a, .tup b => match deqDs a b with
    | isTrue h => isTrue (by rw [h])
    | isFalse h => isFalse fun e => h (D.tup.inj e)
  | .lst a, .lst b => match deqDs a b with
    | isTrue h => isTrue (by rw [h])
    | isFalse h => isFalse fun e => h (D.lst.inj e)
  | .non, .bl _ | .non, .int _ | .non, .str _ | .non, .ty _ | .non, .obj _ | .non, .tup _ | .non, .lst _ => isFalse fun e => D.noConfusion e
  | .bl _, .non | .bl _, .int _ | .bl _, .str _ | .bl _, .ty _ | .bl _, .obj _ | .bl _, .tup _ | .bl _, .lst _ => isFalse fun e => D.noConfusion e
  | .int _, .non | .int _, .bl _ | .int _, .str _ | .int _, .ty _ | .int _, .obj _ | .int _, .tup _ | .int _, .lst _ => isFalse fun e => D.noConfusion e
  | .str _, .non | .str _, .bl _ | .str _, .int _ | .str _, .ty _ | .str _, .obj _ | .str _, .tup _ | .str _, .lst _ => isFalse fun e => D.noConfusion e
  | .ty _, .non | .ty _, .bl _ | .ty _, .int _ | .ty _, .str _ | .ty _, .obj _ | .ty _, .tup _ | .ty _, .lst _ => isFalse fun e => D.noConfusion e
  | .obj _, .non | .obj _, .bl _ | .obj _, .int _ | .obj _, .str _ | .obj _, .ty _ | .obj _, .tup _ | .obj _, .lst _ => isFalse fun e => D.noConfusion e
  | .tup _, .non | .tup _, .bl _ | .tup _, .int _ | .tup _, .str _ | .tup _, .ty _ | .tup _, .obj _ | .tup _, .lst _ => isFalse fun e => D.noConfusion e
  | .lst _, .non | .lst _, .bl _ | .lst _, .int _ | .lst _, .str _ | .lst _, .ty _ | .lst _, .obj _ | .lst _, .tup _ => isFalse fun e => D.noConfusion e
def deqDs : (a b : List D) → Decidable (a = b)
  | [], [] => isTrue rfl
  | a :: as, b :: bs => match deqD a b, deqDs as bs with
    | isTrue h, isTrue h' => isTrue (by rw [h, h'])
    | isFalse h, _ => isFalse fun e => h (List.cons.inj e).1
    | _, isFalse h => isFalse fun e => h (List.cons.inj e).2
  | [], _ :: _ => isFalse fun e => by cases e
  | _ :: _, [] => isFalse fun e => by cases e
end
instance : DecidableEq D := deqD

/-- what stands at an address of the small heap -/
inductive MO where
  | lst (xs : List D)
  | dct (kvs : List (D × D))
  | lck (kvs : List (D × D))
  | ins (c : String) (fs : List (String × D))
abbrev Mh := Nat → Option MO
def mu (M : Mh) (a : Nat) (o : MO) : Mh := fun b => if b = a then some o else M b
def md (M : Mh) (a : Nat) : Mh := fun b => if b = a then none else M b
@[simp] theorem mu_same {M : Mh} {a : Nat} {o : MO} : mu M a o a = some o := by simp [mu]
@[simp] theorem mu_ne {M : Mh} {a b : Nat} {o : MO} (h : b ≠ a) : mu M a o b = M b := by simp [mu, h]
@[simp] theorem mu_mu {M : Mh} {a : Nat} {o u : MO} : mu (mu M a o) a u = mu M a u := by
  funext b; unfold mu; split <;> rfl
@[simp] theorem md_same {M : Mh} {a : Nat} : md M a a = none := by simp [md]
@[simp] theorem md_ne {M : Mh} {a b : Nat} (h : b ≠ a) : md M a b = M b := by simp [md, h]
theorem mu_self {M : Mh} {a : Nat} {o : MO} (h : M a = some o) : mu M a o = M := by
  funext b; unfold mu; split
  · next e => rw [e, h]
  · rfl
theorem mu_comm {M : Mh} {a b : Nat} {o u : MO} (h : a ≠ b) : mu (mu M a o) b u = mu (mu M b u) a o := by
  funext c; unfold mu
  by_cases h1 : c = b
  · have h2 : ¬ c = a := fun e => h (e.symm.trans h1)
    simp [h1, h2]
    intro e; exact absurd e.symm h
  · by_cases h2 : c = a <;> simp [h1, h2]
    intro e; exact absurd e h
theorem md_mu {M : Mh} {a : Nat} {o : MO} (h : M a = none) : md (mu M a o) a = M := by
  funext b; unfold md mu; by_cases e : b = a
  · rw [if_pos e, e, h]
  · rw [if_neg e, if_neg e]

abbrev Env := List (Option D)
abbrev DQ := D → Mh → Prop
/-- readings: of an expression, a test, an argument list, a walked thing, a target, a statement -/
abbrev DE := Env → Mh → DQ → Prop
abbrev DT := Env → Mh → (Bool → Mh → Prop) → Prop
abbrev DA := Env → Mh → (List D → Mh → Prop) → Prop
/-- the items, and what holds at each turn -/
abbrev DI := Env → Mh → (List D → (Mh → Prop) → Mh → Prop) → Prop
abbrev DG := D → Env → Mh → (Env → Mh → Prop) → Prop
/-- an error: its class's name, its field -/
structure Exn where
  name : String
  fld : Option (String × D) := none
abbrev DX := Exn → Env → Mh → Prop
structure DEnds where
  nx : Env → Mh → Prop
  rt : DQ
  bk : Env → Mh → Prop := fun _ _ => False
  ct : Env → Mh → Prop := fun _ _ => False
abbrev DS := DEnds → Env → Mh → Prop
/-- a def's promise -/
abbrev MSp := List D → Mh → DQ → (Exn → Mh → Prop) → Prop

/-! ### expressions -/
def mVar (i : Nat) : DE := fun env M Q => match env[i]? with
  | some (some d) => Q d M
  | _ => False
def mC (d : D) : DE := fun _ M Q => Q d M
abbrev DR1 := D → Mh → DQ → Prop
abbrev DR2 := D → D → Mh → DQ → Prop
abbrev DRn := List D → Mh → DQ → Prop
def mOp (r : DR2) (ta tb : DE) : DE := fun env M Q => ta env M fun x M1 => tb env M1 fun y M2 => r x y M2 Q
def mUn (r : DR1) (ta : DE) : DE := fun env M Q => ta env M fun x M1 => r x M1 Q
def mChain (r r' : DR2) (ta tb tc : DE) : DE := fun env M Q => ta env M fun x M1 => tb env M1 fun y M2 => r x y M2 fun z M3 => match z with
  | .bl true => tc env M3 fun w M4 => r' y w M4 Q
  | .bl false => Q (.bl false) M3
  | _ => False
def mNil : DA := fun _ M Q => Q [] M
def mCons (ta : DE) (tr : DA) : DA := fun env M Q => ta env M fun x M1 => tr env M1 fun xs M2 => Q (x :: xs) M2
abbrev line : Nat := 16777216
def mTup (t : DA) : DE := fun env M Q => t env M fun xs M1 => xs.length ≤ line ∧ Q (.tup xs) M1
/-- a list that is data from here on -/
def mLst (t : DA) : DE := fun env M Q => t env M fun xs M1 => xs.length ≤ line ∧ Q (.lst xs) M1
/-- a list that will change -/
def mLstO (t : DA) : DE := fun env M Q => t env M fun xs M1 => xs.length ≤ line ∧ ∀ p, M1 p = none → Q (.obj p) (mu M1 p (.lst xs))
/-- from here on it is data -/
def mFrz (t : DE) : DE := fun env M Q => t env M fun x M1 => match x with
  | .obj p => match M1 p with
    | some (.lst xs) => Q (.lst xs) (md M1 p)
    | _ => False
  | _ => False
def mCB (r : DRn) (t : DA) : DE := fun env M Q => t env M fun xs M1 => r xs M1 Q
def mIf (c : DT) (ta tb : DE) : DE := fun env M Q => c env M fun b M1 => (b = true → ta env M1 Q) ∧ (b = false → tb env M1 Q)
def mAndV (ta tb : DE) : DE := fun env M Q => ta env M fun x M1 => match x with
  | .bl true => tb env M1 Q
  | .bl false => Q (.bl false) M1
  | _ => False
def mOrV (ta tb : DE) : DE := fun env M Q => ta env M fun x M1 => match x with
  | .bl true => Q (.bl true) M1
  | .bl false => tb env M1 Q
  | _ => False
def mNotV (ta : DE) : DE := fun env M Q => ta env M fun x M1 => match x with
  | .bl b => Q (.bl (!b)) M1
  | _ => False
/-- a call of a def of the text -/
def mCall (sp : MSp) (W : DX) (t : DA) : DE := fun env M Q => t env M fun xs M1 => sp xs M1 Q fun x M2 => W x env M2

/-! ### tests -/
def mB (t : DE) : DT := fun env M Q => t env M fun x M1 => match x with
  | .bl b => Q b M1
  | _ => False
def mAnd (t u : DT) : DT := fun env M Q => t env M fun c M1 => (c = true → u env M1 Q) ∧ (c = false → Q false M1)
def mOr (t u : DT) : DT := fun env M Q => t env M fun c M1 => (c = true → Q true M1) ∧ (c = false → u env M1 Q)
def mNot (t : DT) : DT := fun env M Q => t env M fun c M1 => Q (!c) M1
def mYes : DT := fun _ M Q => Q true M

/-! ### statements -/
def mNext : DS := fun E env M => E.nx env M
def mSeq (t u : DS) : DS := fun E env M => t { E with nx := u E } env M
def mBreak : DS := fun E env M => E.bk env M
def mCont : DS := fun E env M => E.ct env M
def mDrop (t : DE) : DS := fun E env M => t env M fun _ M1 => E.nx env M1
def mRet (t : DE) : DS := fun E env M => t env M E.rt
def mRetN : DS := fun E _ M => E.rt .non M
def mIfS (c : DT) (t u : DS) : DS := fun E env M => c env M fun b M1 => (b = true → t E env M1) ∧ (b = false → u E env M1)
def mNever : DS := fun _ _ _ => False
def mAsg (t : DE) (g : DG) : DS := fun E env M => t env M fun x M1 => g x env M1 E.nx
def mAug (i : Nat) (r : DR2) (t : DE) : DS := fun E env M => match env[i]? with
  | some (some x) => t env M fun y M1 => r x y M1 fun z M2 => E.nx (env.set i (some z)) M2
  | _ => False
/-- a, b = x, y with plain names -/
def mPar (i j : Nat) (t : DA) : DS := fun E env M => t env M fun xs M1 => match xs with
  | [v, w] => E.nx ((env.set i (some v)).set j (some w)) M1
  | _ => False
def mRaise (x : String) (W : DX) : DS := fun _ env M => W ⟨x, none⟩ env M
def mRaiseF (x f : String) (t : DE) (W : DX) : DS := fun _ env M => t env M fun d M1 => W ⟨x, some (f, d)⟩ env M1

/-! ### targets -/
def gNm (i : Nat) : DG := fun d env M Q => Q (env.set i (some d)) M
abbrev DGs := List D → Env → Mh → (Env → Mh → Prop) → Prop
def gsNil : DGs := fun ds env M Q => match ds with
  | [] => Q env M
  | _ => False
def gsCons (g : DG) (gs : DGs) : DGs := fun ds env M Q => match ds with
  | d :: r => g d env M fun env1 M1 => gs r env1 M1 Q
  | [] => False
def gTp (gs : DGs) : DG := fun d env M Q => match d with
  | .tup xs => gs xs env M Q
  | _ => False
abbrev DSet := D → D → D → Mh → (Mh → Prop) → Prop
def gSb (to ti : DE) (t : DSet) : DG := fun v env M Q => to env M fun o M1 => ti env M1 fun i M2 => t o i v M2 fun M3 => Q env M3

/-- what a loop stores its item in: a name, or names -/
inductive Tgt where
  | nm (i : Nat)
  | tp (is : List Nat)
def setAll (env : Env) : List Nat → List D → Option Env
  | [], [] => some env
  | i :: is, d :: ds => setAll (env.set i (some d)) is ds
  | _, _ => none
def Tgt.put (env : Env) (d : D) : Tgt → Option Env
  | .nm i => some (env.set i (some d))
  | .tp is => match d with
    | .tup ds => setAll env is ds
    | _ => none
def Tgt.slots : Tgt → List Nat
  | .nm i => [i]
  | .tp is => is
/-! ### loops -/
def forGo (g : Tgt) (b : DS) (E : DEnds) (chk : Mh → Prop) : List D → Env → Mh → Prop
  | [], env, M => chk M ∧ E.nx env M
  | d :: r, env, M => chk M ∧ match g.put env d with
    | some env1 => b { E with nx := forGo g b E chk r, ct := forGo g b E chk r, bk := E.nx } env1 M
    | none => False
def mFor (it : DI) (g : Tgt) (b : DS) : DS := fun E env M => it env M fun ds chk M1 => forGo g b E chk ds env M1
def whileGo (c : DT) (b : DS) (E : DEnds) : Nat → Env → Mh → Prop
  | 0, _, _ => False
  | n + 1, env, M => c env M fun k M1 => (k = true → b { E with nx := whileGo c b E n, ct := whileGo c b E n, bk := E.nx } env M1) ∧ (k = false → E.nx env M1)
def mWhile (c : DT) (b : DS) : DS := fun E env M => ∃ n, whileGo c b E n env M
def wipeE (env : Env) : List Nat → Env
  | [] => env
  | i :: r => (wipeE env r).set i none
def compGo (g : Tgt) (tt : DT) (te : DE) (env : Env) (chk : Mh → Prop) (Q : List D → Mh → Prop) : List D → List D → Mh → Prop
  | [], acc, M => chk M ∧ Q acc M
  | d :: r, acc, M => chk M ∧ match g.put env d with
    | some env1 => tt env1 M fun k M2 => (k = true → te env1 M2 fun y M3 => acc.length < line ∧ compGo g tt te env chk Q r (acc ++ [y]) M3) ∧ (k = false → compGo g tt te env chk Q r acc M2)
    | none => False
/-- a comprehension: a list that is data -/
def mComp (it : DI) (g : Tgt) (tt : DT) (te : DE) (own : List Nat) : DE := fun env M Q => it env M fun ds chk M1 => compGo g tt te (wipeE env own) chk (fun acc M2 => Q (.lst acc) M2) ds [] M1
def mCompO (it : DI) (g : Tgt) (tt : DT) (te : DE) (own : List Nat) : DE := fun env M Q => it env M fun ds chk M1 => compGo g tt te (wipeE env own) chk (fun acc M2 => ∀ p, M2 p = none → Q (.obj p) (mu M2 p (.lst acc))) ds [] M1

/-! ### what is walked -/
def always : Mh → Prop := fun _ => True
/-- a list, a tuple, a text (sign by sign) -/
def iSeq (t : DE) : DI := fun env M R => t env M fun x M1 => match x with
  | .lst xs => R xs always M1
  | .tup xs => R xs always M1
  | .str s => R (s.map fun c => .str [c]) always M1
  | .obj a => match M1 a with
    | some (.lst xs) => R xs (fun M => M a = some (.lst xs)) M1
    | _ => False
  | _ => False
def rngD (lo : Int) (n : Nat) : List D := (List.range n).map fun (k : Nat) => D.int (lo + k)
/-- range(n); range(a, b) -/
def iRange1 (t : DA) : DI := fun env M R => t env M fun xs M1 => match xs with
  | [.int n] => -4611686018427387904 ≤ n ∧ n < 4611686018427387904 ∧ R (rngD 0 n.toNat) always M1
  | _ => False
def iRange2 (t : DA) : DI := fun env M R => t env M fun xs M1 => match xs with
  | [.int a, .int b] => (-4611686018427387904 ≤ a ∧ a < 4611686018427387904 ∧ -4611686018427387904 ≤ b ∧ b < 4611686018427387904) ∧ R (rngD a (b - a).toNat) always M1
  | _ => False

/-! ### operators by data -/
def rAdd : DR2 := fun x y M Q => match x, y with
  | .int i, .int j => Q (.int (i + j)) M
  | .str s, .str t => s.length + t.length ≤ line ∧ Q (.str (s ++ t)) M
  | .tup s, .tup t => s.length + t.length ≤ line ∧ Q (.tup (s ++ t)) M
  | .lst s, .lst t => s.length + t.length ≤ line ∧ Q (.lst (s ++ t)) M
  | _, _ => False
def rSub : DR2 := fun x y M Q => match x, y with
  | .int i, .int j => Q (.int (i - j)) M
  | _, _ => False
/-- below two to the n -/
def Sz (n : Nat) (i : Int) : Prop := i.natAbs < 2 ^ n
def MulOk (i j : Int) : Prop := Sz 64 i ∨ Sz 64 j ∨ (Sz 4000 i ∧ Sz 4000 j)
def rMul : DR2 := fun x y M Q => match x, y with
  | .int i, .int j => MulOk i j ∧ Q (.int (i * j)) M
  | .str s, .int j => -(2 ^ 62) ≤ j ∧ j < 2 ^ 62 ∧ s.length * j.toNat ≤ line ∧ Q (.str ((List.replicate j.toNat s).flatten)) M
  | _, _ => False
def rFdiv : DR2 := fun x y M Q => match x, y with
  | .int i, .int j => 0 < j ∧ Sz 4000 j ∧ Q (.int (i / j)) M
  | _, _ => False
def rMod : DR2 := fun x y M Q => match x, y with
  | .int i, .int j => 0 < j ∧ Q (.int (i % j)) M
  | _, _ => False
def rPow : DR2 := fun x y M Q => match x, y with
  | .int i, .int j => 0 ≤ j ∧ j ≤ 1000000 ∧ Sz 63 i ∧ Q (.int (i ^ j.toNat)) M
  | _, _ => False
def rNeg : DR1 := fun x M Q => match x with
  | .int i => Q (.int (-i)) M
  | _ => False

/-! ### comparisons by data -/
def b2i (b : Bool) : Int := if b then 1 else 0
mutual
/-- == of data (none of what stands by an address, no classes) -/
def eqv : D → D → Bool
  | .non, .non => true
  | .bl a, .bl b => a == b
  | .bl a, .int j => b2i a == j
  | .int i, .bl b => i == b2i b
  | .int i, .int j => i == j
  | .str x, .str y => x == y
  | .lst xs, .lst ys => eqvs xs ys
  | .tup xs, .tup ys => eqvs xs ys
  | _, _ => false
def eqvs : List D → List D → Bool
  | [], [] => true
  | x :: xs, y :: ys => eqv x y && eqvs xs ys
  | _, _ => false
end
mutual
/-- data through and through, its texts of code points -/
def plain : D → Bool
  | .ty _ => false
  | .obj _ => false
  | .str l => l.all (· < 1114112)
  | .tup xs => plains xs
  | .lst xs => plains xs
  | _ => true
def plains : List D → Bool
  | [] => true
  | x :: xs => plain x && plains xs
end
mutual
/-- how deep -/
def deep : D → Nat
  | .tup xs => deeps xs + 1
  | .lst xs => deeps xs + 1
  | _ => 0
def deeps : List D → Nat
  | [] => 0
  | x :: xs => max (deep x) (deeps xs)
end
/-- a value that is no object -/
def flat : D → Bool
  | .non => true
  | .bl _ => true
  | .int _ => true
  | .str _ => true
  | _ => false
def eqOk (x y : D) : Bool := (flat x && flat y) || (plain x && plain y && decide (deep x ≤ 60) && decide (deep y ≤ 60))
def rEq : DR2 := fun x y M Q => eqOk x y = true ∧ Q (.bl (eqv x y)) M
def rNe : DR2 := fun x y M Q => eqOk x y = true ∧ Q (.bl (!eqv x y)) M
/-- texts by their code points -/
def ltS : List Nat → List Nat → Bool := fun a b => decide (a < b)
def leS (a b : List Nat) : Bool := decide (a ≤ b)
mutual
/-- < of data that can be compared place by place -/
def ltD : D → D → Bool
  | .int i, .int j => decide (i < j)
  | .bl a, .bl b => decide (b2i a < b2i b)
  | .str s, .str t => ltS s t
  | .lst xs, .lst ys => ltDs xs ys
  | .tup xs, .tup ys => ltDs xs ys
  | _, _ => false
def ltDs : List D → List D → Bool
  | [], [] => false
  | [], _ :: _ => true
  | _ :: _, [] => false
  | x :: xs, y :: ys => if eqv x y = true then ltDs xs ys else ltD x y
end
mutual
def alikeD : D → D → Bool
  | .non, .non => true
  | .bl _, .bl _ => true
  | .int _, .int _ => true
  | .str _, .str _ => true
  | .lst xs, .lst ys => alikeDs xs ys
  | .tup xs, .tup ys => alikeDs xs ys
  | _, _ => false
def alikeDs : List D → List D → Bool
  | x :: xs, y :: ys => alikeD x y && alikeDs xs ys
  | _, _ => true
end
/-- may be asked for < -/
def cmpOk (x y : D) : Bool := match x, y with
  | .int _, .int _ => true
  | .str _, .str _ => true
  | .non, _ => false
  | _, _ => plain x && plain y && alikeD x y && decide (deep x ≤ 60)
def rLt : DR2 := fun x y M Q => cmpOk x y = true ∧ Q (.bl (ltD x y)) M
def rGt : DR2 := fun x y M Q => cmpOk x y = true ∧ Q (.bl (ltD y x)) M
def rLe : DR2 := fun x y M Q => cmpOk x y = true ∧ Q (.bl (!ltD y x)) M
def rGe : DR2 := fun x y M Q => cmpOk x y = true ∧ Q (.bl (!ltD x y)) M
/-- sorted(xs): the items in order, equal ones as they stood -/
def sortD (ds : List D) : List D := ds.mergeSort fun a b => !ltD b a
/-- sorted(xs, key=k): by their keys -/
def sortK (k : D → D) (ds : List D) : List D := ds.mergeSort fun a b => !ltD (k b) (k a)
/-- all may be compared with each other -/
def sortOk (ds : List D) : Prop := (∀ x ∈ ds, ∀ y ∈ ds, alikeD x y = true) ∧ (∀ x ∈ ds, plain x = true ∧ deep x ≤ 60 ∧ x ≠ .non ∧ x ≠ .tup []) ∧ ds.length ≤ line
def rSortedL : DRn := fun xs M Q => match xs with
  | [.lst ds] => sortOk ds ∧ Q (.lst (sortD ds)) M
  | [.obj a] => match M a with
    | some (.lst ds) => sortOk ds ∧ Q (.lst (sortD ds)) M
    | _ => False
  | _ => False
/-- sorted(xs, key=f), f a def that changes nothing -/
def keyOk (sp : MSp) (k : D → D) (ds : List D) : Prop := (∀ d ∈ ds, ∀ M, sp [d] M (fun y M' => y = k d ∧ M' = M) fun _ _ => False) ∧ sortOk (ds.map k)
def kSK (sp : MSp) (Q : DQ) : DQ := fun x M1 => match x with
  | .lst ds => ∃ k, keyOk sp k ds ∧ Q (.lst (sortK k ds)) M1
  | .obj a => match M1 a with
    | some (.lst ds) => ∃ k, keyOk sp k ds ∧ Q (.lst (sortK k ds)) M1
    | _ => False
  | _ => False
def mSortK (sp : MSp) (t : DE) : DE := fun env M Q => t env M (kSK sp Q)
def isNon : D → Bool
  | .non => true
  | _ => false
/-- x is None -/
def rIsN : DR1 := fun x M Q => Q (.bl (isNon x)) M
def rNotN : DR1 := fun x M Q => Q (.bl (!isNon x)) M
def isBl (b : Bool) : D → Bool
  | .bl c => c == b
  | _ => false
/-- x is True, x is False -/
def rIsB (b : Bool) : DR1 := fun x M Q => Q (.bl (isBl b x)) M
def rNotB (b : Bool) : DR1 := fun x M Q => Q (.bl (!isBl b x)) M

/-- the place of an index: negative ones from behind -/
def atIx (n : Nat) (i : Int) : Option Nat := if 0 ≤ i then (if i < n then some i.toNat else none) else if -(n : Int) ≤ i then some (i + n).toNat else none
def atD {α : Type} (xs : List α) (i : Int) : Option α := (atIx xs.length i).bind fun j => xs[j]?
def rIx : DR2 := fun x y M Q => match x, y with
  | .tup xs, .int i => match atD xs i with
    | some d => Q d M
    | none => False
  | .lst xs, .int i => match atD xs i with
    | some d => Q d M
    | none => False
  | .str s, .int i => s.length ≤ line ∧ match atD s i with
    | some c => Q (.str [c]) M
    | none => False
  | .obj a, .int i => match M a with
    | some (.lst xs) => match atD xs i with
      | some d => Q d M
      | none => False
    | _ => False
  | _, _ => False
/-- o[i] = v of a list that may change -/
def sIx : DSet := fun o i v M Q => match o, i with
  | .obj a, .int i => match M a with
    | some (.lst xs) => match atIx xs.length i with
      | some k => Q (mu M a (.lst (xs.set k v)))
      | none => False
    | _ => False
  | _, _ => False
/-- one end of a slice -/
def cutI (n : Nat) (d : Nat) : Option Int → Nat
  | none => d
  | some i => if i < 0 then (i + n).toNat else min i.toNat n
def cut {α : Type} (xs : List α) (lo hi : Option Int) : List α := (xs.drop (cutI xs.length 0 lo)).take (cutI xs.length xs.length hi - cutI xs.length 0 lo)
abbrev DO := Env → Mh → (Option Int → Mh → Prop) → Prop
def oNone : DO := fun _ M Q => Q none M
def oSome (t : DE) : DO := fun env M Q => t env M fun x M1 => match x with
  | .int i => Q (some i) M1
  | _ => False
def mSl (t : DE) (lo hi : DO) : DE := fun env M Q => t env M fun x M1 => lo env M1 fun a M2 => hi env M2 fun b M3 => match x with
  | .str s => s.length ≤ line ∧ Q (.str (cut s a b)) M3
  | .tup xs => Q (.tup (cut xs a b)) M3
  | .lst xs => Q (.lst (cut xs a b)) M3
  | _ => False

/-! ### built-ins by data -/
def tyIs (n : String) : D → Option Bool
  | .non => some (n == "NoneType")
  | .bl _ => some (n == "bool" || n == "int")
  | .int _ => some (n == "int")
  | .str _ => some (n == "str")
  | .tup _ => some (n == "tuple")
  | .lst _ => some (n == "list")
  | _ => none
def rIsi (n : String) : DR1 := fun x M Q => match tyIs n x with
  | some b => Q (.bl b) M
  | none => False
def rLen : DRn := fun xs M Q => match xs with
  | [.str s] => s.length ≤ line ∧ Q (.int s.length) M
  | [.tup ds] => Q (.int ds.length) M
  | [.lst ds] => Q (.int ds.length) M
  | [.obj a] => match M a with
    | some (.lst ds) => Q (.int ds.length) M
    | _ => False
  | _ => False
def iabs (i : Int) : Int := if i < 0 then -i else i
def rAbs : DRn := fun xs M Q => match xs with
  | [.int i] => Q (.int (iabs i)) M
  | _ => False
def rInt : DRn := fun xs M Q => match xs with
  | [.int i] => Q (.int i) M
  | [.bl b] => Q (.int (b2i b)) M
  | [.str [c]] => 48 ≤ c ∧ c ≤ 57 ∧ Q (.int (c - 48 : Nat)) M
  | _ => False
def rMax2 : DRn := fun xs M Q => match xs with
  | [.int i, .int j] => Q (.int (if j > i then j else i)) M
  | _ => False
def rMin2 : DRn := fun xs M Q => match xs with
  | [.int i, .int j] => Q (.int (if j < i then j else i)) M
  | _ => False
def bools : List D → Option (List Bool)
  | [] => some []
  | .bl b :: r => (bools r).map (b :: ·)
  | _ => none
def rAll : DRn := fun xs M Q => match xs with
  | [.lst ds] => match bools ds with
    | some bs => Q (.bl (bs.all id)) M
    | none => False
  | _ => False
def rAny : DRn := fun xs M Q => match xs with
  | [.lst ds] => match bools ds with
    | some bs => Q (.bl (bs.any id)) M
    | none => False
  | _ => False
def rTuple : DRn := fun xs M Q => match xs with
  | [.lst ds] => Q (.tup ds) M
  | [.tup ds] => Q (.tup ds) M
  | _ => False
def texts : List D → Option (List (List Nat))
  | [] => some []
  | .str b :: r => (texts r).map (b :: ·)
  | _ => none
def joinT (sep : List Nat) : List (List Nat) → List Nat
  | [] => []
  | [x] => x
  | x :: r => x ++ sep ++ joinT sep r
/-! ### methods of built-in types -/
/-- the value is of that built-in type -/
def kindOk (T : String) (M : Mh) : D → Prop
  | .str _ => T = "str"
  | .lst _ => T = "list"
  | .obj a => match M a with
    | some (.lst _) => T = "list"
    | some (.dct _) => T = "dict"
    | _ => False
  | _ => False
abbrev DRm := D → List D → Mh → DQ → Prop
def mBm (T : String) (r : DRm) (to : DE) (t : DA) : DE := fun env M Q => to env M fun x M1 => kindOk T M1 x ∧ t env M1 fun xs M2 => r x xs M2 Q
def rJoin : DRm := fun x xs M Q => match x, xs with
  | .str sep, [.lst ds] => match texts ds with
    | some ts => (joinT sep ts).length ≤ line ∧ (ts.map List.length).sum + ts.length * sep.length ≤ line ∧ Q (.str (joinT sep ts)) M
    | none => False
  | _, _ => False
/-- xs.append(e) -/
def rAppend : DRm := fun x xs M Q => match x, xs with
  | .obj a, [y] => match M a with
    | some (.lst ds) => ds.length < line ∧ Q .non (mu M a (.lst (ds ++ [y])))
    | _ => False
  | _, _ => False
/-- xs.pop(), xs.pop(i) -/
def rPop : DRm := fun x xs M Q => match x, xs with
  | .obj a, [] => match M a with
    | some (.lst ds) => match ds.getLast? with
      | some d => Q d (mu M a (.lst ds.dropLast))
      | none => False
    | _ => False
  | .obj a, [.int i] => match M a with
    | some (.lst ds) => match atIx ds.length i with
      | some k => match ds[k]? with
        | some d => Q d (mu M a (.lst (ds.eraseIdx k)))
        | none => False
      | none => False
    | _ => False
  | _, _ => False
/-- str(n) -/
def natDigs (n : Nat) : List Nat := (Nat.toDigits 10 n).map Char.toNat
def intDigs (i : Int) : List Nat := if i < 0 then 45 :: natDigs i.natAbs else natDigs i.natAbs
def rStr : DRn := fun xs M Q => match xs with
  | [.int i] => Sz 1900 i ∧ Q (.str (intDigs i)) M
  | _ => False
/-- c in a text, c one sign -/
def rInS (neg : Bool) : DR2 := fun x y M Q => match x, y with
  | .str [c], .str s => Q (.bl (s.contains c != neg)) M
  | _, _ => False
/-- x in a row of flat data -/
def inD (x : D) (ds : List D) : Bool := ds.any fun y => eqv y x
def rInT (neg : Bool) : DR2 := fun x y M Q => match y with
  | .tup ds => flat x = true ∧ ds.all flat = true ∧ Q (.bl (inD x ds != neg)) M
  | .lst ds => flat x = true ∧ ds.all flat = true ∧ Q (.bl (inD x ds != neg)) M
  | .obj a => match M a with
    | some (.lst ds) => flat x = true ∧ ds.all flat = true ∧ Q (.bl (inD x ds != neg)) M
    | _ => False
  | _ => False
/-! ### dicts -/
def isKey : D → Bool
  | .int _ => true
  | .str _ => true
  | _ => false
def findD (kvs : List (D × D)) (k : D) : Option D := (kvs.find? fun kv => decide (kv.1 = k)).map (·.2)
def putD (kvs : List (D × D)) (k v : D) : List (D × D) := if (kvs.any fun kv => decide (kv.1 = k)) = true then kvs.map (fun kv => if kv.1 = k then (kv.1, v) else kv) else kvs ++ [(k, v)]
def dropD (kvs : List (D × D)) (k : D) : List (D × D) := kvs.filter fun kv => decide (kv.1 ≠ k)
def mergeD (kvs more : List (D × D)) : List (D × D) := more.foldl (fun acc kv => putD acc kv.1 kv.2) kvs
def dctAt (M : Mh) (a : Nat) : Option (List (D × D)) := match M a with
  | some (.dct kvs) => some kvs
  | some (.lck kvs) => some kvs
  | _ => none
def mPairs : List (DE × DE) → Env → Mh → (List (D × D) → Mh → Prop) → Prop
  | [], _, M, Q => Q [] M
  | (tk, tv) :: r, env, M, Q => tk env M fun x M1 => tv env M1 fun y M2 => mPairs r env M2 fun ps M3 => isKey x = true ∧ Q ((x, y) :: ps) M3
/-- {k: v, ..} -/
def mDisp (prs : List (DE × DE)) : DE := fun env M Q => mPairs prs env M fun ps M1 => ps.length ≤ 15 ∧ ∀ p, M1 p = none → Q (.obj p) (mu M1 p (.dct (mergeD [] ps)))
/-- d.get(k), d.get(k, x) -/
def mGet1 (td ty : DE) : DE := fun env M Q => td env M fun x M1 => match x with
  | .obj a => (dctAt M1 a).isSome = true ∧ ty env M1 fun k M2 => isKey k = true ∧ match dctAt M2 a with
    | some kvs => Q ((findD kvs k).getD .non) M2
    | none => False
  | _ => False
def mGet2 (td ty tx : DE) : DE := fun env M Q => td env M fun x M1 => match x with
  | .obj a => (dctAt M1 a).isSome = true ∧ ty env M1 fun k M2 => tx env M2 fun z M3 => isKey k = true ∧ match dctAt M3 a with
    | some kvs => Q ((findD kvs k).getD z) M3
    | none => False
  | _ => False
def isIs (n : String) (M : Mh) : D → Option Bool
  | .obj a => match M a with
    | some (.lst _) => some (n == "list")
    | some (.dct _) => some (n == "dict")
    | _ => none
  | d => tyIs n d
/-- isinstance(x, T) -/
def rIsiB : DRn := fun xs M Q => match xs with
  | [x, .ty n] => (n = "int" ∨ n = "str" ∨ n = "bool" ∨ n = "tuple" ∨ n = "list" ∨ n = "dict") ∧ match isIs n M x with
    | some b => Q (.bl b) M
    | none => False
  | _ => False
/-! ### a def's start -/
def startE (n : Nat) (ds : List D) : Env := ds.map some ++ List.replicate (n - ds.length) none
/-- the ends of a def's body -/
def fnEnds (Q : DQ) : DEnds := { nx := fun _ M => Q .non M, rt := Q }
/-! ### more -/
def mV (t : DT) : DE := fun env M Q => t env M fun b M1 => Q (.bl b) M1
/-- x in y: a sign in a text, a value in a row -/
def rIn (neg : Bool) : DR2 := fun x y M Q => match y with
  | .str s => match x with
    | .str [c] => Q (.bl (s.contains c != neg)) M
    | _ => False
  | _ => rInT neg x y M Q
/-- a call without arguments of a def that raises nothing -/
def mCall0 (sp : MSp) : DE := fun _ M Q => sp [] M Q fun _ _ => False
def mPar3 (i j l : Nat) (t : DA) : DS := fun E env M => t env M fun xs M1 => match xs with
  | [u, v, w] => E.nx (((env.set i (some u)).set j (some v)).set l (some w)) M1
  | _ => False
/-- s.find(c), c one sign: the first place, -1 without one -/
def findC (c : Nat) : Nat → List Nat → Int
  | _, [] => -1
  | k, d :: r => if d = c then k else findC c (k + 1) r
def rFind : DRm := fun x xs M Q => match x, xs with
  | .str s, [.str [c]] => Q (.int (findC c 0 s)) M
  | _, _ => False
/-- promises by the number of arguments -/
def sp0 (p : Mh → DQ → (Exn → Mh → Prop) → Prop) : MSp := fun ds M Q E => match ds with
  | [] => p M Q E
  | _ => False
def sp1 (p : D → Mh → DQ → (Exn → Mh → Prop) → Prop) : MSp := fun ds M Q E => match ds with
  | [a] => p a M Q E
  | _ => False
def sp2 (p : D → D → Mh → DQ → (Exn → Mh → Prop) → Prop) : MSp := fun ds M Q E => match ds with
  | [a, b] => p a b M Q E
  | _ => False
def sp3 (p : D → D → D → Mh → DQ → (Exn → Mh → Prop) → Prop) : MSp := fun ds M Q E => match ds with
  | [a, b, c] => p a b c M Q E
  | _ => False
def sp4 (p : D → D → D → D → Mh → DQ → (Exn → Mh → Prop) → Prop) : MSp := fun ds M Q E => match ds with
  | [a, b, c, d] => p a b c d M Q E
  | _ => False
theorem sp0_len {p} {ds M Q E} (h : sp0 p ds M Q E) : ds.length = 0 := by
  match ds, h with | [], _ => rfl
theorem sp1_len {p} {ds M Q E} (h : sp1 p ds M Q E) : ds.length = 1 := by
  match ds, h with | [_], _ => rfl
theorem sp2_len {p} {ds M Q E} (h : sp2 p ds M Q E) : ds.length = 2 := by
  match ds, h with | [_, _], _ => rfl
theorem sp3_len {p} {ds M Q E} (h : sp3 p ds M Q E) : ds.length = 3 := by
  match ds, h with | [_, _, _], _ => rfl
theorem sp4_len {p} {ds M Q E} (h : sp4 p ds M Q E) : ds.length = 4 := by
  match ds, h with | [_, _, _, _], _ => rfl
/-! ### what is no longer looked at may be forgotten -/
def Sub (M' M : Mh) : Prop := ∀ a, M' a = M a ∨ M' a = none
def fgt (Q : DQ) : DQ := fun d M => ∃ M', Sub M' M ∧ Q d M'
def fgtX (E : Exn → Mh → Prop) : Exn → Mh → Prop := fun x M => ∃ M', Sub M' M ∧ E x M'
theorem Sub.refl (M : Mh) : Sub M M := fun _ => .inl rfl
theorem Sub.mu {M : Mh} {p : Nat} {o : MO} (h : M p = none) : Sub M (mu M p o) := fun a => by
  by_cases e : a = p
  · subst e; exact .inr h
  · exact .inl (mu_ne e).symm
theorem fgt.mk {Q : DQ} {d : D} {M : Mh} (h : Q d M) : fgt Q d M := ⟨M, .refl M, h⟩
/-! ### moved here -/
def rAddI : DR2 := fun x y M Q => match x, y with
  | .int i, .int j => Q (.int (i + j)) M
  | .str s, .str t => s.length + t.length ≤ line ∧ Q (.str (s ++ t)) M
  | _, _ => False
def isNonR (b : Bool) : DR2 := fun x y M Q => match y with
  | .non => Q (.bl (isNon x == b)) M
  | _ => False
def isBlR (b : Bool) : DR2 := fun x y M Q => match y with
  | .bl c => Q (.bl (isBl c x == b)) M
  | _ => False
/-- as many as there are names -/
def gTpN (n : Nat) (gs : DGs) : DG := fun d env M Q => match d with
  | .tup xs => xs.length = n ∧ gs xs env M Q
  | _ => False
def rSl (x : D) (a b : Option Int) (M : Mh) (Q : DQ) : Prop := match x with
  | .str s => s.length ≤ line ∧ Q (.str (cut s a b)) M
  | .tup xs => Q (.tup (cut xs a b)) M
  | .lst xs => Q (.lst (cut xs a b)) M
  | .obj o => match M o with
    | some (.lst xs) => Q (.lst (cut xs a b)) M
    | _ => False
  | _ => False
def mSlice (t : DE) (lo hi : DO) : DE := fun env M Q => t env M fun x M1 => lo env M1 fun a M2 => hi env M2 fun b M3 => rSl x a b M3 Q
end Dl
end
section
set_option linter.all false
/-! The data layer: steps of readings (each by unfolding alone). -/
namespace Dl
section
variable {env : Env} {M : Mh} {Q : DQ} {nx bk ct : Env → Mh → Prop} {rt : DQ} {t u v ta tb tc : DE} {tt tr : DA} {A B C : DS} {c c' : DT} {W : DX} {r r' : DR2} {r1 : DR1} {rn : DRn} {rm : DRm}
def kB (Q : Bool → Mh → Prop) : DQ := fun x M1 => match x with
  | .bl b => Q b M1
  | _ => False
def kAnd (tb : DE) (env : Env) (Q : DQ) : DQ := fun x M1 => match x with
  | .bl true => tb env M1 Q
  | .bl false => Q (.bl false) M1
  | _ => False
def kOr (tb : DE) (env : Env) (Q : DQ) : DQ := fun x M1 => match x with
  | .bl true => Q (.bl true) M1
  | .bl false => tb env M1 Q
  | _ => False
def kNot (Q : DQ) : DQ := fun x M1 => match x with
  | .bl b => Q (.bl (!b)) M1
  | _ => False

theorem x_seq (h : A ⟨B ⟨nx, rt, bk, ct⟩, rt, bk, ct⟩ env M) : mSeq A B ⟨nx, rt, bk, ct⟩ env M := h
theorem x_ret (h : t env M rt) : mRet t ⟨nx, rt, bk, ct⟩ env M := h
theorem x_retN (h : rt .non M) : mRetN ⟨nx, rt, bk, ct⟩ env M := h
theorem x_next (h : nx env M) : mNext ⟨nx, rt, bk, ct⟩ env M := h
theorem x_break (h : bk env M) : mBreak ⟨nx, rt, bk, ct⟩ env M := h
theorem x_cont (h : ct env M) : mCont ⟨nx, rt, bk, ct⟩ env M := h
theorem x_drop (h : t env M fun _ M1 => nx env M1) : mDrop t ⟨nx, rt, bk, ct⟩ env M := h
theorem x_asg {g : DG} (h : t env M fun x M1 => g x env M1 nx) : mAsg t g ⟨nx, rt, bk, ct⟩ env M := h
theorem x_ifs (h : c env M fun b M1 => (b = true → A ⟨nx, rt, bk, ct⟩ env M1) ∧ (b = false → B ⟨nx, rt, bk, ct⟩ env M1)) : mIfS c A B ⟨nx, rt, bk, ct⟩ env M := h
theorem x_if (h : c env M fun b M1 => (b = true → ta env M1 Q) ∧ (b = false → tb env M1 Q)) : mIf c ta tb env M Q := h
theorem x_dt {b : Bool} {P R : Prop} (e : b = true) (h : P) : (b = true → P) ∧ (b = false → R) := ⟨fun _ => h, fun z => by rw [e] at z; cases z⟩
theorem x_df {b : Bool} {P R : Prop} (e : b = false) (h : R) : (b = true → P) ∧ (b = false → R) := ⟨fun z => by (rw [e] at z; cases z), fun _ => h⟩
theorem x_true {P R : Prop} (h : P) : (true = true → P) ∧ (true = false → R) := ⟨fun _ => h, fun e => Bool.noConfusion e⟩
theorem x_false {P R : Prop} (h : R) : (false = true → P) ∧ (false = false → R) := ⟨fun e => Bool.noConfusion e, fun _ => h⟩
theorem x_c {d : D} (h : Q d M) : mC d env M Q := h
theorem x_op (h : ta env M fun x M1 => tb env M1 fun y M2 => r x y M2 Q) : mOp r ta tb env M Q := h
theorem x_un (h : ta env M fun x M1 => r1 x M1 Q) : mUn r1 ta env M Q := h
theorem x_nil {Q : List D → Mh → Prop} (h : Q [] M) : mNil env M Q := h
theorem x_cons {Q : List D → Mh → Prop} (h : t env M fun x M1 => tr env M1 fun xs M2 => Q (x :: xs) M2) : mCons t tr env M Q := h
theorem x_cb (h : tt env M fun xs M1 => rn xs M1 Q) : mCB rn tt env M Q := h
theorem x_B {Q : Bool → Mh → Prop} (h : t env M (kB Q)) : mB t env M Q := h
theorem x_kB {Q : Bool → Mh → Prop} {b : Bool} (h : Q b M) : kB Q (.bl b) M := h
theorem x_andV (h : ta env M (kAnd tb env Q)) : mAndV ta tb env M Q := h
theorem x_orV (h : ta env M (kOr tb env Q)) : mOrV ta tb env M Q := h
theorem x_notV (h : ta env M (kNot Q)) : mNotV ta env M Q := h
theorem x_kAt (h : tb env M Q) : kAnd tb env Q (.bl true) M := h
theorem x_kAf (h : Q (.bl false) M) : kAnd tb env Q (.bl false) M := h
theorem x_kOt (h : Q (.bl true) M) : kOr tb env Q (.bl true) M := h
theorem x_kOf (h : tb env M Q) : kOr tb env Q (.bl false) M := h
theorem x_kN {b : Bool} (h : Q (.bl (!b)) M) : kNot Q (.bl b) M := h
theorem x_and {Q : Bool → Mh → Prop} (h : c env M fun k M1 => (k = true → c' env M1 Q) ∧ (k = false → Q false M1)) : mAnd c c' env M Q := h
theorem x_or {Q : Bool → Mh → Prop} (h : c env M fun k M1 => (k = true → Q true M1) ∧ (k = false → c' env M1 Q)) : mOr c c' env M Q := h
theorem x_not {Q : Bool → Mh → Prop} (h : c env M fun k M1 => Q (!k) M1) : mNot c env M Q := h
theorem x_yes {Q : Bool → Mh → Prop} (h : Q true M) : mYes env M Q := h
theorem x_call {sp : MSp} (h : tt env M fun xs M1 => sp xs M1 Q fun x M2 => W x env M2) : mCall sp W tt env M Q := h
theorem x_call0 {sp : MSp} (h : sp [] M Q fun _ _ => False) : mCall0 sp env M Q := h
def kPar (i j : Nat) (env : Env) (nx : Env → Mh → Prop) : List D → Mh → Prop := fun xs M1 => match xs with
  | [v, w] => nx ((env.set i (some v)).set j (some w)) M1
  | _ => False
def kPar3 (i j l : Nat) (env : Env) (nx : Env → Mh → Prop) : List D → Mh → Prop := fun xs M1 => match xs with
  | [u, v, w] => nx (((env.set i (some u)).set j (some v)).set l (some w)) M1
  | _ => False
theorem x_par {i j : Nat} (h : tt env M (kPar i j env nx)) : mPar i j tt ⟨nx, rt, bk, ct⟩ env M := h
theorem x_par3 {i j l : Nat} (h : tt env M (kPar3 i j l env nx)) : mPar3 i j l tt ⟨nx, rt, bk, ct⟩ env M := h
theorem x_kpar {i j : Nat} {v w : D} (h : gNm i v env M fun e1 M1 => gNm j w e1 M1 nx) : kPar i j env nx [v, w] M := h
theorem x_kpar3 {i j l : Nat} {u v w : D} (h : gNm i u env M fun e1 M1 => gNm j v e1 M1 fun e2 M2 => gNm l w e2 M2 nx) : kPar3 i j l env nx [u, v, w] M := h
theorem x_v0  {d : D} {rest : Env} (h : Q d M) : mVar 0 (some d :: rest) M Q := h
theorem x_v1  {a0 : Option D} {d : D} {rest : Env} (h : Q d M) : mVar 1 (a0 :: some d :: rest) M Q := h
theorem x_v2  {a0 : Option D} {a1 : Option D} {d : D} {rest : Env} (h : Q d M) : mVar 2 (a0 :: a1 :: some d :: rest) M Q := h
theorem x_v3  {a0 : Option D} {a1 : Option D} {a2 : Option D} {d : D} {rest : Env} (h : Q d M) : mVar 3 (a0 :: a1 :: a2 :: some d :: rest) M Q := h
theorem x_v4  {a0 : Option D} {a1 : Option D} {a2 : Option D} {a3 : Option D} {d : D} {rest : Env} (h : Q d M) : mVar 4 (a0 :: a1 :: a2 :: a3 :: some d :: rest) M Q := h
theorem x_v5  {a0 : Option D} {a1 : Option D} {a2 : Option D} {a3 : Option D} {a4 : Option D} {d : D} {rest : Env} (h : Q d M) : mVar 5 (a0 :: a1 :: a2 :: a3 :: a4 :: some d :: rest) M Q := h
theorem x_v6  {a0 : Option D} {a1 : Option D} {a2 : Option D} {a3 : Option D} {a4 : Option D} {a5 : Option D} {d : D} {rest : Env} (h : Q d M) : mVar 6 (a0 :: a1 :: a2 :: a3 :: a4 :: a5 :: some d :: rest) M Q := h
theorem x_v7  {a0 : Option D} {a1 : Option D} {a2 : Option D} {a3 : Option D} {a4 : Option D} {a5 : Option D} {a6 : Option D} {d : D} {rest : Env} (h : Q d M) : mVar 7 (a0 :: a1 :: a2 :: a3 :: a4 :: a5 :: a6 :: some d :: rest) M Q := h
theorem x_v8  {a0 : Option D} {a1 : Option D} {a2 : Option D} {a3 : Option D} {a4 : Option D} {a5 : Option D} {a6 : Option D} {a7 : Option D} {d : D} {rest : Env} (h : Q d M) : mVar 8 (a0 :: a1 :: a2 :: a3 :: a4 :: a5 :: a6 :: a7 :: some d :: rest) M Q := h
theorem x_v9  {a0 : Option D} {a1 : Option D} {a2 : Option D} {a3 : Option D} {a4 : Option D} {a5 : Option D} {a6 : Option D} {a7 : Option D} {a8 : Option D} {d : D} {rest : Env} (h : Q d M) : mVar 9 (a0 :: a1 :: a2 :: a3 :: a4 :: a5 :: a6 :: a7 :: a8 :: some d :: rest) M Q := h
theorem x_v10  {a0 : Option D} {a1 : Option D} {a2 : Option D} {a3 : Option D} {a4 : Option D} {a5 : Option D} {a6 : Option D} {a7 : Option D} {a8 : Option D} {a9 : Option D} {d : D} {rest : Env} (h : Q d M) : mVar 10 (a0 :: a1 :: a2 :: a3 :: a4 :: a5 :: a6 :: a7 :: a8 :: a9 :: some d :: rest) M Q := h
theorem x_v11  {a0 : Option D} {a1 : Option D} {a2 : Option D} {a3 : Option D} {a4 : Option D} {a5 : Option D} {a6 : Option D} {a7 : Option D} {a8 : Option D} {a9 : Option D} {a10 : Option D} {d : D} {rest : Env} (h : Q d M) : mVar 11 (a0 :: a1 :: a2 :: a3 :: a4 :: a5 :: a6 :: a7 :: a8 :: a9 :: a10 :: some d :: rest) M Q := h
theorem x_v12  {a0 : Option D} {a1 : Option D} {a2 : Option D} {a3 : Option D} {a4 : Option D} {a5 : Option D} {a6 : Option D} {a7 : Option D} {a8 : Option D} {a9 : Option D} {a10 : Option D} {a11 : Option D} {d : D} {rest : Env} (h : Q d M) : mVar 12 (a0 :: a1 :: a2 :: a3 :: a4 :: a5 :: a6 :: a7 :: a8 :: a9 :: a10 :: a11 :: some d :: rest) M Q := h
theorem x_v13  {a0 : Option D} {a1 : Option D} {a2 : Option D} {a3 : Option D} {a4 : Option D} {a5 : Option D} {a6 : Option D} {a7 : Option D} {a8 : Option D} {a9 : Option D} {a10 : Option D} {a11 : Option D} {a12 : Option D} {d : D} {rest : Env} (h : Q d M) : mVar 13 (a0 :: a1 :: a2 :: a3 :: a4 :: a5 :: a6 :: a7 :: a8 :: a9 :: a10 :: a11 :: a12 :: some d :: rest) M Q := h
theorem x_v14  {a0 : Option D} {a1 : Option D} {a2 : Option D} {a3 : Option D} {a4 : Option D} {a5 : Option D} {a6 : Option D} {a7 : Option D} {a8 : Option D} {a9 : Option D} {a10 : Option D} {a11 : Option D} {a12 : Option D} {a13 : Option D} {d : D} {rest : Env} (h : Q d M) : mVar 14 (a0 :: a1 :: a2 :: a3 :: a4 :: a5 :: a6 :: a7 :: a8 :: a9 :: a10 :: a11 :: a12 :: a13 :: some d :: rest) M Q := h
theorem x_v15  {a0 : Option D} {a1 : Option D} {a2 : Option D} {a3 : Option D} {a4 : Option D} {a5 : Option D} {a6 : Option D} {a7 : Option D} {a8 : Option D} {a9 : Option D} {a10 : Option D} {a11 : Option D} {a12 : Option D} {a13 : Option D} {a14 : Option D} {d : D} {rest : Env} (h : Q d M) : mVar 15 (a0 :: a1 :: a2 :: a3 :: a4 :: a5 :: a6 :: a7 :: a8 :: a9 :: a10 :: a11 :: a12 :: a13 :: a14 :: some d :: rest) M Q := h
theorem x_v16  {a0 : Option D} {a1 : Option D} {a2 : Option D} {a3 : Option D} {a4 : Option D} {a5 : Option D} {a6 : Option D} {a7 : Option D} {a8 : Option D} {a9 : Option D} {a10 : Option D} {a11 : Option D} {a12 : Option D} {a13 : Option D} {a14 : Option D} {a15 : Option D} {d : D} {rest : Env} (h : Q d M) : mVar 16 (a0 :: a1 :: a2 :: a3 :: a4 :: a5 :: a6 :: a7 :: a8 :: a9 :: a10 :: a11 :: a12 :: a13 :: a14 :: a15 :: some d :: rest) M Q := h
theorem x_v17  {a0 : Option D} {a1 : Option D} {a2 : Option D} {a3 : Option D} {a4 : Option D} {a5 : Option D} {a6 : Option D} {a7 : Option D} {a8 : Option D} {a9 : Option D} {a10 : Option D} {a11 : Option D} {a12 : Option D} {a13 : Option D} {a14 : Option D} {a15 : Option D} {a16 : Option D} {d : D} {rest : Env} (h : Q d M) : mVar 17 (a0 :: a1 :: a2 :: a3 :: a4 :: a5 :: a6 :: a7 :: a8 :: a9 :: a10 :: a11 :: a12 :: a13 :: a14 :: a15 :: a16 :: some d :: rest) M Q := h
theorem x_v18  {a0 : Option D} {a1 : Option D} {a2 : Option D} {a3 : Option D} {a4 : Option D} {a5 : Option D} {a6 : Option D} {a7 : Option D} {a8 : Option D} {a9 : Option D} {a10 : Option D} {a11 : Option D} {a12 : Option D} {a13 : Option D} {a14 : Option D} {a15 : Option D} {a16 : Option D} {a17 : Option D} {d : D} {rest : Env} (h : Q d M) : mVar 18 (a0 :: a1 :: a2 :: a3 :: a4 :: a5 :: a6 :: a7 :: a8 :: a9 :: a10 :: a11 :: a12 :: a13 :: a14 :: a15 :: a16 :: a17 :: some d :: rest) M Q := h
theorem x_v19  {a0 : Option D} {a1 : Option D} {a2 : Option D} {a3 : Option D} {a4 : Option D} {a5 : Option D} {a6 : Option D} {a7 : Option D} {a8 : Option D} {a9 : Option D} {a10 : Option D} {a11 : Option D} {a12 : Option D} {a13 : Option D} {a14 : Option D} {a15 : Option D} {a16 : Option D} {a17 : Option D} {a18 : Option D} {d : D} {rest : Env} (h : Q d M) : mVar 19 (a0 :: a1 :: a2 :: a3 :: a4 :: a5 :: a6 :: a7 :: a8 :: a9 :: a10 :: a11 :: a12 :: a13 :: a14 :: a15 :: a16 :: a17 :: a18 :: some d :: rest) M Q := h
theorem x_v20  {a0 : Option D} {a1 : Option D} {a2 : Option D} {a3 : Option D} {a4 : Option D} {a5 : Option D} {a6 : Option D} {a7 : Option D} {a8 : Option D} {a9 : Option D} {a10 : Option D} {a11 : Option D} {a12 : Option D} {a13 : Option D} {a14 : Option D} {a15 : Option D} {a16 : Option D} {a17 : Option D} {a18 : Option D} {a19 : Option D} {d : D} {rest : Env} (h : Q d M) : mVar 20 (a0 :: a1 :: a2 :: a3 :: a4 :: a5 :: a6 :: a7 :: a8 :: a9 :: a10 :: a11 :: a12 :: a13 :: a14 :: a15 :: a16 :: a17 :: a18 :: a19 :: some d :: rest) M Q := h
theorem x_v21  {a0 : Option D} {a1 : Option D} {a2 : Option D} {a3 : Option D} {a4 : Option D} {a5 : Option D} {a6 : Option D} {a7 : Option D} {a8 : Option D} {a9 : Option D} {a10 : Option D} {a11 : Option D} {a12 : Option D} {a13 : Option D} {a14 : Option D} {a15 : Option D} {a16 : Option D} {a17 : Option D} {a18 : Option D} {a19 : Option D} {a20 : Option D} {d : D} {rest : Env} (h : Q d M) : mVar 21 (a0 :: a1 :: a2 :: a3 :: a4 :: a5 :: a6 :: a7 :: a8 :: a9 :: a10 :: a11 :: a12 :: a13 :: a14 :: a15 :: a16 :: a17 :: a18 :: a19 :: a20 :: some d :: rest) M Q := h
theorem x_v22  {a0 : Option D} {a1 : Option D} {a2 : Option D} {a3 : Option D} {a4 : Option D} {a5 : Option D} {a6 : Option D} {a7 : Option D} {a8 : Option D} {a9 : Option D} {a10 : Option D} {a11 : Option D} {a12 : Option D} {a13 : Option D} {a14 : Option D} {a15 : Option D} {a16 : Option D} {a17 : Option D} {a18 : Option D} {a19 : Option D} {a20 : Option D} {a21 : Option D} {d : D} {rest : Env} (h : Q d M) : mVar 22 (a0 :: a1 :: a2 :: a3 :: a4 :: a5 :: a6 :: a7 :: a8 :: a9 :: a10 :: a11 :: a12 :: a13 :: a14 :: a15 :: a16 :: a17 :: a18 :: a19 :: a20 :: a21 :: some d :: rest) M Q := h
theorem x_v23  {a0 : Option D} {a1 : Option D} {a2 : Option D} {a3 : Option D} {a4 : Option D} {a5 : Option D} {a6 : Option D} {a7 : Option D} {a8 : Option D} {a9 : Option D} {a10 : Option D} {a11 : Option D} {a12 : Option D} {a13 : Option D} {a14 : Option D} {a15 : Option D} {a16 : Option D} {a17 : Option D} {a18 : Option D} {a19 : Option D} {a20 : Option D} {a21 : Option D} {a22 : Option D} {d : D} {rest : Env} (h : Q d M) : mVar 23 (a0 :: a1 :: a2 :: a3 :: a4 :: a5 :: a6 :: a7 :: a8 :: a9 :: a10 :: a11 :: a12 :: a13 :: a14 :: a15 :: a16 :: a17 :: a18 :: a19 :: a20 :: a21 :: a22 :: some d :: rest) M Q := h
theorem x_g0 {a : Option D} {d : D} {rest : Env} {Q : Env → Mh → Prop} (h : Q (some d :: rest) M) : gNm 0 d (a :: rest) M Q := h
theorem x_g1 {a : Option D} {a0 : Option D} {d : D} {rest : Env} {Q : Env → Mh → Prop} (h : Q (a0 :: some d :: rest) M) : gNm 1 d (a0 :: a :: rest) M Q := h
theorem x_g2 {a : Option D} {a0 : Option D} {a1 : Option D} {d : D} {rest : Env} {Q : Env → Mh → Prop} (h : Q (a0 :: a1 :: some d :: rest) M) : gNm 2 d (a0 :: a1 :: a :: rest) M Q := h
theorem x_g3 {a : Option D} {a0 : Option D} {a1 : Option D} {a2 : Option D} {d : D} {rest : Env} {Q : Env → Mh → Prop} (h : Q (a0 :: a1 :: a2 :: some d :: rest) M) : gNm 3 d (a0 :: a1 :: a2 :: a :: rest) M Q := h
theorem x_g4 {a : Option D} {a0 : Option D} {a1 : Option D} {a2 : Option D} {a3 : Option D} {d : D} {rest : Env} {Q : Env → Mh → Prop} (h : Q (a0 :: a1 :: a2 :: a3 :: some d :: rest) M) : gNm 4 d (a0 :: a1 :: a2 :: a3 :: a :: rest) M Q := h
theorem x_g5 {a : Option D} {a0 : Option D} {a1 : Option D} {a2 : Option D} {a3 : Option D} {a4 : Option D} {d : D} {rest : Env} {Q : Env → Mh → Prop} (h : Q (a0 :: a1 :: a2 :: a3 :: a4 :: some d :: rest) M) : gNm 5 d (a0 :: a1 :: a2 :: a3 :: a4 :: a :: rest) M Q := h
theorem x_g6 {a : Option D} {a0 : Option D} {a1 : Option D} {a2 : Option D} {a3 : Option D} {a4 : Option D} {a5 : Option D} {d : D} {rest : Env} {Q : Env → Mh → Prop} (h : Q (a0 :: a1 :: a2 :: a3 :: a4 :: a5 :: some d :: rest) M) : gNm 6 d (a0 :: a1 :: a2 :: a3 :: a4 :: a5 :: a :: rest) M Q := h
theorem x_g7 {a : Option D} {a0 : Option D} {a1 : Option D} {a2 : Option D} {a3 : Option D} {a4 : Option D} {a5 : Option D} {a6 : Option D} {d : D} {rest : Env} {Q : Env → Mh → Prop} (h : Q (a0 :: a1 :: a2 :: a3 :: a4 :: a5 :: a6 :: some d :: rest) M) : gNm 7 d (a0 :: a1 :: a2 :: a3 :: a4 :: a5 :: a6 :: a :: rest) M Q := h
theorem x_g8 {a : Option D} {a0 : Option D} {a1 : Option D} {a2 : Option D} {a3 : Option D} {a4 : Option D} {a5 : Option D} {a6 : Option D} {a7 : Option D} {d : D} {rest : Env} {Q : Env → Mh → Prop} (h : Q (a0 :: a1 :: a2 :: a3 :: a4 :: a5 :: a6 :: a7 :: some d :: rest) M) : gNm 8 d (a0 :: a1 :: a2 :: a3 :: a4 :: a5 :: a6 :: a7 :: a :: rest) M Q := h
theorem x_g9 {a : Option D} {a0 : Option D} {a1 : Option D} {a2 : Option D} {a3 : Option D} {a4 : Option D} {a5 : Option D} {a6 : Option D} {a7 : Option D} {a8 : Option D} {d : D} {rest : Env} {Q : Env → Mh → Prop} (h : Q (a0 :: a1 :: a2 :: a3 :: a4 :: a5 :: a6 :: a7 :: a8 :: some d :: rest) M) : gNm 9 d (a0 :: a1 :: a2 :: a3 :: a4 :: a5 :: a6 :: a7 :: a8 :: a :: rest) M Q := h
theorem x_g10 {a : Option D} {a0 : Option D} {a1 : Option D} {a2 : Option D} {a3 : Option D} {a4 : Option D} {a5 : Option D} {a6 : Option D} {a7 : Option D} {a8 : Option D} {a9 : Option D} {d : D} {rest : Env} {Q : Env → Mh → Prop} (h : Q (a0 :: a1 :: a2 :: a3 :: a4 :: a5 :: a6 :: a7 :: a8 :: a9 :: some d :: rest) M) : gNm 10 d (a0 :: a1 :: a2 :: a3 :: a4 :: a5 :: a6 :: a7 :: a8 :: a9 :: a :: rest) M Q := h
theorem x_g11 {a : Option D} {a0 : Option D} {a1 : Option D} {a2 : Option D} {a3 : Option D} {a4 : Option D} {a5 : Option D} {a6 : Option D} {a7 : Option D} {a8 : Option D} {a9 : Option D} {a10 : Option D} {d : D} {rest : Env} {Q : Env → Mh → Prop} (h : Q (a0 :: a1 :: a2 :: a3 :: a4 :: a5 :: a6 :: a7 :: a8 :: a9 :: a10 :: some d :: rest) M) : gNm 11 d (a0 :: a1 :: a2 :: a3 :: a4 :: a5 :: a6 :: a7 :: a8 :: a9 :: a10 :: a :: rest) M Q := h
theorem x_g12 {a : Option D} {a0 : Option D} {a1 : Option D} {a2 : Option D} {a3 : Option D} {a4 : Option D} {a5 : Option D} {a6 : Option D} {a7 : Option D} {a8 : Option D} {a9 : Option D} {a10 : Option D} {a11 : Option D} {d : D} {rest : Env} {Q : Env → Mh → Prop} (h : Q (a0 :: a1 :: a2 :: a3 :: a4 :: a5 :: a6 :: a7 :: a8 :: a9 :: a10 :: a11 :: some d :: rest) M) : gNm 12 d (a0 :: a1 :: a2 :: a3 :: a4 :: a5 :: a6 :: a7 :: a8 :: a9 :: a10 :: a11 :: a :: rest) M Q := h
theorem x_g13 {a : Option D} {a0 : Option D} {a1 : Option D} {a2 : Option D} {a3 : Option D} {a4 : Option D} {a5 : Option D} {a6 : Option D} {a7 : Option D} {a8 : Option D} {a9 : Option D} {a10 : Option D} {a11 : Option D} {a12 : Option D} {d : D} {rest : Env} {Q : Env → Mh → Prop} (h : Q (a0 :: a1 :: a2 :: a3 :: a4 :: a5 :: a6 :: a7 :: a8 :: a9 :: a10 :: a11 :: a12 :: some d :: rest) M) : gNm 13 d (a0 :: a1 :: a2 :: a3 :: a4 :: a5 :: a6 :: a7 :: a8 :: a9 :: a10 :: a11 :: a12 :: a :: rest) M Q := h
theorem x_g14 {a : Option D} {a0 : Option D} {a1 : Option D} {a2 : Option D} {a3 : Option D} {a4 : Option D} {a5 : Option D} {a6 : Option D} {a7 : Option D} {a8 : Option D} {a9 : Option D} {a10 : Option D} {a11 : Option D} {a12 : Option D} {a13 : Option D} {d : D} {rest : Env} {Q : Env → Mh → Prop} (h : Q (a0 :: a1 :: a2 :: a3 :: a4 :: a5 :: a6 :: a7 :: a8 :: a9 :: a10 :: a11 :: a12 :: a13 :: some d :: rest) M) : gNm 14 d (a0 :: a1 :: a2 :: a3 :: a4 :: a5 :: a6 :: a7 :: a8 :: a9 :: a10 :: a11 :: a12 :: a13 :: a :: rest) M Q := h
theorem x_g15 {a : Option D} {a0 : Option D} {a1 : Option D} {a2 : Option D} {a3 : Option D} {a4 : Option D} {a5 : Option D} {a6 : Option D} {a7 : Option D} {a8 : Option D} {a9 : Option D} {a10 : Option D} {a11 : Option D} {a12 : Option D} {a13 : Option D} {a14 : Option D} {d : D} {rest : Env} {Q : Env → Mh → Prop} (h : Q (a0 :: a1 :: a2 :: a3 :: a4 :: a5 :: a6 :: a7 :: a8 :: a9 :: a10 :: a11 :: a12 :: a13 :: a14 :: some d :: rest) M) : gNm 15 d (a0 :: a1 :: a2 :: a3 :: a4 :: a5 :: a6 :: a7 :: a8 :: a9 :: a10 :: a11 :: a12 :: a13 :: a14 :: a :: rest) M Q := h
theorem x_g16 {a : Option D} {a0 : Option D} {a1 : Option D} {a2 : Option D} {a3 : Option D} {a4 : Option D} {a5 : Option D} {a6 : Option D} {a7 : Option D} {a8 : Option D} {a9 : Option D} {a10 : Option D} {a11 : Option D} {a12 : Option D} {a13 : Option D} {a14 : Option D} {a15 : Option D} {d : D} {rest : Env} {Q : Env → Mh → Prop} (h : Q (a0 :: a1 :: a2 :: a3 :: a4 :: a5 :: a6 :: a7 :: a8 :: a9 :: a10 :: a11 :: a12 :: a13 :: a14 :: a15 :: some d :: rest) M) : gNm 16 d (a0 :: a1 :: a2 :: a3 :: a4 :: a5 :: a6 :: a7 :: a8 :: a9 :: a10 :: a11 :: a12 :: a13 :: a14 :: a15 :: a :: rest) M Q := h
theorem x_g17 {a : Option D} {a0 : Option D} {a1 : Option D} {a2 : Option D} {a3 : Option D} {a4 : Option D} {a5 : Option D} {a6 : Option D} {a7 : Option D} {a8 : Option D} {a9 : Option D} {a10 : Option D} {a11 : Option D} {a12 : Option D} {a13 : Option D} {a14 : Option D} {a15 : Option D} {a16 : Option D} {d : D} {rest : Env} {Q : Env → Mh → Prop} (h : Q (a0 :: a1 :: a2 :: a3 :: a4 :: a5 :: a6 :: a7 :: a8 :: a9 :: a10 :: a11 :: a12 :: a13 :: a14 :: a15 :: a16 :: some d :: rest) M) : gNm 17 d (a0 :: a1 :: a2 :: a3 :: a4 :: a5 :: a6 :: a7 :: a8 :: a9 :: a10 :: a11 :: a12 :: a13 :: a14 :: a15 :: a16 :: a :: rest) M Q := h
theorem x_g18 {a : Option D} {a0 : Option D} {a1 : Option D} {a2 : Option D} {a3 : Option D} {a4 : Option D} {a5 : Option D} {a6 : Option D} {a7 : Option D} {a8 : Option D} {a9 : Option D} {a10 : Option D} {a11 : Option D} {a12 : Option D} {a13 : Option D} {a14 : Option D} {a15 : Option D} {a16 : Option D} {a17 : Option D} {d : D} {rest : Env} {Q : Env → Mh → Prop} (h : Q (a0 :: a1 :: a2 :: a3 :: a4 :: a5 :: a6 :: a7 :: a8 :: a9 :: a10 :: a11 :: a12 :: a13 :: a14 :: a15 :: a16 :: a17 :: some d :: rest) M) : gNm 18 d (a0 :: a1 :: a2 :: a3 :: a4 :: a5 :: a6 :: a7 :: a8 :: a9 :: a10 :: a11 :: a12 :: a13 :: a14 :: a15 :: a16 :: a17 :: a :: rest) M Q := h
theorem x_g19 {a : Option D} {a0 : Option D} {a1 : Option D} {a2 : Option D} {a3 : Option D} {a4 : Option D} {a5 : Option D} {a6 : Option D} {a7 : Option D} {a8 : Option D} {a9 : Option D} {a10 : Option D} {a11 : Option D} {a12 : Option D} {a13 : Option D} {a14 : Option D} {a15 : Option D} {a16 : Option D} {a17 : Option D} {a18 : Option D} {d : D} {rest : Env} {Q : Env → Mh → Prop} (h : Q (a0 :: a1 :: a2 :: a3 :: a4 :: a5 :: a6 :: a7 :: a8 :: a9 :: a10 :: a11 :: a12 :: a13 :: a14 :: a15 :: a16 :: a17 :: a18 :: some d :: rest) M) : gNm 19 d (a0 :: a1 :: a2 :: a3 :: a4 :: a5 :: a6 :: a7 :: a8 :: a9 :: a10 :: a11 :: a12 :: a13 :: a14 :: a15 :: a16 :: a17 :: a18 :: a :: rest) M Q := h
theorem x_g20 {a : Option D} {a0 : Option D} {a1 : Option D} {a2 : Option D} {a3 : Option D} {a4 : Option D} {a5 : Option D} {a6 : Option D} {a7 : Option D} {a8 : Option D} {a9 : Option D} {a10 : Option D} {a11 : Option D} {a12 : Option D} {a13 : Option D} {a14 : Option D} {a15 : Option D} {a16 : Option D} {a17 : Option D} {a18 : Option D} {a19 : Option D} {d : D} {rest : Env} {Q : Env → Mh → Prop} (h : Q (a0 :: a1 :: a2 :: a3 :: a4 :: a5 :: a6 :: a7 :: a8 :: a9 :: a10 :: a11 :: a12 :: a13 :: a14 :: a15 :: a16 :: a17 :: a18 :: a19 :: some d :: rest) M) : gNm 20 d (a0 :: a1 :: a2 :: a3 :: a4 :: a5 :: a6 :: a7 :: a8 :: a9 :: a10 :: a11 :: a12 :: a13 :: a14 :: a15 :: a16 :: a17 :: a18 :: a19 :: a :: rest) M Q := h
theorem x_g21 {a : Option D} {a0 : Option D} {a1 : Option D} {a2 : Option D} {a3 : Option D} {a4 : Option D} {a5 : Option D} {a6 : Option D} {a7 : Option D} {a8 : Option D} {a9 : Option D} {a10 : Option D} {a11 : Option D} {a12 : Option D} {a13 : Option D} {a14 : Option D} {a15 : Option D} {a16 : Option D} {a17 : Option D} {a18 : Option D} {a19 : Option D} {a20 : Option D} {d : D} {rest : Env} {Q : Env → Mh → Prop} (h : Q (a0 :: a1 :: a2 :: a3 :: a4 :: a5 :: a6 :: a7 :: a8 :: a9 :: a10 :: a11 :: a12 :: a13 :: a14 :: a15 :: a16 :: a17 :: a18 :: a19 :: a20 :: some d :: rest) M) : gNm 21 d (a0 :: a1 :: a2 :: a3 :: a4 :: a5 :: a6 :: a7 :: a8 :: a9 :: a10 :: a11 :: a12 :: a13 :: a14 :: a15 :: a16 :: a17 :: a18 :: a19 :: a20 :: a :: rest) M Q := h
theorem x_g22 {a : Option D} {a0 : Option D} {a1 : Option D} {a2 : Option D} {a3 : Option D} {a4 : Option D} {a5 : Option D} {a6 : Option D} {a7 : Option D} {a8 : Option D} {a9 : Option D} {a10 : Option D} {a11 : Option D} {a12 : Option D} {a13 : Option D} {a14 : Option D} {a15 : Option D} {a16 : Option D} {a17 : Option D} {a18 : Option D} {a19 : Option D} {a20 : Option D} {a21 : Option D} {d : D} {rest : Env} {Q : Env → Mh → Prop} (h : Q (a0 :: a1 :: a2 :: a3 :: a4 :: a5 :: a6 :: a7 :: a8 :: a9 :: a10 :: a11 :: a12 :: a13 :: a14 :: a15 :: a16 :: a17 :: a18 :: a19 :: a20 :: a21 :: some d :: rest) M) : gNm 22 d (a0 :: a1 :: a2 :: a3 :: a4 :: a5 :: a6 :: a7 :: a8 :: a9 :: a10 :: a11 :: a12 :: a13 :: a14 :: a15 :: a16 :: a17 :: a18 :: a19 :: a20 :: a21 :: a :: rest) M Q := h
theorem x_g23 {a : Option D} {a0 : Option D} {a1 : Option D} {a2 : Option D} {a3 : Option D} {a4 : Option D} {a5 : Option D} {a6 : Option D} {a7 : Option D} {a8 : Option D} {a9 : Option D} {a10 : Option D} {a11 : Option D} {a12 : Option D} {a13 : Option D} {a14 : Option D} {a15 : Option D} {a16 : Option D} {a17 : Option D} {a18 : Option D} {a19 : Option D} {a20 : Option D} {a21 : Option D} {a22 : Option D} {d : D} {rest : Env} {Q : Env → Mh → Prop} (h : Q (a0 :: a1 :: a2 :: a3 :: a4 :: a5 :: a6 :: a7 :: a8 :: a9 :: a10 :: a11 :: a12 :: a13 :: a14 :: a15 :: a16 :: a17 :: a18 :: a19 :: a20 :: a21 :: a22 :: some d :: rest) M) : gNm 23 d (a0 :: a1 :: a2 :: a3 :: a4 :: a5 :: a6 :: a7 :: a8 :: a9 :: a10 :: a11 :: a12 :: a13 :: a14 :: a15 :: a16 :: a17 :: a18 :: a19 :: a20 :: a21 :: a22 :: a :: rest) M Q := h
theorem x_gTp {n : Nat} {gs : DGs} {ds : List D} {Q : Env → Mh → Prop} (hn : ds.length = n) (h : gs ds env M Q) : gTpN n gs (.tup ds) env M Q := ⟨hn, h⟩
theorem x_gsN {Q : Env → Mh → Prop} (h : Q env M) : gsNil [] env M Q := h
theorem x_gsC {g : DG} {gs : DGs} {d : D} {ds : List D} {Q : Env → Mh → Prop} (h : g d env M fun env1 M1 => gs ds env1 M1 Q) : gsCons g gs (d :: ds) env M Q := h
theorem x_gSb {to ti : DE} {s : DSet} {x : D} {Q : Env → Mh → Prop} (h : to env M fun o M1 => ti env M1 fun i M2 => s o i x M2 fun M3 => Q env M3) : gSb to ti s x env M Q := h
theorem x_sl {lo hi : DO} (h : t env M fun x M1 => lo env M1 fun a M2 => hi env M2 fun b M3 => rSl x a b M3 Q) : mSlice t lo hi env M Q := h
theorem x_oN {Q : Option Int → Mh → Prop} (h : Q none M) : oNone env M Q := h
def kO (Q : Option Int → Mh → Prop) : DQ := fun x M1 => match x with
  | .int i => Q (some i) M1
  | _ => False
theorem x_oS {Q : Option Int → Mh → Prop} (h : t env M (kO Q)) : oSome t env M Q := h
theorem x_kO {Q : Option Int → Mh → Prop} {i : Int} (h : Q (some i) M) : kO Q (.int i) M := h
theorem x_bm {T : String} (h : ta env M fun x M1 => kindOk T M1 x ∧ tt env M1 fun xs M2 => rm x xs M2 Q) : mBm T rm ta tt env M Q := h
theorem x_kstr {P : Prop} {s : List Nat} (h : P) : kindOk "str" M (.str s) ∧ P := ⟨rfl, h⟩
theorem x_tup (h : tt env M fun xs M1 => xs.length ≤ line ∧ Q (.tup xs) M1) : mTup tt env M Q := h
theorem x_lst (h : tt env M fun xs M1 => xs.length ≤ line ∧ Q (.lst xs) M1) : mLst tt env M Q := h
theorem x_lstO (h : tt env M fun xs M1 => xs.length ≤ line ∧ ∀ p, M1 p = none → Q (.obj p) (mu M1 p (.lst xs))) : mLstO tt env M Q := h
theorem x_ln0  {P : Prop} (h : P) : ([] : List D).length ≤ line ∧ P := ⟨Nat.le_of_ble_eq_true rfl, h⟩
theorem x_ln1 {a0 : D} {P : Prop} (h : P) : ([a0] : List D).length ≤ line ∧ P := ⟨Nat.le_of_ble_eq_true rfl, h⟩
theorem x_ln2 {a0 : D} {a1 : D} {P : Prop} (h : P) : ([a0, a1] : List D).length ≤ line ∧ P := ⟨Nat.le_of_ble_eq_true rfl, h⟩
theorem x_ln3 {a0 : D} {a1 : D} {a2 : D} {P : Prop} (h : P) : ([a0, a1, a2] : List D).length ≤ line ∧ P := ⟨Nat.le_of_ble_eq_true rfl, h⟩
theorem x_ln4 {a0 : D} {a1 : D} {a2 : D} {a3 : D} {P : Prop} (h : P) : ([a0, a1, a2, a3] : List D).length ≤ line ∧ P := ⟨Nat.le_of_ble_eq_true rfl, h⟩
theorem x_ln5 {a0 : D} {a1 : D} {a2 : D} {a3 : D} {a4 : D} {P : Prop} (h : P) : ([a0, a1, a2, a3, a4] : List D).length ≤ line ∧ P := ⟨Nat.le_of_ble_eq_true rfl, h⟩
theorem x_ln6 {a0 : D} {a1 : D} {a2 : D} {a3 : D} {a4 : D} {a5 : D} {P : Prop} (h : P) : ([a0, a1, a2, a3, a4, a5] : List D).length ≤ line ∧ P := ⟨Nat.le_of_ble_eq_true rfl, h⟩
theorem x_ln7 {a0 : D} {a1 : D} {a2 : D} {a3 : D} {a4 : D} {a5 : D} {a6 : D} {P : Prop} (h : P) : ([a0, a1, a2, a3, a4, a5, a6] : List D).length ≤ line ∧ P := ⟨Nat.le_of_ble_eq_true rfl, h⟩
theorem x_ln8 {a0 : D} {a1 : D} {a2 : D} {a3 : D} {a4 : D} {a5 : D} {a6 : D} {a7 : D} {P : Prop} (h : P) : ([a0, a1, a2, a3, a4, a5, a6, a7] : List D).length ≤ line ∧ P := ⟨Nat.le_of_ble_eq_true rfl, h⟩
theorem x_ln9 {a0 : D} {a1 : D} {a2 : D} {a3 : D} {a4 : D} {a5 : D} {a6 : D} {a7 : D} {a8 : D} {P : Prop} (h : P) : ([a0, a1, a2, a3, a4, a5, a6, a7, a8] : List D).length ≤ line ∧ P := ⟨Nat.le_of_ble_eq_true rfl, h⟩
theorem x_ln10 {a0 : D} {a1 : D} {a2 : D} {a3 : D} {a4 : D} {a5 : D} {a6 : D} {a7 : D} {a8 : D} {a9 : D} {P : Prop} (h : P) : ([a0, a1, a2, a3, a4, a5, a6, a7, a8, a9] : List D).length ≤ line ∧ P := ⟨Nat.le_of_ble_eq_true rfl, h⟩
theorem x_ln11 {a0 : D} {a1 : D} {a2 : D} {a3 : D} {a4 : D} {a5 : D} {a6 : D} {a7 : D} {a8 : D} {a9 : D} {a10 : D} {P : Prop} (h : P) : ([a0, a1, a2, a3, a4, a5, a6, a7, a8, a9, a10] : List D).length ≤ line ∧ P := ⟨Nat.le_of_ble_eq_true rfl, h⟩
theorem x_addI {i j : Int} (h : Q (.int (i + j)) M) : rAdd (.int i) (.int j) M Q := h
theorem x_addII {i j : Int} (h : Q (.int (i + j)) M) : rAddI (.int i) (.int j) M Q := h
theorem x_subI {i j : Int} (h : Q (.int (i - j)) M) : rSub (.int i) (.int j) M Q := h
theorem x_negI {i : Int} (h : Q (.int (-i)) M) : rNeg (.int i) M Q := h
theorem x_eqI {i j : Int} (h : Q (.bl (i == j)) M) : rEq (.int i) (.int j) M Q := ⟨rfl, h⟩
theorem x_eqS {i j : List Nat} (h : Q (.bl (i == j)) M) : rEq (.str i) (.str j) M Q := ⟨rfl, h⟩
theorem x_neS {i j : List Nat} (h : Q (.bl (!(i == j))) M) : rNe (.str i) (.str j) M Q := ⟨rfl, h⟩
theorem x_neI {i j : Int} (h : Q (.bl (!(i == j))) M) : rNe (.int i) (.int j) M Q := ⟨rfl, h⟩
theorem x_eqB {i j : Bool} (h : Q (.bl (i == j)) M) : rEq (.bl i) (.bl j) M Q := ⟨rfl, h⟩
theorem x_neB {i j : Bool} (h : Q (.bl (!(i == j))) M) : rNe (.bl i) (.bl j) M Q := ⟨rfl, h⟩
theorem x_ltI {i j : Int} (h : Q (.bl (decide (i < j))) M) : rLt (.int i) (.int j) M Q := ⟨rfl, h⟩
theorem x_gtI {i j : Int} (h : Q (.bl (decide (j < i))) M) : rGt (.int i) (.int j) M Q := ⟨rfl, h⟩
theorem x_leI {i j : Int} (h : Q (.bl (decide (i ≤ j))) M) : rLe (.int i) (.int j) M Q := ⟨rfl, by rw [show (!ltD (.int j) (.int i)) = decide (i ≤ j) from by show (!decide (j < i)) = _; by_cases z : j < i <;> simp [z] <;> omega]; exact h⟩
theorem x_geI {i j : Int} (h : Q (.bl (decide (j ≤ i))) M) : rGe (.int i) (.int j) M Q := ⟨rfl, by rw [show (!ltD (.int i) (.int j)) = decide (j ≤ i) from by show (!decide (i < j)) = _; by_cases z : i < j <;> simp [z] <;> omega]; exact h⟩
theorem x_ltS {i j : List Nat} (h : Q (.bl (ltS i j)) M) : rLt (.str i) (.str j) M Q := ⟨rfl, h⟩
theorem x_leS {i j : List Nat} (h : Q (.bl (!ltS j i)) M) : rLe (.str i) (.str j) M Q := ⟨rfl, h⟩
theorem x_isN {b : Bool} {x : D} (h : Q (.bl (isNon x == b)) M) : isNonR b x .non M Q := h
theorem x_isB {b k : Bool} {x : D} (h : Q (.bl (isBl k x == b)) M) : isBlR b x (.bl k) M Q := h
theorem x_lenT {ds : List D} (h : Q (.int ds.length) M) : rLen [.tup ds] M Q := h
theorem x_lenL {ds : List D} (h : Q (.int ds.length) M) : rLen [.lst ds] M Q := h
theorem x_abs {i : Int} (h : Q (.int (iabs i)) M) : rAbs [.int i] M Q := h
theorem x_intI {i : Int} (h : Q (.int i) M) : rInt [.int i] M Q := h
theorem x_intB {i : Bool} (h : Q (.int (b2i i)) M) : rInt [.bl i] M Q := h
theorem x_max {i j : Int} (h : Q (.int (if j > i then j else i)) M) : rMax2 [.int i, .int j] M Q := h
theorem x_min {i j : Int} (h : Q (.int (if j < i then j else i)) M) : rMin2 [.int i, .int j] M Q := h
theorem x_tupL {ds : List D} (h : Q (.tup ds) M) : rTuple [.lst ds] M Q := h
theorem x_tupT {ds : List D} (h : Q (.tup ds) M) : rTuple [.tup ds] M Q := h
theorem x_slT {ds : List D} {a b : Option Int} (h : Q (.tup (cut ds a b)) M) : rSl (.tup ds) a b M Q := h
theorem x_slL {ds : List D} {a b : Option Int} (h : Q (.lst (cut ds a b)) M) : rSl (.lst ds) a b M Q := h
def kSeq (R : List D → (Mh → Prop) → Mh → Prop) : DQ := fun x M1 => match x with
  | .lst xs => R xs always M1
  | .tup xs => R xs always M1
  | .str s => R (s.map fun c => .str [c]) always M1
  | .obj a => match M1 a with
    | some (.lst xs) => R xs (fun M => M a = some (.lst xs)) M1
    | _ => False
  | _ => False
def kRng1 (R : List D → (Mh → Prop) → Mh → Prop) : List D → Mh → Prop := fun xs M1 => match xs with
  | [.int n] => -4611686018427387904 ≤ n ∧ n < 4611686018427387904 ∧ R (rngD 0 n.toNat) always M1
  | _ => False
def kRng2 (R : List D → (Mh → Prop) → Mh → Prop) : List D → Mh → Prop := fun xs M1 => match xs with
  | [.int a, .int b] => (-4611686018427387904 ≤ a ∧ a < 4611686018427387904 ∧ -4611686018427387904 ≤ b ∧ b < 4611686018427387904) ∧ R (rngD a (b - a).toNat) always M1
  | _ => False
theorem x_iSeq {R : List D → (Mh → Prop) → Mh → Prop} (h : t env M (kSeq R)) : iSeq t env M R := h
theorem x_kSL {R : List D → (Mh → Prop) → Mh → Prop} {xs : List D} (h : R xs always M) : kSeq R (.lst xs) M := h
theorem x_kST {R : List D → (Mh → Prop) → Mh → Prop} {xs : List D} (h : R xs always M) : kSeq R (.tup xs) M := h
theorem x_kSS {R : List D → (Mh → Prop) → Mh → Prop} {s : List Nat} (h : R (s.map fun c => .str [c]) always M) : kSeq R (.str s) M := h
theorem x_r1 {R : List D → (Mh → Prop) → Mh → Prop} (h : tt env M (kRng1 R)) : iRange1 tt env M R := h
theorem x_r2 {R : List D → (Mh → Prop) → Mh → Prop} (h : tt env M (kRng2 R)) : iRange2 tt env M R := h
theorem x_comp {it : DI} {g : Tgt} {own : List Nat} (h : it env M fun ds chk M1 => compGo g c t (wipeE env own) chk (fun acc M2 => Q (.lst acc) M2) ds [] M1) : mComp it g c t own env M Q := h
theorem x_compO {it : DI} {g : Tgt} {own : List Nat} (h : it env M fun ds chk M1 => compGo g c t (wipeE env own) chk (fun acc M2 => ∀ p, M2 p = none → Q (.obj p) (mu M2 p (.lst acc))) ds [] M1) : mCompO it g c t own env M Q := h
theorem x_for {it : DI} {g : Tgt} (h : it env M fun ds chk M1 => forGo g A ⟨nx, rt, bk, ct⟩ chk ds env M1) : mFor it g A ⟨nx, rt, bk, ct⟩ env M := h
end
section
variable {M : Mh} {Q : DQ} {i j : Int}
theorem kR1 {R : List D → (Mh → Prop) → Mh → Prop} {n : Int} (h1 : -4611686018427387904 ≤ n) (h2 : n < 4611686018427387904) (h : R (rngD 0 n.toNat) always M) : kRng1 R [.int n] M := ⟨h1, h2, h⟩
theorem kR2 {R : List D → (Mh → Prop) → Mh → Prop} {a b : Int} (h1 : -4611686018427387904 ≤ a ∧ a < 4611686018427387904 ∧ -4611686018427387904 ≤ b ∧ b < 4611686018427387904) (h : R (rngD a (b - a).toNat) always M) : kRng2 R [.int a, .int b] M := ⟨h1, h⟩
theorem kSO {R : List D → (Mh → Prop) → Mh → Prop} {a : Nat} {xs : List D} (e : M a = some (.lst xs)) (h : R xs (fun M => M a = some (.lst xs)) M) : kSeq R (.obj a) M := by
  unfold kSeq; dsimp only; rw [e]; exact h
theorem ixO {a : Nat} {xs : List D} {d : D} (e : M a = some (.lst xs)) (h : atD xs i = some d) (q : Q d M) : rIx (.obj a) (.int i) M Q := by
  unfold rIx; dsimp only; rw [e]; dsimp only; rw [h]; exact q
theorem ixL {xs : List D} {d : D} (h : atD xs i = some d) (q : Q d M) : rIx (.lst xs) (.int i) M Q := by
  unfold rIx; dsimp only; rw [h]; exact q
theorem ixT {xs : List D} {d : D} (h : atD xs i = some d) (q : Q d M) : rIx (.tup xs) (.int i) M Q := by
  unfold rIx; dsimp only; rw [h]; exact q
theorem ixS {s : List Nat} {c : Nat} (hl : s.length ≤ line) (h : atD s i = some c) (q : Q (.str [c]) M) : rIx (.str s) (.int i) M Q := by
  unfold rIx; dsimp only; rw [h]; exact ⟨hl, q⟩
theorem setO {a : Nat} {xs : List D} {k : Nat} {v : D} {Q : Mh → Prop} (e : M a = some (.lst xs)) (h : atIx xs.length i = some k) (q : Q (mu M a (.lst (xs.set k v)))) : sIx (.obj a) (.int i) v M Q := by
  unfold sIx; dsimp only; rw [e]; dsimp only; rw [h]; exact q
theorem modI (h : 0 < j) (q : Q (.int (i % j)) M) : rMod (.int i) (.int j) M Q := ⟨h, q⟩
theorem fdivI (h : 0 < j) (hz : Sz 4000 j) (q : Q (.int (i / j)) M) : rFdiv (.int i) (.int j) M Q := ⟨h, hz, q⟩
theorem mulI (h : MulOk i j) (q : Q (.int (i * j)) M) : rMul (.int i) (.int j) M Q := ⟨h, q⟩
theorem powI (h0 : 0 ≤ j) (h1 : j ≤ 1000000) (h2 : Sz 63 i) (q : Q (.int (i ^ j.toNat)) M) : rPow (.int i) (.int j) M Q := ⟨h0, h1, h2, q⟩
theorem addS {s t : List Nat} (h : s.length + t.length ≤ line) (q : Q (.str (s ++ t)) M) : rAdd (.str s) (.str t) M Q := ⟨h, q⟩
theorem addT {s t : List D} (h : s.length + t.length ≤ line) (q : Q (.tup (s ++ t)) M) : rAdd (.tup s) (.tup t) M Q := ⟨h, q⟩
theorem addL {s t : List D} (h : s.length + t.length ≤ line) (q : Q (.lst (s ++ t)) M) : rAdd (.lst s) (.lst t) M Q := ⟨h, q⟩
theorem mulS {s : List Nat} (h0 : -(2 ^ 62) ≤ j) (h1 : j < 2 ^ 62) (h2 : s.length * j.toNat ≤ line) (q : Q (.str ((List.replicate j.toNat s).flatten)) M) : rMul (.str s) (.int j) M Q := ⟨h0, h1, h2, q⟩
theorem lenS {s : List Nat} (h : s.length ≤ line) (q : Q (.int s.length) M) : rLen [.str s] M Q := ⟨h, q⟩
theorem lenO {a : Nat} {xs : List D} (e : M a = some (.lst xs)) (q : Q (.int xs.length) M) : rLen [.obj a] M Q := by
  unfold rLen; dsimp only; rw [e]; exact q
theorem findS {s : List Nat} {c : Nat} (q : Q (.int (findC c 0 s)) M) : rFind (.str s) [.str [c]] M Q := q
theorem slS {s : List Nat} {a b : Option Int} (h : s.length ≤ line) (q : Q (.str (cut s a b)) M) : rSl (.str s) a b M Q := ⟨h, q⟩
theorem joinL {sep : List Nat} {ds : List D} {ts : List (List Nat)} (h : texts ds = some ts) (h1 : (joinT sep ts).length ≤ line) (h2 : (ts.map List.length).sum + ts.length * sep.length ≤ line) (q : Q (.str (joinT sep ts)) M) : rJoin (.str sep) [.lst ds] M Q := by
  unfold rJoin; dsimp only; rw [h]; exact ⟨h1, h2, q⟩
theorem allL {ds : List D} {bs : List Bool} (h : bools ds = some bs) (q : Q (.bl (bs.all id)) M) : rAll [.lst ds] M Q := by
  unfold rAll; dsimp only; rw [h]; exact q
theorem isiD {n : String} {x : D} {b : Bool} (hn : n = "int" ∨ n = "str" ∨ n = "bool" ∨ n = "tuple" ∨ n = "list" ∨ n = "dict") (h : isIs n M x = some b) (q : Q (.bl b) M) : rIsiB [x, .ty n] M Q := by
  refine ⟨hn, ?_⟩; rw [h]; exact q
theorem strI (h : Sz 1900 i) (q : Q (.str (intDigs i)) M) : rStr [.int i] M Q := ⟨h, q⟩
theorem appO {a : Nat} {ds : List D} {y : D} (e : M a = some (.lst ds)) (h : ds.length < line) (q : Q .non (mu M a (.lst (ds ++ [y])))) : rAppend (.obj a) [y] M Q := by
  unfold rAppend; dsimp only; rw [e]; exact ⟨h, q⟩
theorem kLst {T : String} {a : Nat} {ds : List D} {P : Prop} (e : M a = some (.lst ds)) (hT : T = "list") (h : P) : kindOk T M (.obj a) ∧ P := by
  refine ⟨?_, h⟩; unfold kindOk; dsimp only; rw [e]; exact hT
theorem atD_ok {α : Type} {xs : List α} (h0 : 0 ≤ i) (h1 : i < xs.length) : ∃ d, atD xs i = some d ∧ d ∈ xs ∧ xs[i.toNat]? = some d := by
  have h : i.toNat < xs.length := by omega
  refine ⟨xs[i.toNat], ?_, List.getElem_mem h, List.getElem?_eq_getElem h⟩
  unfold atD atIx
  rw [if_pos h0, if_pos h1]
  exact List.getElem?_eq_getElem h
theorem Sz.of {k n : Nat} (h : i.natAbs < 2 ^ k) (hk : k ≤ n) : Sz n i := Nat.lt_of_lt_of_le h (Nat.pow_le_pow_right (by decide) hk)
end
theorem cut_pre {α : Type} {xs : List α} {k : Int} (h : 0 ≤ k) : cut xs none (some k) = xs.take k.toNat := by
  unfold cut cutI
  dsimp only
  rw [if_neg (by omega), List.drop_zero, Nat.sub_zero, ← List.take_eq_take_min]
theorem cut_post {α : Type} {xs : List α} {k : Int} (h : 0 ≤ k) : cut xs (some k) none = xs.drop k.toNat := by
  unfold cut cutI
  dsimp only
  rw [if_neg (by omega)]
  by_cases hk : k.toNat ≤ xs.length
  · rw [Nat.min_eq_left hk, List.take_of_length_le (by rw [List.length_drop]; exact Nat.le_refl _)]
  · rw [Nat.min_eq_right (by omega), List.drop_length, List.drop_eq_nil_of_le (by omega), List.take_nil]
theorem cut_last {α : Type} {xs : List α} : cut xs none (some (-1)) = xs.dropLast := by
  unfold cut cutI
  dsimp only
  rw [if_pos (by decide), List.drop_zero, Nat.sub_zero, List.dropLast_eq_take]
  congr 1; omega
/-! loops -/
theorem compGo_inv {g : Tgt} {te : DE} {env : Env} {chk : Mh → Prop} {Q : List D → Mh → Prop} (I : List D → Mh → Prop) : ∀ (ds acc : List D) (M : Mh), acc.length + ds.length ≤ line →
    (∀ d ∈ ds, ∀ acc M, I acc M → chk M ∧ ∃ env1, g.put env d = some env1 ∧ ∀ Q' : DQ, (∀ y M', I (acc ++ [y]) M' → Q' y M') → te env1 M Q') → (∀ acc' M, acc'.length = acc.length + ds.length → I acc' M → chk M ∧ Q acc' M) → I acc M → compGo g mYes te env chk Q ds acc M
  | [], acc, M, hl, st, fin, h => fin acc M rfl h
  | d :: r, acc, M, hl, st, fin, h => by
    obtain ⟨hc, env1, e, h2⟩ := st d List.mem_cons_self acc M h
    refine ⟨hc, ?_⟩
    rw [e]
    refine ⟨fun _ => h2 _ fun y M' hy => ⟨by simp only [List.length_cons] at hl; omega, ?_⟩, fun z => Bool.noConfusion z⟩
    exact compGo_inv I r (acc ++ [y]) M' (by simp only [List.length_append, List.length_cons, List.length_nil] at hl ⊢; omega) (fun x hx => st x (List.mem_cons_of_mem _ hx)) (fun acc' M2 e2 => fin acc' M2 (by rw [e2]; simp only [List.length_append, List.length_cons, List.length_nil]; omega)) hy
theorem compGo_map {g : Tgt} {te : DE} {env : Env} {Q : List D → Mh → Prop} (f : D → D) : ∀ (ds acc : List D) (M : Mh), acc.length + ds.length ≤ line →
    (∀ d ∈ ds, ∃ env1, g.put env d = some env1 ∧ ∀ Q' : DQ, Q' (f d) M → te env1 M Q') → Q (acc ++ ds.map f) M → compGo g mYes te env always Q ds acc M
  | [], acc, M, _, _, q => ⟨trivial, by simpa using q⟩
  | d :: r, acc, M, hl, st, q => by
    obtain ⟨env1, e, h⟩ := st d List.mem_cons_self
    refine ⟨trivial, ?_⟩
    rw [e]
    refine ⟨fun _ => h _ ⟨by simp only [List.length_cons] at hl; omega, ?_⟩, fun z => Bool.noConfusion z⟩
    exact compGo_map f r (acc ++ [f d]) M (by simp only [List.length_append, List.length_cons, List.length_nil] at hl ⊢; omega) (fun x hx => st x (List.mem_cons_of_mem _ hx)) (by simpa using q)
theorem compGo_mapC {g : Tgt} {te : DE} {env : Env} {chk : Mh → Prop} {Q : List D → Mh → Prop} (f : D → D) : ∀ (ds acc : List D) (M : Mh), chk M → acc.length + ds.length ≤ line →
    (∀ d ∈ ds, ∃ env1, g.put env d = some env1 ∧ ∀ Q' : DQ, Q' (f d) M → te env1 M Q') → Q (acc ++ ds.map f) M → compGo g mYes te env chk Q ds acc M
  | [], acc, M, hc, _, _, q => ⟨hc, by simpa using q⟩
  | d :: r, acc, M, hc, hl, st, q => by
    obtain ⟨env1, e, h⟩ := st d List.mem_cons_self
    refine ⟨hc, ?_⟩
    rw [e]
    refine ⟨fun _ => h _ ⟨by simp only [List.length_cons] at hl; omega, ?_⟩, fun z => Bool.noConfusion z⟩
    exact compGo_mapC f r (acc ++ [f d]) M hc (by simp only [List.length_append, List.length_cons, List.length_nil] at hl ⊢; omega) (fun x hx => st x (List.mem_cons_of_mem _ hx)) (by simpa using q)
theorem atD_last {α : Type} {xs : List α} (h : xs ≠ []) : atD xs (-1) = some (xs.getLast h) := by
  have hl := List.length_pos_iff.mpr h
  unfold atD atIx
  rw [if_neg (by decide), if_pos (by omega)]
  show xs[(-1 + (xs.length : Int)).toNat]? = _
  rw [show (-1 + (xs.length : Int)).toNat = xs.length - 1 from by omega, List.getLast_eq_getElem, List.getElem?_eq_getElem]
theorem forGo_inv {g : Tgt} {b : DS} {E : DEnds} {chk : Mh → Prop} (I : Nat → Env → Mh → Prop) : ∀ (ds : List D) (k : Nat) (env : Env) (M : Mh),
    (∀ i d env M, ds[i]? = some d → I (k + i) env M → chk M ∧ ∃ env1, g.put env d = some env1 ∧ ∀ nx' : Env → Mh → Prop, (∀ e M', I (k + i + 1) e M' → nx' e M') → b ⟨nx', E.rt, E.nx, nx'⟩ env1 M) → (∀ env M, I (k + ds.length) env M → chk M ∧ E.nx env M) → I k env M → forGo g b E chk ds env M
  | [], k, env, M, st, fin, h => fin env M h
  | d :: r, k, env, M, st, fin, h => by
    obtain ⟨hc, env1, e, h2⟩ := st 0 d env M rfl h
    refine ⟨hc, ?_⟩
    rw [e]
    refine h2 _ fun e2 M' hi => ?_
    exact forGo_inv I r (k + 1) e2 M' (fun i d env M hd hI => by
      have := st (i + 1) d env M (by simpa using hd) (by rw [show k + (i + 1) = k + 1 + i from by omega]; exact hI)
      rw [show k + (i + 1) + 1 = k + 1 + i + 1 from by omega] at this
      exact this) (fun env M hI => fin env M (by rw [List.length_cons, show k + (r.length + 1) = k + 1 + r.length from by omega]; exact hI)) hi
end Dl
end
section
set_option Elab.async false
set_option linter.all false
set_option maxRecDepth 100000
/-! The data layer, rules: each reading of DlCore over HandS. -/
namespace Dl
open PySem PySem.Spec PyProof.Rows L2

abbrev St := List (Option V)
/-! ### texts -/
def S (l : List Nat) : Str := ⟨l.toArray⟩
theorem S_cps (l : List Nat) : (S l).cps.toList = l := rfl
theorem S_len (l : List Nat) : (S l).length = l.length := by simp [S, Str.length]
theorem S_of (x : Str) : S x.cps.toList = x := by cases x; simp [S]
theorem S_app (a b : List Nat) : S a ++ S b = S (a ++ b) := by
  show Str.append _ _ = _
  simp [S, Str.append]
theorem S_inj {a b : List Nat} (h : S a = S b) : a = b := by
  have := congrArg (fun s : Str => s.cps.toList) h
  simpa [S] using this
theorem line_eq : line = sizeLine := by rw [sizeLine_eq]

/-! ### data and values -/
abbrev HidL := List Addr
/-- a tuple that is data: tracked and not hidden, or of the written part -/
def TupAt (K : PySem.W.Frag) (hid : HidL) (H : Hp) (a : Addr) (vs : List V) : Prop :=
  (Rd H a (.tup vs) ∧ a ∉ hid) ∨
    ∃ (o : Obj) (its : Array Value) (n : Nat), K.lookup a = some o ∧ o.cls = .type "tuple" ∧ o.data = .seq its n ∧ its.size ≤ sizeLine ∧ Vals vs its.toList
theorem TupAt.sq {K : PySem.W.Frag} {hid : HidL} {H : Hp} {a : Addr} {vs : List V} (h : TupAt K hid H a vs) : SqT K H a vs := by
  rcases h with ⟨h, _⟩ | h
  · exact .inl h
  · exact .inr h
/-- a list that is data: tracked, not hidden, not of the small heap; or of the written part -/
def LstAt (K : PySem.W.Frag) (hid : HidL) (M : Mh) (H : Hp) (a : Addr) (vs : List V) : Prop :=
  (Rd H a (.lst vs) ∧ a ∉ hid ∧ M a = none) ∨
    ∃ (o : Obj) (its : Array Value) (n : Nat), K.lookup a = some o ∧ o.cls = .type "list" ∧ o.dict = none ∧ o.data = .seq its n ∧ its.size ≤ sizeLine ∧ Vals vs its.toList
theorem LstAt.sq {K : PySem.W.Frag} {hid : HidL} {M : Mh} {H : Hp} {a : Addr} {vs : List V} (h : LstAt K hid M H a vs) : SqL K H a vs := by
  rcases h with ⟨h, _⟩ | h
  · exact .inl h
  · exact .inr h
mutual
inductive Rep (K : PySem.W.Frag) (hid : HidL) (M : Mh) (H : Hp) : D → V → Prop
  | non : Rep K hid M H .non .non
  | bl (b : Bool) : Rep K hid M H (.bl b) (.bl b)
  | int (i : Int) : Rep K hid M H (.int i) (.int i)
  | str (l : List Nat) : Rep K hid M H (.str l) (.str (S l))
  | ty (n : String) : Rep K hid M H (.ty n) (.ty n)
  | obj (a : Addr) : Rep K hid M H (.obj a) (.ref a)
  | tup {a : Addr} {ds : List D} {vs : List V} : TupAt K hid H a vs → Reps K hid M H ds vs → Rep K hid M H (.tup ds) (.ref a)
  | lst {a : Addr} {ds : List D} {vs : List V} : LstAt K hid M H a vs → Reps K hid M H ds vs → Rep K hid M H (.lst ds) (.ref a)
inductive Reps (K : PySem.W.Frag) (hid : HidL) (M : Mh) (H : Hp) : List D → List V → Prop
  | nil : Reps K hid M H [] []
  | cons {d : D} {v : V} {ds : List D} {vs : List V} : Rep K hid M H d v → Reps K hid M H ds vs → Reps K hid M H (d :: ds) (v :: vs)
end
section
variable {K : PySem.W.Frag} {hid : HidL} {M M' : Mh} {H H' : Hp}
theorem Reps.length : ∀ {ds : List D} {vs : List V}, Reps K hid M H ds vs → ds.length = vs.length
  | _, _, .nil => rfl
  | _, _, .cons _ t => congrArg (· + 1) (Reps.length t)
theorem Reps.get : ∀ {ds : List D} {vs : List V} {i : Nat} {d : D}, Reps K hid M H ds vs → ds[i]? = some d → ∃ v, vs[i]? = some v ∧ Rep K hid M H d v
  | _, _, _, _, .nil, e => by simp at e
  | _, _, 0, _, .cons r _, e => by simp at e; subst e; exact ⟨_, rfl, r⟩
  | _, _, i + 1, d, .cons _ t, e => by
    obtain ⟨u, h1, h2⟩ := Reps.get (i := i) (d := d) t (by simpa using e)
    exact ⟨u, by simpa using h1, h2⟩
theorem Reps.get' : ∀ {ds : List D} {vs : List V} {i : Nat} {v : V}, Reps K hid M H ds vs → vs[i]? = some v → ∃ d, ds[i]? = some d ∧ Rep K hid M H d v
  | _, _, _, _, .nil, e => by simp at e
  | _, _, 0, _, .cons r _, e => by simp at e; subst e; exact ⟨_, rfl, r⟩
  | _, _, i + 1, d, .cons _ t, e => by
    obtain ⟨u, h1, h2⟩ := Reps.get' (i := i) (v := d) t (by simpa using e)
    exact ⟨u, by simpa using h1, h2⟩
theorem Reps.append : ∀ {ds es : List D} {vs us : List V}, Reps K hid M H ds vs → Reps K hid M H es us → Reps K hid M H (ds ++ es) (vs ++ us)
  | _, _, _, _, .nil, s => s
  | _, _, _, _, .cons r t, s => .cons r (Reps.append t s)
theorem Reps.take : ∀ {ds : List D} {vs : List V} (n : Nat), Reps K hid M H ds vs → Reps K hid M H (ds.take n) (vs.take n)
  | _, _, 0, _ => .nil
  | _, _, _ + 1, .nil => .nil
  | _, _, n + 1, .cons r t => .cons r (Reps.take n t)
theorem Reps.drop : ∀ {ds : List D} {vs : List V} (n : Nat), Reps K hid M H ds vs → Reps K hid M H (ds.drop n) (vs.drop n)
  | _, _, 0, r => r
  | _, _, _ + 1, .nil => .nil
  | _, _, n + 1, .cons _ t => Reps.drop n t
theorem Reps.set {d : D} {v : V} (r : Rep K hid M H d v) : ∀ {ds : List D} {vs : List V} (i : Nat), Reps K hid M H ds vs → Reps K hid M H (ds.set i d) (vs.set i v)
  | _, _, _, .nil => .nil
  | _, _, 0, .cons _ t => .cons r t
  | _, _, i + 1, .cons q t => .cons q (Reps.set r i t)
theorem Reps.inv1 {d : D} {vs : List V} (h : Reps K hid M H [d] vs) : ∃ v, vs = [v] ∧ Rep K hid M H d v := by
  cases h with
  | cons r t => cases t; exact ⟨_, rfl, r⟩
theorem Reps.inv2 {d e : D} {vs : List V} (h : Reps K hid M H [d, e] vs) : ∃ v w, vs = [v, w] ∧ Rep K hid M H d v ∧ Rep K hid M H e w := by
  cases h with
  | cons r t =>
    obtain ⟨w, rfl, r2⟩ := t.inv1
    exact ⟨_, _, rfl, r, r2⟩
theorem Reps.inv3 {d e f : D} {vs : List V} (h : Reps K hid M H [d, e, f] vs) : ∃ v w x, vs = [v, w, x] ∧ Rep K hid M H d v ∧ Rep K hid M H e w ∧ Rep K hid M H f x := by
  cases h with
  | cons r t =>
    obtain ⟨w, x, rfl, r2, r3⟩ := t.inv2
    exact ⟨_, _, _, rfl, r, r2, r3⟩

/-- keys of a dict as the layer below has them -/
def keyD : D → Option Key
  | .int i => some (.inl i)
  | .str x => some (.inr (S x))
  | _ => none
inductive DReps (K : PySem.W.Frag) (hid : HidL) (M : Mh) (H : Hp) : List (D × D) → List (Key × V) → Prop
  | nil : DReps K hid M H [] []
  | cons {k d : D} {k' : Key} {v : V} {ds : List (D × D)} {vs : List (Key × V)} : keyD k = some k' → Rep K hid M H d v → DReps K hid M H ds vs → DReps K hid M H ((k, d) :: ds) ((k', v) :: vs)
inductive FReps (K : PySem.W.Frag) (hid : HidL) (M : Mh) (H : Hp) : List (String × D) → List (Str × V) → Prop
  | nil : FReps K hid M H [] []
  | cons {f : String} {d : D} {v : V} {ds : List (String × D)} {vs : List (Str × V)} : Rep K hid M H d v → FReps K hid M H ds vs → FReps K hid M H ((f, d) :: ds) ((Str.ofString f, v) :: vs)
/-- what stands at an address -/
def ORep (K : PySem.W.Frag) (hid : HidL) (M : Mh) (H : Hp) (a : Addr) : MO → Prop
  | .lst ds => ∃ vs, H a = some (.lst vs) ∧ Reps K hid M H ds vs
  | .dct kvs => ∃ ks, H a = some (.dK ks) ∧ DReps K hid M H kvs ks
  | .lck kvs => ∃ o ks, H a = some (.frz o (.dK ks)) ∧ DReps K hid M H kvs ks
  | .ins c fs => ∃ dx gs, H a = some (.ins (He.ga K (Str.ofString c)) dx gs) ∧ FReps K hid M H fs gs
def RelM (K : PySem.W.Frag) (hid : HidL) (M : Mh) (H : Hp) : Prop := (∀ a o, M a = some o → ORep K hid M H a o) ∧ ∀ a ∈ hid, M a = none ∧ ∃ u, H a = some u
def Pers (M : Mh) (H : Hp) (M' : Mh) (H' : Hp) : Prop := ∀ a o, H a = some o → M a = none → H' a = some o ∧ M' a = none
theorem Pers.refl (M : Mh) (H : Hp) : Pers M H M H := fun _ _ h n => ⟨h, n⟩
theorem Pers.trans {M1 : Mh} {H1 : Hp} {M2 : Mh} {H2 : Hp} (p : Pers M H M1 H1) (q : Pers M1 H1 M2 H2) : Pers M H M2 H2 := fun a o h n =>
  let ⟨h1, n1⟩ := p a o h n
  q a o h1 n1
theorem ORep.some_ (h : ORep K hid M H a o) : ∃ u, H a = some u ∧ (∀ vs, u ≠ .tup vs) ∧ (∀ ob vs, u ≠ .frz ob (.tup vs)) := by
  cases o with
  | lst ds => obtain ⟨vs, e, _⟩ := h; exact ⟨_, e, (fun _ z => by cases z), fun _ _ z => by cases z⟩
  | dct ds => obtain ⟨vs, e, _⟩ := h; exact ⟨_, e, (fun _ z => by cases z), fun _ _ z => by cases z⟩
  | lck ds => obtain ⟨ob, vs, e, _⟩ := h; exact ⟨_, e, (fun _ z => by cases z), fun _ _ z => by cases z⟩
  | ins c ds => obtain ⟨_, vs, e, _⟩ := h; exact ⟨_, e, (fun _ z => by cases z), fun _ _ z => by cases z⟩
theorem RelM.free (r : RelM K hid M H) {a : Addr} (h : H a = none) : M a = none := by
  cases e : M a with
  | none => rfl
  | some o =>
    obtain ⟨u, hu, _⟩ := (r.1 a o e).some_
    rw [h] at hu; cases hu
theorem RelM.tupNone (r : RelM K hid M H) {a : Addr} {vs : List V} (h : Rd H a (.tup vs)) : M a = none := by
  cases e : M a with
  | none => rfl
  | some o =>
    obtain ⟨u, hu, h1, h2⟩ := (r.1 a o e).some_
    rcases h with h | ⟨ob, h⟩
    · rw [h] at hu; cases hu; exact absurd rfl (h1 vs)
    · rw [h] at hu; cases hu; exact absurd rfl (h2 ob vs)
theorem Rd.pers {a : Addr} {u : HO} (p : Pers M H M' H') (h : Rd H a u) (n : M a = none) : Rd H' a u ∧ M' a = none := by
  rcases h with h | ⟨o, h⟩
  · obtain ⟨h1, h2⟩ := p a _ h n; exact ⟨.inl h1, h2⟩
  · obtain ⟨h1, h2⟩ := p a _ h n; exact ⟨.inr ⟨o, h1⟩, h2⟩
mutual
theorem Rep.pers (r : RelM K hid M H) (p : Pers M H M' H') : ∀ {d : D} {v : V}, Rep K hid M H d v → Rep K hid M' H' d v
  | _, _, .non => .non
  | _, _, .bl b => .bl b
  | _, _, .int i => .int i
  | _, _, .str l => .str l
  | _, _, .ty n => .ty n
  | _, _, .obj a => .obj a
  | _, _, .tup (.inl ⟨h, nh⟩) t => .tup (.inl ⟨(Rd.pers p h (r.tupNone h)).1, nh⟩) (Reps.pers r p t)
  | _, _, .tup (.inr h) t => .tup (.inr h) (Reps.pers r p t)
  | _, _, .lst (.inl ⟨h, nh, n⟩) t => .lst (.inl ⟨(Rd.pers p h n).1, nh, (Rd.pers p h n).2⟩) (Reps.pers r p t)
  | _, _, .lst (.inr h) t => .lst (.inr h) (Reps.pers r p t)
theorem Reps.pers (r : RelM K hid M H) (p : Pers M H M' H') : ∀ {ds : List D} {vs : List V}, Reps K hid M H ds vs → Reps K hid M' H' ds vs
  | _, _, .nil => .nil
  | _, _, .cons h t => .cons (Rep.pers r p h) (Reps.pers r p t)
end
theorem DReps.pers (r : RelM K hid M H) (p : Pers M H M' H') : ∀ {ds : List (D × D)} {vs : List (Key × V)}, DReps K hid M H ds vs → DReps K hid M' H' ds vs
  | _, _, .nil => .nil
  | _, _, .cons k h t => .cons k (h.pers r p) (DReps.pers r p t)
theorem FReps.pers (r : RelM K hid M H) (p : Pers M H M' H') : ∀ {ds : List (String × D)} {vs : List (Str × V)}, FReps K hid M H ds vs → FReps K hid M' H' ds vs
  | _, _, .nil => .nil
  | _, _, .cons h t => .cons (h.pers r p) (FReps.pers r p t)
theorem ORep.pers (r : RelM K hid M H) (p : Pers M H M' H') {a : Addr} {o : MO} (h : ORep K hid M H a o) (e : H' a = H a) : ORep K hid M' H' a o := by
  cases o with
  | lst ds => obtain ⟨vs, q, t⟩ := h; exact ⟨vs, e.trans q, t.pers r p⟩
  | dct ds => obtain ⟨vs, q, t⟩ := h; exact ⟨vs, e.trans q, t.pers r p⟩
  | lck ds => obtain ⟨o, vs, q, t⟩ := h; exact ⟨o, vs, e.trans q, t.pers r p⟩
  | ins c ds => obtain ⟨dx, vs, q, t⟩ := h; exact ⟨dx, vs, e.trans q, t.pers r p⟩
/-- the step: what is not changed is as it was -/
theorem RelM.step (r : RelM K hid M H) (p : Pers M H M' H') (h : ∀ a o, M' a = some o → (M a = some o ∧ H' a = H a) ∨ ORep K hid M' H' a o) : RelM K hid M' H' :=
  ⟨fun a o e => (h a o e).elim (fun ⟨e1, e2⟩ => (r.1 a o e1).pers r p e2) id, fun a ha => let ⟨n, u, e⟩ := r.2 a ha; ⟨(p a u e n).2, u, (p a u e n).1⟩⟩
/-- a new object of the layer below, not of the small heap -/
theorem pers_new {p : Addr} {o : HO} (h : H p = none) : Pers M H M (upd H p o) := fun a u e n => ⟨by rw [upd_ne (ne_of_none e h)]; exact e, n⟩
theorem RelM.new (r : RelM K hid M H) {p : Addr} {o : HO} (h : H p = none) : RelM K hid M (upd H p o) :=
  r.step (pers_new h) fun a u e => .inl ⟨e, by
    obtain ⟨w, hw, _⟩ := (r.1 a u e).some_
    exact upd_ne (ne_of_none hw h)⟩
/-- a new object of the small heap -/
theorem pers_newO {p : Addr} {o : HO} {m : MO} (h : H p = none) : Pers M H (mu M p m) (upd H p o) := fun a u e n => ⟨by rw [upd_ne (ne_of_none e h)]; exact e, by rw [mu_ne (ne_of_none e h)]; exact n⟩
/-- an object of the small heap is changed -/
theorem pers_set {p : Addr} {o : HO} {m m' : MO} (h : M p = some m) : Pers M H (mu M p m') (upd H p o) := fun a u e n => by
  have ne : a ≠ p := fun z => by rw [z, h] at n; cases n
  exact ⟨by rw [upd_ne ne]; exact e, by rw [mu_ne ne]; exact n⟩
theorem RelM.set (r : RelM K hid M H) {p : Addr} {o : HO} {m : MO} (q : Pers M H (mu M p m) (upd H p o)) (new : ORep K hid (mu M p m) (upd H p o) p m) : RelM K hid (mu M p m) (upd H p o) :=
  r.step q fun a u e => by
    by_cases z : a = p
    · subst z; rw [mu_same] at e; cases e; exact .inr new
    · rw [mu_ne z] at e; exact .inl ⟨e, upd_ne z⟩
/-- an object of the small heap is data from here on -/
theorem pers_md {p : Addr} : Pers M H (md M p) H := fun a u e n => ⟨e, by
  by_cases z : a = p
  · rw [z]; exact md_same
  · rw [md_ne z]; exact n⟩
theorem RelM.md (r : RelM K hid M H) {p : Addr} : RelM K hid (md M p) H :=
  r.step pers_md fun a u e => by
    by_cases z : a = p
    · rw [z, md_same] at e; cases e
    · rw [md_ne z] at e; exact .inl ⟨e, rfl⟩
theorem RelM.nhid (r : RelM K hid M H) {p : Addr} {m : MO} (h : M p = some m) : p ∉ hid := fun z => by
  have := (r.2 p z).1
  rw [h] at this; cases this
theorem RelM.newHid (r : RelM K hid M H) {p : Addr} (h : H p = none) : p ∉ hid := fun z => by
  obtain ⟨_, u, e⟩ := r.2 p z
  rw [h] at e; cases e

/-! ### slots -/
def RelE (K : PySem.W.Frag) (hid : HidL) (M : Mh) (H : Hp) (σ : St) (env : Env) : Prop := σ.length = env.length ∧ ∀ (i : Nat) (d : D), env[i]? = some (some d) → ∃ v, σ[i]? = some (some v) ∧ Rep K hid M H d v
theorem RelE.pers {σ : St} {env : Env} (e : RelE K hid M H σ env) (r : RelM K hid M H) (p : Pers M H M' H') : RelE K hid M' H' σ env :=
  ⟨e.1, fun i d h => let ⟨v, h1, h2⟩ := e.2 i d h; ⟨v, h1, h2.pers r p⟩⟩
theorem RelE.set {σ : St} {env : Env} (e : RelE K hid M H σ env) {i : Nat} {d : D} {v : V} (h : Rep K hid M H d v) : RelE K hid M H (σ.set i (some v)) (env.set i (some d)) := by
  refine ⟨by simp [e.1], fun j x hx => ?_⟩
  by_cases z : i = j
  · subst z
    by_cases hl : i < env.length
    · rw [List.getElem?_set_self hl] at hx
      cases hx
      exact ⟨v, List.getElem?_set_self (by rw [e.1]; exact hl), h⟩
    · rw [List.getElem?_eq_none (by simp; omega)] at hx; cases hx
  · rw [List.getElem?_set_ne z] at hx
    obtain ⟨w, h1, h2⟩ := e.2 j x hx
    exact ⟨w, by rw [List.getElem?_set_ne z]; exact h1, h2⟩
theorem RelE.none {σ : St} {env : Env} (e : RelE K hid M H σ env) {i : Nat} {o : Option V} : RelE K hid M H (σ.set i o) (env.set i none) := by
  refine ⟨by simp [e.1], fun j x hx => ?_⟩
  by_cases z : i = j
  · subst z
    by_cases hl : i < env.length
    · rw [List.getElem?_set_self hl] at hx; cases hx
    · rw [List.getElem?_eq_none (by simp; omega)] at hx; cases hx
  · rw [List.getElem?_set_ne z] at hx
    obtain ⟨w, h1, h2⟩ := e.2 j x hx
    exact ⟨w, by rw [List.getElem?_set_ne z]; exact h1, h2⟩
theorem RelE.wipe : ∀ (own : List Nat) {σ : St} {env : Env}, RelE K hid M H σ env → RelE K hid M H (L2.wipe σ own) (wipeE env own)
  | [], _, _, e => e
  | i :: r, _, _, e => (RelE.wipe r e).none
end
end Dl
end
section
set_option Elab.async false
set_option linter.all false
set_option maxRecDepth 100000
set_option maxHeartbeats 1000000
namespace Dl
open PySem PySem.Spec PyProof.Rows L2

/-- where a body stands: what is hidden, the small and the abstract heap at the def's entry -/
structure Gd where
  hid : HidL
  M0 : Mh
  H0 : Hp
structure SR (K : PySem.W.Frag) (G : Gd) (σ : St) (H : Hp) (env : Env) (M : Mh) : Prop where
  m : RelM K G.hid M H
  p : Pers G.M0 G.H0 M H
  e : RelE K G.hid M H σ env
section
variable {K : PySem.W.Frag} {G : Gd} {σ : St} {H H' : Hp} {env : Env} {M M' : Mh}
theorem SR.next (r : SR K G σ H env M) (m : RelM K G.hid M' H') (p : Pers M H M' H') : SR K G σ H' env M' := ⟨m, r.p.trans p, r.e.pers r.m p⟩
theorem SR.set (r : SR K G σ H env M) {i : Nat} {d : D} {v : V} (h : Rep K G.hid M H d v) : SR K G (σ.set i (some v)) H (env.set i (some d)) M := ⟨r.m, r.p, r.e.set h⟩
end
/-- what follows a value -/
def ThenV (K : PySem.W.Frag) (G : Gd) (M : Mh) (H : Hp) (Qm : DQ) (Q : VK) : Prop := ∀ d v M' H', RelM K G.hid M' H' → Pers M H M' H' → Rep K G.hid M' H' d v → Qm d M' → Q v H'
def liftE (K : PySem.W.Frag) (G : Gd) (t : DE) : TE := fun σ H Q => ∃ env M Qm, SR K G σ H env M ∧ t env M Qm ∧ ThenV K G M H Qm Q
def liftT (K : PySem.W.Frag) (G : Gd) (t : DT) : TT := fun σ H Q => ∃ env M Qm, SR K G σ H env M ∧ t env M Qm ∧ ∀ b M' H', RelM K G.hid M' H' → Pers M H M' H' → Qm b M' → Q b H'
def liftA (K : PySem.W.Frag) (G : Gd) (t : DA) : TA := fun σ H Q => ∃ env M Qm, SR K G σ H env M ∧ t env M Qm ∧ ∀ ds vs M' H', RelM K G.hid M' H' → Pers M H M' H' → Reps K G.hid M' H' ds vs → Qm ds M' → Q vs H'
/-- a slice's end -/
def liftO (K : PySem.W.Frag) (G : Gd) (t : DO) : St → Hp → (Option Int → Hp → Prop) → Prop := fun σ H Q => ∃ env M Qm, SR K G σ H env M ∧ t env M Qm ∧ ∀ d M' H', RelM K G.hid M' H' → Pers M H M' H' → Qm d M' → Q d H'
structure Link (K : PySem.W.Frag) (G : Gd) (M : Mh) (H : Hp) (E : DEnds) (Eh : Ends) : Prop where
  nx : ∀ σ' H' env' M', RelM K G.hid M' H' → Pers M H M' H' → RelE K G.hid M' H' σ' env' → E.nx env' M' → Eh.nx σ' H'
  rt : ThenV K G M H E.rt Eh.rt
  bk : ∀ σ' H' env' M', RelM K G.hid M' H' → Pers M H M' H' → RelE K G.hid M' H' σ' env' → E.bk env' M' → Eh.bk σ' H'
  ct : ∀ σ' H' env' M', RelM K G.hid M' H' → Pers M H M' H' → RelE K G.hid M' H' σ' env' → E.ct env' M' → Eh.ct σ' H'
def liftS (K : PySem.W.Frag) (G : Gd) (t : DS) : TS := fun Eh σ H => ∃ env M E, SR K G σ H env M ∧ t E env M ∧ Link K G M H E Eh
def liftG (K : PySem.W.Frag) (G : Gd) (g : DG) : TG := fun v σ H Q => ∃ d env M Qm, SR K G σ H env M ∧ Rep K G.hid M H d v ∧ g d env M Qm ∧ ∀ σ' H' env' M', RelM K G.hid M' H' → Pers M H M' H' → RelE K G.hid M' H' σ' env' → Qm env' M' → Q σ' H'
def liftGs (K : PySem.W.Frag) (G : Gd) (g : DGs) : TGs := fun vs σ H Q => ∃ ds env M Qm, SR K G σ H env M ∧ Reps K G.hid M H ds vs ∧ g ds env M Qm ∧ ∀ σ' H' env' M', RelM K G.hid M' H' → Pers M H M' H' → RelE K G.hid M' H' σ' env' → Qm env' M' → Q σ' H'
def lift1 (K : PySem.W.Frag) (G : Gd) (r : DR1) : V → Hp → VK → Prop := fun x H Q => ∃ d M Qm, RelM K G.hid M H ∧ Rep K G.hid M H d x ∧ r d M Qm ∧ ThenV K G M H Qm Q
def lift2 (K : PySem.W.Frag) (G : Gd) (r : DR2) : R2 := fun x y H Q => ∃ d e M Qm, RelM K G.hid M H ∧ Rep K G.hid M H d x ∧ Rep K G.hid M H e y ∧ r d e M Qm ∧ ThenV K G M H Qm Q
def liftN (K : PySem.W.Frag) (G : Gd) (r : DRn) : List V → Hp → VK → Prop := fun xs H Q => ∃ ds M Qm, RelM K G.hid M H ∧ Reps K G.hid M H ds xs ∧ r ds M Qm ∧ ThenV K G M H Qm Q
def liftSet (K : PySem.W.Frag) (G : Gd) (t : DSet) : TSet := fun o i v H Q => ∃ a b d M Qm, RelM K G.hid M H ∧ Rep K G.hid M H a o ∧ Rep K G.hid M H b i ∧ Rep K G.hid M H d v ∧ t a b d M Qm ∧ ∀ M' H', RelM K G.hid M' H' → Pers M H M' H' → Qm M' → Q H'
/-- an error as the layer below has it -/
def XRep (K : PySem.W.Frag) (hid : HidL) (M : Mh) (H : Hp) (x : Exn) (cls : Value) (dd : Option Addr) : Prop :=
  cls = .ref (He.ga K (Str.ofString x.name)) ∧ match x.fld with
    | none => True
    | some (f, d) => ∃ a v, dd = some a ∧ H a = some (.xd [(Str.ofString f, v)]) ∧ M a = none ∧ Rep K hid M H d v
def liftX (K : PySem.W.Frag) (G : Gd) (W : DX) : WX := fun cls dd σ H => ∃ x env M, SR K G σ H env M ∧ XRep K G.hid M H x cls dd ∧ W x env M
/-- a def's promise, for every hidden part -/
def liftSp (K : PySem.W.Frag) (sp : MSp) : Sp := fun vs H Q E => ∃ hid ds M Qm Em, RelM K hid M H ∧ Reps K hid M H ds vs ∧ sp ds M Qm Em ∧
  (∀ d v M' H', RelM K hid M' H' → Pers M H M' H' → Rep K hid M' H' d v → Qm d M' → Q v H') ∧
  ∀ x cls dd M' H', RelM K hid M' H' → Pers M H M' H' → XRep K hid M' H' x cls dd → Em x M' → E cls dd H'

theorem _root_.L2.PE.imp {X : Cx} {e : Expr} {t u : TE} (h : PE X e t) (k : ∀ σ H Q, u σ H Q → t σ H Q) : PE X e u := ⟨fun pins s σ H Q I q => h.run pins s σ H Q I (k σ H Q q)⟩
theorem _root_.L2.PT.imp {X : Cx} {e : Expr} {t u : TT} (h : PT X e t) (k : ∀ σ H Q, u σ H Q → t σ H Q) : PT X e u := ⟨fun pins s σ H Q I q => h.run pins s σ H Q I (k σ H Q q)⟩
theorem _root_.L2.PW.imp {X : Cx} {e : Expr} {t u : TT} (h : PW X e t) (k : ∀ σ H Q, u σ H Q → t σ H Q) : PW X e u := ⟨fun wh pins s σ H Q I q => h.run wh pins s σ H Q I (k σ H Q q)⟩
theorem _root_.L2.PA.imp {X : Cx} {e : List Expr} {t u : TA} (h : PA X e t) (k : ∀ σ H Q, u σ H Q → t σ H Q) : PA X e u := ⟨fun pos pins s σ H Q I q => h.run pos pins s σ H Q I (k σ H Q q)⟩
theorem _root_.L2.PS.imp {X : Cx} {e : Stmt} {t u : TS} (h : PS X e t) (k : ∀ D σ H, u D σ H → t D σ H) : PS X e u := ⟨fun pins s σ H D I q => h.run pins s σ H D I (k D σ H q)⟩
theorem _root_.L2.PSs.imp {X : Cx} {e : List Stmt} {t u : TS} (h : PSs X e t) (k : ∀ D σ H, u D σ H → t D σ H) : PSs X e u := ⟨fun pins s σ H D I q => h.run pins s σ H D I (k D σ H q)⟩
theorem _root_.L2.PG.imp {X : Cx} {e : Expr} {t u : TG} (h : PG X e t) (k : ∀ v σ H Q, u v σ H Q → t v σ H Q) : PG X e u := ⟨fun pins s σ H v w Q I r q => h.run pins s σ H v w Q I r (k v σ H Q q)⟩
theorem _root_.L2.PGs.imp {X : Cx} {e : List Expr} {t u : TGs} (h : PGs X e t) (k : ∀ v σ H Q, u v σ H Q → t v σ H Q) : PGs X e u := ⟨fun pins s σ H v w Q I r q => h.run pins s σ H v w Q I r (k v σ H Q q)⟩

abbrev ME (X : Cx) (G : Gd) (e : Expr) (t : DE) : Prop := PE X e (liftE X.K G t)
abbrev MT (X : Cx) (G : Gd) (e : Expr) (t : DT) : Prop := PT X e (liftT X.K G t)
abbrev MW (X : Cx) (G : Gd) (e : Expr) (t : DT) : Prop := PW X e (liftT X.K G t)
abbrev MA (X : Cx) (G : Gd) (e : List Expr) (t : DA) : Prop := PA X e (liftA X.K G t)
abbrev MS (X : Cx) (G : Gd) (e : Stmt) (t : DS) : Prop := PS X e (liftS X.K G t)
abbrev MSs (X : Cx) (G : Gd) (e : List Stmt) (t : DS) : Prop := PSs X e (liftS X.K G t)
abbrev MG (X : Cx) (G : Gd) (e : Expr) (t : DG) : Prop := PG X e (liftG X.K G t)
abbrev MGs (X : Cx) (G : Gd) (e : List Expr) (t : DGs) : Prop := PGs X e (liftGs X.K G t)
abbrev OpM (X : Cx) (G : Gd) (f : Value → Value → Sem Value) (r : DR2) : Prop := OpR X f (lift2 X.K G r)
abbrev UnM (X : Cx) (G : Gd) (f : Value → Sem Value) (r : DR1) : Prop := UnR X f (lift1 X.K G r)
abbrev CallM (X : Cx) (G : Gd) (f : Value) (r : DRn) : Prop := CallR X f (liftN X.K G r)
abbrev SetM (X : Cx) (G : Gd) (t : DSet) : Prop := PSet X (liftSet X.K G t)

/-! ### expressions -/
section
variable {X : Cx} {G : Gd} {e a b c : Expr} {pos : Pos} {t ta tb tc : DE}
theorem me_var {i : Nat} {x : Str} (h : PE X (.Name x pos) (tVar i)) : ME X G (.Name x pos) (mVar i) :=
  h.imp fun σ H Q ⟨env, M, Qm, r, h, q⟩ => by
    unfold mVar at h
    split at h
    · next d e =>
      obtain ⟨v, h1, h2⟩ := r.e.2 i d e
      exact ⟨v, h1, q d v M H r.m (.refl _ _) h2 h⟩
    · exact h.elim
theorem me_c {d : D} {v : V} (h : PE X e (tC v)) (r : ∀ hid M H, Rep X.K hid M H d v) : ME X G e (mC d) :=
  h.imp fun σ H Q ⟨env, M, Qm, s, h, q⟩ => q d v M H s.m (.refl _ _) (r _ _ _) h
theorem me_int {i j pos} : ME X G (.Constant (.int i) j pos) (mC (.int i)) := me_c pe_int fun _ _ _ => .int i
theorem me_bl {b j pos} : ME X G (.Constant (.bool b) j pos) (mC (.bl b)) := me_c pe_bl fun _ _ _ => .bl b
theorem me_non {j pos} : ME X G (.Constant .none j pos) (mC .non) := me_c pe_non fun _ _ _ => .non
theorem me_str {x : Str} {j pos} {l : List Nat} (h : x.cps.toList = l := by rfl) : ME X G (.Constant (.str x) j pos) (mC (.str l)) := me_c pe_str fun _ _ _ => by
  have e : x = S l := by rw [← h, S_of]
  rw [e]; exact .str l
/-- one after another -/
theorem bin_rd {r : DR2} {σ : St} {H : Hp} {Q : VK} (h : liftE X.K G (mOp r ta tb) σ H Q) : tOp (lift2 X.K G r) (liftE X.K G ta) (liftE X.K G tb) σ H Q := by
  obtain ⟨env, M, Qm, s, h, q⟩ := h
  refine ⟨env, M, _, s, h, fun x vx M1 H1 m1 p1 rx h1 => ⟨env, M1, _, s.next m1 p1, h1, fun y vy M2 H2 m2 p2 ry h2 => ?_⟩⟩
  exact ⟨x, y, M2, _, m2, rx.pers m1 p2, ry, h2, fun d v M3 H3 m3 p3 r3 h3 => q d v M3 H3 m3 ((p1.trans p2).trans p3) r3 h3⟩
theorem me_op {op : Operator} {r : DR2} (ho : OpM X G (binaryOp op) r) (ha : ME X G a ta) (hb : ME X G b tb) : ME X G (.BinOp a op b pos) (mOp r ta tb) :=
  (pe_op ho ha hb).imp fun _ _ _ h => bin_rd h
theorem me_cmp {op : CmpOp} {r : DR2} (ho : OpM X G (compareOp op) r) (ha : ME X G a ta) (hb : ME X G b tb) (hm : behindInMarks op b = false := by first | exact nomark _ | rfl) : ME X G (.Compare a [op] [b] pos) (mOp r ta tb) :=
  (pe_cmpR ho ha hb hm).imp fun _ _ _ h => bin_rd h
theorem un_rd {r : DR1} {σ : St} {H : Hp} {Q : VK} (h : liftE X.K G (mUn r ta) σ H Q) : tUn (lift1 X.K G r) (liftE X.K G ta) σ H Q := by
  obtain ⟨env, M, Qm, s, h, q⟩ := h
  refine ⟨env, M, _, s, h, fun x vx M1 H1 m1 p1 rx h1 => ⟨x, M1, _, m1, rx, h1, fun d v M3 H3 m3 p3 r3 h3 => q d v M3 H3 m3 (p1.trans p3) r3 h3⟩⟩
theorem me_un {op : UnaryOp} {r : DR1} (ho : UnM X G (unaryOp op) r) (ha : ME X G a ta) : ME X G (.UnaryOp op a pos) (mUn r ta) :=
  (pe_un ho ha).imp fun _ _ _ h => un_rd h
/-- a value as a test -/
theorem mt_val (h : ME X G e t) (he : ∀ whole, isTrue e X.env whole = (do let v ← whole; standAt e.pos; holding [v] (truthy v)) := by intro _; rfl) : MT X G e (mB t) :=
  (pt_val h he).imp fun σ H Q ⟨env, M, Qm, s, h, q⟩ => ⟨env, M, _, s, h, fun d v M1 H1 m1 p1 r1 h1 => by
    cases d with
    | bl b => cases r1; exact ⟨b, rfl, q b M1 H1 m1 p1 h1⟩
    | _ => exact h1.elim⟩
theorem mt_cmp {op : CmpOp} {r : DR2} (ho : OpM X G (compareOp op) r) (ha : ME X G a ta) (hb : ME X G b tb) (hm : behindInMarks op b = false := by first | exact nomark _ | rfl) : MT X G (.Compare a [op] [b] pos) (mB (mOp r ta tb)) :=
  (pt_cmpR ho ha hb hm).imp fun σ H Q ⟨env, M, Qm, s, h, q⟩ => bin_rd ⟨env, M, _, s, h, fun d v M1 H1 m1 p1 r1 h1 => by
    cases d with
    | bl b => cases r1; exact ⟨b, rfl, q b M1 H1 m1 p1 h1⟩
    | _ => exact h1.elim⟩
theorem chain_rd {r r' : DR2} {σ : St} {H : Hp} {Q : VK} (h : liftE X.K G (mChain r r' ta tb tc) σ H Q) : tChain (lift2 X.K G r) (lift2 X.K G r') (liftE X.K G ta) (liftE X.K G tb) (liftE X.K G tc) σ H Q := by
  obtain ⟨env, M, Qm, s, h, q⟩ := h
  refine ⟨env, M, _, s, h, fun x vx M1 H1 m1 p1 rx h1 => ⟨env, M1, _, s.next m1 p1, h1, fun y vy M2 H2 m2 p2 ry h2 => ?_⟩⟩
  refine ⟨x, y, M2, _, m2, rx.pers m1 p2, ry, h2, fun d v M3 H3 m3 p3 r3 h3 => ?_⟩
  have p03 := (p1.trans p2).trans p3
  cases d with
  | bl k =>
    cases r3
    refine ⟨k, rfl, ?_⟩
    cases k with
    | true => exact ⟨env, M3, _, s.next m3 p03, h3, fun w vw M4 H4 m4 p4 rw4 h4 => ⟨y, w, M4, _, m4, ry.pers m2 (p3.trans p4), rw4, h4, fun d v M5 H5 m5 p5 r5 h5 => q d v M5 H5 m5 ((p03.trans p4).trans p5) r5 h5⟩⟩
    | false => exact q _ _ M3 H3 m3 p03 (.bl false) h3
  | _ => exact h3.elim
theorem me_chain {op op' : CmpOp} {r r' : DR2} (ho : OpM X G (compareOp op) r) (ho' : OpM X G (compareOp op') r') (ha : ME X G a ta) (hb : ME X G b tb) (hc : ME X G c tc)
    (hm : lastMarks [op, op'] [b, c] = false := by with_unfolding_all rfl) : ME X G (.Compare a [op, op'] [b, c] pos) (mChain r r' ta tb tc) :=
  (pe_chain ho ho' ha hb hc hm).imp fun _ _ _ h => chain_rd h
theorem mt_chain {op op' : CmpOp} {r r' : DR2} (ho : OpM X G (compareOp op) r) (ho' : OpM X G (compareOp op') r') (ha : ME X G a ta) (hb : ME X G b tb) (hc : ME X G c tc)
    (hm : lastMarks [op, op'] [b, c] = false := by with_unfolding_all rfl) : MT X G (.Compare a [op, op'] [b, c] pos) (mB (mChain r r' ta tb tc)) :=
  (pt_chain ho ho' ha hb hc hm).imp fun σ H Q ⟨env, M, Qm, s, h, q⟩ => chain_rd ⟨env, M, _, s, h, fun d v M1 H1 m1 p1 r1 h1 => by
    cases d with
    | bl b => cases r1; exact ⟨b, rfl, q b M1 H1 m1 p1 h1⟩
    | _ => exact h1.elim⟩

/-! ### and, or, not -/
variable {tA tB : DT} {rest : List Expr}
theorem mw_and1 (h : MT X G a tA) : MW X G (.BoolOp .And [a] pos) tA := pw_and1 h
theorem mw_or1 (h : MT X G a tA) : MW X G (.BoolOp .Or [a] pos) tA := pw_or1 h
theorem mw_and (h : MT X G a tA) (h' : MW X G (.BoolOp .And (b :: rest) pos) tB) : MW X G (.BoolOp .And (a :: b :: rest) pos) (mAnd tA tB) :=
  (pw_and h h').imp fun σ H Q ⟨env, M, Qm, s, h, q⟩ => ⟨env, M, _, s, h, fun k M1 H1 m1 p1 h1 => by
    cases k with
    | true => exact ⟨env, M1, _, s.next m1 p1, h1.1 rfl, fun k M2 H2 m2 p2 h2 => q k M2 H2 m2 (p1.trans p2) h2⟩
    | false => exact q _ M1 H1 m1 p1 (h1.2 rfl)⟩
theorem mw_or (h : MT X G a tA) (h' : MW X G (.BoolOp .Or (b :: rest) pos) tB) : MW X G (.BoolOp .Or (a :: b :: rest) pos) (mOr tA tB) :=
  (pw_or h h').imp fun σ H Q ⟨env, M, Qm, s, h, q⟩ => ⟨env, M, _, s, h, fun k M1 H1 m1 p1 h1 => by
    cases k with
    | true => exact q _ M1 H1 m1 p1 (h1.1 rfl)
    | false => exact ⟨env, M1, _, s.next m1 p1, h1.2 rfl, fun k M2 H2 m2 p2 h2 => q k M2 H2 m2 (p1.trans p2) h2⟩⟩
theorem mt_w (h : MW X G a tA) : MT X G a tA := h.pt
theorem mt_not (h : MT X G a tA) : MT X G (.UnaryOp .Not a pos) (mNot tA) :=
  (pt_not h).imp fun σ H Q ⟨env, M, Qm, s, h, q⟩ => ⟨env, M, _, s, h, fun k M1 H1 m1 p1 h1 => q _ M1 H1 m1 p1 h1⟩
theorem me_one {op} (h : ME X G a ta) : ME X G (.BoolOp op [a] pos) ta := pe_one h
theorem me_and (ha : ME X G a ta) (hb : ME X G (.BoolOp .And (b :: rest) pos) tb) : ME X G (.BoolOp .And (a :: b :: rest) pos) (mAndV ta tb) :=
  (pe_and ha hb).imp fun σ H Q ⟨env, M, Qm, s, h, q⟩ => ⟨env, M, _, s, h, fun d v M1 H1 m1 p1 r1 h1 => by
    cases d with
    | bl k =>
      cases r1
      refine ⟨k, rfl, ?_⟩
      cases k with
      | true => exact ⟨env, M1, _, s.next m1 p1, h1, fun d v M2 H2 m2 p2 r2 h2 => q d v M2 H2 m2 (p1.trans p2) r2 h2⟩
      | false => exact q _ _ M1 H1 m1 p1 (.bl false) h1
    | _ => exact h1.elim⟩
theorem me_or (ha : ME X G a ta) (hb : ME X G (.BoolOp .Or (b :: rest) pos) tb) : ME X G (.BoolOp .Or (a :: b :: rest) pos) (mOrV ta tb) :=
  (pe_or ha hb).imp fun σ H Q ⟨env, M, Qm, s, h, q⟩ => ⟨env, M, _, s, h, fun d v M1 H1 m1 p1 r1 h1 => by
    cases d with
    | bl k =>
      cases r1
      refine ⟨k, rfl, ?_⟩
      cases k with
      | false => exact ⟨env, M1, _, s.next m1 p1, h1, fun d v M2 H2 m2 p2 r2 h2 => q d v M2 H2 m2 (p1.trans p2) r2 h2⟩
      | true => exact q _ _ M1 H1 m1 p1 (.bl true) h1
    | _ => exact h1.elim⟩
theorem me_not (ha : ME X G a ta) : ME X G (.UnaryOp .Not a pos) (mNotV ta) :=
  (pe_not ha).imp fun σ H Q ⟨env, M, Qm, s, h, q⟩ => ⟨env, M, _, s, h, fun d v M1 H1 m1 p1 r1 h1 => by
    cases d with
    | bl k => cases r1; exact ⟨k, rfl, q _ _ M1 H1 m1 p1 (.bl _) h1⟩
    | _ => exact h1.elim⟩
theorem me_if {c : Expr} (hc : MT X G c tA) (ha : ME X G a ta) (hb : ME X G b tb) : ME X G (.IfExp c a b pos) (mIf tA ta tb) :=
  (pe_ifExp hc ha hb).imp fun σ H Q ⟨env, M, Qm, s, h, q⟩ => ⟨env, M, _, s, h, fun k M1 H1 m1 p1 h1 => by
    cases k with
    | true => exact ⟨env, M1, _, s.next m1 p1, h1.1 rfl, fun d v M2 H2 m2 p2 r2 h2 => q d v M2 H2 m2 (p1.trans p2) r2 h2⟩
    | false => exact ⟨env, M1, _, s.next m1 p1, h1.2 rfl, fun d v M2 H2 m2 p2 r2 h2 => q d v M2 H2 m2 (p1.trans p2) r2 h2⟩⟩

/-! ### argument lists, displays -/
variable {es : List Expr} {tt : DA}
theorem ma_nil : MA X G [] mNil := pa_nil.imp fun σ H Q ⟨env, M, Qm, s, h, q⟩ => q [] [] M H s.m (.refl _ _) .nil h
theorem ma_cons (ha : ME X G e t) (hr : MA X G es tt) (hs : starEach (e :: es) X.env = (false, eval e X.env) :: starEach es X.env := by rfl) : MA X G (e :: es) (mCons t tt) :=
  (pa_cons ha hr hs).imp fun σ H Q ⟨env, M, Qm, s, h, q⟩ => ⟨env, M, _, s, h, fun d v M1 H1 m1 p1 r1 h1 => ⟨env, M1, _, s.next m1 p1, h1, fun ds vs M2 H2 m2 p2 r2 h2 =>
    q (d :: ds) (v :: vs) M2 H2 m2 (p1.trans p2) (.cons (r1.pers m1 p2) r2) h2⟩⟩
theorem Reps.line {K : PySem.W.Frag} {hid : HidL} {M : Mh} {H : Hp} {ds : List D} {vs : List V} (r : Reps K hid M H ds vs) (h : ds.length ≤ line) : vs.length ≤ sizeLine := by
  rw [← line_eq, ← r.length]; exact h
/-- a new list or tuple of the layer below is data -/
theorem rep_newT {K : PySem.W.Frag} {hid : HidL} {M : Mh} {H : Hp} (m : RelM K hid M H) {ds : List D} {vs : List V} {p : Addr} (h : H p = none) (r : Reps K hid M H ds vs) : Rep K hid M (upd H p (.tup vs)) (.tup ds) (.ref p) :=
  .tup (.inl ⟨.inl upd_same, m.newHid h⟩) (r.pers m (pers_new h))
theorem rep_newL {K : PySem.W.Frag} {hid : HidL} {M : Mh} {H : Hp} (m : RelM K hid M H) {ds : List D} {vs : List V} {p : Addr} (h : H p = none) (r : Reps K hid M H ds vs) : Rep K hid M (upd H p (.lst vs)) (.lst ds) (.ref p) :=
  .lst (.inl ⟨.inl upd_same, m.newHid h, m.free h⟩) (r.pers m (pers_new h))
end
end Dl
end
section
set_option Elab.async false
set_option linter.all false
set_option maxRecDepth 100000
set_option maxHeartbeats 1000000
namespace Dl
open PySem PySem.Spec PyProof.Rows L2
section
variable {X : Cx} {G : Gd} {e a b c : Expr} {es rest : List Expr} {pos : Pos} {t ta tb tc : DE} {tt : DA}
theorem me_tup {x1} (h : MA X G es tt) : ME X G (.Tuple es x1 pos) (mTup tt) :=
  (pe_tup h).imp fun σ H Q ⟨env, M, Qm, s, h, q⟩ => ⟨env, M, _, s, h, fun ds vs M1 H1 m1 p1 r1 h1 => ⟨r1.line h1.1, fun p hp =>
    q _ _ M1 _ (m1.new hp) (p1.trans (pers_new hp)) (rep_newT m1 hp r1) h1.2⟩⟩
theorem me_lst (h : MA X G es tt) : ME X G (.List es pos) (mLst tt) :=
  (pe_lst h).imp fun σ H Q ⟨env, M, Qm, s, h, q⟩ => ⟨env, M, _, s, h, fun ds vs M1 H1 m1 p1 r1 h1 => ⟨r1.line h1.1, fun p hp =>
    q _ _ M1 _ (m1.new hp) (p1.trans (pers_new hp)) (rep_newL m1 hp r1) h1.2⟩⟩
/-- a new list of the small heap -/
theorem rel_newO {K : PySem.W.Frag} {hid : HidL} {M : Mh} {H : Hp} (m : RelM K hid M H) {ds : List D} {vs : List V} {p : Addr} (h : H p = none) (r : Reps K hid M H ds vs) : RelM K hid (mu M p (.lst ds)) (upd H p (.lst vs)) :=
  m.set (pers_newO h) ⟨vs, upd_same, r.pers m (pers_newO h)⟩
theorem me_lstO (h : MA X G es tt) : ME X G (.List es pos) (mLstO tt) :=
  (pe_lst h).imp fun σ H Q ⟨env, M, Qm, s, h, q⟩ => ⟨env, M, _, s, h, fun ds vs M1 H1 m1 p1 r1 h1 => ⟨r1.line h1.1, fun p hp =>
    q _ _ _ _ (rel_newO m1 hp r1) (p1.trans (pers_newO hp)) (.obj p) (h1.2 p (m1.free hp))⟩⟩
theorem me_frz (h : ME X G e t) : ME X G e (mFrz t) :=
  PE.imp h fun σ H Q ⟨env, M, Qm, s, h, q⟩ => ⟨env, M, _, s, h, fun d v M1 H1 m1 p1 r1 h1 => by
    cases d with
    | obj p =>
      cases r1
      dsimp only at h1
      split at h1
      · next xs em =>
        obtain ⟨vs, hv, rs⟩ := m1.1 _ _ em
        exact q _ _ _ H1 m1.md (p1.trans pers_md) (.lst (.inl ⟨.inl hv, m1.nhid em, md_same⟩) (rs.pers m1 pers_md)) h1
      · exact h1.elim
    | _ => exact h1.elim⟩
/-- a call of a built-in or a built-in class by its name -/
theorem cb_rd {r : DRn} {σ : St} {H : Hp} {Q : VK} (h : liftE X.K G (mCB r tt) σ H Q) : tCB (liftN X.K G r) (liftA X.K G tt) σ H Q := by
  obtain ⟨env, M, Qm, s, h, q⟩ := h
  refine ⟨env, M, _, s, h, fun ds vs M1 H1 m1 p1 r1 h1 => ⟨ds, M1, _, m1, r1, h1, fun d v M2 H2 m2 p2 r2 h2 => q d v M2 H2 m2 (p1.trans p2) r2 h2⟩⟩
theorem me_callB {id : String} {x : Str} {p : Pos} {r : DRn} (hc : CallM X G (.builtin id) r) (hm : X.mg x = none) (ha : MA X G (e :: es) tt) (hg : Gl X x := by rfl) (hv : bootBuiltins x = some (.builtin id) := by decide +kernel)
    (hn : x ≠ "__name__" := by decide) (hd : (x == ("__debug__" : Str)) = false := by decide) (he : starEach (e :: es) X.env = (false, eval e X.env) :: starEach es X.env := by rfl) (hpl : (backTo pos (starEach es X.env)).any (·.1) = false := by rfl) : ME X G (.Call (.Name x p) (e :: es) [] pos) (mCB r tt) :=
  PE.imp (pe_callB hc hg hm hv ha hn hd he hpl) fun _ _ _ h => cb_rd h
theorem me_callTy {T : String} {x : Str} {p : Pos} {r : DRn} (hc : CallM X G (.type T) r) (hm : X.mg x = none) (ha : MA X G (e :: es) tt) (hg : Gl X x := by rfl) (hv : bootBuiltins x = some (.type T) := by decide +kernel)
    (hn : x ≠ "__name__" := by decide) (hd : (x == ("__debug__" : Str)) = false := by decide) (he : starEach (e :: es) X.env = (false, eval e X.env) :: starEach es X.env := by rfl) (hpl : (backTo pos (starEach es X.env)).any (·.1) = false := by rfl) : ME X G (.Call (.Name x p) (e :: es) [] pos) (mCB r tt) :=
  PE.imp (pe_callTy hc hg hm hv ha hn hd he hpl) fun _ _ _ h => cb_rd h

/-! ### a def of the text, as it stands behind the top -/
/-- the def's name x, its level, its parameters, what it promises -/
structure FnM (P : Program) (w : World) (K : PySem.W.Frag) (mg : Str → Option Value) (base : Heap) (k : Nat) (x : Str) (ps : List Str) (sp : MSp) : Prop where
  ex : ∃ (f : Addr) (fd : FuncData), mg x = some (.ref f) ∧ PySem.W.keepIn K (.ref f) = true ∧ Binds K fd ps [] ∧ FnOk P w K mg base (L2.CX P w) k f fd ps (liftSp K sp)
theorem FnM.mono {P : Program} {w : World} {K : PySem.W.Frag} {mg : Str → Option Value} {base : Heap} {j k : Nat} {x : Str} {ps : List Str} {sp : MSp} (F : FnM P w K mg base j x ps sp) (h : j ≤ k) : FnM P w K mg base k x ps sp := by
  obtain ⟨f, fd, h1, h2, h3, h4⟩ := F.ex
  exact ⟨f, fd, h1, h2, h3, h4.mono h⟩
theorem FnM.imp {P : Program} {w : World} {K : PySem.W.Frag} {mg : Str → Option Value} {base : Heap} {k : Nat} {x : Str} {ps : List Str} {sp sp' : MSp} (F : FnM P w K mg base k x ps sp) (h : ∀ ds M Q E, sp' ds M Q E → sp ds M Q E) : FnM P w K mg base k x ps sp' := by
  obtain ⟨f, fd, h1, h2, h3, h4⟩ := F.ex
  exact ⟨f, fd, h1, h2, h3, h4.imp fun vs H Q E ⟨hid, ds, M, Qm, Em, m, r, s, q⟩ => ⟨hid, ds, M, Qm, Em, m, r, h _ _ _ _ s, q⟩⟩
/-- the promise at a call -/
theorem call_rd {sp : MSp} {W : DX} {σ : St} {H : Hp} {Q : VK} (h : liftE X.K G (mCall sp W tt) σ H Q) : liftA X.K G tt σ H (fun vs H1 => liftSp X.K sp vs H1 Q (WE (liftX X.K G W) σ)) := by
  obtain ⟨env, M, Qm, s, h, q⟩ := h
  refine ⟨env, M, _, s, h, fun ds vs M1 H1 m1 p1 r1 h1 => ⟨G.hid, ds, M1, _, _, m1, r1, h1, fun d v M2 H2 m2 p2 r2 h2 => q d v M2 H2 m2 (p1.trans p2) r2 h2, fun x cls dd M2 H2 m2 p2 r2 h2 => ?_⟩⟩
  exact ⟨x, env, M2, s.next m2 (p1.trans p2), r2, h2⟩
theorem me_call {k j : Nat} {x : Str} {ps : List Str} {sp : MSp} {W : DX} {p : Pos} (F : FnM X.prog X.w X.K X.mg X.base k x ps sp) (hr : Room j X.A) (hk : k ≤ j) (tk : Takes X (liftX X.K G W)) (ha : MA X G (e :: es) tt) (hg : Gl X x := by rfl)
    (hdb : (x == ("__debug__" : Str)) = false := by decide) (he : starEach (e :: es) X.env = (false, eval e X.env) :: starEach es X.env := by rfl) (hpl : (backTo pos (starEach es X.env)).any (·.1) = false := by rfl) :
    ME X G (.Call (.Name x p) (e :: es) [] pos) (mCall sp W tt) := by
  obtain ⟨f, fd, hm, hkp, hb, F⟩ := F.ex
  refine PE.imp (pe_callSD F (hr.mono hk) hg hm hkp hb .nil (fun σ => passAt tk σ) ha hdb he hpl) fun σ H Q h => ?_
  have q := call_rd h
  show liftA X.K G tt σ H fun vs H1 => liftSp X.K sp (vs ++ []) H1 Q (WE (liftX X.K G W) σ)
  simpa using q

/-! ### statements -/
variable {st : Stmt} {sts : List Stmt} {u v : DS}
section
variable {K : PySem.W.Frag} {M M1 : Mh} {H H1 : Hp} {E : DEnds} {Eh : Ends}
theorem Link.on (l : Link K G M H E Eh) (p : Pers M H M1 H1) : Link K G M1 H1 E Eh :=
  ⟨fun σ' H' env' M' m' p' e' h' => l.nx σ' H' env' M' m' (p.trans p') e' h', fun d v M' H' m' p' r' h' => l.rt d v M' H' m' (p.trans p') r' h', fun σ' H' env' M' m' p' e' h' => l.bk σ' H' env' M' m' (p.trans p') e' h', fun σ' H' env' M' m' p' e' h' => l.ct σ' H' env' M' m' (p.trans p') e' h'⟩
end
theorem ms_next (h : PS X st tNext) : MS X G st mNext := PS.imp h fun D σ H ⟨env, M, E, s, h, l⟩ => l.nx σ H env M s.m (.refl _ _) s.e h
theorem mss_nil : MSs X G [] mNext := PSs.imp pss_nil fun D σ H ⟨env, M, E, s, h, l⟩ => l.nx σ H env M s.m (.refl _ _) s.e h
theorem mss_cons (h1 : MS X G st u) (h2 : MSs X G sts v) : MSs X G (st :: sts) (mSeq u v) :=
  PSs.imp (pss_cons h1 h2) fun D σ H ⟨env, M, E, s, h, l⟩ => ⟨env, M, { E with nx := v E }, s, h, fun σ' H' env' M' m' p' e' h' => ⟨env', M', E, ⟨m', s.p.trans p', e'⟩, h', l.on p'⟩, l.rt, l.bk, l.ct⟩
theorem mss_one (h : MS X G st u) : MSs X G [st] u := pss_one h
theorem mss_never {sts : List Stmt} : MSs X G sts mNever := PSs.imp pss_never fun D σ H ⟨env, M, E, s, h, l⟩ => h.elim
theorem ms_break : MS X G (.Break pos) mBreak := PS.imp ps_break fun D σ H ⟨env, M, E, s, h, l⟩ => l.bk σ H env M s.m (.refl _ _) s.e h
theorem ms_cont : MS X G (.Continue pos) mCont := PS.imp ps_continue fun D σ H ⟨env, M, E, s, h, l⟩ => l.ct σ H env M s.m (.refl _ _) s.e h
theorem ms_expr (he : ME X G e t) (hs : swapsWith e none pos.line X.env = pure false := by rfl) : MS X G (.Expr e pos) (mDrop t) :=
  PS.imp (ps_expr he hs) fun D σ H ⟨env, M, E, s, h, l⟩ => ⟨env, M, _, s, h, fun d v M1 H1 m1 p1 r1 h1 => l.nx σ H1 env M1 m1 p1 (s.e.pers s.m p1) h1⟩
theorem ms_ret (he : ME X G e t) : MS X G (.Return (some e) pos) (mRet t) :=
  PS.imp (ps_ret he) fun D σ H ⟨env, M, E, s, h, l⟩ => ⟨env, M, _, s, h, l.rt⟩
theorem ms_retN : MS X G (.Return none pos) mRetN :=
  PS.imp ps_retN fun D σ H ⟨env, M, E, s, h, l⟩ => l.rt _ _ M H s.m (.refl _ _) .non h
theorem ms_if {c : Expr} {bb ee : List Stmt} {tc : DT} (hc : MT X G c tc) (ha : MSs X G bb u) (hb : MSs X G ee v) : MS X G (.If c bb ee pos) (mIfS tc u v) :=
  PS.imp (ps_if hc ha hb) fun D σ H ⟨env, M, E, s, h, l⟩ => ⟨env, M, _, s, h, fun k M1 H1 m1 p1 h1 => by
    cases k with
    | true => exact ⟨env, M1, E, s.next m1 p1, h1.1 rfl, l.on p1⟩
    | false => exact ⟨env, M1, E, s.next m1 p1, h1.2 rfl, l.on p1⟩⟩
theorem ms_asg {tg : Expr} {g : DG} (he : ME X G e t) (hg : MG X G tg g) (hs : swapsWithSole [tg] e pos.line X.env = pure false := by rfl) (hw : swappedStores [tg] e X.env = pure none := by rfl)
    (h1 : (assignEach [tg] X.env).map (·.2) = [assign tg X.env] := by rfl) : MS X G (.Assign [tg] e pos) (mAsg t g) :=
  PS.imp (ps_asg he hg hs hw h1) fun D σ H ⟨env, M, E, s, h, l⟩ => ⟨env, M, _, s, h, fun d v M1 H1 m1 p1 r1 h1 =>
    ⟨d, env, M1, _, s.next m1 p1, r1, h1, fun σ' H' env' M' m' p' e' h' => l.nx σ' H' env' M' m' (p1.trans p') e' h'⟩⟩
theorem ms_set {i : Nat} {x : Str} {pos' : Pos} (hN : X.N.Nodup) (he : ME X G e t) (hi : X.N[i]? = some x := by rfl) (hx : Loc X.env.scope x := by first | exact .inl rfl | exact .inr rfl) (hs : swapsWith e (some (.Name x pos')) pos.line X.env = pure false := by rfl)
    (hf : X.fn x = true ∨ X.env.scope.names.lookup x = some .local := by first | exact .inl rfl | exact .inr rfl) : MS X G (.Assign [.Name x pos'] e pos) (mAsg t (gNm i)) :=
  PS.imp (ps_set hN hi hx he hs hf) fun D σ H ⟨env, M, E, s, h, l⟩ => ⟨env, M, _, s, h, fun d v M1 H1 m1 p1 r1 h1 =>
    l.nx _ H1 _ M1 m1 p1 ((s.next m1 p1).set r1).e h1⟩
theorem mg_name {i : Nat} {x : Str} (h : PG X (.Name x pos) (gName i)) : MG X G (.Name x pos) (gNm i) :=
  PG.imp h fun v σ H Q ⟨d, env, M, Qm, s, r, h, q⟩ => q _ H _ M s.m (.refl _ _) (s.set r).e h
theorem mgs_nil : MGs X G [] gsNil := PGs.imp pgs_nil fun vs σ H Q ⟨ds, env, M, Qm, s, r, h, q⟩ => by
  cases ds with
  | nil => cases r; exact ⟨rfl, q σ H env M s.m (.refl _ _) s.e h⟩
  | cons d ds => exact h.elim
theorem mgs_cons {g : DG} {gs : DGs} (h1 : MG X G e g) (h2 : MGs X G es gs) (hs : (assignEach (e :: es) X.env).map (·.2) = assign e X.env :: (assignEach es X.env).map (·.2) := by rfl) : MGs X G (e :: es) (gsCons g gs) :=
  PGs.imp (pgs_cons h1 h2 hs) fun vs σ H Q ⟨ds, env, M, Qm, s, r, h, q⟩ => by
    cases ds with
    | nil => exact h.elim
    | cons d ds =>
      cases r with
      | cons r1 r2 =>
        exact ⟨_, _, rfl, d, env, M, _, s, r1, h, fun σ' H' env' M' m' p' e' h' => ⟨ds, env', M', Qm, ⟨m', s.p.trans p', e'⟩, r2.pers s.m p', h', fun σ2 H2 env2 M2 m2 p2 e2 h2 => q σ2 H2 env2 M2 m2 (p'.trans p2) e2 h2⟩⟩
theorem gs_len {es : List Expr} : ∀ {gs : DGs} {ds : List D} {env M Q}, gs ds env M Q → True := fun _ => trivial
theorem mg_tup {k : Nat} {gs : DGs} {n : Nat} (hc : X.calm = true) (h : MGs X G es gs) (hn : (assignEach es X.env).length = n := by rfl) (hst : (assignEach es X.env).findIdx? (·.1) = none := by rfl) : MG X G (.Tuple es k pos) (gTpN n gs) :=
  PG.imp (pg_tup hc h hn hst) fun v σ H Q ⟨d, env, M, Qm, s, r, h, q⟩ => by
    cases d with
    | tup ds =>
      cases r with
      | tup ht rs => exact ⟨_, _, rfl, ht.sq, by rw [← rs.length]; exact h.1, ds, env, M, Qm, s, rs, h.2, q⟩
    | _ => exact h.elim
theorem mg_sub {o i : Expr} {to ti : DE} {ts : DSet} (ho : ME X G o to) (hi : ME X G i ti) (hs : SetM X G ts)
    (ha : ∀ v, assign (.Subscript o i pos) X.env v = (do
      let ov ← holding [v] (eval o X.env)
      let iv ← holding [v, ov] (eval i X.env)
      standAt pos
      holding [v, ov, iv] (setItem ov iv v)
      release [v, ov, iv] []) := by intro _; rfl) : MG X G (.Subscript o i pos) (gSb to ti ts) :=
  PG.imp (pg_sub ho hi hs ha) fun v σ H Q ⟨d, env, M, Qm, s, r, h, q⟩ => ⟨env, M, _, s, h, fun x vx M1 H1 m1 p1 r1 h1 => ⟨env, M1, _, s.next m1 p1, h1, fun y vy M2 H2 m2 p2 r2 h2 =>
    ⟨x, y, d, M2, _, m2, r1.pers m1 p2, r2, r.pers s.m (p1.trans p2), h2, fun M3 H3 m3 p3 h3 => q σ H3 env M3 m3 ((p1.trans p2).trans p3) (s.e.pers s.m ((p1.trans p2).trans p3)) h3⟩⟩⟩
/-- a, b = x, y with plain local names -/
theorem ms_par {i j : Nat} {x y : Str} {px py pt : Pos} {kt k2 pt2} (hc : X.calm = true) (hN : X.N.Nodup) (hij : i ≠ j) (ha : MA X G [a, b] tt) (hi : X.N[i]? = some x := by rfl) (hj : X.N[j]? = some y := by rfl)
    (hx : X.env.scope.names.lookup x = some .local := by rfl) (hy : X.env.scope.names.lookup y = some .local := by rfl)
    (hw : swappedStores [.Tuple [.Name x px, .Name y py] kt pt] (.Tuple [a, b] k2 pt2) X.env = pure (some [x, y]) := by rfl)
    (hs : swapsWithSole [.Tuple [.Name x px, .Name y py] kt pt] (.Tuple [a, b] k2 pt2) pos.line X.env = pure false := by rfl) :
    MS X G (.Assign [.Tuple [.Name x px, .Name y py] kt pt] (.Tuple [a, b] k2 pt2) pos) (mPar i j tt) :=
  PS.imp (ps_par hc hN hi hj hij hx hy ha hw hs) fun D σ H ⟨env, M, E, s, h, l⟩ => ⟨env, M, _, s, h, fun ds vs M1 H1 m1 p1 r1 h1 => by
    match ds, r1, h1 with
    | [d1, d2], r1, h1 =>
      obtain ⟨v1, v2, rfl, q1, q2⟩ := r1.inv2
      exact ⟨v1, v2, rfl, l.nx _ H1 _ M1 m1 p1 (((s.next m1 p1).set q1).set q2).e h1⟩⟩
theorem ms_aug {i : Nat} {x : Str} {op : Operator} {r : DR2} {pos' : Pos} (hN : X.N.Nodup) (ho : OpM X G (inplaceOp op) r) (he : ME X G e t) (hi : X.N[i]? = some x := by rfl) (hx : Loc X.env.scope x := by first | exact .inl rfl | exact .inr rfl)
    (hf : X.fn x = true ∨ X.env.scope.names.lookup x = some .local := by first | exact .inl rfl | exact .inr rfl) : MS X G (.AugAssign (.Name x pos') op e pos) (mAug i r t) :=
  PS.imp (ps_aug hN hi hx he (fun pins s σ H x y v u Q I rx ry q => ho pins s σ H x y v u Q I rx ry q) hf) fun D σ H ⟨env, M, E, s, h, l⟩ => by
    unfold mAug at h
    split at h
    · next d ed =>
      obtain ⟨v, h1, h2⟩ := s.e.2 i d ed
      refine ⟨v, h1, env, M, _, s, h, fun y vy M1 H1 m1 p1 r1 h1 => ⟨d, y, M1, _, m1, h2.pers s.m p1, r1, h1, fun z vz M2 H2 m2 p2 r2 h2 => ?_⟩⟩
      exact l.nx _ H2 _ M2 m2 (p1.trans p2) ((s.next m2 (p1.trans p2)).set r2).e h2
    · exact h.elim
end
end Dl
end
section
set_option Elab.async false
set_option linter.all false
set_option maxRecDepth 100000
set_option maxHeartbeats 1000000
namespace Dl
open PySem PySem.Spec PyProof.Rows L2
/-! ### targets of loops -/
def gNs : List Nat → TGs
  | [] => gNil
  | i :: r => gCons (gName i) (gNs r)
def Tgt.h (K : PySem.W.Frag) : Tgt → TG
  | .nm i => gName i
  | .tp is => gTup K is.length (gNs is)
section
variable {K : PySem.W.Frag} {hid : HidL} {M : Mh} {H : Hp}
theorem set_wipe {σ : St} {i : Nat} {o : Option V} {own : List Nat} (h : i ∈ own) : L2.wipe (σ.set i o) own = L2.wipe σ own := by
  induction own generalizing σ with
  | nil => cases h
  | cons j r ih =>
    show (L2.wipe (σ.set i o) r).set j none = (L2.wipe σ r).set j none
    by_cases e : i ∈ r
    · rw [ih e]
    · have e2 : i = j := by
        rcases List.mem_cons.mp h with z | z
        · exact z
        · exact absurd z e
      subst e2
      have key : ∀ (r : List Nat) (σ : St), i ∉ r → L2.wipe (σ.set i o) r = (L2.wipe σ r).set i o := by
        intro r
        induction r with
        | nil => intro _ _; rfl
        | cons k r ih2 =>
          intro σ hn
          have hk : i ≠ k := fun z => hn (z ▸ List.mem_cons_self)
          show (L2.wipe (σ.set i o) r).set k none = ((L2.wipe σ r).set k none).set i o
          rw [ih2 σ fun z => hn (List.mem_cons_of_mem _ z), List.set_comm _ _ hk]
      rw [key r σ e, List.set_set]
theorem setAll_ok : ∀ {is : List Nat} {ds : List D} {vs : List V} {env env1 : Env} {σ : St}, RelE K hid M H σ env → Reps K hid M H ds vs → setAll env is ds = some env1 →
    ∃ σ1, RelE K hid M H σ1 env1 ∧ (∀ own : List Nat, (∀ i ∈ is, i ∈ own) → L2.wipe σ1 own = L2.wipe σ own) ∧ ∀ Q : St → Hp → Prop, Q σ1 H → gNs is vs σ H Q
  | [], [], _, env, env1, σ, e, r, h => by
    cases r; cases h
    exact ⟨σ, e, fun _ _ => rfl, fun Q q => ⟨rfl, q⟩⟩
  | i :: is, d :: ds, _, env, env1, σ, e, r, h => by
    cases r with
    | @cons _ v _ vs r1 r2 =>
      obtain ⟨σ1, e1, w1, q1⟩ := setAll_ok (e.set (i := i) r1) r2 h
      exact ⟨σ1, e1, fun own ho => (w1 own fun j hj => ho j (List.mem_cons_of_mem _ hj)).trans (set_wipe (ho i List.mem_cons_self)), fun Q q => ⟨v, vs, rfl, q1 Q q⟩⟩
  | [], _ :: _, _, _, _, _, _, _, h => by cases h
  | _ :: _, [], _, _, _, _, _, _, h => by cases h
theorem setAll_len : ∀ {is : List Nat} {ds : List D} {env env1 : Env}, setAll env is ds = some env1 → ds.length = is.length
  | [], [], _, _, _ => rfl
  | i :: is, d :: ds, _, _, h => congrArg (· + 1) (setAll_len (is := is) (ds := ds) h)
  | [], _ :: _, _, _, h => by cases h
  | _ :: _, [], _, _, h => by cases h
theorem put_ok {g : Tgt} {d : D} {v : V} {env env1 : Env} {σ : St} (e : RelE K hid M H σ env) (r : Rep K hid M H d v) (h : g.put env d = some env1) :
    ∃ σ1, RelE K hid M H σ1 env1 ∧ (∀ own : List Nat, (∀ i ∈ g.slots, i ∈ own) → L2.wipe σ1 own = L2.wipe σ own) ∧ ∀ Q : St → Hp → Prop, Q σ1 H → g.h K v σ H Q := by
  cases g with
  | nm i => cases h; exact ⟨_, e.set r, fun own ho => set_wipe (ho i List.mem_cons_self), fun Q q => q⟩
  | tp is =>
    cases d with
    | tup ds =>
      cases r with
      | @tup a _ vs ht rs =>
        have h' : setAll env is ds = some env1 := h
        obtain ⟨σ1, e1, w1, q1⟩ := setAll_ok e rs h'
        exact ⟨σ1, e1, w1, fun Q q => ⟨a, vs, rfl, ht.sq, by rw [← rs.length]; exact setAll_len h', q1 Q q⟩⟩
    | _ => cases h
end
section
variable {X : Cx} {pos : Pos} {e : Expr} {es : List Expr}
theorem tg_nm {i : Nat} {x : Str} (hN : X.N.Nodup) (hi : X.N[i]? = some x := by rfl) (hx : Loc X.env.scope x := by first | exact .inl rfl | exact .inr rfl) (hf : X.fn x = true ∨ X.env.scope.names.lookup x = some .local := by first | exact .inl rfl | exact .inr rfl) : PG X (.Name x pos) ((Tgt.nm i).h X.K) :=
  pg_name hN hi hx hf
theorem tgs_nil : PGs X [] (gNs []) := pgs_nil
theorem tgs_cons {i : Nat} {is : List Nat} (h1 : PG X e (gName i)) (h2 : PGs X es (gNs is)) (hs : (assignEach (e :: es) X.env).map (·.2) = assign e X.env :: (assignEach es X.env).map (·.2) := by rfl) : PGs X (e :: es) (gNs (i :: is)) := pgs_cons h1 h2 hs
theorem tg_tp {is : List Nat} {k : Nat} (hc : X.calm = true) (h : PGs X es (gNs is)) (hn : (assignEach es X.env).length = is.length := by rfl) (hst : (assignEach es X.env).findIdx? (·.1) = none := by rfl) : PG X (.Tuple es k pos) ((Tgt.tp is).h X.K) :=
  pg_tup hc h hn hst
end

/-! ### what is walked -/
/-- the iterator gives these items while chk holds -/
structure Walks (K : PySem.W.Frag) (hid : HidL) (J : It) (ds : List D) (chk : Mh → Prop) (M0 : Mh) (H0 : Hp) : Prop where
  go : ∀ (i : Nat) (d : D) (M : Mh) (H : Hp), RelM K hid M H → Pers M0 H0 M H → chk M → ds[i]? = some d → J.go i H
  yld : ∀ (i : Nat) (d : D) (M : Mh) (H : Hp), RelM K hid M H → Pers M0 H0 M H → chk M → ds[i]? = some d → ∀ x H', J.yld i H x H' → RelM K hid M H' ∧ Pers M H M H' ∧ Rep K hid M H' d x
  stop : ∀ (M : Mh) (H : Hp), RelM K hid M H → Pers M0 H0 M H → chk M → J.stop ds.length H
/-- what is looked at stands in the other heap, too -/
structure Looks (hid : HidL) (M : Mh) (H : Hp) (hid' : HidL) (M' : Mh) (H' : Hp) : Prop where
  tup : ∀ a vs, Rd H a (.tup vs) → a ∉ hid → Rd H' a (.tup vs) ∧ a ∉ hid'
  lst : ∀ a vs, Rd H a (.lst vs) → a ∉ hid → M a = none → Rd H' a (.lst vs) ∧ a ∉ hid' ∧ M' a = none
section
variable {K : PySem.W.Frag} {hid hid' : HidL} {M M' : Mh} {H H' : Hp}
mutual
theorem Rep.look (k : Looks hid M H hid' M' H') : ∀ {d : D} {v : V}, Rep K hid M H d v → Rep K hid' M' H' d v
  | _, _, .non => .non
  | _, _, .bl b => .bl b
  | _, _, .int i => .int i
  | _, _, .str l => .str l
  | _, _, .ty n => .ty n
  | _, _, .obj a => .obj a
  | _, _, .tup (.inl ⟨h, nh⟩) t => .tup (.inl (k.tup _ _ h nh)) (Reps.look k t)
  | _, _, .tup (.inr h) t => .tup (.inr h) (Reps.look k t)
  | _, _, .lst (.inl ⟨h, nh, n⟩) t => .lst (.inl (k.lst _ _ h nh n)) (Reps.look k t)
  | _, _, .lst (.inr h) t => .lst (.inr h) (Reps.look k t)
theorem Reps.look (k : Looks hid M H hid' M' H') : ∀ {ds : List D} {vs : List V}, Reps K hid M H ds vs → Reps K hid' M' H' ds vs
  | _, _, .nil => .nil
  | _, _, .cons h t => .cons (Rep.look k h) (Reps.look k t)
end
theorem DReps.look (k : Looks hid M H hid' M' H') : ∀ {ds : List (D × D)} {vs : List (Key × V)}, DReps K hid M H ds vs → DReps K hid' M' H' ds vs
  | _, _, .nil => .nil
  | _, _, .cons q h t => .cons q (h.look k) (DReps.look k t)
theorem FReps.look (k : Looks hid M H hid' M' H') : ∀ {ds : List (String × D)} {vs : List (Str × V)}, FReps K hid M H ds vs → FReps K hid' M' H' ds vs
  | _, _, .nil => .nil
  | _, _, .cons h t => .cons (h.look k) (FReps.look k t)
theorem ORep.look (k : Looks hid M H hid' M' H') {a : Addr} {o : MO} (h : ORep K hid M H a o) (e : H' a = H a) : ORep K hid' M' H' a o := by
  cases o with
  | lst ds => obtain ⟨vs, q, t⟩ := h; exact ⟨vs, e.trans q, t.look k⟩
  | dct ds => obtain ⟨vs, q, t⟩ := h; exact ⟨vs, e.trans q, t.look k⟩
  | lck ds => obtain ⟨o, vs, q, t⟩ := h; exact ⟨o, vs, e.trans q, t.look k⟩
  | ins c ds => obtain ⟨dx, vs, q, t⟩ := h; exact ⟨dx, vs, e.trans q, t.look k⟩
theorem RelE.look (k : Looks hid M H hid' M' H') {σ : St} {env : Env} (e : RelE K hid M H σ env) : RelE K hid' M' H' σ env :=
  ⟨e.1, fun i d h => let ⟨v, h1, h2⟩ := e.2 i d h; ⟨v, h1, h2.look k⟩⟩
/-- a new object is hidden -/
theorem looks_hide {p : Addr} {o : HO} (h : H p = none) : Looks hid M H (p :: hid) M (upd H p o) := by
  have ne : ∀ {a u}, Rd H a u → a ≠ p := fun {a u} r z => by
    subst z
    rcases r with r | ⟨_, r⟩ <;> (rw [h] at r; cases r)
  have rd : ∀ {a u}, Rd H a u → Rd (upd H p o) a u := fun {a u} r => by
    rcases id r with q | ⟨ob, q⟩
    · exact .inl (by rw [upd_ne (ne r)]; exact q)
    · exact .inr ⟨ob, by rw [upd_ne (ne r)]; exact q⟩
  have nh : ∀ {a u}, Rd H a u → a ∉ hid → a ∉ p :: hid := fun r n z => (List.mem_cons.mp z).elim (ne r) n
  exact ⟨fun a vs r n => ⟨rd r, nh r n⟩, fun a vs r n m => ⟨rd r, nh r n, m⟩⟩
/-- a hidden object is changed -/
theorem looks_hset {p : Addr} {o : HO} (h : p ∈ hid) : Looks hid M H hid M (upd H p o) := by
  have rd : ∀ {a u}, Rd H a u → a ∉ hid → Rd (upd H p o) a u := fun {a u} r n => by
    have ne : a ≠ p := fun z => n (z ▸ h)
    rcases r with q | ⟨ob, q⟩
    · exact .inl (by rw [upd_ne ne]; exact q)
    · exact .inr ⟨ob, by rw [upd_ne ne]; exact q⟩
  exact ⟨fun a vs r n => ⟨rd r n, n⟩, fun a vs r n m => ⟨rd r n, n, m⟩⟩
/-- it is hidden no longer -/
theorem looks_show {p : Addr} : Looks (p :: hid) M H hid M H :=
  ⟨fun a vs r n => ⟨r, fun z => n (List.mem_cons_of_mem _ z)⟩, fun a vs r n m => ⟨r, fun z => n (List.mem_cons_of_mem _ z), m⟩⟩
theorem RelM.hide (m : RelM K hid M H) {p : Addr} {o : HO} (h : H p = none) : RelM K (p :: hid) M (upd H p o) := by
  refine ⟨fun a u e => ?_, fun a ha => ?_⟩
  · obtain ⟨w, hw, _⟩ := (m.1 a u e).some_
    exact (m.1 a u e).look (looks_hide h) (upd_ne (ne_of_none hw h))
  · rcases List.mem_cons.mp ha with z | z
    · subst z; exact ⟨m.free h, o, upd_same⟩
    · obtain ⟨n, u, e⟩ := m.2 a z
      exact ⟨n, u, by rw [upd_ne (ne_of_none e h)]; exact e⟩
theorem RelM.hset (m : RelM K hid M H) {p : Addr} {o : HO} (h : p ∈ hid) : RelM K hid M (upd H p o) := by
  refine ⟨fun a u e => ?_, fun a ha => ?_⟩
  · have ne : a ≠ p := fun z => by
      have := (m.2 p h).1
      rw [← z, e] at this; cases this
    exact (m.1 a u e).look (looks_hset h) (upd_ne ne)
  · by_cases z : a = p
    · subst z; exact ⟨(m.2 a ha).1, o, upd_same⟩
    · obtain ⟨n, u, e⟩ := m.2 a ha
      exact ⟨n, u, by rw [upd_ne z]; exact e⟩
theorem RelM.show (m : RelM K (p :: hid) M H) : RelM K hid M H := ⟨fun a u e => (m.1 a u e).look looks_show rfl, fun a ha => m.2 a (List.mem_cons_of_mem _ ha)⟩
end
/-- .. whatever else is hidden -/
def WalksA (K : PySem.W.Frag) (hid : HidL) (J : It) (ds : List D) (chk : Mh → Prop) (M : Mh) (H : Hp) : Prop :=
  Walks K hid J ds chk M H ∧ ∀ p, H p = none → Walks K (p :: hid) J ds chk M H
def liftI (K : PySem.W.Frag) (G : Gd) (t : DI) : TI := fun σ H R => ∃ env M Qi, SR K G σ H env M ∧ t env M Qi ∧ ∀ ds chk M' H' J, RelM K G.hid M' H' → Pers M H M' H' → WalksA K G.hid J ds chk M' H' → Qi ds chk M' → R J H'
/-- what a for or a comprehension walks: a rule of the layer below whose reading a small one keeps -/
structure MI (X : Cx) (G : Gd) (tg iter : Expr) (t : DI) : Prop where
  ex : ∃ wi, PI X tg iter wi ∧ ∀ σ H R, liftI X.K G t σ H R → wi σ H R
section
variable {X : Cx} {G : Gd} {e a b c iter tg : Expr} {es rest : List Expr} {pos : Pos} {t ta tb tc : DE} {tt : DA}
theorem ms_for {body : List Stmt} {it : DI} {g : Tgt} {tb : DS} (hp : PassesOwn (model X.prog X.w) X.A X.env X.xe) (hc : X.calm = true) (hi : MI X G tg iter it) (hg : PG X tg (g.h X.K)) (hb : MSs X G body tb)
    (hs : ∀ x, foldedSetIterable iter X.env x = pure x := by intro _; rfl) : MS X G (.For tg iter body [] pos) (mFor it g tb) := by
  obtain ⟨wi, hi, hw⟩ := hi.ex
  refine PS.imp (ps_for hp hc hi hg hb hs) fun D σ H ⟨env, M, E, s, h, l⟩ => ?_
  refine hw _ _ _ ⟨env, M, _, s, h, fun ds chk M1 H1 J m1 p1 wk h1 => ?_⟩
  refine ⟨fun i n σ' H' => ∃ env' M', SR X.K G σ' H' env' M' ∧ Pers M1 H1 M' H' ∧ i + n = ds.length ∧ forGo g tb E chk (ds.drop i) env' M', ⟨ds.length, env, M1, s.next m1 p1, .refl _ _, by omega, h1⟩, ?_⟩
  rintro i n σ' H' ⟨env', M', s', p', en, h'⟩
  by_cases hi : i < ds.length
  · rw [List.drop_eq_getElem_cons hi] at h'
    obtain ⟨hch, h'⟩ := h'
    have hd : ds[i]? = some ds[i] := List.getElem?_eq_getElem hi
    refine .inr ⟨wk.1.go i _ M' H' s'.m p' hch hd, fun σ2 H2 => ∃ env2 M2, SR X.K G σ2 H2 env2 M2 ∧ Pers M1 H1 M2 H2 ∧ forGo g tb E chk (ds.drop (i + 1)) env2 M2, fun σ2 H2 ⟨env2, M2, s2, p2, h2⟩ => ⟨n - 1, by omega, env2, M2, s2, p2, by omega, h2⟩, fun x H2 y => ?_⟩
    obtain ⟨m2, p2, r2⟩ := wk.1.yld i _ M' H' s'.m p' hch hd x H2 y
    split at h'
    · next env1 ep =>
      obtain ⟨σ3, e3, _, q3⟩ := put_ok (s'.e.pers s'.m p2) r2 ep
      refine q3 _ ⟨env1, M', _, ⟨m2, s'.p.trans p2, e3⟩, h', ?_⟩
      have pp := p'.trans p2
      exact ⟨fun σ4 H4 env4 M4 m4 p4 e4 h4 => ⟨env4, M4, ⟨m4, (s'.p.trans p2).trans p4, e4⟩, pp.trans p4, h4⟩,
        fun d v M4 H4 m4 p4 r4 h4 => l.rt d v M4 H4 m4 ((p1.trans pp).trans p4) r4 h4,
        fun σ4 H4 env4 M4 m4 p4 e4 h4 => l.nx σ4 H4 env4 M4 m4 ((p1.trans pp).trans p4) e4 h4,
        fun σ4 H4 env4 M4 m4 p4 e4 h4 => ⟨env4, M4, ⟨m4, (s'.p.trans p2).trans p4, e4⟩, pp.trans p4, h4⟩⟩
    · exact h'.elim
  · have e : i = ds.length := by omega
    subst e
    rw [List.drop_length] at h'
    exact .inl ⟨wk.1.stop M' H' s'.m p' h'.1, l.nx _ _ _ _ s'.m (p1.trans p') s'.e h'.2⟩
theorem ms_while {c : Expr} {body : List Stmt} {tc : DT} {tb : DS} (hp : PassesOwn (model X.prog X.w) X.A X.env X.xe) (hc : MT X G c tc) (hb : MSs X G body tb) : MS X G (.While c body [] pos) (mWhile tc tb) := by
  refine PS.imp (ps_while hp hc hb) fun D σ H ⟨env, M, E, s, ⟨n, h⟩, l⟩ => ?_
  refine ⟨fun n σ' H' => ∃ env' M', SR X.K G σ' H' env' M' ∧ Pers M H M' H' ∧ whileGo tc tb E n env' M', ⟨n, env, M, s, .refl _ _, h⟩, ?_⟩
  rintro n σ' H' ⟨env', M', s', p', h'⟩
  cases n with
  | zero => exact h'.elim
  | succ n =>
    refine ⟨env', M', _, s', h', fun k M1 H1 m1 p1 h1 => ?_⟩
    cases k with
    | true =>
      refine ⟨fun σ2 H2 => ∃ env2 M2, SR X.K G σ2 H2 env2 M2 ∧ Pers M H M2 H2 ∧ whileGo tc tb E n env2 M2, fun σ2 H2 q2 => ⟨n, Nat.lt_succ_self n, q2⟩, ?_⟩
      have pp := p'.trans p1
      exact ⟨env', M1, _, s'.next m1 p1, h1.1 rfl, fun σ4 H4 env4 M4 m4 p4 e4 h4 => ⟨env4, M4, ⟨m4, (s'.p.trans p1).trans p4, e4⟩, pp.trans p4, h4⟩,
        fun d v M4 H4 m4 p4 r4 h4 => l.rt d v M4 H4 m4 (pp.trans p4) r4 h4,
        fun σ4 H4 env4 M4 m4 p4 e4 h4 => l.nx σ4 H4 env4 M4 m4 (pp.trans p4) e4 h4,
        fun σ4 H4 env4 M4 m4 p4 e4 h4 => ⟨env4, M4, ⟨m4, (s'.p.trans p1).trans p4, e4⟩, pp.trans p4, h4⟩⟩
    | false => exact l.nx _ _ _ _ m1 (p'.trans p1) ((s'.next m1 p1).e) (h1.2 rfl)

/-! ### comprehensions -/
theorem wipe_at (σ : St) (vs : List Nat) (i : Nat) : (L2.wipe σ vs)[i]? = if i ∈ vs then (σ[i]?).map fun _ => none else σ[i]? := by
  induction vs with
  | nil => simp [L2.wipe]
  | cons v r ih =>
    show ((L2.wipe σ r).set v none)[i]? = _
    by_cases e : v = i
    · subst e
      rw [if_pos List.mem_cons_self]
      by_cases hl : v < σ.length
      · rw [List.getElem?_set_self (by rw [wipe_length]; exact hl), List.getElem?_eq_getElem hl]; rfl
      · rw [List.getElem?_eq_none (by simp [wipe_length]; omega), List.getElem?_eq_none (by omega)]; rfl
    · rw [List.getElem?_set_ne e, ih]
      by_cases h : i ∈ r
      · rw [if_pos h, if_pos (List.mem_cons_of_mem _ h)]
      · rw [if_neg h, if_neg fun z => (List.mem_cons.mp z).elim (fun q => e q.symm) h]
theorem wipe_wipe (σ : St) (vs : List Nat) : L2.wipe (L2.wipe σ vs) vs = L2.wipe σ vs := by
  apply List.ext_getElem?
  intro i
  rw [wipe_at, wipe_at]
  by_cases h : i ∈ vs
  · rw [if_pos h, if_pos h]; cases σ[i]? <;> rfl
  · rw [if_neg h, if_neg h]
def ttH (K : PySem.W.Frag) (tt : DT) : TT := fun σ H Q => ∃ G', liftT K G' tt σ H Q
def teH (K : PySem.W.Frag) (te : DE) : TE := fun σ H Q => ∃ G', liftE K G' te σ H Q
theorem pers_at {M M' : Mh} {H H' : Hp} {p : Addr} {o : HO} (q : Pers M H M' H') (h : H p = none) : Pers M H M' (upd H' p o) := fun a u e n =>
  ⟨by rw [upd_ne (ne_of_none e h)]; exact (q a u e n).1, (q a u e n).2⟩
theorem comp_rd {wi : TI} {it : DI} {g : Tgt} {tt : DT} {te : DE} {own : List Nat} (hw : ∀ σ H R, liftI X.K G it σ H R → wi σ H R) (hsl : ∀ i ∈ g.slots, i ∈ own) {σ : St} {H : Hp} {Q : VK} {env : Env} {M : Mh} {Qm : List D → Mh → Prop}
    (s : SR X.K G σ H env M) (h : it env M fun ds chk M1 => compGo g tt te (wipeE env own) chk Qm ds [] M1)
    (fin : ∀ M1 H1, RelM X.K G.hid M1 H1 → Pers M H M1 H1 → ∀ acc vs D M' H', H1 D = none → RelM X.K (D :: G.hid) M' H' → Pers M1 H1 M' H' → H' D = some (.lst vs) → Reps X.K (D :: G.hid) M' H' acc vs → Qm acc M' → Q (.ref D) H') : tLc wi (g.h X.K) (ttH X.K tt) (teH X.K te) own σ H Q := by
  refine hw _ _ _ ⟨env, M, _, s, h, fun ds chk M1 H1 J m1 p1 wk h1 D hD => ?_⟩
  have wk2 := wk.2 D hD
  have mem : D ∈ D :: G.hid := List.mem_cons_self
  have e1 : RelE X.K (D :: G.hid) M1 (upd H1 D (.lst [])) σ env := (s.e.pers s.m p1).look (looks_hide hD)
  refine ⟨fun i n H' => ∃ M' acc vs, RelM X.K (D :: G.hid) M' H' ∧ Pers M1 H1 M' H' ∧ RelE X.K (D :: G.hid) M' H' σ env ∧ H' D = some (.lst vs) ∧ Reps X.K (D :: G.hid) M' H' acc vs ∧ i + n = ds.length ∧ compGo g tt te (wipeE env own) chk Qm (ds.drop i) acc M',
    ⟨ds.length, M1, [], [], m1.hide hD, pers_new hD, e1, upd_same, .nil, by omega, h1⟩, ?_⟩
  rintro i n H' ⟨M', acc, vs, m', p', e', hD', rs, en, h'⟩
  by_cases hi : i < ds.length
  · rw [List.drop_eq_getElem_cons hi] at h'
    obtain ⟨hch, h'⟩ := h'
    have hd : ds[i]? = some ds[i] := List.getElem?_eq_getElem hi
    refine .inr ⟨wk.1.go i _ M' H' m'.show p' hch hd, fun H2 => ∃ M2 acc2 vs2, RelM X.K (D :: G.hid) M2 H2 ∧ Pers M1 H1 M2 H2 ∧ RelE X.K (D :: G.hid) M2 H2 σ env ∧ H2 D = some (.lst vs2) ∧ Reps X.K (D :: G.hid) M2 H2 acc2 vs2 ∧ compGo g tt te (wipeE env own) chk Qm (ds.drop (i + 1)) acc2 M2,
      fun H2 ⟨M2, acc2, vs2, q1, q2, q3, q4, q5, q6⟩ => ⟨n - 1, by omega, M2, acc2, vs2, q1, q2, q3, q4, q5, by omega, q6⟩, fun x H2 y => ?_⟩
    obtain ⟨m2, p2, r2⟩ := wk2.yld i _ M' H' m' p' hch hd x H2 y
    split at h'
    · next env1 ep =>
      obtain ⟨σ3, e3, w3, q3⟩ := put_ok ((e'.pers m' p2).wipe own) r2 ep
      refine q3 _ ⟨(w3 own hsl).trans (wipe_wipe σ own), ⟨⟨D :: G.hid, M', H2⟩, env1, M', _, ⟨m2, .refl _ _, e3⟩, h', fun b M3 H3 m3 p3 h3 => ?_⟩⟩
      have hD2 := p2 D _ hD' (m'.2 D mem).1
      have hD3 := p3 D _ hD2.1 hD2.2
      cases b with
      | true =>
        refine (if_pos (rfl : true = true)).mpr ?_
        refine ⟨⟨D :: G.hid, M', H2⟩, env1, M3, _, ⟨m3, p3, e3.pers m2 p3⟩, h3.1 rfl, fun d v M4 H4 m4 p4 r4 h4 => ?_⟩
        have hD4 := p4 D _ hD3.1 hD3.2
        have p04 : Pers M1 H1 M4 H4 := ((p'.trans p2).trans p3).trans p4
        have rs4 := (((rs.pers m' p2).pers m2 p3).pers m3 p4)
        refine ⟨vs, hD4.1, by rw [← rs.length, ← line_eq]; exact h4.1, M4, acc ++ [d], vs ++ [v], m4.hset mem, pers_at p04 hD, ((((e'.pers m' p2).pers m2 p3).pers m3 p4)).look (looks_hset mem), upd_same, (rs4.append (.cons r4 .nil)).look (looks_hset mem), h4.2⟩
      | false =>
        refine (if_neg Bool.false_ne_true).mpr ?_
        exact ⟨M3, acc, vs, m3, ((p'.trans p2).trans p3), (e'.pers m' p2).pers m2 p3, hD3.1, (rs.pers m' p2).pers m2 p3, h3.2 rfl⟩
    · exact h'.elim
  · have e : i = ds.length := by omega
    subst e
    rw [List.drop_length] at h'
    exact .inl ⟨wk.1.stop M' H' m'.show p' h'.1, fin M1 H1 m1 p1 acc vs D M' H' hD m' p' hD' rs h'.2⟩
end
end Dl
end
section
set_option Elab.async false
set_option linter.all false
set_option maxRecDepth 100000
set_option maxHeartbeats 1000000
namespace Dl
open PySem PySem.Spec PyProof.Rows L2
section
variable {X : Cx} {G : Gd} {e a b c iter tg elt : Expr} {es rest ifs : List Expr} {pos : Pos} {t ta tb tc te : DE} {tt : DA} {it : DI} {g : Tgt} {tf : DT} {scope : Scope}
/-- a block's tests: for every place -/
def MTs (X : Cx) (ifs : List Expr) (t : DT) : Prop := PTs X ifs (ttH X.K t)
theorem mts_nil : MTs X [] mYes := ⟨fun pins s σ H Q I ⟨G', env, M, Qm, r, h, q⟩ => pts_nil.run pins s σ H Q I (q _ M H r.m (.refl _ _) h)⟩
theorem mts_one (h : ∀ G' : Gd, MT X G' c tf) : MTs X [c] tf := pts_one ⟨fun pins s σ H Q I ⟨G', q⟩ => (h G').run pins s σ H Q I q⟩
/-- how a comprehension's block stands in its def -/
structure CompOk (X : Cx) (tg elt : Expr) (ifs : List Expr) (scope : Scope) (own : List (Str × Nat)) (g : Tgt) (tf : DT) (te : DE) : Prop where
  ok : BlkOk X.N X.env.scope scope own
  tg : ∀ (s : Shared) (H : Hp) (C : Addr) (cl : List (Str × Addr)) (fp : List Addr), PG (X.blk s H scope (compEnvC scope cl C X.env) fp) tg (g.h X.K)
  ts : ∀ (s : Shared) (H : Hp) (C : Addr) (cl : List (Str × Addr)) (fp : List Addr), MTs (X.blk s H scope (compEnvC scope cl C X.env) fp) ifs tf
  el : ∀ (s : Shared) (H : Hp) (C : Addr) (cl : List (Str × Addr)) (fp : List Addr) (G' : Gd), ME (X.blk s H scope (compEnvC scope cl C X.env) fp) G' elt te
  sl : ∀ i ∈ g.slots, i ∈ own.map (·.2)
theorem CompOk.elH {own : List (Str × Nat)} (c : CompOk X tg elt ifs scope own g tf te) (s : Shared) (H : Hp) (C : Addr) (cl : List (Str × Addr)) (fp : List Addr) : PE (X.blk s H scope (compEnvC scope cl C X.env) fp) elt (teH X.K te) :=
  ⟨fun pins s' σ H' Q I ⟨G', q⟩ => (c.el s H C cl fp G').run pins s' σ H' Q I q⟩
/-- the end of a comprehension whose list is data -/
theorem comp_frz {own : List Nat} {wi : TI} (hw : ∀ σ H R, liftI X.K G it σ H R → wi σ H R) (hsl : ∀ i ∈ g.slots, i ∈ own) {σ : St} {H : Hp} {Q : VK} (h : liftE X.K G (mComp it g tf te own) σ H Q) : tLc wi (g.h X.K) (ttH X.K tf) (teH X.K te) own σ H Q := by
  obtain ⟨env, M, Qm, s, h, q⟩ := h
  refine comp_rd hw hsl s h fun M1 H1 m1 p1 acc vs D M' H' hD m' p' hv rs h' => ?_
  exact q (.lst acc) _ M' H' m'.show (p1.trans p') (.lst (.inl ⟨.inl hv, m1.newHid hD, (m'.2 D List.mem_cons_self).1⟩) (rs.look looks_show)) h'
/-- .. whose list will change -/
theorem comp_own {own : List Nat} {wi : TI} (hw : ∀ σ H R, liftI X.K G it σ H R → wi σ H R) (hsl : ∀ i ∈ g.slots, i ∈ own) {σ : St} {H : Hp} {Q : VK} (h : liftE X.K G (mCompO it g tf te own) σ H Q) : tLc wi (g.h X.K) (ttH X.K tf) (teH X.K te) own σ H Q := by
  obtain ⟨env, M, Qm, s, h, q⟩ := h
  refine comp_rd hw hsl s h fun M1 H1 m1 p1 acc vs D M' H' hD m' p' hv rs h' => ?_
  have n' := (m'.2 D List.mem_cons_self).1
  have lk : Looks (D :: G.hid) M' H' G.hid (mu M' D (.lst acc)) H' :=
    ⟨fun a vs r n => ⟨r, fun z => n (List.mem_cons_of_mem _ z)⟩, fun a vs r n m => ⟨r, fun z => n (List.mem_cons_of_mem _ z), by rw [mu_ne (show a ≠ D from fun z => n (by rw [z]; exact List.mem_cons_self))]; exact m⟩⟩
  have mm : RelM X.K G.hid (mu M' D (.lst acc)) H' := by
    refine ⟨fun a u e => ?_, fun a ha => ?_⟩
    · by_cases z : a = D
      · subst z; rw [mu_same] at e; cases e; exact ⟨vs, hv, rs.look lk⟩
      · rw [mu_ne z] at e; exact (m'.1 a u e).look lk rfl
    · have z : a ≠ D := fun z => m1.newHid hD (z ▸ ha)
      rw [mu_ne z]; exact m'.2 a (List.mem_cons_of_mem _ ha)
  refine q (.obj D) _ (mu M' D (.lst acc)) H' mm (p1.trans fun a u e n => ?_) (.obj D) (h' D n')
  have z : a ≠ D := ne_of_none e hD
  exact ⟨(p' a u e n).1, by rw [mu_ne z]; exact (p' a u e n).2⟩
theorem me_comp {own : List (Str × Nat)} (hc : X.calm = true) (hN : X.N.Nodup) (hi : MI X G tg iter it) (c : CompOk X tg elt ifs scope own g tf te) (hs : ∀ x, foldedSetIterable iter X.env x = pure x := by intro _; rfl) :
    ME X G (.ListComp elt [⟨tg, iter, ifs, 0⟩] scope pos) (mComp it g tf te (own.map (·.2))) := by
  obtain ⟨wi, hi, hw⟩ := hi.ex
  exact PE.imp (pe_lc hc hN hi c.ok c.tg (tt := ttH X.K tf) c.ts c.elH hs) fun σ H Q h => comp_frz hw c.sl h
theorem me_compO {own : List (Str × Nat)} (hc : X.calm = true) (hN : X.N.Nodup) (hi : MI X G tg iter it) (c : CompOk X tg elt ifs scope own g tf te) (hs : ∀ x, foldedSetIterable iter X.env x = pure x := by intro _; rfl) :
    ME X G (.ListComp elt [⟨tg, iter, ifs, 0⟩] scope pos) (mCompO it g tf te (own.map (·.2))) := by
  obtain ⟨wi, hi, hw⟩ := hi.ex
  exact PE.imp (pe_lc hc hN hi c.ok c.tg (tt := ttH X.K tf) c.ts c.elH hs) fun σ H Q h => comp_own hw c.sl h
theorem set_rd {i : Nat} {D : Ends} {σ : St} {H : Hp} (h : liftS X.K G (mAsg t (gNm i)) D σ H) : liftE X.K G t σ H (fun x H1 => gName i x σ H1 D.nx) := by
  obtain ⟨env, M, E, s, h, l⟩ := h
  exact ⟨env, M, _, s, h, fun d v M1 H1 m1 p1 r1 h1 => l.nx _ H1 _ M1 m1 p1 ((s.next m1 p1).set r1).e h1⟩
theorem ms_setComp {own : List (Str × Nat)} {i : Nat} {y : Str} {py spos : Pos} (hc : X.calm = true) (hN : X.N.Nodup) (hsw : swapsWith (.ListComp elt [⟨tg, iter, ifs, 0⟩] scope pos) (some (.Name y py)) spos.line X.env = pure true) (hi : MI X G tg iter it) (c : CompOk X tg elt ifs scope own g tf te)
    (hy : X.N[i]? = some y := by rfl) (hyl : X.env.scope.names.lookup y = some .local := by rfl) (hs : ∀ x, foldedSetIterable iter X.env x = pure x := by intro _; rfl) :
    MS X G (.Assign [.Name y py] (.ListComp elt [⟨tg, iter, ifs, 0⟩] scope pos) spos) (mAsg (mComp it g tf te (own.map (·.2))) (gNm i)) := by
  obtain ⟨wi, hi, hw⟩ := hi.ex
  exact PS.imp (ps_setLc hc hN hy hyl hsw hi c.ok c.tg (tt := ttH X.K tf) c.ts c.elH hs) fun D σ H h => comp_frz hw c.sl (set_rd h)
theorem ms_setCompO {own : List (Str × Nat)} {i : Nat} {y : Str} {py spos : Pos} (hc : X.calm = true) (hN : X.N.Nodup) (hsw : swapsWith (.ListComp elt [⟨tg, iter, ifs, 0⟩] scope pos) (some (.Name y py)) spos.line X.env = pure true) (hi : MI X G tg iter it) (c : CompOk X tg elt ifs scope own g tf te)
    (hy : X.N[i]? = some y := by rfl) (hyl : X.env.scope.names.lookup y = some .local := by rfl) (hs : ∀ x, foldedSetIterable iter X.env x = pure x := by intro _; rfl) :
    MS X G (.Assign [.Name y py] (.ListComp elt [⟨tg, iter, ifs, 0⟩] scope pos) spos) (mAsg (mCompO it g tf te (own.map (·.2))) (gNm i)) := by
  obtain ⟨wi, hi, hw⟩ := hi.ex
  exact PS.imp (ps_setLc hc hN hy hyl hsw hi c.ok c.tg (tt := ttH X.K tf) c.ts c.elH hs) fun D σ H h => comp_own hw c.sl (set_rd h)
end

/-! ### what is walked -/
theorem pi_or {X : Cx} {tg iter : Expr} {w1 w2 : TI} (h1 : PI X tg iter w1) (h2 : PI X tg iter w2) : PI X tg iter (fun σ H R => w1 σ H R ∨ w2 σ H R) :=
  ⟨fun pins s σ H R I q => q.elim (h1.run pins s σ H R I) (h2.run pins s σ H R I)⟩
section
variable {K : PySem.W.Frag} {hid : HidL} {M M' : Mh} {H H' : Hp} {a : Addr} {ds : List D} {vs : List V}
/-- behind what has not been touched -/
theorem looks_pers (m : RelM K hid M H) (p : Pers M H M' H') : Looks hid M H hid M' H' :=
  ⟨fun a vs r n => ⟨(Rd.pers p r (m.tupNone r)).1, n⟩, fun a vs r n z => ⟨(Rd.pers p r z).1, n, (Rd.pers p r z).2⟩⟩
theorem looks_pers1 (m : RelM K hid M H) (p : Pers M H M' H') {q : Addr} (hq : H q = none) : Looks hid M H (q :: hid) M' H' := by
  have nh : ∀ {a u}, Rd H a u → a ∉ hid → a ∉ q :: hid := fun {a u} r n z => (List.mem_cons.mp z).elim (fun z => by
    subst z
    rcases r with r | ⟨_, r⟩ <;> (rw [hq] at r; cases r)) n
  exact ⟨fun a vs r n => ⟨(Rd.pers p r (m.tupNone r)).1, nh r n⟩, fun a vs r n z => ⟨(Rd.pers p r z).1, nh r n, (Rd.pers p r z).2⟩⟩
theorem TupAt.look {hid' : HidL} (k : Looks hid M H hid' M' H') (h : TupAt K hid H a vs) : TupAt K hid' H' a vs := by
  rcases h with ⟨h, n⟩ | h
  · exact .inl (k.tup _ _ h n)
  · exact .inr h
theorem walks_tup0 {hid' : HidL} (r : RelM K hid M H) (lk : ∀ M' H', Pers M H M' H' → Looks hid M H hid' M' H') (ht : TupAt K hid H a vs) (rs : Reps K hid M H ds vs) : Walks K hid' (Itt K a) ds always M H where
  go := fun i d M' H' m p _ hd => by
    obtain ⟨v, hv, _⟩ := rs.get hd
    exact ⟨vs, v, (ht.look (lk M' H' p)).sq, hv⟩
  yld := fun i d M' H' m p _ hd x H2 y => by
    obtain ⟨rfl, y⟩ := y
    obtain ⟨v, hv, rv⟩ := rs.get hd
    have e : v = x := Option.some.inj (hv.symm.trans (y vs (ht.look (lk M' H2 p)).sq))
    subst e
    exact ⟨m, .refl _ _, rv.look (lk M' H2 p)⟩
  stop := fun M' H' m p _ => ⟨vs, (ht.look (lk M' H' p)).sq, by rw [rs.length]; exact Nat.le_refl _⟩
theorem walks_tup (r : RelM K hid M H) (ht : TupAt K hid H a vs) (rs : Reps K hid M H ds vs) : WalksA K hid (Itt K a) ds always M H :=
  ⟨walks_tup0 r (fun _ _ p => looks_pers r p) ht rs, fun q hq => walks_tup0 r (fun _ _ p => looks_pers1 r p hq) ht rs⟩
theorem LstAt.look {hid' : HidL} (k : Looks hid M H hid' M' H') (h : LstAt K hid M H a vs) : LstAt K hid' M' H' a vs := by
  rcases h with ⟨h, n, m⟩ | h
  · exact .inl (k.lst _ _ h n m)
  · exact .inr h
theorem walks_lst0 {hid' : HidL} (r : RelM K hid M H) (lk : ∀ M' H', Pers M H M' H' → Looks hid M H hid' M' H') (hl : LstAt K hid M H a vs) (rs : Reps K hid M H ds vs) : Walks K hid' (Itl K a) ds always M H where
  go := fun i d M' H' m p _ hd => by
    obtain ⟨v, hv, _⟩ := rs.get hd
    exact ⟨vs, v, (hl.look (lk M' H' p)).sq, hv⟩
  yld := fun i d M' H' m p _ hd x H2 y => by
    obtain ⟨rfl, y⟩ := y
    obtain ⟨v, hv, rv⟩ := rs.get hd
    have e : v = x := Option.some.inj (hv.symm.trans (y vs (hl.look (lk M' H2 p)).sq))
    subst e
    exact ⟨m, .refl _ _, rv.look (lk M' H2 p)⟩
  stop := fun M' H' m p _ => ⟨vs, (hl.look (lk M' H' p)).sq, by rw [rs.length]; exact Nat.le_refl _⟩
theorem walks_lst (r : RelM K hid M H) (hl : LstAt K hid M H a vs) (rs : Reps K hid M H ds vs) : WalksA K hid (Itl K a) ds always M H :=
  ⟨walks_lst0 r (fun _ _ p => looks_pers r p) hl rs, fun q hq => walks_lst0 r (fun _ _ p => looks_pers1 r p hq) hl rs⟩
/-- a list of the small heap: as long as it stays -/
theorem walks_obj0 {hid' : HidL} : Walks K hid' (Itl K a) ds (fun M => M a = some (.lst ds)) M H where
  go := fun i d M' H' m p c hd => by
    obtain ⟨vs, hv, rs⟩ := m.1 a _ c
    obtain ⟨v, hv2, _⟩ := rs.get hd
    exact ⟨vs, v, .inl (.inl hv), hv2⟩
  yld := fun i d M' H' m p c hd x H2 y => by
    obtain ⟨rfl, y⟩ := y
    obtain ⟨vs, hv, rs⟩ := m.1 a _ c
    obtain ⟨v, hv2, rv⟩ := rs.get hd
    have e : v = x := Option.some.inj (hv2.symm.trans (y vs (.inl (.inl hv))))
    subst e
    exact ⟨m, .refl _ _, rv⟩
  stop := fun M' H' m p c => by
    obtain ⟨vs, hv, rs⟩ := m.1 a _ c
    exact ⟨vs, .inl (.inl hv), by rw [rs.length]; exact Nat.le_refl _⟩
theorem walks_str0 {l : List Nat} {hid' : HidL} : Walks K hid' (Its (S l)) (l.map fun c => .str [c]) always M H where
  go := fun i d M' H' m p _ hd => by
    have : i < (l.map fun c => D.str [c]).length := (List.getElem?_eq_some_iff.mp hd).1
    show i < l.toArray.size
    simpa using this
  yld := fun i d M' H' m p _ hd x H2 y => by
    obtain ⟨rfl, c, hc, rfl⟩ := y
    have hc' : l[i]? = some c := by simpa [S] using hc
    rw [List.getElem?_map, hc'] at hd
    cases hd
    exact ⟨m, .refl _ _, .str [c]⟩
  stop := fun M' H' m p _ => by
    show l.toArray.size ≤ (l.map fun c => D.str [c]).length
    simp
theorem walks_rng0 {lo : Int} {n : Nat} {hid' : HidL} : Walks K hid' (Itr lo n) (rngD lo n) always M H where
  go := fun i d M' H' m p _ hd => by
    have : i < (rngD lo n).length := (List.getElem?_eq_some_iff.mp hd).1
    show i < n
    simpa [rngD] using this
  yld := fun i d M' H' m p _ hd x H2 y => by
    obtain ⟨rfl, rfl⟩ := y
    have hi : i < n := by
      have : i < (rngD lo n).length := (List.getElem?_eq_some_iff.mp hd).1
      simpa [rngD] using this
    have e : d = .int (lo + i) := by
      unfold rngD at hd
      rw [List.getElem?_map, List.getElem?_range hi] at hd
      exact (Option.some.inj hd).symm
    subst e
    exact ⟨m, .refl _ _, .int _⟩
  stop := fun M' H' m p _ => by
    show n ≤ (rngD lo n).length
    simp [rngD]
end
section
variable {X : Cx} {G : Gd} {e a b c tg : Expr} {pos p : Pos} {t : DE} {tt : DA}
/-- any sequence: a list, a tuple, a text -/
def iPoly (K : PySem.W.Frag) (te : TE) : TI := fun σ H R => te σ H fun x H1 =>
  (∃ a xs, x = .ref a ∧ SqL K H1 a xs ∧ R (Itl K a) H1) ∨ (∃ a xs, x = .ref a ∧ SqT K H1 a xs ∧ R (Itt K a) H1) ∨ ∃ z, x = .str z ∧ R (Its z) H1
theorem one_new {pins : List (Addr × Obj)} {σ : St} {H1 : Hp} {s1 : Shared} (I1 : Inv X pins σ H1 s1) : ∀ b ∈ [s1.heap.objs.size], FpOk X pins H1 b := fun b hb => by
  rw [List.mem_singleton.mp hb]
  exact I1.fpOk (Nat.le_refl _) (I1.hok.fresh (Nat.le_refl _))
theorem pi_poly {te : TE} (he : PE X e te) : PI X tg e (iPoly X.K te) := by
  refine ⟨fun pins s σ H R I h => thn (he.run pins s σ H _ I h) fun v s1 ⟨x, H1, I1, r1, q1⟩ => ?_⟩
  rcases q1 with ⟨a, xs, rfl, hq, q⟩ | ⟨a, xs, rfl, hq, q⟩ | ⟨z, rfl, q⟩
  · cases r1
    obtain ⟨its, rv, p, hz⟩ := I1.list hq
    exact wpAny_pyIter_list p.isList ⟨_, _, _, _, H1, rfl, I1.kept (t' := s1.toks) fun b o e => Heap.get?_push_of_some _ e, turn_list a _, ⟨_, Heap.get?_push_size _ rfl, rfl, rfl⟩, one_new I1, q⟩
  · cases r1
    obtain ⟨its, rv, p, hz⟩ := I1.tuple hq
    exact wpAny_pyIter_tuple (show s1.heap.IsTuple a its.toArray from p) ⟨_, _, _, _, H1, rfl, I1.kept (t' := s1.toks) fun b o e => Heap.get?_push_of_some _ e, turn_tuple a _, ⟨_, Heap.get?_push_size _ rfl, rfl, rfl⟩, one_new I1, q⟩
  · obtain ⟨t, rfl⟩ := r1
    cases ha : z.cps.all (· < 128)
    · exact wpAny_pyIter_wide ha (pi_one (tk := s1.toks) I1 _ (turn_str _ z t "str_iterator" (.inr rfl)) ⟨_, Heap.get?_push_size _ rfl, rfl, rfl⟩ q)
    · exact wpAny_pyIter_ascii ha (pi_one (tk := s1.toks) I1 _ (turn_str _ z t "str_ascii_iterator" (.inl rfl)) ⟨_, Heap.get?_push_size _ rfl, rfl, rfl⟩ q)
theorem mi_seq (he : ME X G e t) : MI X G tg e (iSeq t) :=
  ⟨_, pi_poly he, fun σ H R ⟨env, M, Qi, s, h, q⟩ => ⟨env, M, _, s, h, fun d v M1 H1 m1 p1 r1 h1 => by
    cases d with
    | lst ds => cases r1 with | @lst a _ vs hl rs => exact .inl ⟨a, vs, rfl, hl.sq, q _ _ _ _ _ m1 p1 (walks_lst m1 hl rs) h1⟩
    | tup ds => cases r1 with | @tup a _ vs ht rs => exact .inr (.inl ⟨a, vs, rfl, ht.sq, q _ _ _ _ _ m1 p1 (walks_tup m1 ht rs) h1⟩)
    | str l => cases r1; exact .inr (.inr ⟨_, rfl, q _ _ _ _ _ m1 p1 ⟨walks_str0, fun _ _ => walks_str0⟩ h1⟩)
    | obj a =>
      cases r1
      dsimp only at h1
      split at h1
      · next ds em =>
        obtain ⟨vs, hv, rs⟩ := m1.1 a _ em
        exact .inl ⟨a, vs, rfl, .inl (.inl hv), q _ _ _ _ _ m1 p1 ⟨walks_obj0, fun _ _ => walks_obj0⟩ h1⟩
      · exact h1.elim
    | _ => exact h1.elim⟩⟩
theorem mi_range1 (hm : X.mg "range" = none) (ha : MA X G [a] tt) (hg : Gl X "range" := by rfl) (hs : starEach [a] X.env = [(false, eval a X.env)] := by rfl) : MI X G tg (.Call (.Name "range" p) [a] [] pos) (iRange1 tt) :=
  ⟨_, pi_range1 hg hm ha hs, fun σ H R ⟨env, M, Qi, s, h, q⟩ => ⟨env, M, _, s, h, fun ds vs M1 H1 m1 p1 r1 h1 => by
    match ds, r1, h1 with
    | [.int n], r1, h1 =>
      obtain ⟨v, rfl, q1⟩ := r1.inv1
      cases q1
      exact ⟨n, rfl, by omega, by omega, q _ _ _ _ _ m1 p1 ⟨walks_rng0, fun _ _ => walks_rng0⟩ h1.2.2⟩⟩⟩
theorem mi_range2 (hm : X.mg "range" = none) (ha : MA X G [a, b] tt) (hg : Gl X "range" := by rfl) (hs : starEach [a, b] X.env = [(false, eval a X.env), (false, eval b X.env)] := by rfl) (hs2 : starEach [b] X.env = [(false, eval b X.env)] := by rfl) : MI X G tg (.Call (.Name "range" p) [a, b] [] pos) (iRange2 tt) :=
  ⟨_, pi_range2 hg hm ha hs hs2, fun σ H R ⟨env, M, Qi, s, h, q⟩ => ⟨env, M, _, s, h, fun ds vs M1 H1 m1 p1 r1 h1 => by
    match ds, r1, h1 with
    | [.int i, .int j], r1, h1 =>
      obtain ⟨v, w, rfl, r1, r2⟩ := r1.inv2
      cases r1
      cases r2
      exact ⟨i, j, rfl, h1.1, q _ _ _ _ _ m1 p1 ⟨walks_rng0, fun _ _ => walks_rng0⟩ h1.2⟩⟩⟩
end
end Dl
end
section
set_option Elab.async false
set_option linter.all false
set_option maxRecDepth 100000
set_option maxHeartbeats 1000000
namespace Dl
open PySem PySem.Spec PyProof.Rows L2
section
variable {K : PySem.W.Frag} {G : Gd} {hid : HidL} {M : Mh} {H : Hp} {Qm : DQ} {Q : VK}
/-- a value that makes no object -/
theorem ThenV.pure (q : ThenV K G M H Qm Q) (m : RelM K G.hid M H) {d : D} {v : V} (r : Rep K G.hid M H d v) (h : Qm d M) : Q v H := q d v M H m (.refl _ _) r h
theorem ThenV.tup (q : ThenV K G M H Qm Q) (m : RelM K G.hid M H) {ds : List D} {vs : List V} {p : Addr} (hp : H p = none) (r : Reps K G.hid M H ds vs) (h : Qm (.tup ds) M) : Q (.ref p) (upd H p (.tup vs)) :=
  q _ _ M _ (m.new hp) (pers_new hp) (rep_newT m hp r) h
theorem ThenV.lst (q : ThenV K G M H Qm Q) (m : RelM K G.hid M H) {ds : List D} {vs : List V} {p : Addr} (hp : H p = none) (r : Reps K G.hid M H ds vs) (h : Qm (.lst ds) M) : Q (.ref p) (upd H p (.lst vs)) :=
  q _ _ M _ (m.new hp) (pers_new hp) (rep_newL m hp r) h
end
section
variable {X : Cx} {G : Gd}
/-- a list that is data, in the heap -/
theorem lst_at {pins : List (Addr × Obj)} {s : Shared} {σ : St} {H : Hp} {a : Addr} {vs : List V} (I : Inv X pins σ H s) (h : Rd H a (.lst vs)) :
    ∃ (its : List Value) (n : Nat), Vals vs its ∧ s.heap.get? a = some { cls := .type "list", data := .seq its.toArray n } ∧ vs.length ≤ sizeLine := by
  obtain ⟨z, its, n, r, e⟩ := h.ok I.hok
  exact ⟨its, n, r, e, z⟩
/-- a new list object behind the heap -/
theorem lst_new {pins : List (Addr × Obj)} {s : Shared} {σ : St} {H : Hp} {vs : List V} {its : List Value} {n : Nat} {Q : VK} (I : Inv X pins σ H s) (r : Vals vs its) (hz : vs.length ≤ sizeLine) (q : ∀ p, H p = none → Q (.ref p) (upd H p (.lst vs))) :
    EP X pins σ Q (.ref s.heap.objs.size) { s with heap := s.heap.push { cls := .type "list", data := .seq its.toArray n } } :=
  ⟨.ref s.heap.objs.size, _, I.laid (t' := s.toks) (fun b o e => Heap.get?_push_of_some _ e) (Nat.le_refl _) (show ObjOk X.prog X.w _ _ _ (.lst vs) from ⟨hz, its, n, r, Heap.get?_push_size _ rfl⟩), rfl, q _ (I.hok.fresh (Nat.le_refl _))⟩
theorem S_lt (a b : List Nat) : decide ((S a).cps.toList < (S b).cps.toList) = ltS a b := rfl
/-! ### + - * // % ** -/
theorem om_add : OpM X G (binaryOp .Add) rAdd := by
  intro pins s σ H x y v u Q I rx ry h
  obtain ⟨d, e, M, Qm, m, r1, r2, h, q⟩ := h
  unfold rAdd at h
  split at h
  · cases r1; cases r2
    exact op_add pins s σ H _ _ v u Q I rx ry ⟨_, _, rfl, rfl, q.pure m (.int _) h⟩
  · cases r1; cases r2
    refine op_add_str pins s σ H _ _ v u Q I rx ry ⟨_, _, rfl, rfl, by rw [S_len, S_len, ← line_eq]; exact h.1, ?_⟩
    rw [S_app]
    exact q.pure m (.str _) h.2
  · cases r1 with
    | @tup a _ vs ha ra =>
      cases r2 with
      | @tup b _ ws hb rb =>
        refine op_catA pins s σ H _ _ v u Q I rx ry ⟨a, b, vs, ws, rfl, rfl, ha.sq, hb.sq, by rw [← ra.length, ← rb.length, ← line_eq]; exact h.1, fun e => ?_, fun e1 e2 => ?_, fun e1 e2 p hp => ?_⟩
        · subst e
          cases ra
          exact q.pure m (.tup hb rb) h.2
        · subst e2
          cases rb
          exact q.pure m (.tup ha ra) (by simpa using h.2)
        · exact q.tup m hp (ra.append rb) h.2
  · cases r1 with
    | @lst a _ vs ha ra =>
      cases r2 with
      | @lst b _ ws hb rb =>
        cases rx; cases ry
        obtain ⟨i1, v1, ⟨⟨c1, dd1, da1, sl1⟩, n1, e1, hc1, hd1, hs1⟩, z1⟩ := I.list ha.sq
        obtain ⟨i2, v2, ⟨⟨c2, dd2, da2, sl2⟩, n2, e2, hc2, hd2, hs2⟩, z2⟩ := I.list hb.sq
        simp only at hc1 hd1 hs1 hc2 hd2 hs2
        subst hc1 hd1 hs1 hc2 hd2 hs2
        have hl : vs.length + ws.length ≤ sizeLine := by rw [← ra.length, ← rb.length, ← line_eq]; exact h.1
        have l1 := v1.length
        have l2 := v2.length
        refine concat_meets ⟨_, e1, rfl⟩ ⟨_, e2, rfl⟩ noFill_list_add seq_list_add PySem.F.slot_list_add PySem.F.entry_list_add (PySem.F.args_list_add_2 _ _) (PyProof.Rows.list_addW a b i1.toArray i2.toArray n1 n2 none none sl1 sl2 (by rw [List.size_toArray, List.size_toArray]; omega)) ⟨e1, e2, ?_⟩
        rw [show i1.toArray ++ i2.toArray = (i1 ++ i2).toArray by simp]
        exact lst_new I (v1.append v2) (by rw [List.length_append]; exact hl) fun p hp => q.lst m hp (ra.append rb) h.2
  · exact h.elim
theorem om_sub : OpM X G (binaryOp .Sub) rSub := by
  intro pins s σ H x y v u Q I rx ry h
  obtain ⟨d, e, M, Qm, m, r1, r2, h, q⟩ := h
  unfold rSub at h
  split at h
  · cases r1; cases r2
    exact op_sub pins s σ H _ _ v u Q I rx ry ⟨_, _, rfl, rfl, q.pure m (.int _) h⟩
  · exact h.elim
theorem Sz.log {n : Nat} {i : Int} (h : Sz n i) (h0 : 0 < n) : i.natAbs.log2 < n := PySem.Flt.log2_lt_of h0 h
theorem Sz.rng {i : Int} (h : Sz 64 i) : -(2 ^ 64) < i ∧ i < 2 ^ 64 := by
  unfold Sz at h
  omega
theorem reps_flat (n : Nat) (s : List Nat) : ∀ (acc : Array Nat), ((List.replicate n s.toArray).foldl (· ++ ·) acc).toList = acc.toList ++ (List.replicate n s).flatten := by
  induction n with
  | zero => intro acc; simp
  | succ n ih =>
    intro acc
    rw [List.replicate_succ, List.foldl_cons, ih]
    simp [List.replicate_succ]
theorem txt_mul (s : List Nat) (j : Int) : Txt.mul (S s) j = S ((List.replicate j.toNat s).flatten) := by
  unfold Txt.mul
  by_cases h1 : j < 1
  · rw [if_pos h1]
    have : j.toNat = 0 := by omega
    rw [this]; rfl
  · rw [if_neg h1]
    by_cases h2 : (j == 1 || (S s).length == 0) = true
    · rw [if_pos h2]
      rcases Bool.or_eq_true_iff.mp h2 with z | z
      · have e := beq_iff_eq.mp z
        subst e
        simp
      · have e := beq_iff_eq.mp z
        rw [S_len] at e
        have e2 := List.length_eq_zero_iff.mp e
        subst e2
        simp
    · rw [if_neg h2]
      have e := reps_flat j.toNat s #[]
      unfold S
      congr 1
      apply Array.toList_inj.mp
      rw [e]; simp
theorem om_mul : OpM X G (binaryOp .Mult) rMul := by
  intro pins s σ H x y v u Q I rx ry h
  obtain ⟨d, e, M, Qm, m, r1, r2, h, q⟩ := h
  unfold rMul at h
  split at h
  · cases r1; cases r2
    rcases h.1 with z | z | ⟨z1, z2⟩
    · exact op_mul pins s σ H _ _ v u Q I rx ry ⟨_, _, rfl, rfl, .inl z.rng, q.pure m (.int _) h.2⟩
    · exact op_mul pins s σ H _ _ v u Q I rx ry ⟨_, _, rfl, rfl, .inr z.rng, q.pure m (.int _) h.2⟩
    · refine op_mulW pins s σ H _ _ v u Q I rx ry ⟨_, _, rfl, rfl, ?_, q.pure m (.int _) h.2⟩
      have h1 := z1.log (by decide)
      have h2 := z2.log (by decide)
      unfold CMulW
      omega
  · cases r1; cases r2
    rename_i s' j
    obtain ⟨t, rfl⟩ := rx
    obtain ⟨t', rfl⟩ := ry
    obtain ⟨h1, h2, h3, h4⟩ := h
    refine SB.mul (x := S s') (n := j) ⟨?_, fun hn _ => ?_, fun _ _ => ?_⟩ fun t' k => ⟨.str _, H, I.tok _, ⟨t', rfl⟩, by rw [txt_mul]; exact q.pure m (.str _) h4⟩
    · have e1 : ¬ j < -(2 ^ 63 : Int) := by omega
      have e2 : ¬ j ≥ 2 ^ 63 := by omega
      rw [decide_eq_false e1, decide_eq_false e2]; rfl
    · rw [S_len]
      have hj : (j.toNat : Int) = j := Int.toNat_of_nonneg (by omega)
      have h5 : (s'.length : Int) * j ≤ 16777216 := by
        rw [← hj]
        have h7 : s'.length * j.toNat ≤ 16777216 := h3
        have h8 := Int.ofNat_le.mpr h7
        rw [Int.natCast_mul] at h8
        exact h8
      have h6 : (s'.length : Int) ≤ (2 ^ 63 - 1) / j := by
        rw [Int.le_ediv_iff_mul_le (by omega)]
        omega
      omega
    · rw [S_len]
      unfold Builtin.Str.tooLong
      exact decide_eq_false (by rw [← line_eq]; omega)
  · exact h.elim
theorem om_fdiv : OpM X G (binaryOp .FloorDiv) rFdiv := by
  intro pins s σ H x y v u Q I rx ry h
  obtain ⟨d, e, M, Qm, m, r1, r2, h, q⟩ := h
  unfold rFdiv at h
  split at h
  · cases r1; cases r2
    have hz := h.2.1.log (by decide)
    exact op_fdivW pins s σ H _ _ v u Q I rx ry ⟨_, _, rfl, rfl, ⟨h.1, by omega⟩, q.pure m (.int _) h.2.2⟩
  · exact h.elim
theorem om_mod : OpM X G (binaryOp .Mod) rMod := by
  intro pins s σ H x y v u Q I rx ry h
  obtain ⟨d, e, M, Qm, m, r1, r2, h, q⟩ := h
  unfold rMod at h
  split at h
  · cases r1; cases r2
    exact op_mod pins s σ H _ _ v u Q I rx ry ⟨_, _, rfl, rfl, h.1, q.pure m (.int _) h.2⟩
  · exact h.elim
theorem om_pow : OpM X G (binaryOp .Pow) rPow := by
  intro pins s σ H x y v u Q I rx ry h
  obtain ⟨d, e, M, Qm, m, r1, r2, h, q⟩ := h
  unfold rPow at h
  split at h
  · cases r1; cases r2
    have hz : Sz 63 _ := h.2.2.1
    unfold Sz at hz
    exact op_pow pins s σ H _ _ v u Q I rx ry ⟨_, _, rfl, rfl, ⟨h.1, h.2.1, by omega⟩, q.pure m (.int _) h.2.2.2⟩
  · exact h.elim
theorem um_neg : UnM X G (unaryOp .USub) rNeg := by
  intro pins s σ H x v Q I rx h
  obtain ⟨d, M, Qm, m, r1, h, q⟩ := h
  unfold rNeg at h
  split at h
  · cases r1
    exact un_neg pins s σ H _ v Q I rx ⟨_, rfl, q.pure m (.int _) h⟩
  · exact h.elim
/-! ### in place -/
theorem im_add : OpM X G (inplaceOp .Add) rAddI := by
  intro pins s σ H x y v u Q I rx ry h
  obtain ⟨d, e, M, Qm, m, r1, r2, h, q⟩ := h
  unfold rAddI at h
  split at h
  · cases r1; cases r2
    exact iop_add pins s σ H _ _ v u Q I rx ry ⟨_, _, rfl, rfl, q.pure m (.int _) h⟩
  · cases r1; cases r2
    refine iop_add_str pins s σ H _ _ v u Q I rx ry ⟨_, _, rfl, rfl, by rw [S_len, S_len, ← line_eq]; exact h.1, ?_⟩
    rw [S_app]
    exact q.pure m (.str _) h.2
  · exact h.elim
theorem im_sub : OpM X G (inplaceOp .Sub) rSub := by
  intro pins s σ H x y v u Q I rx ry h
  obtain ⟨d, e, M, Qm, m, r1, r2, h, q⟩ := h
  unfold rSub at h
  split at h
  · cases r1; cases r2
    exact iop_sub pins s σ H _ _ v u Q I rx ry ⟨_, _, rfl, rfl, q.pure m (.int _) h⟩
  · exact h.elim

/-! ### == != -/
mutual
def toPy : D → PyData
  | .non => .none
  | .bl b => .bool b
  | .int i => .int i
  | .str l => .str (S l)
  | .lst xs => .list (toPys xs)
  | .tup xs => .tuple (toPys xs)
  | .ty _ => .none
  | .obj _ => .none
def toPys : List D → List PyData
  | [] => []
  | x :: xs => toPy x :: toPys xs
end
mutual
theorem eqv_py : ∀ (a b : D), plain a = true → plain b = true → PyData.eqv (toPy a) (toPy b) = eqv a b
  | .lst xs, .lst ys, h1, h2 => by
    show PyData.eqvAll (toPys xs) (toPys ys) = eqvs xs ys
    exact eqvs_py xs ys h1 h2
  | .tup xs, .tup ys, h1, h2 => by
    show PyData.eqvAll (toPys xs) (toPys ys) = eqvs xs ys
    exact eqvs_py xs ys h1 h2
  | .str x, .str y, _, _ => by
    show (S x == S y) = (x == y)
    by_cases e : x = y
    · subst e; simp
    · rw [beq_eq_false_iff_ne.mpr e, beq_eq_false_iff_ne.mpr fun z => e (S_inj z)]
  | .non, b, _, h2 => by cases b <;> first | rfl | cases h2
  | .bl a, b, _, h2 => by cases b <;> first | rfl | cases h2
  | .int a, b, _, h2 => by cases b <;> first | rfl | cases h2
  | .str a, .non, _, _ => rfl
  | .str a, .bl _, _, _ => rfl
  | .str a, .int _, _, _ => rfl
  | .str a, .lst _, _, _ => rfl
  | .str a, .tup _, _, _ => rfl
  | .str a, .ty _, _, h2 => by cases h2
  | .str a, .obj _, _, h2 => by cases h2
  | .lst a, .non, _, _ => rfl
  | .lst a, .bl _, _, _ => rfl
  | .lst a, .int _, _, _ => rfl
  | .lst a, .str _, _, _ => rfl
  | .lst a, .tup _, _, _ => rfl
  | .lst a, .ty _, _, h2 => by cases h2
  | .lst a, .obj _, _, h2 => by cases h2
  | .tup a, .non, _, _ => rfl
  | .tup a, .bl _, _, _ => rfl
  | .tup a, .int _, _, _ => rfl
  | .tup a, .str _, _, _ => rfl
  | .tup a, .lst _, _, _ => rfl
  | .tup a, .ty _, _, h2 => by cases h2
  | .tup a, .obj _, _, h2 => by cases h2
  | .ty _, _, h1, _ => by cases h1
  | .obj _, _, h1, _ => by cases h1
theorem eqvs_py : ∀ (a b : List D), plains a = true → plains b = true → PyData.eqvAll (toPys a) (toPys b) = eqvs a b
  | [], [], _, _ => rfl
  | [], _ :: _, _, _ => rfl
  | _ :: _, [], _, _ => rfl
  | a :: as, b :: bs, h1, h2 => by
    have g1 := Bool.and_eq_true_iff.mp h1
    have g2 := Bool.and_eq_true_iff.mp h2
    show (PyData.eqv (toPy a) (toPy b) && PyData.eqvAll (toPys as) (toPys bs)) = (eqv a b && eqvs as bs)
    rw [eqv_py a b g1.1 g2.1, eqvs_py as bs g1.2 g2.2]
end
mutual
theorem lay_py : ∀ d : D, plain d = true → (toPy d).canLay0 = true ∧ (toPy d).depth = deep d
  | .non, _ => ⟨rfl, rfl⟩
  | .bl _, _ => ⟨rfl, rfl⟩
  | .int _, _ => ⟨rfl, rfl⟩
  | .str l, h => ⟨by
      show PyData.strOk (S l) = true
      unfold PyData.strOk S
      have h' : l.all (· < 1114112) = true := h
      rw [← Array.all_toList]
      exact h', rfl⟩
  | .lst xs, h => by
    obtain ⟨h1, h2⟩ := lays_py xs h
    exact ⟨h1, by show PyData.depthAll (toPys xs) + 1 = deeps xs + 1; rw [h2]⟩
  | .tup xs, h => by
    obtain ⟨h1, h2⟩ := lays_py xs h
    exact ⟨h1, by show PyData.depthAll (toPys xs) + 1 = deeps xs + 1; rw [h2]⟩
  | .ty _, h => by cases h
  | .obj _, h => by cases h
theorem lays_py : ∀ ds : List D, plains ds = true → PyData.canLayAll0 (toPys ds) = true ∧ PyData.depthAll (toPys ds) = deeps ds
  | [], _ => ⟨rfl, rfl⟩
  | d :: ds, h => by
    have g := Bool.and_eq_true_iff.mp h
    obtain ⟨h1, h2⟩ := lay_py d g.1
    obtain ⟨h3, h4⟩ := lays_py ds g.2
    exact ⟨Bool.and_eq_true_iff.mpr ⟨h1, h3⟩, by show max (toPy d).depth (PyData.depthAll (toPys ds)) = max (deep d) (deeps ds); rw [h2, h4]⟩
end
mutual
theorem rep_dp {K : PySem.W.Frag} {hid : HidL} {M : Mh} {H : Hp} : ∀ {d : D} {v : V}, Rep K hid M H d v → plain d = true → Dp K H v (toPy d)
  | _, _, .non, _ => .non
  | _, _, .bl b, _ => .bl b
  | _, _, .int i, _ => .int i
  | _, _, .str l, _ => .str (S l)
  | _, _, .tup h rs, p => .tup h.sq (reps_dp rs p)
  | _, _, .lst h rs, p => .lst h.sq (reps_dp rs p)
  | _, _, .ty _, p => by cases p
  | _, _, .obj _, p => by cases p
theorem reps_dp {K : PySem.W.Frag} {hid : HidL} {M : Mh} {H : Hp} : ∀ {ds : List D} {vs : List V}, Reps K hid M H ds vs → plains ds = true → DpAll K H vs (toPys ds)
  | _, _, .nil, _ => .nil
  | _, _, .cons r rs, p => .cons (rep_dp r (Bool.and_eq_true_iff.mp p).1) (reps_dp rs (Bool.and_eq_true_iff.mp p).2)
end
theorem eqv_flat {K : PySem.W.Frag} {hid : HidL} {M : Mh} {H : Hp} {d e : D} {x y : V} (r1 : Rep K hid M H d x) (r2 : Rep K hid M H e y) (h : flat d = true) (h' : flat e = true) : (scal x y = true ∧ decide (x = y) = eqv d e) ∨ (plain d = true ∧ plain e = true ∧ deep d ≤ 60 ∧ deep e ≤ 60) := by
  cases r1 <;> first | (cases h; done) | skip
  all_goals (cases r2 <;> first | (cases h'; done) | skip)
  all_goals first
    | exact .inl ⟨rfl, rfl⟩
    | exact .inr ⟨rfl, rfl, Nat.zero_le _, Nat.zero_le _⟩
    | exact .inl ⟨rfl, dec_bl⟩
    | exact .inl ⟨rfl, dec_int⟩
    | exact .inl ⟨rfl, decide_eq_false fun z => by cases z⟩
    | (refine .inl ⟨rfl, ?_⟩
       rename_i a b
       show decide (V.str (S a) = V.str (S b)) = (a == b)
       by_cases z : a = b
       · rw [z, beq_self_eq_true]
         exact decide_eq_true rfl
       · rw [beq_eq_false_iff_ne.mpr z]
         exact decide_eq_false fun q => z (S_inj (V.str.inj q)))
theorem om_eq (hu : X.A.units + 64 < cLine) : OpM X G (compareOp .Eq) rEq := by
  intro pins s σ H x y v u Q I rx ry h
  obtain ⟨d, e, M, Qm, m, r1, r2, ⟨ho, h⟩, q⟩ := h
  have big : plain d = true → plain e = true → deep d ≤ 60 → deep e ≤ 60 → wpAny (model X.prog X.w) X.A (compareOp .Eq v u) (EP X pins σ Q) X.xe s := fun p1 p2 d1 d2 => by
    obtain ⟨c1, e1⟩ := lay_py d p1
    obtain ⟨c2, e2⟩ := lay_py e p2
    refine op_eqD hu pins s σ H x y v u Q I rx ry ⟨_, _, rep_dp r1 p1, rep_dp r2 p2, Bool.and_eq_true_iff.mpr ⟨c1, decide_eq_true (by omega)⟩, Bool.and_eq_true_iff.mpr ⟨c2, decide_eq_true (by omega)⟩, ?_⟩
    rw [eqv_py d e p1 p2]
    exact q.pure m (.bl _) h
  unfold eqOk at ho
  simp only [Bool.or_eq_true, Bool.and_eq_true, decide_eq_true_eq] at ho
  rcases ho with ⟨f1, f2⟩ | ⟨⟨⟨p1, p2⟩, d1⟩, d2⟩
  · rcases eqv_flat r1 r2 f1 f2 with ⟨z1, z2⟩ | ⟨p1, p2, d1, d2⟩
    · refine op_eq pins s σ H x y v u Q I rx ry ⟨z1, ?_⟩
      rw [z2]
      exact q.pure m (.bl _) h
    · exact big p1 p2 d1 d2
  · exact big p1 p2 d1 d2
theorem om_ne (hu : X.A.units + 64 < cLine) : OpM X G (compareOp .NotEq) rNe := by
  intro pins s σ H x y v u Q I rx ry h
  obtain ⟨d, e, M, Qm, m, r1, r2, ⟨ho, h⟩, q⟩ := h
  have big : plain d = true → plain e = true → deep d ≤ 60 → deep e ≤ 60 → wpAny (model X.prog X.w) X.A (compareOp .NotEq v u) (EP X pins σ Q) X.xe s := fun p1 p2 d1 d2 => by
    obtain ⟨c1, e1⟩ := lay_py d p1
    obtain ⟨c2, e2⟩ := lay_py e p2
    refine op_neD hu pins s σ H x y v u Q I rx ry ⟨_, _, rep_dp r1 p1, rep_dp r2 p2, Bool.and_eq_true_iff.mpr ⟨c1, decide_eq_true (by omega)⟩, Bool.and_eq_true_iff.mpr ⟨c2, decide_eq_true (by omega)⟩, ?_⟩
    rw [eqv_py d e p1 p2]
    exact q.pure m (.bl _) h
  unfold eqOk at ho
  simp only [Bool.or_eq_true, Bool.and_eq_true, decide_eq_true_eq] at ho
  rcases ho with ⟨f1, f2⟩ | ⟨⟨⟨p1, p2⟩, d1⟩, d2⟩
  · rcases eqv_flat r1 r2 f1 f2 with ⟨z1, z2⟩ | ⟨p1, p2, d1, d2⟩
    · refine op_ne pins s σ H x y v u Q I rx ry ⟨z1, ?_⟩
      rw [z2]
      exact q.pure m (.bl _) h
    · exact big p1 p2 d1 d2
  · exact big p1 p2 d1 d2
/-! ### < <= > >= -/
mutual
theorem alike_py : ∀ (a b : D), plain a = true → plain b = true → alikeD a b = true → PySem.W.alike (toPy a) (toPy b) = true
  | .non, b, _, _, h => by cases b <;> first | rfl | cases h
  | .bl _, b, _, _, h => by cases b <;> first | rfl | cases h
  | .int _, b, _, _, h => by cases b <;> first | rfl | cases h
  | .str _, b, _, _, h => by cases b <;> first | rfl | cases h
  | .lst xs, .lst ys, h1, h2, h => by
    show PySem.W.alikeAll (toPys xs) (toPys ys) = true
    exact alikes_py xs ys h1 h2 h
  | .tup xs, .tup ys, h1, h2, h => by
    show PySem.W.alikeAll (toPys xs) (toPys ys) = true
    exact alikes_py xs ys h1 h2 h
  | .lst _, .non, _, _, h => by cases h
  | .lst _, .bl _, _, _, h => by cases h
  | .lst _, .int _, _, _, h => by cases h
  | .lst _, .str _, _, _, h => by cases h
  | .lst _, .ty _, _, _, h => by cases h
  | .lst _, .obj _, _, _, h => by cases h
  | .lst _, .tup _, _, _, h => by cases h
  | .tup _, .non, _, _, h => by cases h
  | .tup _, .bl _, _, _, h => by cases h
  | .tup _, .int _, _, _, h => by cases h
  | .tup _, .str _, _, _, h => by cases h
  | .tup _, .ty _, _, _, h => by cases h
  | .tup _, .obj _, _, _, h => by cases h
  | .tup _, .lst _, _, _, h => by cases h
  | .ty _, _, h1, _, _ => by cases h1
  | .obj _, _, h1, _, _ => by cases h1
theorem alikes_py : ∀ (a b : List D), plains a = true → plains b = true → alikeDs a b = true → PySem.W.alikeAll (toPys a) (toPys b) = true
  | [], _, _, _, _ => by simp [toPys, PySem.W.alikeAll]
  | _ :: _, [], _, _, _ => by simp [toPys, PySem.W.alikeAll]
  | a :: as, b :: bs, h1, h2, h => by
    have g1 := Bool.and_eq_true_iff.mp h1
    have g2 := Bool.and_eq_true_iff.mp h2
    have g := Bool.and_eq_true_iff.mp h
    show PySem.W.alikeAll (toPy a :: toPys as) (toPy b :: toPys bs) = true
    rw [PySem.W.alikeAll, alike_py a b g1.1 g2.1 g.1, alikes_py as bs g1.2 g2.2 g.2]
    rfl
end
mutual
theorem lt_py : ∀ (a b : D), plain a = true → plain b = true → alikeD a b = true → PySem.W.dataLt (toPy a) (toPy b) = ltD a b
  | .non, .non, _, _, _ => by simp [toPy, PySem.W.dataLt, PySem.W.keyToks, ltD]; exact lex_irrefl _
  | .bl a, .bl b, _, _, _ => by
    show PySem.W.dataLt (.bool a) (.bool b) = _
    rw [PySem.W.dataLt_bool]; rfl
  | .int a, .int b, _, _, _ => PySem.W.dataLt_int a b
  | .str a, .str b, _, _, _ => PySem.W.dataLt_str (S a) (S b)
  | .lst xs, .lst ys, h1, h2, h => by
    show PySem.W.dataLt (.list (toPys xs)) (.list (toPys ys)) = ltDs xs ys
    rw [PySem.W.dataLt_list]
    exact lts_py xs ys h1 h2 h
  | .tup xs, .tup ys, h1, h2, h => by
    show PySem.W.dataLt (.tuple (toPys xs)) (.tuple (toPys ys)) = ltDs xs ys
    rw [PySem.W.dataLt_tuple]
    exact lts_py xs ys h1 h2 h
  | .non, .bl _, _, _, h => by cases h
  | .non, .int _, _, _, h => by cases h
  | .non, .str _, _, _, h => by cases h
  | .non, .tup _, _, _, h => by cases h
  | .non, .lst _, _, _, h => by cases h
  | .bl _, .non, _, _, h => by cases h
  | .bl _, .int _, _, _, h => by cases h
  | .bl _, .str _, _, _, h => by cases h
  | .bl _, .tup _, _, _, h => by cases h
  | .bl _, .lst _, _, _, h => by cases h
  | .int _, .non, _, _, h => by cases h
  | .int _, .bl _, _, _, h => by cases h
  | .int _, .str _, _, _, h => by cases h
  | .int _, .tup _, _, _, h => by cases h
  | .int _, .lst _, _, _, h => by cases h
  | .str _, .non, _, _, h => by cases h
  | .str _, .bl _, _, _, h => by cases h
  | .str _, .int _, _, _, h => by cases h
  | .str _, .tup _, _, _, h => by cases h
  | .str _, .lst _, _, _, h => by cases h
  | .lst _, .non, _, _, h => by cases h
  | .lst _, .bl _, _, _, h => by cases h
  | .lst _, .int _, _, _, h => by cases h
  | .lst _, .str _, _, _, h => by cases h
  | .lst _, .tup _, _, _, h => by cases h
  | .tup _, .non, _, _, h => by cases h
  | .tup _, .bl _, _, _, h => by cases h
  | .tup _, .int _, _, _, h => by cases h
  | .tup _, .str _, _, _, h => by cases h
  | .tup _, .lst _, _, _, h => by cases h
  | .ty _, _, h1, _, _ => by cases h1
  | .obj _, _, h1, _, _ => by cases h1
  | _, .ty _, _, h2, _ => by cases h2
  | _, .obj _, _, h2, _ => by cases h2
theorem lts_py : ∀ (a b : List D), plains a = true → plains b = true → alikeDs a b = true → PyProof.Rows.lexLt PyProof.Rows.itemOrd (PySem.W.keyToksAll (toPys a)) (PySem.W.keyToksAll (toPys b)) = ltDs a b
  | [], [], _, _, _ => lex_irrefl _
  | [], b :: bs, _, _, _ => by
    show PyProof.Rows.lexLt PyProof.Rows.itemOrd (PySem.W.keyToksAll []) (PySem.W.keyToksAll (toPy b :: toPys bs)) = true
    rw [show PySem.W.keyToksAll [] = [Sum.inl 0] by simp [PySem.W.keyToksAll], PySem.W.toks_all_cons, lex_diff (by intro z; cases z)]
    rfl
  | a :: as, [], _, _, _ => by
    show PyProof.Rows.lexLt PyProof.Rows.itemOrd (PySem.W.keyToksAll (toPy a :: toPys as)) (PySem.W.keyToksAll []) = false
    rw [show PySem.W.keyToksAll [] = [Sum.inl 0] by simp [PySem.W.keyToksAll], PySem.W.toks_all_cons, lex_diff (by intro z; cases z)]
    rfl
  | a :: as, b :: bs, h1, h2, h => by
    have g1 := Bool.and_eq_true_iff.mp h1
    have g2 := Bool.and_eq_true_iff.mp h2
    have g := Bool.and_eq_true_iff.mp h
    show PyProof.Rows.lexLt PyProof.Rows.itemOrd (PySem.W.keyToksAll (toPy a :: toPys as)) (PySem.W.keyToksAll (toPy b :: toPys bs)) = if eqv a b = true then ltDs as bs else ltD a b
    rw [PySem.W.dataLt_cons (alike_py a b g1.1 g2.1 g.1), eqv_py a b g1.1 g2.1, lts_py as bs g1.2 g2.2 g.2, lt_py a b g1.1 g2.1 g.1]
end
mutual
theorem alike_symm : ∀ a b : D, alikeD a b = true → alikeD b a = true
  | .non, b, h => by cases b <;> first | rfl | cases h
  | .bl _, b, h => by cases b <;> first | rfl | cases h
  | .int _, b, h => by cases b <;> first | rfl | cases h
  | .str _, b, h => by cases b <;> first | rfl | cases h
  | .lst xs, b, h => by
    cases b with
    | lst ys => exact alikes_symm xs ys h
    | _ => cases h
  | .tup xs, b, h => by
    cases b with
    | tup ys => exact alikes_symm xs ys h
    | _ => cases h
  | .ty _, b, h => by cases b <;> cases h
  | .obj _, b, h => by cases b <;> cases h
theorem alikes_symm : ∀ a b : List D, alikeDs a b = true → alikeDs b a = true
  | [], b, _ => by cases b <;> rfl
  | _ :: _, [], _ => rfl
  | a :: as, b :: bs, h => by
    have g := Bool.and_eq_true_iff.mp h
    exact Bool.and_eq_true_iff.mpr ⟨alike_symm a b g.1, alikes_symm as bs g.2⟩
end
theorem cmp_rd {K : PySem.W.Frag} {hid : HidL} {M : Mh} {H : Hp} {d e : D} {x y : V} (r1 : Rep K hid M H d x) (r2 : Rep K hid M H e y) (h : cmpOk d e = true) :
    (∃ i j, d = .int i ∧ e = .int j ∧ x = .int i ∧ y = .int j) ∨ (∃ a b, d = .str a ∧ e = .str b ∧ x = .str (S a) ∧ y = .str (S b)) ∨ (plain d = true ∧ plain e = true ∧ alikeD d e = true ∧ deep d ≤ 60 ∧ d ≠ .non) := by
  have hn : d ≠ .non := fun z => by
    subst z
    cases e <;> cases h
  unfold cmpOk at h
  split at h
  · cases r1; cases r2; exact .inl ⟨_, _, rfl, rfl, rfl, rfl⟩
  · cases r1; cases r2; exact .inr (.inl ⟨_, _, rfl, rfl, rfl, rfl⟩)
  · cases h
  · simp only [Bool.and_eq_true, decide_eq_true_eq] at h
    exact .inr (.inr ⟨h.1.1.1, h.1.1.2, h.1.2, h.2, hn⟩)
section
variable (hu : X.A.units + 64 < cLine)
include hu
theorem cmp_reads {pins : List (Addr × Obj)} {s : Shared} {σ : St} {H : Hp} {M : Mh} {d e : D} {x y : V} {v u : Value} (I : Inv X pins σ H s) (rx : RelV x v) (ry : RelV y u) (r1 : Rep X.K G.hid M H d x) (r2 : Rep X.K G.hid M H e y) (p1 : plain d = true) (p2 : plain e = true) (al : alikeD d e = true) (dp : deep d ≤ 60) (n : d ≠ .non) :
    ∃ as bs, Reads s.heap v (toPy d) as ∧ Reads s.heap u (toPy e) bs ∧ PySem.W.alike (toPy d) (toPy e) = true ∧ toPy d ≠ .none ∧ X.A.units + min (toPy d).depth (toPy e).depth < cLine := by
  obtain ⟨as, q1⟩ := Dp.reads I _ x v (rep_dp r1 p1) rx
  obtain ⟨bs, q2⟩ := Dp.reads I _ y u (rep_dp r2 p2) ry
  refine ⟨as, bs, q1, q2, alike_py d e p1 p2 al, fun z => ?_, ?_⟩
  · cases d <;> first | exact n rfl | (cases p1; done) | (cases z; done)
  · have h1 := (lay_py d p1).2
    have h2 : min (toPy d).depth (toPy e).depth ≤ (toPy d).depth := Nat.min_le_left _ _
    omega
theorem om_lt : OpM X G (compareOp .Lt) rLt := by
  intro pins s σ H x y v u Q I rx ry ⟨d, e, M, Qm, m, r1, r2, ⟨ho, h⟩, q⟩
  rcases cmp_rd r1 r2 ho with ⟨i, j, rfl, rfl, rfl, rfl⟩ | ⟨a, b, rfl, rfl, rfl, rfl⟩ | ⟨p1, p2, al, dp, n⟩
  · exact op_lt pins s σ H _ _ v u Q I rx ry ⟨_, _, rfl, rfl, q.pure m (.bl _) h⟩
  · exact op_lt_str pins s σ H _ _ v u Q I rx ry ⟨_, _, rfl, rfl, q.pure m (.bl _) h⟩
  · obtain ⟨as, bs, q1, q2, al', n', hz⟩ := cmp_reads hu I rx ry r1 r2 p1 p2 al dp n
    exact PySem.W.lt_data q1 q2 al' n' hz ⟨.bl _, H, I, rfl, by rw [lt_py d e p1 p2 al]; exact q.pure m (.bl _) h⟩
theorem om_gt : OpM X G (compareOp .Gt) rGt := by
  intro pins s σ H x y v u Q I rx ry ⟨d, e, M, Qm, m, r1, r2, ⟨ho, h⟩, q⟩
  rcases cmp_rd r1 r2 ho with ⟨i, j, rfl, rfl, rfl, rfl⟩ | ⟨a, b, rfl, rfl, rfl, rfl⟩ | ⟨p1, p2, al, dp, n⟩
  · exact op_gt pins s σ H _ _ v u Q I rx ry ⟨_, _, rfl, rfl, q.pure m (.bl _) h⟩
  · exact op_gt_str pins s σ H _ _ v u Q I rx ry ⟨_, _, rfl, rfl, q.pure m (.bl _) h⟩
  · obtain ⟨as, bs, q1, q2, al', n', hz⟩ := cmp_reads hu I rx ry r1 r2 p1 p2 al dp n
    exact PySem.W.gt_data q1 q2 al' n' hz ⟨.bl _, H, I, rfl, by rw [lt_py e d p2 p1 (alike_symm d e al)]; exact q.pure m (.bl _) h⟩
theorem om_le : OpM X G (compareOp .LtE) rLe := by
  intro pins s σ H x y v u Q I rx ry ⟨d, e, M, Qm, m, r1, r2, ⟨ho, h⟩, q⟩
  rcases cmp_rd r1 r2 ho with ⟨i, j, rfl, rfl, rfl, rfl⟩ | ⟨a, b, rfl, rfl, rfl, rfl⟩ | ⟨p1, p2, al, dp, n⟩
  · refine op_le pins s σ H _ _ v u Q I rx ry ⟨_, _, rfl, rfl, q.pure m (.bl _) ?_⟩
    have e1 : (!ltD (.int j) (.int i)) = decide (i ≤ j) := PySem.W.not_lt_int i j
    rw [← e1]; exact h
  · exact op_le_str pins s σ H _ _ v u Q I rx ry ⟨_, _, rfl, rfl, q.pure m (.bl _) h⟩
  · obtain ⟨as, bs, q1, q2, al', n', hz⟩ := cmp_reads hu I rx ry r1 r2 p1 p2 al dp n
    exact PySem.W.le_data q1 q2 al' n' hz ⟨.bl _, H, I, rfl, by rw [lt_py e d p2 p1 (alike_symm d e al)]; exact q.pure m (.bl _) h⟩
theorem om_ge : OpM X G (compareOp .GtE) rGe := by
  intro pins s σ H x y v u Q I rx ry ⟨d, e, M, Qm, m, r1, r2, ⟨ho, h⟩, q⟩
  rcases cmp_rd r1 r2 ho with ⟨i, j, rfl, rfl, rfl, rfl⟩ | ⟨a, b, rfl, rfl, rfl, rfl⟩ | ⟨p1, p2, al, dp, n⟩
  · refine op_ge pins s σ H _ _ v u Q I rx ry ⟨_, _, rfl, rfl, q.pure m (.bl _) ?_⟩
    have e1 : (!ltD (.int i) (.int j)) = decide (j ≤ i) := PySem.W.not_lt_int j i
    rw [← e1]; exact h
  · exact op_ge_str pins s σ H _ _ v u Q I rx ry ⟨_, _, rfl, rfl, q.pure m (.bl _) h⟩
  · obtain ⟨as, bs, q1, q2, al', n', hz⟩ := cmp_reads hu I rx ry r1 r2 p1 p2 al dp n
    exact PySem.W.ge_data q1 q2 al' n' hz ⟨.bl _, H, I, rfl, by rw [lt_py d e p1 p2 al]; exact q.pure m (.bl _) h⟩
end
/-! ### is -/
theorem isNon_eq {K : PySem.W.Frag} {hid : HidL} {M : Mh} {H : Hp} {d : D} {x : V} (r : Rep K hid M H d x) : decide (x = .non) = isNon d := by
  cases r <;> rfl
theorem om_isN : OpM X G (compareOp .Is) (isNonR true) := by
  intro pins s σ H x y v u Q I rx ry h
  obtain ⟨d, e, M, Qm, m, r1, r2, h, q⟩ := h
  unfold isNonR at h
  split at h
  · cases r2
    refine op_isN pins s σ H _ _ v u Q I rx ry ⟨rfl, ?_⟩
    rw [isNon_eq r1]
    exact q.pure m (.bl _) (by simpa using h)
  · exact h.elim
theorem om_notN : OpM X G (compareOp .IsNot) (isNonR false) := by
  intro pins s σ H x y v u Q I rx ry h
  obtain ⟨d, e, M, Qm, m, r1, r2, h, q⟩ := h
  unfold isNonR at h
  split at h
  · cases r2
    refine op_notN pins s σ H _ _ v u Q I rx ry ⟨rfl, ?_⟩
    rw [isNon_eq r1]
    exact q.pure m (.bl _) (by simpa using h)
  · exact h.elim
/-- x is True, x is False of any data -/
theorem om_isB : OpM X G (compareOp .Is) (isBlR true) := by
  intro pins s σ H x y v u Q I rx ry h
  obtain ⟨d, e, M, Qm, m, r1, r2, h, q⟩ := h
  unfold isBlR at h
  split at h
  · rename_i c
    cases r2
    cases (show u = Value.bool c from ry)
    have no : isBl c d = false → (∀ z, v ≠ .builtin z) → v ≠ .bool c → wpAny (model X.prog X.w) X.A (compareOp .Is v (.bool c)) (EP X pins σ Q) X.xe s := fun e nb ne => by
      refine wpAny_is_other ?_ ne ⟨.bl false, H, I, rfl, q.pure m (.bl _) (by rw [e] at h; exact h)⟩
      cases v <;> first | rfl | exact absurd rfl (nb _)
    cases r1 with
    | bl b =>
      cases (show v = Value.bool b from rx)
      by_cases z : b = c
      · subst z
        exact wpAny_is_self rfl ⟨.bl true, H, I, rfl, q.pure m (.bl _) (by simpa [isBl] using h)⟩
      · exact no (by simp [isBl, z]) (fun _ w => by cases w) fun w => z (Value.bool.inj w)
    | non => cases rx; exact no rfl (fun _ w => by cases w) fun w => by cases w
    | int i => obtain ⟨t, rfl⟩ := rx; exact no rfl (fun _ w => by cases w) fun w => by cases w
    | str i => obtain ⟨t, rfl⟩ := rx; exact no rfl (fun _ w => by cases w) fun w => by cases w
    | ty n => cases rx; exact no rfl (fun _ w => by cases w) fun w => by cases w
    | obj n => cases rx; exact no rfl (fun _ w => by cases w) fun w => by cases w
    | tup _ _ => cases rx; exact no rfl (fun _ w => by cases w) fun w => by cases w
    | lst _ _ => cases rx; exact no rfl (fun _ w => by cases w) fun w => by cases w
  · exact h.elim
end
end Dl
end
section
set_option Elab.async false
set_option linter.all false
set_option maxRecDepth 100000
set_option maxHeartbeats 1000000
namespace Dl
open PySem PySem.Spec PyProof.Rows L2
section
variable {X : Cx} {G : Gd} {e a b c : Expr} {es rest : List Expr} {pos p2 : Pos} {t ta tb tc : DE} {tt : DA}
/-! ### subscripts -/
theorem atD_eq {α β : Type} {xs : List α} {ys : List β} (h : xs.length = ys.length) {i : Int} {d : α} (e : atD xs i = some d) : ∃ j, atIx ys.length i = some j ∧ ixN ys.length i = some j ∧ xs[j]? = some d := by
  unfold atD at e
  rw [h] at e
  cases q : atIx ys.length i with
  | none => rw [q] at e; cases e
  | some j => rw [q] at e; exact ⟨j, rfl, q, e⟩
theorem im_ix : IxR X (lift2 X.K G rIx) := by
  intro value slice pins s σ H x y v u Q I rx ry h hs
  obtain ⟨d, e, M, Qm, m, r1, r2, h, q⟩ := h
  unfold rIx at h
  split at h
  · cases r2
    cases r1 with
    | @tup a ds vs ht rs =>
      split at h
      · next d ed =>
        obtain ⟨j, h1, h2, h3⟩ := atD_eq rs.length ed
        obtain ⟨w, hw, rw'⟩ := rs.get h3
        exact ix_tup value slice pins s σ H _ _ v u Q I rx ry ⟨a, vs, _, w, rfl, rfl, ht.sq, by unfold atI; rw [h2]; exact hw, q.pure m rw' h⟩ hs
      · exact h.elim
  · cases r2
    cases r1 with
    | @lst a ds vs hl rs =>
      split at h
      · next d ed =>
        obtain ⟨j, h1, h2, h3⟩ := atD_eq rs.length ed
        obtain ⟨w, hw, rw'⟩ := rs.get h3
        exact ix_list value slice pins s σ H _ _ v u Q I rx ry ⟨a, vs, _, w, rfl, rfl, hl.sq, by unfold atI; rw [h2]; exact hw, q.pure m rw' h⟩ hs
      · exact h.elim
  · cases r2
    cases r1
    obtain ⟨hz, h⟩ := h
    split at h
    · next c ec =>
      obtain ⟨j, h1, h2, h3⟩ := atD_eq rfl ec
      exact ix_str value slice pins s σ H _ _ v u Q I rx ry ⟨S _, _, c, rfl, rfl, by rw [S_len, ← line_eq]; exact hz, by rw [S_cps]; unfold atI; rw [h2]; exact h3, q.pure m (.str [c]) h⟩ hs
    · exact h.elim
  · cases r2
    cases r1
    split at h
    · next a i xs em =>
      split at h
      · next d ed =>
        obtain ⟨vs, hv, rs⟩ := m.1 _ _ em
        obtain ⟨j, h1, h2, h3⟩ := atD_eq rs.length ed
        obtain ⟨w, hw, rw'⟩ := rs.get h3
        exact ix_list value slice pins s σ H _ _ v u Q I rx ry ⟨_, vs, _, w, rfl, rfl, .inl (.inl hv), by unfold atI; rw [h2]; exact hw, q.pure m rw' h⟩ hs
      · exact h.elim
    · exact h.elim
  · exact h.elim
theorem me_ix (ha : ME X G a ta) (hb : ME X G b tb) (hs : PlainIx b := by exact fun _ _ => rfl) : ME X G (.Subscript a b pos) (mOp rIx ta tb) :=
  PE.imp (pe_ix im_ix ha hb hs) fun _ _ _ h => bin_rd h
theorem sm_ix : SetM X G sIx := by
  intro pins s σ H o i v ov iv u Q I ro ri rv h
  obtain ⟨d1, d2, d3, M, Qm, m, r1, r2, r3, h, q⟩ := h
  unfold sIx at h
  split at h
  · next a i =>
    cases r1; cases r2
    split at h
    · next xs em =>
      split at h
      · next k ek =>
        obtain ⟨vs, hv, rs⟩ := m.1 _ _ em
        have p := pers_set (H := H) (p := a) (o := .lst (vs.set k v)) (m' := .lst (xs.set k d3)) em
        exact set_list pins s σ H _ _ v ov iv u Q I ro ri rv ⟨a, vs, _, k, rfl, rfl, hv, by rw [← rs.length]; exact ek, q _ _ (m.set p ⟨_, upd_same, (rs.set r3 k).pers m p⟩) p h⟩
      · exact h.elim
    · exact h.elim
  · exact h.elim
/-! ### slices -/
/-- a slice's end -/
abbrev MO' (X : Cx) (G : Gd) (e : Option Expr) (t : DO) : Prop := PO X e (liftO X.K G t)
theorem mo_none : MO' X G none oNone := ⟨fun pins s σ H Q I ⟨env, M, Qm, r, h, q⟩ => po_none.run pins s σ H Q I (q _ M H r.m (.refl _ _) h)⟩
theorem mo_some (h : ME X G e t) : MO' X G (some e) (oSome t) := ⟨fun pins s σ H Q I ⟨env, M, Qm, r, h', q⟩ => (po_some h).run pins s σ H Q I ⟨env, M, _, r, h', fun d v M1 H1 m1 p1 r1 h1 => by
  cases d with
  | int i => cases r1; exact ⟨i, rfl, q _ M1 H1 m1 p1 h1⟩
  | _ => exact h1.elim⟩⟩
def liftSl (K : PySem.W.Frag) (G : Gd) (r : D → Option Int → Option Int → Mh → DQ → Prop) : V → Option Int → Option Int → Hp → VK → Prop := fun x lo hi H Q => ∃ d M Qm, RelM K G.hid M H ∧ Rep K G.hid M H d x ∧ r d lo hi M Qm ∧ ThenV K G M H Qm Q
theorem cutI_eq (n d : Nat) (o : Option Int) : cutI n d o = HT.sIx n d o := by cases o <;> rfl
theorem cutS_eq (l : List Nat) (a b : Option Int) : cutS (S l) a b = S (cut l a b) := by
  unfold cutS cut S
  simp only [cutI_eq, Str.length, List.size_toArray]
theorem reps_cut {K : PySem.W.Frag} {hid : HidL} {M : Mh} {H : Hp} {ds : List D} {vs : List V} (r : Reps K hid M H ds vs) (a b : Option Int) : Reps K hid M H (cut ds a b) (cutV vs a b) := by
  unfold cut cutV
  rw [cutI_eq, cutI_eq, r.length]
  exact (r.drop _).take _
theorem cut_whole {α : Type} (xs : List α) (a b : Option Int) (h : HT.sIx xs.length 0 a = 0 ∧ HT.sIx xs.length xs.length b = xs.length) : cut xs a b = xs := by
  unfold cut
  rw [cutI_eq, cutI_eq, h.1, h.2]
  simp
theorem slm : SlR X (liftSl X.K G rSl) := by
  intro pins s σ H x v vl vu lo hi sl Q I rx hs pl pu h
  obtain ⟨d, M, Qm, m, r1, h, q⟩ := h
  unfold rSl at h
  split at h
  · cases r1
    refine sl_str pins s σ H _ v vl vu lo hi sl Q I rx hs pl pu ⟨S _, rfl, by rw [S_len, ← line_eq]; exact h.1, ?_⟩
    rw [cutS_eq]
    exact q.pure m (.str _) h.2
  · cases r1 with
    | @tup a ds vs ht rs =>
      refine sl_tupA pins s σ H _ v vl vu lo hi sl Q I rx hs pl pu ⟨a, vs, rfl, ht.sq, fun w => ?_, fun w p hp => q.tup m hp (reps_cut rs lo hi) h⟩
      rw [cut_whole _ lo hi (by rw [rs.length]; exact w)] at h
      exact q.pure m (.tup ht rs) h
  · cases r1 with
    | @lst a ds vs hl rs =>
      exact sl_list pins s σ H _ v vl vu lo hi sl Q I rx hs pl pu ⟨a, vs, rfl, hl.sq, fun p hp => q.lst m hp (reps_cut rs lo hi) h⟩
  · cases r1
    split at h
    · next xs em =>
      obtain ⟨vs, hv, rs⟩ := m.1 _ _ em
      exact sl_list pins s σ H _ v vl vu lo hi sl Q I rx hs pl pu ⟨_, vs, rfl, .inl (.inl hv), fun p hp => q.lst m hp (reps_cut rs lo hi) h⟩
    · exact h.elim
  · exact h.elim
theorem me_sl {lo hi : Option Expr} {tl th : DO} (he : ME X G e t) (hl : MO' X G lo tl) (hu : MO' X G hi th) : ME X G (.Subscript e (.Slice lo hi none p2) pos) (mSlice t tl th) :=
  PE.imp (pe_slice slm he hl hu) fun σ H Q ⟨env, M, Qm, s, h, q⟩ => ⟨env, M, _, s, h, fun d v M1 H1 m1 p1 r1 h1 => ⟨env, M1, _, s.next m1 p1, h1, fun a M2 H2 m2 p2 h2 => ⟨env, M2, _, s.next m2 (p1.trans p2), h2, fun b M3 H3 m3 p3 h3 =>
    ⟨d, M3, _, m3, r1.pers m1 (p2.trans p3), h3, fun z vz M4 H4 m4 p4 r4 h4 => q z vz M4 H4 m4 (((p1.trans p2).trans p3).trans p4) r4 h4⟩⟩⟩⟩

/-! ### built-ins -/
theorem cm_len : CallM X G (.builtin "len") rLen := by
  intro pins s σ H xs us Q I r h
  obtain ⟨ds, M, Qm, m, rs, h, q⟩ := h
  unfold rLen at h
  split at h
  · obtain ⟨v, rfl, r1⟩ := rs.inv1
    cases r1
    refine call_len_str pins s σ H _ us Q I r ⟨S _, rfl, by rw [S_len, ← line_eq]; exact h.1, ?_⟩
    rw [S_len]
    exact q.pure m (.int _) h.2
  · obtain ⟨v, rfl, r1⟩ := rs.inv1
    cases r1 with
    | @tup a ds vs ht ra =>
      refine call_len_seq pins s σ H _ us Q I r ⟨a, vs, rfl, .inr ht.sq, ?_⟩
      rw [← ra.length]
      exact q.pure m (.int _) h
  · obtain ⟨v, rfl, r1⟩ := rs.inv1
    cases r1 with
    | @lst a ds vs hl ra =>
      refine call_len_seq pins s σ H _ us Q I r ⟨a, vs, rfl, .inl hl.sq, ?_⟩
      rw [← ra.length]
      exact q.pure m (.int _) h
  · obtain ⟨v, rfl, r1⟩ := rs.inv1
    cases r1
    split at h
    · next ds em =>
      obtain ⟨vs, hv, rs⟩ := m.1 _ _ em
      refine call_len_seq pins s σ H _ us Q I r ⟨_, vs, rfl, .inl (.inl (.inl hv)), ?_⟩
      rw [← rs.length]
      exact q.pure m (.int _) h
    · exact h.elim
  · exact h.elim
theorem cm_abs : CallM X G (.builtin "abs") rAbs := by
  intro pins s σ H xs us Q I r h
  obtain ⟨ds, M, Qm, m, rs, h, q⟩ := h
  unfold rAbs at h
  split at h
  · obtain ⟨v, rfl, r1⟩ := rs.inv1
    cases r1
    exact call_abs pins s σ H _ us Q I r ⟨_, rfl, q.pure m (.int _) h⟩
  · exact h.elim
theorem cm_max2 (hc : X.calm = true) : CallM X G (.builtin "max") rMax2 := by
  intro pins s σ H xs us Q I r h
  obtain ⟨ds, M, Qm, m, rs, h, q⟩ := h
  unfold rMax2 at h
  split at h
  · obtain ⟨v, w, rfl, r1, r2⟩ := rs.inv2
    cases r1; cases r2
    exact call_max2 hc pins s σ H _ us Q I r ⟨_, _, rfl, q.pure m (.int _) h⟩
  · exact h.elim
theorem cm_min2 (hc : X.calm = true) : CallM X G (.builtin "min") rMin2 := by
  intro pins s σ H xs us Q I r h
  obtain ⟨ds, M, Qm, m, rs, h, q⟩ := h
  unfold rMin2 at h
  split at h
  · obtain ⟨v, w, rfl, r1, r2⟩ := rs.inv2
    cases r1; cases r2
    exact call_min2 hc pins s σ H _ us Q I r ⟨_, _, rfl, q.pure m (.int _) h⟩
  · exact h.elim
/-- int of a number, a truth, a text of digits -/
theorem digs_int (i : Int) : (Str.ofString (toString i)) = S (intDigs i) := by
  rw [Str.ofString_eq_toList]
  unfold S intDigs natDigs
  cases i with
  | ofNat n =>
    rw [if_neg (by simp)]
    show (⟨(List.map Char.toNat (Nat.repr n).toList).toArray⟩ : Str) = _
    rw [Nat.repr, String.toList_ofList]
    rfl
  | negSucc n =>
    rw [if_pos (Int.negSucc_lt_zero n)]
    show (⟨(List.map Char.toNat ("-" ++ Nat.repr (n + 1)).toList).toArray⟩ : Str) = _
    rw [String.toList_append, Nat.repr, List.map_append]
    simp only [String.toList_ofList]
    rfl
theorem cm_str : CallM X G (.type "str") rStr := by
  intro pins s σ H xs us Q I r h
  obtain ⟨ds, M, Qm, m, rs, h, q⟩ := h
  unfold rStr at h
  split at h
  · obtain ⟨v, rfl, r1⟩ := rs.inv1
    cases r1
    have hz := h.1.log (by decide)
    refine call_str_int pins s σ H _ us Q I r ⟨_, rfl, by omega, ?_⟩
    rw [digs_int]
    exact q.pure m (.str _) h.2
  · exact h.elim
theorem digit_text : ∀ c : Nat, 48 ≤ c → c ≤ 57 → PySem.intText? (S [c]) = some ((c - 48 : Nat) : Int) := by
  intro c h1 h2
  have h : ∀ k : Fin 10, PySem.intText? (S [k.val + 48]) = some (k.val : Int) := by decide +kernel
  have e : (c - 48) + 48 = c := by omega
  have q := h ⟨c - 48, by omega⟩
  simp only [e] at q
  exact q
theorem cm_int : CallM X G (.type "int") rInt := by
  intro pins s σ H xs us Q I r h
  obtain ⟨ds, M, Qm, m, rs, h, q⟩ := h
  unfold rInt at h
  split at h
  · obtain ⟨v, rfl, r1⟩ := rs.inv1
    cases r1
    exact call_int1 pins s σ H _ us Q I r (.inl ⟨_, rfl, q.pure m (.int _) h⟩)
  · obtain ⟨v, rfl, r1⟩ := rs.inv1
    cases r1
    exact call_int1 pins s σ H _ us Q I r (.inr ⟨_, rfl, q.pure m (.int _) h⟩)
  · obtain ⟨v, rfl, r1⟩ := rs.inv1
    cases r1
    exact call_int_str pins s σ H _ us Q I r ⟨_, _, rfl, digit_text _ h.1 h.2.1, by rw [S_len]; simp, q.pure m (.int _) h.2.2⟩
  · exact h.elim
theorem bools_bl {K : PySem.W.Frag} {hid : HidL} {M : Mh} {H : Hp} : ∀ {ds : List D} {vs : List V} {bs : List Bool}, Reps K hid M H ds vs → bools ds = some bs → vs = bs.map V.bl
  | [], _, bs, r, e => by cases r; cases e; rfl
  | d :: ds, _, bs, r, e => by
    cases r with
    | cons r1 r2 =>
      cases d with
      | bl b =>
        cases r1
        unfold bools at e
        cases q : bools ds with
        | none => rw [q] at e; cases e
        | some cs =>
          rw [q] at e
          cases e
          rw [bools_bl r2 q]; rfl
      | _ => cases e
theorem cm_all (hc : X.calm = true) : CallM X G (.builtin "all") rAll := by
  intro pins s σ H xs us Q I r h
  obtain ⟨ds, M, Qm, m, rs, h, q⟩ := h
  unfold rAll at h
  split at h
  · obtain ⟨v, rfl, r1⟩ := rs.inv1
    cases r1 with
    | @lst a ds vs hl ra =>
      split at h
      · next bs eb =>
        have e := bools_bl ra eb
        subst e
        exact cr_all hc pins s σ H _ us Q I r ⟨a, bs, rfl, hl.sq, q.pure m (.bl _) h⟩
      · exact h.elim
  · exact h.elim
theorem cm_any (hc : X.calm = true) : CallM X G (.builtin "any") rAny := by
  intro pins s σ H xs us Q I r h
  obtain ⟨ds, M, Qm, m, rs, h, q⟩ := h
  unfold rAny at h
  split at h
  · obtain ⟨v, rfl, r1⟩ := rs.inv1
    cases r1 with
    | @lst a ds vs hl ra =>
      split at h
      · next bs eb =>
        have e := bools_bl ra eb
        subst e
        exact cr_any hc pins s σ H _ us Q I r ⟨a, bs, rfl, hl.sq, q.pure m (.bl _) h⟩
      · exact h.elim
  · exact h.elim
theorem cm_tuple : CallM X G (.type "tuple") rTuple := by
  intro pins s σ H xs us Q I r h
  obtain ⟨ds, M, Qm, m, rs, h, q⟩ := h
  unfold rTuple at h
  split at h
  · obtain ⟨v, rfl, r1⟩ := rs.inv1
    cases r1 with
    | @lst a ds vs hl ra => exact call_tuple_of pins s σ H _ us Q I r ⟨a, vs, rfl, .inl ⟨hl.sq, fun l hn => q.tup m hn ra h⟩⟩
  · obtain ⟨v, rfl, r1⟩ := rs.inv1
    cases r1 with
    | @tup a ds vs ht ra => exact call_tuple_of pins s σ H _ us Q I r ⟨a, vs, rfl, .inr ⟨ht.sq, q.pure m (.tup ht ra) h⟩⟩
  · exact h.elim
end
end Dl
end
section
set_option Elab.async false
set_option linter.all false
set_option maxRecDepth 100000
set_option maxHeartbeats 1000000
namespace Dl
open PySem PySem.Spec PyProof.Rows L2
section
variable {X : Cx} {G : Gd} {e f a b c o : Expr} {es rest : List Expr} {pos p2 apos cpos : Pos} {t ta tb tc td ty tx : DE} {tt : DA}
/-! ### isinstance -/
theorem me_bltn {x : Str} {n : String} (hm : X.mg x = none) (hg : Gl X x := by rfl) (hv : bootBuiltins x = some (.type n) := by decide +kernel) (hn : x ≠ "__name__" := by decide) (hd : (x == ("__debug__" : Str)) = false := by decide) : ME X G (.Name x pos) (mC (.ty n)) :=
  me_c (pe_bltn hg hm hv (show RelV (.ty n) _ from rfl) hn hd) fun _ _ _ => .ty n
theorem kit_all {K : PySem.W.Frag} {k n : String} (hk : k = "NoneType" ∨ k = "bool" ∨ k = "int" ∨ k = "str" ∨ k = "tuple" ∨ k = "list" ∨ k = "dict") (hn : n = "int" ∨ n = "str" ∨ n = "bool" ∨ n = "tuple" ∨ n = "list" ∨ n = "dict") :
    PySem.W.kitOne K (.type k) (.type n) = some (k == n || (k == "bool" && n == "int")) := by
  rcases hk with rfl | rfl | rfl | rfl | rfl | rfl | rfl <;> rcases hn with rfl | rfl | rfl | rfl | rfl | rfl <;> exact kit_ty (by decide +kernel)
theorem cm_isi : CallM X G (.builtin "isinstance") rIsiB := by
  intro pins s σ H xs us Q I r h
  obtain ⟨ds, M, Qm, m, rs, h, q⟩ := h
  unfold rIsiB at h
  split at h
  · next x n =>
    obtain ⟨v, w, rfl, r1, r2⟩ := rs.inv2
    cases r2
    obtain ⟨hn, h⟩ := h
    have go : ∀ (k : String) (bb : Bool), (k = "NoneType" ∨ k = "bool" ∨ k = "int" ∨ k = "str" ∨ k = "tuple" ∨ k = "list" ∨ k = "dict") → TyX X.K H v (.type k) → (k == n || (k == "bool" && n == "int")) = bb → Qm (.bl bb) M →
        wpAny (model X.prog X.w) X.A (call (.builtin "isinstance") us) (EP X pins σ Q) X.xe s := fun k bb hk ty e hq => by
      subst e
      exact call_isi pins s σ H _ us Q I r ⟨_, _, _, _, _, rfl, .ty n, ty, kit_all hk hn, q.pure m (.bl _) hq⟩
    cases r1 with
    | non => exact go "NoneType" _ (by simp) (.base .non) (by simp [BEq.comm]) h
    | bl b => exact go "bool" _ (by simp) (.base (.bl b)) (by simp [BEq.comm]) h
    | int i => exact go "int" _ (by simp) (.base (.int i)) (by simp [BEq.comm]) h
    | str l => exact go "str" _ (by simp) (.base (.str _)) (by simp [BEq.comm]) h
    | ty _ => exact h.elim
    | @tup a ds vs ht rs =>
      refine go "tuple" _ (by simp) ?_ (by simp [BEq.comm]) h
      rcases ht with ⟨ht | ⟨ob, ht⟩, _⟩ | ⟨ob, its, n, hk, hc, _⟩
      · exact .base (.tup ht)
      · exact .fTuple ht
      · exact .kTuple hk hc
    | @lst a ds vs hl rs =>
      refine go "list" _ (by simp) ?_ (by simp [BEq.comm]) h
      rcases hl with ⟨hl | ⟨ob, hl⟩, _⟩ | ⟨ob, its, n, hk, hc, _⟩
      · exact .base (.lst hl)
      · exact .base (.frz hl)
      · exact .kList hk hc
    | obj a =>
      unfold isIs at h
      cases em : M a with
      | none => simp only [em] at h
      | some o =>
        simp only [em] at h
        cases o with
        | lst ds =>
          obtain ⟨vs, hv, _⟩ := m.1 _ _ em
          exact go "list" _ (by simp) (.base (.lst hv)) (by simp [BEq.comm]) h
        | dct ds =>
          obtain ⟨vs, hv, _⟩ := m.1 _ _ em
          exact go "dict" _ (by simp) (.base (.dK hv)) (by simp [BEq.comm]) h
        | lck _ => exact h.elim
        | ins _ _ => exact h.elim
  · exact h.elim

/-! ### in -/
theorem mem_S {c : Nat} {s : List Nat} [Decidable (c ∈ (S s).cps.toList)] : decide (c ∈ (S s).cps.toList) = s.contains c := by
  by_cases h : c ∈ s
  · rw [decide_eq_true (show c ∈ (S s).cps.toList from h)]
    exact (List.contains_iff_mem.mpr h).symm
  · rw [decide_eq_false (show ¬ c ∈ (S s).cps.toList from h)]
    exact (Bool.eq_false_iff.mpr fun z => h (List.contains_iff_mem.mp z)).symm
theorem om_inS : OpM X G (compareOp .In) (rInS false) := by
  intro pins s σ H x y v u Q I rx ry h
  obtain ⟨d, e, M, Qm, m, r1, r2, h, q⟩ := h
  unfold rInS at h
  split at h
  · cases r1; cases r2
    exact op_in_sign pins s σ H _ _ v u Q I rx ry ⟨_, S _, rfl, rfl, q.pure m (.bl _) (by rw [mem_S]; simpa using h)⟩
  · exact h.elim
theorem om_notInS : OpM X G (compareOp .NotIn) (rInS true) := by
  intro pins s σ H x y v u Q I rx ry h
  obtain ⟨d, e, M, Qm, m, r1, r2, h, q⟩ := h
  unfold rInS at h
  split at h
  · cases r1; cases r2
    exact op_notIn_sign pins s σ H _ _ v u Q I rx ry ⟨_, S _, rfl, rfl, q.pure m (.bl _) (by rw [mem_S]; simpa using h)⟩
  · exact h.elim
theorem flat_rep {K : PySem.W.Frag} {hid : HidL} {M : Mh} {H : Hp} {d : D} {x : V} (r : Rep K hid M H d x) (h : flat d = true) : flatV x = true := by
  cases r <;> first | rfl | cases h
theorem eqv_rep {K : PySem.W.Frag} {hid : HidL} {M : Mh} {H : Hp} {d e : D} {x y : V} (r1 : Rep K hid M H d x) (r2 : Rep K hid M H e y) (h : flat d = true) (h' : flat e = true) : eqV x y = eqv d e := by
  cases r1 <;> first | (cases h; done) | skip
  all_goals (cases r2 <;> first | (cases h'; done) | skip)
  all_goals first
    | rfl
    | (rename_i a b
       show (S a == S b) = (a == b)
       by_cases z : a = b
       · rw [z, beq_self_eq_true, beq_self_eq_true]
       · rw [beq_eq_false_iff_ne.mpr z, beq_eq_false_iff_ne.mpr fun q => z (S_inj q)])
theorem in_rep {K : PySem.W.Frag} {hid : HidL} {M : Mh} {H : Hp} {d : D} {x : V} (r1 : Rep K hid M H d x) (h : flat d = true) : ∀ {ds : List D} {vs : List V}, Reps K hid M H ds vs → ds.all flat = true → inV x vs = inD d ds ∧ vs.all flatV = true
  | _, _, .nil, _ => ⟨rfl, rfl⟩
  | _, _, .cons r rs, hf => by
    rw [List.all_cons] at hf
    have g := Bool.and_eq_true_iff.mp hf
    obtain ⟨h1, h2⟩ := in_rep r1 h rs g.2
    refine ⟨?_, ?_⟩
    · show (eqV _ x || inV x _) = (eqv _ d || inD d _)
      rw [eqv_rep r r1 g.1 h, h1]
    · rw [List.all_cons, flat_rep r g.1, h2]; rfl
theorem in_rd {neg : Bool} {H : Hp} {M : Mh} {d e : D} {x y : V} {Q : VK} {Qm : DQ} (m : RelM X.K G.hid M H) (r1 : Rep X.K G.hid M H d x) (r2 : Rep X.K G.hid M H e y) (h : rInT neg d e M Qm) (q : ThenV X.K G M H Qm Q) : L2.rIn X.K neg x y H Q := by
  have fin : ∀ {ds : List D} {vs : List V}, Reps X.K G.hid M H ds vs → flat d = true → ds.all flat = true → Qm (.bl (inD d ds != neg)) M → flatV x = true ∧ vs.all flatV = true ∧ Q (.bl (if neg = true then !inV x vs else inV x vs)) H := fun {ds vs} rs f fs hq => by
    obtain ⟨h1, h2⟩ := in_rep r1 f rs fs
    refine ⟨flat_rep r1 f, h2, q.pure m (.bl _) ?_⟩
    rw [h1]
    cases neg <;> simpa using hq
  unfold rInT at h
  split at h
  · cases r2 with
    | @tup a ds vs ht rs =>
      obtain ⟨h1, h2, h3⟩ := h
      obtain ⟨g1, g2, g3⟩ := fin rs h1 h2 h3
      exact ⟨a, vs, rfl, .inr ht.sq, g1, g2, g3⟩
  · cases r2 with
    | @lst a ds vs hl rs =>
      obtain ⟨h1, h2, h3⟩ := h
      obtain ⟨g1, g2, g3⟩ := fin rs h1 h2 h3
      exact ⟨a, vs, rfl, .inl hl.sq, g1, g2, g3⟩
  · cases r2
    split at h
    · next a ds em =>
      obtain ⟨vs, hv, rs⟩ := m.1 _ _ em
      obtain ⟨h1, h2, h3⟩ := h
      obtain ⟨g1, g2, g3⟩ := fin rs h1 h2 h3
      exact ⟨_, vs, rfl, .inl (.inl (.inl hv)), g1, g2, g3⟩
    · exact h.elim
  · exact h.elim
theorem om_inT : OpM X G (compareOp .In) (rInT false) := by
  intro pins s σ H x y v u Q I rx ry ⟨d, e, M, Qm, m, r1, r2, h, q⟩
  exact op_in_seq pins s σ H x y v u Q I rx ry (in_rd m r1 r2 h q)
theorem om_notInT : OpM X G (compareOp .NotIn) (rInT true) := by
  intro pins s σ H x y v u Q I rx ry ⟨d, e, M, Qm, m, r1, r2, h, q⟩
  exact op_notIn_seq pins s σ H x y v u Q I rx ry (in_rd m r1 r2 h q)

/-! ### methods of built-in types -/
def liftM (K : PySem.W.Frag) (G : Gd) (r : DRm) : V → List V → Hp → VK → Prop := fun x xs H Q => ∃ d ds M Qm, RelM K G.hid M H ∧ Rep K G.hid M H d x ∧ Reps K G.hid M H ds xs ∧ r d ds M Qm ∧ ThenV K G M H Qm Q
theorem kind_rep {K : PySem.W.Frag} {hid : HidL} {M : Mh} {H : Hp} {T : String} {d : D} {x : V} (m : RelM K hid M H) (r : Rep K hid M H d x) (h : kindOk T M d) : tyV K T x H := by
  cases r with
  | str l => exact h
  | @lst a ds vs hl _ => exact .inl ⟨h, vs, hl.sq⟩
  | obj a =>
    simp only [kindOk] at h
    split at h
    · next ds em => obtain ⟨vs, hv, _⟩ := m.1 _ _ em; exact .inl ⟨h, vs, .inl (.inl hv)⟩
    · next ds em => obtain ⟨vs, hv, _⟩ := m.1 _ _ em; exact .inr (.inr (.inl ⟨h, .inl ⟨vs, hv⟩⟩))
    · exact h.elim
  | _ => exact h.elim
abbrev MtMm (X : Cx) (G : Gd) (id : String) (r : DRm) : Prop := MtR X id (liftM X.K G r)
theorem me_bm {T id : String} {name : Str} {r : DRm} (pa : PlainAttrs T) (slot : Slot T name id) (hty : typeOf (.builtin id) = pure (.type "method_descriptor")) (hm : MtMm X G id r) (ho : ME X G o t) (ha : MA X G (e :: es) tt)
    (hbase : attributeBase o name X.env (eval o X.env) = eval o X.env := by rfl)
    (hfew : ((backTo cpos (starEach (e :: es) X.env)).all (fun x => !x.1) && (backToKw cpos (keywordEach [] X.env)).all (fun x => x.1.isSome) && decide ((e :: es).length + ([] : List Keyword).length + (if ([] : List Keyword).isEmpty then 0 else 1) < 30)) = true := by rfl)
    (hline : (apos.endLine == cpos.line) = true := by rfl) (hs : starEach (e :: es) X.env = (false, eval e X.env) :: starEach es X.env := by rfl) (hplain : (backTo cpos (starEach es X.env)).any (·.1) = false := by rfl) : ME X G (.Call (.Attribute o name apos) (e :: es) [] cpos) (mBm T r t tt) :=
  PE.imp (pe_bm pa slot hty hm ho ha hbase hfew hline hs hplain) fun σ H Q ⟨env, M, Qm, s, h, q⟩ => ⟨env, M, _, s, h, fun d v M1 H1 m1 p1 r1 h1 => ⟨kind_rep m1 r1 h1.1, env, M1, _, s.next m1 p1, h1.2, fun ds vs M2 H2 m2 p2 r2 h2 =>
    ⟨d, ds, M2, _, m2, r1.pers m1 p2, r2, h2, fun z vz M3 H3 m3 p3 r3 h3 => q z vz M3 H3 m3 ((p1.trans p2).trans p3) r3 h3⟩⟩⟩
theorem me_bm0 {T id : String} {name : Str} {r : DRm} (pa : PlainAttrs T) (slot : Slot T name id) (hty : typeOf (.builtin id) = pure (.type "method_descriptor")) (hm : MtMm X G id r) (ho : ME X G o t)
    (hbase : attributeBase o name X.env (eval o X.env) = eval o X.env := by rfl) (hline : (apos.endLine == cpos.line) = true := by rfl) : ME X G (.Call (.Attribute o name apos) [] [] cpos) (mBm T r t mNil) :=
  PE.imp (pe_bm0 pa slot hty hm ho hbase hline) fun σ H Q ⟨env, M, Qm, s, h, q⟩ => ⟨env, M, _, s, h, fun d v M1 H1 m1 p1 r1 h1 => ⟨kind_rep m1 r1 h1.1,
    d, [], M1, _, m1, r1, .nil, h1.2, fun z vz M3 H3 m3 p3 r3 h3 => q z vz M3 H3 m3 (p1.trans p3) r3 h3⟩⟩
theorem texts_str {K : PySem.W.Frag} {hid : HidL} {M : Mh} {H : Hp} : ∀ {ds : List D} {vs : List V} {ts : List (List Nat)}, Reps K hid M H ds vs → texts ds = some ts → vs = (ts.map S).map V.str
  | [], _, _, r, e => by cases r; cases e; rfl
  | d :: ds, _, ts, r, e => by
    cases r with
    | cons r1 r2 =>
      cases d with
      | str l =>
        cases r1
        unfold texts at e
        cases q : texts ds with
        | none => rw [q] at e; cases e
        | some cs =>
          rw [q] at e
          cases e
          rw [texts_str r2 q]; rfl
      | _ => cases e
theorem join_S (sep : List Nat) : ∀ ts : List (List Nat), Str.join (S sep) (ts.map S) = S (joinT sep ts)
  | [] => rfl
  | [x] => rfl
  | x :: y :: r => by
    show S x ++ S sep ++ Str.join (S sep) ((y :: r).map S) = S (x ++ sep ++ joinT sep (y :: r))
    rw [join_S sep (y :: r), S_app, S_app]
theorem mm_join : MtMm X G "str.join" rJoin := by
  intro pins s σ H x xs v us Q I rx rs h
  obtain ⟨d, ds, M, Qm, m, r1, r2, h, q⟩ := h
  unfold rJoin at h
  split at h
  · cases r1
    obtain ⟨w, rfl, r3⟩ := r2.inv1
    cases r3 with
    | @lst a ds vs hl ra =>
      split at h
      · next ts et =>
        have e := texts_str ra et
        subst e
        refine mt_join pins s σ H _ _ v us Q I rx rs ⟨S _, a, ts.map S, rfl, rfl, .inl hl.sq, ?_, ?_⟩
        · rw [List.map_map, List.length_map, S_len]
          have e2 : (fun l => (S l).length) = List.length := funext S_len
          show (ts.map (fun l => (S l).length)).sum + _ ≤ _
          rw [e2]; exact h.2.1
        · rw [show Txt.join (S _) (ts.map S) = Str.join (S _) (ts.map S) from StrLaws.glued_eq_join _ _, join_S]
          exact q.pure m (.str _) h.2.2
      · exact h.elim
  · exact h.elim
theorem mm_append : MtMm X G "list.append" rAppend := by
  intro pins s σ H x xs v us Q I rx rs h
  obtain ⟨d, ds, M, Qm, m, r1, r2, h, q⟩ := h
  unfold rAppend at h
  split at h
  · next a y =>
    cases r1
    obtain ⟨w, rfl, r3⟩ := r2.inv1
    split at h
    · next xs em =>
      obtain ⟨vs, hv, ra⟩ := m.1 _ _ em
      have p := pers_set (H := H) (p := a) (o := .lst (vs ++ [w])) (m' := .lst (xs ++ [y])) em
      exact mt_append pins s σ H _ _ v us Q I rx rs ⟨a, vs, w, rfl, rfl, hv, by rw [← ra.length, ← line_eq]; exact h.1, q _ _ _ _ (m.set p ⟨_, upd_same, (ra.append (.cons r3 .nil)).pers m p⟩) p .non h.2⟩
    · exact h.elim
  · exact h.elim
theorem me_append (ho : ME X G o t) (ha : MA X G [e] tt) (hbase : attributeBase o "append" X.env (eval o X.env) = eval o X.env := by rfl)
    (hfew : ((backTo cpos (starEach [e] X.env)).all (fun x => !x.1) && (backToKw cpos (keywordEach [] X.env)).all (fun x => x.1.isSome) && decide ([e].length + ([] : List Keyword).length + (if ([] : List Keyword).isEmpty then 0 else 1) < 30)) = true := by rfl)
    (hline : (apos.endLine == cpos.line) = true := by rfl) (hs : starEach [e] X.env = [(false, eval e X.env)] := by rfl) : ME X G (.Call (.Attribute o "append" apos) [e] [] cpos) (mBm "list" rAppend t tt) :=
  me_bm PySem.F.plainAttrs_list PySem.F.slot_list_append PySem.F.type_list_append mm_append ho ha hbase hfew hline hs
theorem me_join (ho : ME X G o t) (ha : MA X G [e] tt) (hbase : attributeBase o "join" X.env (eval o X.env) = eval o X.env := by rfl)
    (hfew : ((backTo cpos (starEach [e] X.env)).all (fun x => !x.1) && (backToKw cpos (keywordEach [] X.env)).all (fun x => x.1.isSome) && decide ([e].length + ([] : List Keyword).length + (if ([] : List Keyword).isEmpty then 0 else 1) < 30)) = true := by rfl)
    (hline : (apos.endLine == cpos.line) = true := by rfl) (hs : starEach [e] X.env = [(false, eval e X.env)] := by rfl) : ME X G (.Call (.Attribute o "join" apos) [e] [] cpos) (mBm "str" rJoin t tt) :=
  me_bm PySem.F.plainAttrs_str PySem.F.slot_str_join PySem.F.type_str_join mm_join ho ha hbase hfew hline hs
end
end Dl
end
section
set_option Elab.async false
set_option linter.all false
set_option maxRecDepth 100000
set_option maxHeartbeats 1000000
namespace Dl
open PySem PySem.Spec PyProof.Rows L2
section
variable {X : Cx} {G : Gd} {e f a b c o : Expr} {es rest : List Expr} {pos p2 apos cpos : Pos} {t ta tb tc td ty tx : DE} {tt : DA}
/-! ### dicts -/
theorem isKey_rep {K : PySem.W.Frag} {hid : HidL} {M : Mh} {H : Hp} {d : D} {x : V} (r : Rep K hid M H d x) (h : isKey d = true) : ∃ k, keyD d = some k ∧ x = kV k := by
  cases r <;> first | (cases h; done) | exact ⟨_, rfl, rfl⟩
theorem keyD_inj {a b : D} {k : Key} (h : keyD a = some k) (h' : keyD b = some k) : a = b := by
  cases a <;> cases h <;> (cases b <;> first | (cases h'; done) | skip)
  · cases h'; rfl
  · have e := Option.some.inj h'
    injection e with e
    rw [S_inj e]
theorem find_rep {K : PySem.W.Frag} {hid : HidL} {M : Mh} {H : Hp} {k : D} {k' : Key} (hk : keyD k = some k') : ∀ {kvs : List (D × D)} {ks : List (Key × V)}, DReps K hid M H kvs ks →
    (findD kvs k = none ∧ valV ks k' = none) ∨ ∃ d v, findD kvs k = some d ∧ valV ks k' = some v ∧ Rep K hid M H d v
  | _, _, .nil => .inl ⟨rfl, rfl⟩
  | _, _, .cons (k := k1) (d := d1) (k' := k1') (v := v1) (ds := ds) (vs := vs) h1 r t => by
    by_cases e : k1 = k
    · subst e
      have e2 : k1' = k' := Option.some.inj (h1.symm.trans hk)
      subst e2
      exact .inr ⟨d1, v1, by simp [findD], by simp [valV], r⟩
    · have e2 : k1' ≠ k' := fun z => e (keyD_inj h1 (z ▸ hk))
      have f1 : findD ((k1, d1) :: ds) k = findD ds k := by simp [findD, e]
      have f2 : valV ((k1', v1) :: vs) k' = valV vs k' := by simp [valV, e2]
      rw [f1, f2]
      exact find_rep hk t
theorem any_rep {K : PySem.W.Frag} {hid : HidL} {M : Mh} {H : Hp} {k : D} {k' : Key} (hk : keyD k = some k') : ∀ {kvs : List (D × D)} {ks : List (Key × V)}, DReps K hid M H kvs ks → (kvs.any fun kv => decide (kv.1 = k)) = ks.any fun kv => decide (kv.1 = k')
  | _, _, .nil => rfl
  | _, _, .cons (k := k1) (k' := k1') h1 r t => by
    rw [List.any_cons, List.any_cons, any_rep hk t]
    congr 1
    by_cases e : k1 = k
    · subst e
      have e2 : k1' = k' := Option.some.inj (h1.symm.trans hk)
      subst e2
      simp
    · have e2 : k1' ≠ k' := fun z => e (keyD_inj h1 (z ▸ hk))
      simp [e, e2]
theorem DReps.append {K : PySem.W.Frag} {hid : HidL} {M : Mh} {H : Hp} : ∀ {as bs : List (D × D)} {vs ws : List (Key × V)}, DReps K hid M H as vs → DReps K hid M H bs ws → DReps K hid M H (as ++ bs) (vs ++ ws)
  | _, _, _, _, .nil, s => s
  | _, _, _, _, .cons h r t, s => .cons h r (DReps.append t s)
theorem DReps.length {K : PySem.W.Frag} {hid : HidL} {M : Mh} {H : Hp} : ∀ {as : List (D × D)} {vs : List (Key × V)}, DReps K hid M H as vs → as.length = vs.length
  | _, _, .nil => rfl
  | _, _, .cons _ _ t => congrArg (· + 1) (DReps.length t)
theorem map_rep {K : PySem.W.Frag} {hid : HidL} {M : Mh} {H : Hp} {k d : D} {k' : Key} {v : V} (hk : keyD k = some k') (r : Rep K hid M H d v) : ∀ {kvs : List (D × D)} {ks : List (Key × V)}, DReps K hid M H kvs ks → DReps K hid M H (kvs.map fun kv => if kv.1 = k then (kv.1, d) else kv) (ks.map fun kv => if kv.1 = k' then (kv.1, v) else kv)
  | _, _, .nil => .nil
  | _, _, .cons (k := k1) (k' := k1') h1 r1 t => by
    rw [List.map_cons, List.map_cons]
    by_cases e : k1 = k
    · subst e
      have e2 : k1' = k' := Option.some.inj (h1.symm.trans hk)
      subst e2
      simp only [if_true]
      exact .cons h1 r (map_rep hk r t)
    · have e2 : k1' ≠ k' := fun z => e (keyD_inj h1 (z ▸ hk))
      simp only [e, e2, if_false]
      exact .cons h1 r1 (map_rep hk r t)
theorem put_rep {K : PySem.W.Frag} {hid : HidL} {M : Mh} {H : Hp} {k d : D} {k' : Key} {v : V} (hk : keyD k = some k') (r : Rep K hid M H d v) {kvs : List (D × D)} {ks : List (Key × V)} (t : DReps K hid M H kvs ks) : DReps K hid M H (putD kvs k d) (putK ks k' v) := by
  unfold putD putK
  rw [any_rep hk t]
  split
  · exact map_rep hk r t
  · exact t.append (.cons hk r .nil)
theorem merge_rep {K : PySem.W.Frag} {hid : HidL} {M : Mh} {H : Hp} : ∀ {more kvs : List (D × D)} {ms ks : List (Key × V)}, DReps K hid M H more ms → DReps K hid M H kvs ks → DReps K hid M H (mergeD kvs more) (mergeK ks ms)
  | _, _, _, _, .nil, t => t
  | _, _, _, _, .cons h r s, t => by
    show DReps K hid M H (mergeD (putD _ _ _) _) (mergeK (putK _ _ _) _)
    exact merge_rep s (put_rep h r t)
/-- the pairs of a display -/
inductive MPs (X : Cx) : Pos → List (Option Expr) → List Expr → List (DE × DE) → Prop
  | nil {pos : Pos} : MPs X pos [] [] []
  | cons {pos : Pos} {k v : Expr} {ks : List (Option Expr)} {vs : List Expr} {tk tv : DE} {r : List (DE × DE)} : (∀ G, ME X G k tk) → (∀ G, ME X G v tv) → MPs X pos ks vs r → MPs X pos (some k :: ks) (v :: vs) ((tk, tv) :: r)
/-- readings of pairs over the layer below -/
def pairH (K : PySem.W.Frag) : List (DE × DE) → List (TE × TE) := List.map fun p => (teH K p.1, teH K p.2)
theorem mps_pps {ks : List (Option Expr)} {vs : List Expr} {r : List (DE × DE)} (h : MPs X pos ks vs r) : PPs X pos ks vs (pairH X.K r) := by
  induction h with
  | nil => exact pps_nil
  | cons hk hv _ ih => exact pps_cons ⟨fun pins s σ H Q I ⟨G', q⟩ => (hk G').run pins s σ H Q I q⟩ ⟨fun pins s σ H Q I ⟨G', q⟩ => (hv G').run pins s σ H Q I q⟩ ih
theorem pairs_rd {σ : St} : ∀ (r : List (DE × DE)) {G : Gd} {H : Hp} {env : Env} {M : Mh} {Qm : List (D × D) → Mh → Prop} {Q : List (V × V) → Hp → Prop}, SR X.K G σ H env M → mPairs r env M Qm →
    (∀ ps kvs M' H', RelM X.K G.hid M' H' → Pers M H M' H' → DReps X.K G.hid M' H' ps kvs → Qm ps M' → Q (kvs.map fun kv => (kV kv.1, kv.2)) H') → tPairs (pairH X.K r) σ H Q
  | [], G, H, env, M, Qm, Q, s, h, q => q [] [] M H s.m (.refl _ _) .nil h
  | (tk, tv) :: r, G, H, env, M, Qm, Q, s, h, q => by
    refine ⟨G, env, M, _, s, h, fun x vx M1 H1 m1 p1 r1 h1 => ⟨G, env, M1, _, s.next m1 p1, h1, fun y vy M2 H2 m2 p2 r2 h2 => ?_⟩⟩
    refine pairs_rd r (s.next m2 (p1.trans p2)) h2 fun ps kvs M3 H3 m3 p3 r3 h3 => ?_
    obtain ⟨k, hk, rfl⟩ := isKey_rep r1 h3.1
    exact q ((x, y) :: ps) ((k, vy) :: kvs) M3 H3 m3 ((p1.trans p2).trans p3) (.cons hk (r2.pers m2 p3) r3) h3.2
theorem me_disp {ks : List (Option Expr)} {vs : List Expr} {r : List (DE × DE)} (h : MPs X pos ks vs r) (hall : ks.all (·.isSome) = true := by rfl) (hl : ks.length = vs.length := by rfl) (h0 : ks ≠ [] := by exact fun z => by cases z) (h15 : ks.length ≤ 15 := by decide) : ME X G (.Dict ks vs pos) (mDisp r) :=
  PE.imp (pe_disp (mps_pps h) hall hl h0 h15) fun σ H Q ⟨env, M, Qm, s, h, q⟩ p hp => by
    have mem : p ∈ p :: G.hid := List.mem_cons_self
    have s' : SR X.K ⟨p :: G.hid, M, upd H p (.dK [])⟩ σ (upd H p (.dK [])) env M := ⟨s.m.hide hp, .refl _ _, s.e.look (looks_hide hp)⟩
    refine pairs_rd r s' h fun ps kvs M' H' m' p' r' h' => ?_
    have hp' := p' p _ upd_same (s.m.free hp)
    refine ⟨hp'.1, kvs, rfl, by rw [← r'.length]; exact h'.1, ?_⟩
    have lk : Looks (p :: G.hid) M' H' G.hid (mu M' p (.dct (mergeD [] ps))) (upd H' p (.dK (mergeK [] kvs))) := by
      have ne : ∀ {a}, a ∉ p :: G.hid → a ≠ p := fun {a} n z => n (by rw [z]; exact List.mem_cons_self)
      have rd : ∀ {a u}, Rd H' a u → a ≠ p → Rd (upd H' p (.dK (mergeK [] kvs))) a u := fun {a u} r n => by
        rcases r with r | ⟨ob, r⟩
        · exact .inl (by rw [upd_ne n]; exact r)
        · exact .inr ⟨ob, by rw [upd_ne n]; exact r⟩
      exact ⟨fun a vs r n => ⟨rd r (ne n), fun z => n (List.mem_cons_of_mem _ z)⟩, fun a vs r n mm => ⟨rd r (ne n), fun z => n (List.mem_cons_of_mem _ z), by rw [mu_ne (ne n)]; exact mm⟩⟩
    have hid : ∀ a ∈ G.hid, a ≠ p := fun a ha z => s.m.newHid hp (z ▸ ha)
    have mm : RelM X.K G.hid (mu M' p (.dct (mergeD [] ps))) (upd H' p (.dK (mergeK [] kvs))) := by
      refine ⟨fun a u e => ?_, fun a ha => ?_⟩
      · by_cases z : a = p
        · subst z; rw [mu_same] at e; cases e
          exact ⟨_, upd_same, (merge_rep r' .nil).look lk⟩
        · rw [mu_ne z] at e; exact (m'.1 a u e).look lk (upd_ne z)
      · obtain ⟨n, w, e⟩ := m'.2 a (List.mem_cons_of_mem _ ha)
        exact ⟨by rw [mu_ne (hid a ha)]; exact n, w, by rw [upd_ne (hid a ha)]; exact e⟩
    refine q (.obj p) _ _ _ mm (fun a u e n => ?_) (.obj p) (h'.2 p hp'.2)
    have ne : a ≠ p := ne_of_none e hp
    have q1 := p' a u (by rw [upd_ne ne]; exact e) n
    exact ⟨by rw [upd_ne ne]; exact q1.1, by rw [mu_ne ne]; exact q1.2⟩
theorem dct_rep {K : PySem.W.Frag} {hid : HidL} {M : Mh} {H : Hp} (m : RelM K hid M H) {a : Addr} {kvs : List (D × D)} (h : dctAt M a = some kvs) : ∃ ks, Rd H a (.dK ks) ∧ DReps K hid M H kvs ks := by
  unfold dctAt at h
  split at h
  · next q em => cases h; obtain ⟨ks, hv, r⟩ := m.1 _ _ em; exact ⟨ks, .inl hv, r⟩
  · next q em => cases h; obtain ⟨o, ks, hv, r⟩ := m.1 _ _ em; exact ⟨ks, .inr ⟨o, hv⟩, r⟩
  · cases h
theorem isD_rep {K : PySem.W.Frag} {hid : HidL} {M : Mh} {H : Hp} (m : RelM K hid M H) {a : Addr} (h : (dctAt M a).isSome = true) : IsD H a := by
  obtain ⟨kvs, e⟩ := Option.isSome_iff_exists.mp h
  obtain ⟨ks, hv, _⟩ := dct_rep m e
  exact .inl ⟨ks, hv⟩
theorem me_get1 (hu : X.A.units + 1 < cLine) (ho : ME X G o td) (he : ME X G e ty) (m : M1 X o "get" apos e cpos := by exact ⟨rfl, rfl, rfl, rfl⟩) : ME X G (.Call (.Attribute o "get" apos) [e] [] cpos) (mGet1 td ty) :=
  PE.imp (pe_dget1 hu ho he m) fun σ H Q ⟨env, M, Qm, s, h, q⟩ => ⟨env, M, _, s, h, fun d v M1 H1 m1 p1 r1 h1 => by
    cases d with
    | obj a =>
      cases r1
      refine ⟨a, rfl, isD_rep m1 h1.1, env, M1, _, s.next m1 p1, h1.2, fun k vk M2 H2 m2 p2 r2 h2 => ?_⟩
      obtain ⟨hk, h2⟩ := h2
      split at h2
      · next kvs ed =>
        obtain ⟨ks, hv, rs⟩ := dct_rep m2 ed
        obtain ⟨k', ek, rfl⟩ := isKey_rep r2 hk
        refine ⟨valV ks k', .inl ⟨ks, k', hv, rfl, rfl⟩, ?_⟩
        rcases find_rep ek rs with ⟨f1, f2⟩ | ⟨d, v, f1, f2, rd⟩
        · rw [f2]; rw [f1] at h2; exact q .non .non M2 H2 m2 (p1.trans p2) .non h2
        · rw [f2]; rw [f1] at h2; exact q d v M2 H2 m2 (p1.trans p2) rd h2
      · exact h2.elim
    | _ => exact h1.elim⟩
theorem me_get2 (hu : X.A.units + 1 < cLine) (ho : ME X G o td) (he : ME X G e ty) (hf : ME X G f tx) (m : M2 X o "get" apos e f cpos := by exact ⟨rfl, rfl, rfl, rfl⟩) : ME X G (.Call (.Attribute o "get" apos) [e, f] [] cpos) (mGet2 td ty tx) :=
  PE.imp (pe_dget2 hu ho he hf m) fun σ H Q ⟨env, M, Qm, s, h, q⟩ => ⟨env, M, _, s, h, fun d v M1 H1 m1 p1 r1 h1 => by
    cases d with
    | obj a =>
      cases r1
      refine ⟨a, rfl, isD_rep m1 h1.1, env, M1, _, s.next m1 p1, h1.2, fun k vk M2 H2 m2 p2 r2 h2 => ⟨env, M2, _, s.next m2 (p1.trans p2), h2, fun z vz M3 H3 m3 p3 r3 h3 => ?_⟩⟩
      obtain ⟨hk, h3⟩ := h3
      split at h3
      · next kvs ed =>
        obtain ⟨ks, hv, rs⟩ := dct_rep m3 ed
        obtain ⟨k', ek, rfl⟩ := isKey_rep (r2.pers m2 p3) hk
        refine ⟨valV ks k', .inl ⟨ks, k', hv, rfl, rfl⟩, ?_⟩
        have pp := (p1.trans p2).trans p3
        rcases find_rep ek rs with ⟨f1, f2⟩ | ⟨d, v, f1, f2, rd⟩
        · rw [f2]; rw [f1] at h3; exact q z vz M3 H3 m3 pp r3 h3
        · rw [f2]; rw [f1] at h3; exact q d v M3 H3 m3 pp rd h3
      · exact h3.elim
    | _ => exact h1.elim⟩
end

/-! ### a def keeps its promise -/
section
variable {P : Program} {w : World} {K : PySem.W.Frag} {mg : Str → Option Value} {base : Heap}
/-- the place of a body -/
abbrev Xb (P : Program) (w : World) (K : PySem.W.Frag) (mg : Str → Option Value) (base : Heap) (N : List Str) (qual : Str) (sc : Scope) (f : Addr) (cdv : Value) (A : Around) (outer : List PySem.Env) (s : Shared) (H : Hp) (E : XK) : Cx := cxOf (L2.CX P w) P w K mg base N qual sc f cdv A outer s H E
theorem relE_start {hid : HidL} {M : Mh} {H : Hp} {N : List Str} {ds : List D} {vs : List V} (r : Reps K hid M H ds vs) : RelE K hid M H (start N vs) (startE N.length ds) := by
  unfold L2.start startE
  refine ⟨by simp [r.length], fun i d h => ?_⟩
  have hl := r.length
  by_cases hi : i < ds.length
  · rw [List.getElem?_append_left (by simpa using hi), List.getElem?_map] at h
    cases e : ds[i]? with
    | none => rw [e] at h; cases h
    | some d' =>
      rw [e] at h
      cases h
      obtain ⟨v, hv, rv⟩ := r.get e
      exact ⟨v, by rw [List.getElem?_append_left (by simp; omega), List.getElem?_map, hv]; rfl, rv⟩
  · rw [List.getElem?_append_right (by simpa using hi), List.getElem?_replicate] at h
    split at h <;> cases h
theorem RelM.sub {hid : HidL} {M M' : Mh} {H : Hp} (m : RelM K hid M H) (s : Sub M' M) : RelM K hid M' H ∧ Pers M H M' H := by
  have p : Pers M H M' H := fun a o e n => ⟨e, (s a).elim (fun z => z.trans n) id⟩
  exact ⟨⟨fun a o e => (m.1 a o ((s a).elim (fun z => z.symm.trans e) fun z => by rw [z] at e; cases e)).pers m p rfl, fun a ha => let ⟨n, u⟩ := m.2 a ha; ⟨(s a).elim (fun z => z.trans n) id, u⟩⟩, p⟩
theorem XRep.pers {hid : HidL} {M M' : Mh} {H H' : Hp} {x : Exn} {cls : Value} {dd : Option Addr} (m : RelM K hid M H) (p : Pers M H M' H') (h : XRep K hid M H x cls dd) : XRep K hid M' H' x cls dd := by
  obtain ⟨h1, h2⟩ := h
  refine ⟨h1, ?_⟩
  split at h2
  · trivial
  · obtain ⟨a, v, e, e1, e2, r⟩ := h2
    obtain ⟨q1, q2⟩ := p a _ e1 e2
    exact ⟨a, v, e, q1, q2, r.pers m p⟩
theorem fnOk_mkG {x qual : Str} {params : Arguments} {body : List Stmt} {scope : Scope} {f : Addr} {fd : FuncData} {dvs : List V} {N ps : List Str} {k : Nat} {sp : MSp} (F : FunD K x qual params body scope dvs [] f fd) (S : FnScope N ps scope)
    (len : ∀ ds M Q E, sp ds M Q E → ds.length = ps.length) (t : DX → DS)
    (hbody : ∀ (cdv : Value) (A : Around) (outer : List PySem.Env) (s : Shared) (H : Hp) (E : XK) (G : Gd) (W : DX), Room k (A.deeper (envOfC qual scope s.heap.objs.size f cdv)) → Takes (Xb P w K mg base N qual scope f cdv A outer s H E) (liftX K G W) →
      MSs (Xb P w K mg base N qual scope f cdv A outer s H E) G body (t W))
    (hlaw : ∀ ds M Q E, sp ds M Q E → ∃ (Q0 : DQ) (E1 : Exn → Mh → Prop), (∀ d M, Q0 d M → fgt Q d M) ∧ (∀ x M, E1 x M → fgtX E x M) ∧ t (fun x _ M' => E1 x M') (fnEnds Q0) (startE N.length ds) M) : FnOk P w K mg base (L2.CX P w) (k + 1) f fd ps (liftSp K sp) := by
  refine F.ok S (fun vs H Q E ⟨hid, ds, M, Qm, Em, m, r, h, _⟩ => by rw [← r.length]; exact len _ _ _ _ h) fun cdv A outer s H vs Q E hr ⟨hid, ds, M, Qm, Em, m, r, h, q1, q2⟩ => ?_
  obtain ⟨Q0, E1, g1, g2, h⟩ := hlaw _ _ _ _ h
  refine ⟨_, hbody cdv A outer s H E ⟨hid, M, H⟩ (fun x _ M' => E1 x M') hr ?_, startE N.length ds, M, fnEnds Q0, ⟨m, .refl _ _, relE_start r⟩, h, ?_⟩
  · have tk : Takes (Xb P w K mg base N qual scope f cdv A outer s H E) (fun cls d _ H => E cls d H) := takes_of rfl rfl rfl rfl
    exact tk.imp fun cls dd σ H' ⟨x, env, M', s', xr, hw⟩ => by
      obtain ⟨M2, sb, hw⟩ := g2 x M' hw
      obtain ⟨m2, p2⟩ := s'.m.sub sb
      exact q2 x cls dd M2 H' m2 (s'.p.trans p2) (xr.pers s'.m p2) hw
  · have go : ∀ d v M' H', RelM K hid M' H' → Pers M H M' H' → Rep K hid M' H' d v → Q0 d M' → Q v H' := fun d v M' H' m' p' r' h' => by
      obtain ⟨M2, sb, hw⟩ := g1 d M' h'
      obtain ⟨m2, p2⟩ := m'.sub sb
      exact q1 d v M2 H' m2 (p'.trans p2) (r'.pers m' p2) hw
    exact ⟨fun σ' H' env' M' m' p' _ h' => go .non .non M' H' m' p' .non h', fun d v M' H' m' p' r' h' => go d v M' H' m' p' r' h', fun _ _ _ _ _ _ _ z => z.elim, fun _ _ _ _ _ _ _ z => z.elim⟩
theorem fnOk_mk {x qual : Str} {params : Arguments} {body : List Stmt} {scope : Scope} {f : Addr} {fd : FuncData} {dvs : List V} {N ps : List Str} {k : Nat} {sp : MSp} (F : FunD K x qual params body scope dvs [] f fd) (S : FnScope N ps scope)
    (len : ∀ ds M Q E, sp ds M Q E → ds.length = ps.length) (t : DX → DS)
    (hbody : ∀ (cdv : Value) (A : Around) (outer : List PySem.Env) (s : Shared) (H : Hp) (E : XK) (G : Gd) (W : DX), Room k (A.deeper (envOfC qual scope s.heap.objs.size f cdv)) → Takes (Xb P w K mg base N qual scope f cdv A outer s H E) (liftX K G W) →
      MSs (Xb P w K mg base N qual scope f cdv A outer s H E) G body (t W))
    (hlaw : ∀ ds M Q E, sp ds M Q E → t (fun x _ M' => E x M') (fnEnds Q) (startE N.length ds) M) : FnOk P w K mg base (L2.CX P w) (k + 1) f fd ps (liftSp K sp) :=
  fnOk_mkG F S len t hbody fun ds M Q E h => ⟨Q, E, fun _ _ h => fgt.mk h, fun _ M h => ⟨M, .refl M, h⟩, hlaw ds M Q E h⟩
theorem fnM_mk {x qual : Str} {params : Arguments} {body : List Stmt} {scope : Scope} {f : Addr} {fd : FuncData} {N ps : List Str} {k : Nat} {sp : MSp} (F : FunD K x qual params body scope [] [] f fd) (hm : mg x = some (.ref f)) (S : FnScope N ps scope) (hb : Binds K fd ps [])
    (len : ∀ ds M Q E, sp ds M Q E → ds.length = ps.length) (t : DX → DS)
    (hbody : ∀ (cdv : Value) (A : Around) (outer : List PySem.Env) (s : Shared) (H : Hp) (E : XK) (G : Gd) (W : DX), Room k (A.deeper (envOfC qual scope s.heap.objs.size f cdv)) → Takes (Xb P w K mg base N qual scope f cdv A outer s H E) (liftX K G W) →
      MSs (Xb P w K mg base N qual scope f cdv A outer s H E) G body (t W))
    (hlaw : ∀ ds M Q E, sp ds M Q E → t (fun x _ M' => E x M') (fnEnds Q) (startE N.length ds) M) : FnM P w K mg base (k + 1) x ps sp :=
  ⟨f, fd, hm, F.kp, hb, fnOk_mk F S len t hbody hlaw⟩
/-- .. a def that leaves objects behind -/
theorem fnM_mkF {x qual : Str} {params : Arguments} {body : List Stmt} {scope : Scope} {f : Addr} {fd : FuncData} {N ps : List Str} {k : Nat} {sp : MSp} (F : FunD K x qual params body scope [] [] f fd) (hm : mg x = some (.ref f)) (S : FnScope N ps scope) (hb : Binds K fd ps [])
    (len : ∀ ds M Q E, sp ds M Q E → ds.length = ps.length) (t : DX → DS)
    (hbody : ∀ (cdv : Value) (A : Around) (outer : List PySem.Env) (s : Shared) (H : Hp) (E : XK) (G : Gd) (W : DX), Room k (A.deeper (envOfC qual scope s.heap.objs.size f cdv)) → Takes (Xb P w K mg base N qual scope f cdv A outer s H E) (liftX K G W) →
      MSs (Xb P w K mg base N qual scope f cdv A outer s H E) G body (t W))
    (hlaw : ∀ ds M Q E, sp ds M Q E → t (fun x _ M' => fgtX E x M') (fnEnds (fgt Q)) (startE N.length ds) M) : FnM P w K mg base (k + 1) x ps sp :=
  ⟨f, fd, hm, F.kp, hb, fnOk_mkG F S len t hbody fun ds M Q E h => ⟨fgt Q, fgtX E, fun _ _ h => h, fun _ M h => h, hlaw ds M Q E h⟩⟩

/-! ### the law -/
/-- what a law promises: called with the script it gives True -/
def spLaw : MSp := fun ds M Q _ => ∃ ns : List Int, ds = [.lst (ns.map .int)] ∧ ns.length ≤ 63 ∧ (∀ a, M a = none) ∧ ∀ M', Q (.bl true) M'
theorem ints_rep {hid : HidL} {M : Mh} {H : Hp} : ∀ ns : List Int, Reps K hid M H (ns.map D.int) (ns.map V.int)
  | [] => .nil
  | n :: ns => .cons (.int n) (ints_rep ns)
theorem law_rd {H : Hp} {a : Addr} {ns : List Int} (hl : ns.length ≤ 63) (hS : SqL K H a (ns.map V.int)) : liftSp K spLaw [.ref a] H (fun v _ => v = .bl true) fun _ _ _ => False := by
  refine ⟨[], [.lst (ns.map .int)], fun _ => none, fun d _ => d = .bl true, fun _ _ => False, ⟨(fun _ _ e => by cases e), fun _ h => by cases h⟩, .cons (.lst ?_ (ints_rep ns)) .nil, ⟨ns, rfl, hl, fun _ => rfl, fun _ => rfl⟩, fun d v M' H' _ _ r e => ?_, fun _ _ _ _ _ _ _ _ z => z.elim⟩
  · rcases hS with h | h
    · exact .inl ⟨h, (fun z => by cases z), rfl⟩
    · exact .inr h
  · subst e
    cases r
    rfl
theorem no_exc {P : Program} {w : World} {outer : List PySem.Env} (H : Hp) (s : Shared) (e : Value) (s' : Shared) : L2.CX P w outer H s (fun _ _ _ => False) e s' → False := fun h => by
  obtain ⟨_, _, _, _, _, _, _, _, _, _, _, _, z⟩ := h
  exact z.elim
theorem spLaw_len {ds M Q E} (h : spLaw ds M Q E) : ds.length = 1 := by
  obtain ⟨ns, rfl, _⟩ := h; rfl
/-- the law's def lets nothing out -/
theorem fnOk_law {P : Program} {w : World} {K : PySem.W.Frag} {mg : Str → Option Value} {base : Heap} {k : Nat} {f : Addr} {fd : FuncData} {ps : List Str} (F : FnOk P w K mg base (L2.CX P w) k f fd ps (liftSp K spLaw)) : FnOk P w K mg base CX0 k f fd ps (liftSp K spLaw) :=
  ⟨F.len, fun A outer s H args us vs Q E hr he hb hv ⟨hid, ds, M, Qm, Em, m, r, h, q1, q2⟩ =>
    codeAny_mono (F.run A outer s H args us vs Q (fun _ _ _ => False) hr he hb hv ⟨hid, ds, M, Qm, fun _ _ => False, m, r, h, q1, fun _ _ _ _ _ _ _ _ z => z.elim⟩) fun r s' hq => by
      cases r with
      | error e => exact (no_exc H s e s' hq).elim
      | ok fl =>
        cases fl with
        | ret u => exact hq
        | _ => exact hq.elim⟩
end
end Dl
end
section
set_option Elab.async false
set_option linter.all false
set_option maxRecDepth 100000
set_option maxHeartbeats 1000000
namespace Dl
open PySem PySem.Spec PyProof.Rows L2
section
variable {X : Cx} {G : Gd} {e f a b c d o : Expr} {es rest : List Expr} {pos p2 apos cpos : Pos} {t ta tb tc td ty tx : DE} {tt : DA}
/-! ### names of the module: whole numbers, texts -/
theorem me_gint {x : Str} {i : Int} (h : ∃ t, X.mg x = some (.int i t)) (hg : Gl X x := by rfl) (hd : (x == ("__debug__" : Str)) = false := by decide) : ME X G (.Name x pos) (mC (.int i)) := by
  obtain ⟨t, e⟩ := h
  exact me_c (pe_glob (v := .int i) hg e ⟨t, rfl⟩ hd) fun _ _ _ => .int i
theorem me_gstr {x z : Str} {l : List Nat} (h : ∃ t, X.mg x = some (.str z t)) (hl : z.cps.toList = l := by decide +kernel) (hg : Gl X x := by rfl) (hd : (x == ("__debug__" : Str)) = false := by decide) : ME X G (.Name x pos) (mC (.str l)) := by
  obtain ⟨t, e⟩ := h
  have ez : z = S l := by rw [← hl, S_of]
  subst ez
  exact me_c (pe_glob (v := .str (S l)) hg e ⟨t, rfl⟩ hd) fun _ _ _ => .str l
/-! ### in, not in -/
theorem om_inAny (neg : Bool) {op : CmpOp} (h1 : OpM X G (compareOp op) (rInS neg)) (h2 : OpM X G (compareOp op) (rInT neg)) : OpM X G (compareOp op) (rIn neg) := by
  intro pins s σ H x y v u Q I rx ry h
  obtain ⟨d, e, M, Qm, m, r1, r2, h, q⟩ := h
  unfold rIn at h
  split at h
  · split at h
    · exact h1 pins s σ H x y v u Q I rx ry ⟨_, _, M, Qm, m, r1, r2, h, q⟩
    · exact h.elim
  · exact h2 pins s σ H x y v u Q I rx ry ⟨_, _, M, Qm, m, r1, r2, h, q⟩
theorem om_in : OpM X G (compareOp .In) (rIn false) := om_inAny false om_inS om_inT
theorem om_notIn : OpM X G (compareOp .NotIn) (rIn true) := om_inAny true om_notInS om_notInT
theorem ms_never {st : Stmt} : MS X G st mNever := ⟨fun pins s σ H D I ⟨env, M, E, s', h, l⟩ => h.elim⟩
/-! ### calls without arguments, nothing let out -/
theorem tkN {X : Cx} {G : Gd} : Takes X (liftX X.K G fun _ _ _ => False) := takes0.imp fun _ _ _ _ ⟨_, _, _, _, _, z⟩ => z
theorem me_call0 {k j : Nat} {x : Str} {sp : MSp} {p : Pos} (F : FnM X.prog X.w X.K X.mg X.base k x [] sp) (hr : Room j X.A) (hk : k ≤ j) (hg : Gl X x := by rfl)
    (hdb : (x == ("__debug__" : Str)) = false := by decide) : ME X G (.Call (.Name x p) [] [] pos) (mCall0 sp) := by
  obtain ⟨f, fd, hm, hkp, hb, F⟩ := F.ex
  refine PE.imp (pe_call0 F (hr.mono hk) hg hm hkp hb .nil passL hdb) fun σ H Q ⟨env, M, Qm, s, h, q⟩ => ?_
  exact ⟨G.hid, [], M, _, fun _ _ => False, s.m, .nil, h, fun d v M2 H2 m2 p2 r2 h2 => q d v M2 H2 m2 p2 r2 h2, fun _ _ _ _ _ _ _ _ z => z.elim⟩
/-! ### a, b, c = x, y, z -/
theorem ms_par3 {i j l : Nat} {x y z : Str} {px py pz pt : Pos} {kt k2 pt2} (hc : X.calm = true) (hN : X.N.Nodup) (hij : i ≠ j) (hil : i ≠ l) (hjl : j ≠ l) (ha : MA X G [a, b, c] tt) (hi : X.N[i]? = some x := by rfl) (hj : X.N[j]? = some y := by rfl) (hl : X.N[l]? = some z := by rfl)
    (hx : X.env.scope.names.lookup x = some .local := by rfl) (hy : X.env.scope.names.lookup y = some .local := by rfl) (hz : X.env.scope.names.lookup z = some .local := by rfl)
    (hw : swappedStores [.Tuple [.Name x px, .Name y py, .Name z pz] kt pt] (.Tuple [a, b, c] k2 pt2) X.env = pure (some [x, y, z]) := by rfl)
    (hs : swapsWithSole [.Tuple [.Name x px, .Name y py, .Name z pz] kt pt] (.Tuple [a, b, c] k2 pt2) pos.line X.env = pure false := by rfl) :
    MS X G (.Assign [.Tuple [.Name x px, .Name y py, .Name z pz] kt pt] (.Tuple [a, b, c] k2 pt2) pos) (mPar3 i j l tt) :=
  PS.imp (ps_par3 hc hN hi hj hl hij hil hjl hx hy hz ha hw hs) fun D σ H ⟨env, M, E, s, h, l⟩ => ⟨env, M, _, s, h, fun ds vs M1 H1 m1 p1 r1 h1 => by
    match ds, r1, h1 with
    | [d1, d2, d3], r1, h1 =>
      obtain ⟨v1, v2, v3, rfl, q1, q2, q3⟩ := r1.inv3
      exact ⟨v1, v2, v3, rfl, l.nx _ H1 _ M1 m1 p1 ((((s.next m1 p1).set q1).set q2).set q3).e h1⟩⟩
/-! ### find of a sign -/
theorem occ_full (s sub : Str) (hi : Nat) : ∀ (l : List Nat) (st : Array Nat × Nat), st.1.size = 1 → (forIn l st (StrLaws.occBody s sub hi 1)).run.1 = st.1
  | [], st, _ => rfl
  | a :: l, st, h => by
    rw [List.forIn_cons]
    unfold StrLaws.occBody
    rw [if_neg fun z => by have := z.1.1.1; omega]
    exact occ_full s sub hi l _ h
theorem occ_sign (s : List Nat) (c : Nat) : ∀ (n k : Nat), k + n = s.length + 1 → (∃ i, (forIn (List.range' k n) ((#[] : Array Nat), 0) (StrLaws.occBody (S s) (S [c]) s.length 1)).run.1.toList = [i] ∧ findC c k (s.drop k) = i) ∨
    ((forIn (List.range' k n) ((#[] : Array Nat), 0) (StrLaws.occBody (S s) (S [c]) s.length 1)).run.1.toList = [] ∧ findC c k (s.drop k) = -1)
  | 0, k, h => by
    refine .inr ⟨rfl, ?_⟩
    rw [List.drop_eq_nil_of_le (by omega)]; rfl
  | n + 1, k, h => by
    rw [List.range'_succ, List.forIn_cons]
    unfold StrLaws.occBody
    have key := StrLaws.subAt_one (S s) c k
    have e1 : (S s).length = s.length := S_len s
    rw [e1] at key
    by_cases hc : k + (S [c]).length ≤ s.length ∧ Builtin.Str.subAt (S s) (S [c]) k = true
    · rw [if_pos ⟨⟨⟨by simp, by simp⟩, hc.1⟩, hc.2⟩]
      have q := key.mp hc
      rw [S_cps] at q
      have hk : k < s.length := (List.getElem?_eq_some_iff.mp q).1
      refine .inl ⟨k, ?_, ?_⟩
      · show ((forIn (List.range' (k + 1) n) ((#[] : Array Nat).push k, k + (S [c]).length) (StrLaws.occBody (S s) (S [c]) s.length 1)).run.1).toList = [k]
        rw [occ_full _ _ _ _ _ rfl]; rfl
      · rw [List.drop_eq_getElem_cons hk]
        rw [List.getElem?_eq_getElem hk] at q
        show (if s[k] = c then (k : Int) else _) = k
        rw [if_pos (Option.some.inj q)]
    · rw [if_neg fun z => hc ⟨z.1.2, z.2⟩]
      have ih := occ_sign s c n (k + 1) (by omega)
      have st : findC c k (s.drop k) = findC c (k + 1) (s.drop (k + 1)) := by
        by_cases hk : k < s.length
        · rw [List.drop_eq_getElem_cons hk]
          show (if s[k] = c then (k : Int) else _) = _
          rw [if_neg fun z => hc (key.mpr (by rw [S_cps, List.getElem?_eq_getElem hk, z]))]
        · rw [List.drop_eq_nil_of_le (by omega), List.drop_eq_nil_of_le (by omega)]; rfl
      rw [st]
      exact ih
theorem find_sign (s : List Nat) (c : Nat) : Txt.find (S s) (S [c]) = findC c 0 s := by
  unfold Txt.find
  have e1 : (S s).length = s.length := S_len s
  rw [StrLaws.occ_eq, e1]
  have h := occ_sign s c (s.length + 1 - 0) 0 (by omega)
  rw [List.drop_zero] at h
  rcases h with ⟨i, h1, h2⟩ | ⟨h1, h2⟩
  · rw [h1, h2]
  · rw [h1, h2]
theorem mm_find : MtMm X G "str.find" rFind := by
  intro pins s σ H x xs v us Q I rx rs h
  obtain ⟨d, ds, M, Qm, m, r1, r2, h, q⟩ := h
  unfold rFind at h
  split at h
  · cases r1
    obtain ⟨w, rfl, r3⟩ := r2.inv1
    cases r3
    refine mt_find pins s σ H _ _ v us Q I rx rs ⟨_, _, rfl, rfl, ?_⟩
    rw [find_sign]
    exact q.pure m (.int _) h
  · exact h.elim
theorem me_find (ho : ME X G o t) (ha : MA X G [e] tt) (hbase : attributeBase o "find" X.env (eval o X.env) = eval o X.env := by rfl)
    (hfew : ((backTo cpos (starEach [e] X.env)).all (fun x => !x.1) && (backToKw cpos (keywordEach [] X.env)).all (fun x => x.1.isSome) && decide ([e].length + ([] : List Keyword).length + (if ([] : List Keyword).isEmpty then 0 else 1) < 30)) = true := by rfl)
    (hline : (apos.endLine == cpos.line) = true := by rfl) (hs : starEach [e] X.env = [(false, eval e X.env)] := by rfl) : ME X G (.Call (.Attribute o "find" apos) [e] [] cpos) (mBm "str" rFind t tt) :=
  me_bm PySem.F.plainAttrs_str PySem.F.slot_str_find PySem.F.type_str_find mm_find ho ha hbase hfew hline hs
/-! ### sorted -/
theorem toPy_tup {d : D} : toPy d = .none → plain d = true → d = .non := by
  intro h p
  cases d <;> first | rfl | (cases h; done) | (cases p; done)
theorem reps_each {K : PySem.W.Frag} {hid : HidL} {M : Mh} {H : Hp} : ∀ {ds : List D} {vs : List V} {us : List Value}, Reps K hid M H ds vs → Vals vs us → PySem.W.EachIs (fun u d => ∃ x, RelV x u ∧ Rep K hid M H d x) us ds
  | [], _, _, r, h => by cases r; cases h; exact .nil
  | d :: ds, _, _, r, h => by
    cases r with
    | cons r1 r2 =>
      cases h with
      | cons h1 h2 => exact .cons ⟨_, h1, r1⟩ (reps_each r2 h2)
theorem each_reps {K : PySem.W.Frag} {hid : HidL} {M : Mh} {H : Hp} : ∀ {ds : List D} {us : List Value}, PySem.W.EachIs (fun u d => ∃ x, RelV x u ∧ Rep K hid M H d x) us ds → ∃ vs, Reps K hid M H ds vs ∧ Vals vs us
  | _, _, .nil => ⟨[], .nil, .nil⟩
  | _, _, .cons ⟨x, h1, r1⟩ t => let ⟨vs, r, h⟩ := each_reps t; ⟨x :: vs, .cons r1 r, .cons h1 h⟩
theorem sortD_eq {ds : List D} (hp : ∀ x ∈ ds, plain x = true) (ha : ∀ x ∈ ds, ∀ y ∈ ds, alikeD x y = true) : ds.mergeSort (PySem.W.dataLe false toPy) = sortD ds := by
  have h := List.map_mergeSort (r := PySem.W.dataLe false toPy) (s := fun a b => !ltD b a) (f := id) (l := ds) fun a ha' b hb => by
    show (!PySem.W.dataLt (toPy b) (toPy a)) = (!ltD b a)
    rw [lt_py b a (hp b hb) (hp a ha') (ha b hb a ha')]
  rw [List.map_id, List.map_id] at h
  exact h
theorem sortable_py {ds : List D} (o2 : ∀ x ∈ ds, plain x = true ∧ deep x ≤ 60 ∧ x ≠ .non ∧ x ≠ .tup []) (o1 : ∀ x ∈ ds, ∀ y ∈ ds, alikeD x y = true) : PySem.W.Sortable (ds.map toPy) := by
  cases ds with
  | nil => exact .inl fun d hd => by cases hd
  | cons x0 r0 =>
    have h0 := o2 x0 List.mem_cons_self
    by_cases ht : ∃ zs, x0 = .tup zs
    · obtain ⟨zs, rfl⟩ := ht
      refine .inl fun d hd => ?_
      obtain ⟨x, hx, rfl⟩ := List.mem_map.mp hd
      have al := o1 _ List.mem_cons_self x hx
      have hx2 := o2 x hx
      cases x with
      | tup ys =>
        cases ys with
        | nil => exact absurd rfl hx2.2.2.2
        | cons y ys => exact ⟨_, _, rfl⟩
      | _ => cases al
    · refine .inr fun d hd => ?_
      obtain ⟨x, hx, rfl⟩ := List.mem_map.mp hd
      have al := o1 x hx _ List.mem_cons_self
      have hx2 := o2 x hx
      refine ⟨fun z => hx2.2.2.1 (toPy_tup z hx2.1), fun xs z => ?_⟩
      cases x <;> first | (cases z; done) | skip
      cases x0 <;> first | (cases al; done) | skip
      exact ht ⟨_, rfl⟩
theorem sort_rd (hu : X.A.units + 64 < cLine) {pins : List (Addr × Obj)} {s : Shared} {σ : St} {H : Hp} {M : Mh} {a : Addr} {ds : List D} {vs : List V} {Q : VK} {Qm : DQ} (I : Inv X pins σ H s) (m : RelM X.K G.hid M H) (hl : SqL X.K H a vs ∨ SqT X.K H a vs) (rs : Reps X.K G.hid M H ds vs)
    (ok : sortOk ds) (h : Qm (.lst (sortD ds)) M) (q : ThenV X.K G M H Qm Q) (hl' : SqL X.K H a vs) : wpAny (model X.prog X.w) X.A (call (.builtin "sorted") [.ref a]) (EP X pins σ Q) X.xe s := by
  obtain ⟨its, rv, hil, hz⟩ := I.list hl'
  obtain ⟨o1, o2, o3⟩ := ok
  have each := reps_each rs rv
  have pl : ∀ x ∈ ds, plain x = true := fun x hx => (o2 x hx).1
  refine PySem.W.sorted_data (enc := toPy) (R := fun u d => ∃ x, RelV x u ∧ Rep X.K G.hid M H d x) hil.isList each ?_ ?_ ?_ ?_ ?_ fun out hlen ho => ?_
  · have go : ∀ {us : List Value} {ds : List D}, PySem.W.EachIs (fun u d => ∃ x, RelV x u ∧ Rep X.K G.hid M H d x) us ds → (∀ x ∈ ds, plain x = true) → PySem.W.EachIs (fun v b => ∃ as, Reads s.heap v (toPy b) as) us ds := by
      intro us ds h
      induction h with
      | nil => intro _; exact .nil
      | cons h1 _ ih =>
        intro hp
        obtain ⟨x, h1, r1⟩ := h1
        exact .cons (Dp.reads I _ x _ (rep_dp r1 (hp _ List.mem_cons_self)) h1) (ih fun y hy => hp y (List.mem_cons_of_mem _ hy))
    exact go each pl
  · intro d hd d' hd'
    obtain ⟨x, hx, rfl⟩ := List.mem_map.mp hd
    obtain ⟨y, hy, rfl⟩ := List.mem_map.mp hd'
    exact alike_py x y (pl x hx) (pl y hy) (o1 x hx y hy)
  · exact sortable_py o2 o1
  · rw [← line_eq]; exact o3
  · intro x hx
    have h1 := (lay_py x (pl x hx)).2
    have h2 := (o2 x hx).2.1
    omega
  · rw [sortD_eq pl o1] at ho
    obtain ⟨ws, r1, r2⟩ := each_reps ho
    obtain ⟨ep, he'⟩ := PyProof.Rows.sortedAll_at s.heap its out.toArray
    have hlen2 : ws.length ≤ sizeLine := by
      rw [← r1.length]
      have : (sortD ds).length = ds.length := by unfold sortD; simp
      rw [this, ← line_eq]; exact o3
    exact ⟨.ref _, upd H (s.heap.objs.size + 1) (.lst ws), I.laid (t' := s.toks) (fun _ _ => PyProof.Rows.sortedAll_old) (Nat.le_succ _) ⟨hlen2, out, ep, r2, he'⟩, rfl, q.lst m (I.hok.fresh (Nat.le_succ _)) r1 h⟩
theorem cm_sorted (hu : X.A.units + 64 < cLine) : CallM X G (.builtin "sorted") rSortedL := by
  intro pins s σ H xs us Q I r h
  obtain ⟨ds, M, Qm, m, rs, h, q⟩ := h
  unfold rSortedL at h
  split at h
  · obtain ⟨v, rfl, r1⟩ := rs.inv1
    cases r1 with
    | @lst a ds vs hl ra =>
      rw [Vals.ref1 r]
      exact sort_rd hu I m (.inl hl.sq) ra h.1 h.2 q hl.sq
  · obtain ⟨v, rfl, r1⟩ := rs.inv1
    cases r1
    split at h
    · next ds em =>
      obtain ⟨vs, hv, rs⟩ := m.1 _ _ em
      rw [Vals.ref1 r]
      exact sort_rd hu I m (.inl (.inl (.inl hv))) rs h.1 h.2 q (.inl (.inl hv))
    · exact h.elim
  · exact h.elim
end
end Dl
end
section
set_option Elab.async false
set_option linter.all false
set_option maxRecDepth 100000
set_option maxHeartbeats 1000000
namespace Dl
open PySem PySem.Spec PySem.Calls PyProof.Rows L2
section
variable {X : Cx} {G : Gd} {pins : List (Addr × Obj)} {σ : St} {H : Hp} {s : Shared}
/-- a def is called within two calls of built-ins -/
theorem run_in2 {k : Nat} {f : Addr} {fd : FuncData} {ps : List Str} {sp : Sp} {Q : VK} {us : List Value} {vs : List V} (F : FnOk X.prog X.w X.K X.mg X.base (L2.CX X.prog X.w) k f fd ps sp) (hr : Room (k + 2) X.A) (hb : Binds X.K fd ps [])
    (I : Inv X pins σ H s) (r : Vals vs us) (h : sp vs H Q fun _ _ _ => False) :
    wpAny (model X.prog X.w) X.A.in1.in1 (call (.ref f) us) (fun u s' => ∃ v H', Inv X pins σ H' s' ∧ RelV v u ∧ Q v H' ∧ Un (frs X.stack) [] H H' s.heap s'.heap) (fun _ _ => False) s := by
  have hl : us.length = ps.length := by rw [← r.length]; exact F.len _ _ _ _ h
  have hb2 := hb s us I.kIn (by rw [List.append_nil]; exact hl)
  rw [List.append_nil] at hb2
  refine wpAny_call (codeAny_mono (F.run X.A.in1.in1 X.stack s H ⟨us, []⟩ us vs Q _ hr.in1.in1 I.env0.in1.in1 hb2 r h) fun r s' hq => ?_)
  cases r with
  | error e => exact (no_exc H s e s' hq).elim
  | ok fl =>
    cases fl with
    | ret u =>
      have hq2 := hq
      obtain ⟨v, H', os, bare, un, hok, r, q⟩ := hq
      obtain ⟨hh, g, d, t, os'⟩ := s'
      obtain rfl : os' = s.os := os
      exact ⟨v, H', I.call (h' := hh) (g' := g) (d' := d) (t' := t) (ch := []) un hok bare (fun b z => absurd z (by simp)), r, q, un⟩
    | next => exact hq.elim
    | brk => exact hq.elim
    | cont => exact hq.elim
/-- what stands of the keys behind i turns -/
def KeysAt (X : Cx) (G : Gd) (pins : List (Addr × Obj)) (σ : St) (H : Hp) (M : Mh) (k : D → D) (ds : List D) (a kS : Addr) (e1 : Nat) (i : Nat) (s' : Shared) : Prop :=
  ∃ (H' : Hp) (kA : Array Value) (e : Nat), Inv X pins σ H' s' ∧ RelM X.K G.hid M H' ∧ Pers M H M H' ∧ H' a = none ∧ H' kS = none ∧ s'.heap.get? kS = some (seqObj "list" kA e) ∧ s'.heap.get? a = some (seqObj "list" #[] e1) ∧
    PySem.W.EachIs (fun u d => ∃ x, RelV x u ∧ Rep X.K G.hid M H' (k d) x) kA.toList (ds.take i)
/-- a record of ours that is not tracked -/
def Ours (X : Cx) (pins : List (Addr × Obj)) (b : Addr) : Prop :=
  b ≠ X.env.locals ∧ b ∉ frs X.stack ∧ (b ∈ X.ex ∨ X.s_0.heap.objs.size ≤ b) ∧ (∀ x c, X.env.cells.lookup x = some c → c ≠ b) ∧ ∀ p ∈ X.pn ++ pins, p.1 ≠ b
theorem Ours.of {b : Addr} (I : Inv X pins σ H s) (hb : s.heap.objs.size ≤ b) : Ours X pins b := by
  obtain ⟨_, h1, h2, h3, h4, h5⟩ := I.fpOk (H' := H) hb (I.hok.fresh hb)
  exact ⟨h1, fun z => (List.mem_cons.mp (I.stkSub b z)).elim h1 h2, h3, h4, h5⟩
/-- two such records are changed, one of them is tracked from here on -/
theorem adopt {a kS : Addr} {vs : List V} {h' : Heap} {t' : Nat} (I : Inv X pins σ H s) (oa : Ours X pins a) (ok : Ours X pins kS) (ha : H a = none) (hk : H kS = none) (k : ∀ b o, b ≠ a → b ≠ kS → s.heap.get? b = some o → h'.get? b = some o)
    (new : ObjOk X.prog X.w (upd H a (.lst vs)) h' a (.lst vs)) : Inv X pins σ (upd H a (.lst vs)) { s with heap := h', toks := t' } := by
  have nn : ∀ {b u}, H b = some u → b ≠ a ∧ b ≠ kS := fun {b u} e => ⟨fun z => (by rw [z, ha] at e; cases e), fun z => (by rw [z, hk] at e; cases e)⟩
  have ne : ∀ {b}, b ∉ [a, kS] → b ≠ a ∧ b ≠ kS := fun {b} hb => ⟨fun z => hb (by simp [z]), fun z => hb (by simp [z])⟩
  refine I.call (g' := s.gens) (d' := s.drawn) (ch := [a, kS]) ⟨fun b o e _ _ hc => k b o (ne hc).1 (ne hc).2 e, fun b o e _ _ hc => ⟨o.slots, k b o (ne hc).1 (ne hc).2 e⟩, fun b o e n hc => by rw [upd_ne (ne hc).1]; exact n, fun b o e hc => ⟨o, k b o (ne hc).1 (ne hc).2 e⟩,
    fun b xs e => by rw [upd_ne (nn e).1]; exact e, fun b o u e => by rw [upd_ne (nn e).1]; exact e, fun b ps e => ⟨#[], by rw [upd_ne (nn e).1, e]; simp⟩⟩ (fun b u e => ?_) I.bare fun b hb => ?_
  · by_cases z : b = a
    · subst z; rw [upd_same] at e; cases e; exact new
    · rw [upd_ne z] at e
      refine (I.hok b u e).stay (fun c v hc q => ?_) (fun c q => by rw [upd_ne (nn q).1]; exact q) fun c xs q => by rw [upd_ne (nn q).1]; exact q
      have : c ≠ a ∧ c ≠ kS := hc.elim (fun z => by rw [z]; exact nn e) fun z => nn z
      exact k c v this.1 this.2 q
  · have go : Ours X pins b → _ := fun o => (⟨o.2.2.1, o.1, o.2.2.2.1, o.2.2.2.2⟩ : (b ∈ X.ex ∨ X.s_0.heap.objs.size ≤ b) ∧ b ≠ X.env.locals ∧ (∀ x c, X.env.cells.lookup x = some c → c ≠ b) ∧ ∀ p ∈ X.pn ++ pins, p.1 ≠ b)
    rcases List.mem_cons.mp hb with z | z
    · subst z; exact go oa
    · have z := List.mem_singleton.mp z
      subst z; exact go ok
/-- one such record is changed -/
theorem Inv.spin {b : Addr} {h' : Heap} {t' : Nat} (I : Inv X pins σ H s) (o : Ours X pins b) (hb : H b = none) (k : ∀ c u, c ≠ b → s.heap.get? c = some u → h'.get? c = some u) : Inv X pins σ H { s with heap := h', toks := t' } :=
  I.turned k hb o.1 o.2.2.1 o.2.2.2.1 o.2.2.2.2
theorem keys_turns {M : Mh} {k : Nat} {f : Addr} {fd : FuncData} {px : Str} {sp : MSp} {kf : D → D} {ds : List D} {xs : List V} {vs : List Value} {a kS : Addr} {e1 : Nat} {P : PySem.Fin → Shared → Prop} {E : Value → Shared → Prop}
    (F : FnOk X.prog X.w X.K X.mg X.base (L2.CX X.prog X.w) k f fd [px] (liftSp X.K sp)) (hr : Room (k + 2) X.A) (hb : Binds X.K fd [px] []) (m : RelM X.K G.hid M H) (rs : Reps X.K G.hid M H ds xs) (rv : Vals xs vs) (hk : ∀ d ∈ ds, ∀ M, sp [d] M (fun y M' => y = kf d ∧ M' = M) fun _ _ => False)
    (oa : Ours X pins a) (ok : Ours X pins kS) (hka : kS ≠ a) (hZ : vs.length ≤ sizeLine) (h0 : KeysAt X G pins σ H M kf ds a kS e1 0 s)
    (fin : ∀ s' H' (kA : Array Value) e, Inv X pins σ H' s' → RelM X.K G.hid M H' → Pers M H M H' → H' a = none → H' kS = none → s'.heap.get? kS = some (seqObj "list" kA e) → s'.heap.get? a = some (seqObj "list" #[] e1) →
      PySem.W.EachIs (fun u d => ∃ x, RelV x u ∧ Rep X.K G.hid M H' (kf d) x) kA.toList ds → wpAny (model X.prog X.w) X.A.in1.in1 (PyProof.Rows.ksk_end a false vs.toArray e1 (.ref kS) kA) P E s') :
    wpAny (model X.prog X.w) X.A.in1.in1 (PyProof.Rows.ksk_rest a (.ref f) false vs.toArray e1 (.ref kS)) P E s := by
  have hlen : ds.length = vs.length := by rw [rs.length, rv.length]
  unfold PyProof.Rows.ksk_rest
  refine wpAny_bind (wpAny_rule ?_)
  rw [List.forIn_toArray]
  refine wpAny_bind (PyProof.Rows.ksk_fold (fun i s' => KeysAt X G pins σ H M kf ds a kS e1 i s') vs 0 s h0 ?step ?done)
  case step =>
    rintro j x s' hx ⟨H', kA, e, I', m', p', na', nk', gk, ga, hE⟩
    simp only [Nat.zero_add] at hE ⊢
    have hj : j < vs.length := (List.getElem?_eq_some_iff.mp hx).1
    obtain ⟨d, hd⟩ : ∃ d, ds[j]? = some d := ⟨_, List.getElem?_eq_getElem (by omega)⟩
    obtain ⟨xv, hxv, rd⟩ := rs.get hd
    obtain ⟨u, hu, rxu⟩ := rv.get hxv
    rw [hx] at hu
    cases hu
    have hz : kA.size ≤ vs.length := by
      have h1 := hE.length
      rw [Array.length_toList, List.length_take] at h1
      omega
    have rd' := rd.pers m p'
    refine wpAny_bind (wpAny_attempt (wpAny_mono (run_in2 (Q := fun v H2 => RelM X.K G.hid M H2 ∧ Pers M H' M H2 ∧ Rep X.K G.hid M H2 (kf d) v) F hr hb I' (.cons rxu .nil) ⟨G.hid, [d], M, _, fun _ _ => False, m', .cons rd' .nil, hk d (List.mem_of_getElem? hd) M, fun y v M2 H2 m2 p2 r2 ⟨h1, h2⟩ => by subst h1; subst h2; exact ⟨m2, p2, r2⟩, fun _ _ _ _ _ _ _ _ z => z.elim⟩) (fun v s'' he => ?_) fun _ _ hF => hF.elim))
    obtain ⟨w, H2, I2, rw2, ⟨m2, p2, r2⟩, un⟩ := he
    try dsimp only
    have na2 : H2 a = none := un.free _ _ ga na' (by simp)
    have nk2 : H2 kS = none := un.free _ _ gk nk' (by simp)
    have ga2 := un.keep _ _ ga na' oa.2.1 (by simp)
    have gk2 := un.keep _ _ gk nk' ok.2.1 (by simp)
    have s1 := Heap.SameBut.update s''.heap kS (Obj.mapSeq (·.push v))
    obtain ⟨c2, hc2⟩ : ∃ c2, (s''.heap.update kS (Obj.mapSeq (·.push v))).get? kS = some (seqObj "list" (kA.push v) c2) := ⟨_, get?_update_seq gk2 (·.push v)⟩
    have ek : ds.take (j + 1) = ds.take j ++ [d] := by rw [List.take_add_one, hd]; simp
    have ea : (kA.push v).toList = kA.toList ++ [v] := by simp
    refine wpAny_bind (listUpdate_at gk2 rfl ?_ (Nat.le_trans hz hZ) (Nat.le_trans (Nat.le_of_eq (Array.size_push ..)) (Nat.succ_le_succ (Nat.le_trans hz hZ))))
    refine wpAny_pure ⟨rfl, H2, kA.push v, c2, Dl.Inv.spin I2 ok nk2 (fun c u hc e => (s1.2 c hc).trans e), m2, p'.trans p2, na2, nk2, hc2, (s1.2 a hka.symm).trans ga2, ?_⟩
    rw [ea, ek]
    have hE2 : PySem.W.EachIs (fun u d => ∃ x, RelV x u ∧ Rep X.K G.hid M H2 (kf d) x) kA.toList (ds.take j) := hE.mono fun u d ⟨x, h1, h2⟩ => ⟨x, h1, h2.pers m' p2⟩
    exact PySem.W.each_snoc ⟨w, rw2, r2⟩ hE2
  case done =>
    rintro s' ⟨H', kA, e, I', m', p', na', nk', gk, ga, hE⟩
    have e3 : ds.take (0 + vs.length) = ds := List.take_of_length_le (by omega)
    rw [e3] at hE
    try dsimp only
    refine wpAny_bind (listItems_at gk rfl ?_)
    exact fin s' H' kA e I' m' p' na' nk' gk ga hE

theorem restrict1 (h : Heap) (c : Addr) : ∃ g : Heap, (∀ b, b ≠ c → g.get? b = h.get? b) ∧ g.get? c = none := by
  obtain ⟨g, h1, h2⟩ := L2.restrict h fun b => decide (b ≠ c)
  exact ⟨g, fun b hb => h1 b (by simpa using hb), h2 c (by simp)⟩
theorem toPy_deep {d : D} (p : plain d = true) (h : deep d ≤ 60) : (toPy d).depth ≤ 60 := by rw [(lay_py d p).2]; exact h
/-- sorted(xs, key=f): the items, sorted by the keys -/
theorem sortK_run {M : Mh} {k : Nat} {f : Addr} {fd : FuncData} {px : Str} {sp : MSp} {kf : D → D} {ds : List D} {xs : List V} {l : Addr} {Q : VK} {Qm : DQ} (hu : X.A.units + 64 < cLine)
    (F : FnOk X.prog X.w X.K X.mg X.base (L2.CX X.prog X.w) k f fd [px] (liftSp X.K sp)) (hr : Room (k + 2) X.A) (hb : Binds X.K fd [px] []) (I : Inv X pins σ H s) (m : RelM X.K G.hid M H) (hl : SqL X.K H l xs) (rs : Reps X.K G.hid M H ds xs) (hk : keyOk sp kf ds)
    (q : Qm (.lst (sortK kf ds)) M) (th : ThenV X.K G M H Qm Q) : wpAny (model X.prog X.w) X.A (call (.builtin "sorted") [.ref l] [(Str.ofString "key", .ref f)]) (EP X pins σ Q) X.xe s := by
  obtain ⟨its, rv, hil, hz⟩ := I.list hl
  obtain ⟨hkey, o1, o2, o3⟩ := hk
  have hlen : ds.length = its.length := by rw [rs.length, rv.length]
  have hZ : its.length ≤ sizeLine := by rw [← rv.length]; exact hz
  refine PySem.W.sorted_of_sort hil.isList hZ (ksk_s1 _ _) (fun _ => ksk_l1 _ _) fun E' => ?_
  rw [ksk_t1]
  have ha0 : s.heap.objs.size ≤ s.heap.objs.size + 1 := Nat.le_succ _
  have Ha : H (s.heap.objs.size + 1) = none := I.hok.fresh ha0
  have oa : Ours X pins (s.heap.objs.size + 1) := Ours.of I ha0
  have I1 : Inv X pins σ H { s with heap := PySem.W.copyHeap s.heap its } := I.kept (t' := s.toks) fun b o e => PySem.W.copyHeap_old e
  have ho := PySem.W.copyHeap_at s.heap its
  generalize PySem.W.copyHeap s.heap its = hc at I1 ho
  generalize s.heap.objs.size + 1 = a at ha0 Ha oa ho ⊢
  obtain ⟨e1, ho1⟩ : ∃ e1, (hc.update a (Obj.mapSeq fun _ => (#[] : Array Value))).get? a = some (seqObj "list" #[] e1) := ⟨_, get?_update_seq ho fun _ => #[]⟩
  have hkS : ((hc.update a (Obj.mapSeq fun _ => (#[] : Array Value))).push (seqObj "tuple" its.toArray 0)).objs.size = hc.objs.size + 1 := by rw [size_push', Heap.size_update]
  have halt : a < hc.objs.size := Heap.lt_size ho
  unfold PyProof.Rows.ksk_tree
  refine wpAny_bind (listItems_at ho rfl ?_)
  refine wpAny_bind (listUpdate_at ho rfl ?_ (by rw [List.size_toArray]; exact hZ) (Nat.zero_le _))
  refine wpAny_bind (seqEpoch_at ho1 rfl ?_)
  refine wpAny_bind (wpAny_newTuple ?_ (by show its.length ≤ _; exact hZ))
  refine wpAny_bind (wpAny_newList ?_ (Nat.zero_le _))
  refine wpAny_holding ?_
  have ok : Ours X pins (hc.objs.size + 1) := Ours.of I1 (Nat.le_succ _)
  have Hk : H (hc.objs.size + 1) = none := I1.hok.fresh (Nat.le_succ _)
  have I2 : Inv X pins σ H { s with heap := PySem.W.sortingHeap hc a its } := Dl.Inv.spin (s := { s with heap := hc }) (h' := PySem.W.sortingHeap hc a its) (t' := s.toks) I1 oa Ha fun c u hcx e => PySem.W.sortingHeap_old hcx e
  rw [hkS]
  refine keys_turns (σ := σ) (s := { s with heap := PySem.W.sortingHeap hc a its }) F hr hb m rs rv hkey oa ok (Nat.ne_of_gt (Nat.lt_succ_of_lt halt)) hZ ?_ ?_
  · exact ⟨H, #[], 0, I2, m, .refl _ _, Ha, Hk, by rw [← hkS]; exact Heap.get?_push_size _ rfl, Heap.get?_push_of_some _ (Heap.get?_push_of_some _ ho1), .nil⟩
  intro s' H' kA e I' m' p' na' nk' gk ga hE
  obtain ⟨g, g1, g2⟩ := restrict1 s'.heap (hc.objs.size + 1)
  have pl : ∀ d ∈ ds, plain (kf d) = true ∧ deep (kf d) ≤ 60 ∧ kf d ≠ .non ∧ kf d ≠ .tup [] := fun d hd => o2 _ (List.mem_map.mpr ⟨d, hd, rfl⟩)
  have al : ∀ d ∈ ds, ∀ d' ∈ ds, alikeD (kf d) (kf d') = true := fun d hd d' hd' => o1 _ (List.mem_map.mpr ⟨d, hd, rfl⟩) _ (List.mem_map.mpr ⟨d', hd', rfl⟩)
  have hal : PySem.W.AllAlike (ds.map fun d => toPy (kf d)) := by
    intro x hx y hy
    obtain ⟨d, hd, rfl⟩ := List.mem_map.mp hx
    obtain ⟨d', hd', rfl⟩ := List.mem_map.mp hy
    exact alike_py _ _ (pl d hd).1 (pl d' hd').1 (al d hd d' hd')
  have hsk : PySem.W.Sortable (ds.map fun d => toPy (kf d)) := by
    have := sortable_py (ds := ds.map kf) (fun x hx => by obtain ⟨d, hd, rfl⟩ := List.mem_map.mp hx; exact pl d hd) (fun x hx y hy => by obtain ⟨d, hd, rfl⟩ := List.mem_map.mp hx; obtain ⟨d', hd', rfl⟩ := List.mem_map.mp hy; exact al d hd d' hd')
    rw [List.map_map] at this
    exact this
  have hE2 : PySem.W.EachIs (fun v d => ∃ as, Reads s'.heap v d as) kA.toList (ds.map fun d => toPy (kf d)) := by
    have go : ∀ {us : List Value} {es : List D}, PySem.W.EachIs (fun u d => ∃ x, RelV x u ∧ Rep X.K G.hid M H' (kf d) x) us es → (∀ d ∈ es, plain (kf d) = true) → PySem.W.EachIs (fun v d => ∃ as, Reads s'.heap v d as) us (es.map fun d => toPy (kf d)) := by
      intro us es h
      induction h with
      | nil => intro _; exact .nil
      | cons h1 _ ih =>
        intro hp
        obtain ⟨x, h1, r1⟩ := h1
        exact .cons (Dp.reads I' _ x _ (rep_dp r1 (hp _ List.mem_cons_self)) h1) (ih fun y hy => hp y (List.mem_cons_of_mem _ hy))
    exact go hE fun d hd => (pl d hd).1
  have hks : kA.size = its.length := by
    have h1 := hE2.length
    rw [Array.length_toList, List.length_map] at h1
    omega
  refine PySem.W.keyH_end (κ := PySem.W.dataKind s'.heap (ds.map fun d => toPy (kf d))) (h₁ := g) (fun b o hba e => ?_) g2 gk ga (Nat.ne_of_gt (Nat.lt_succ_of_lt halt)) (PySem.W.SortsAt.data (s := s') hE2 hal hsk fun d hd => ?_) hks hZ fun h' tk c kp hD => ⟨rfl, ?_⟩
  · by_cases z : b = hc.objs.size + 1
    · rw [z, g2] at e; cases e
    · rw [← g1 b z]; exact e
  · obtain ⟨d0, hd0, rfl⟩ := List.mem_map.mp hd
    have h1 := toPy_deep (pl d0 hd0).1 (pl d0 hd0).2.1
    show X.A.units + 1 + 1 + _ < _
    omega
  · have ko : PySem.W.KeyedOut false (ds.map fun d => toPy (kf d)) its (PySem.W.sortVals (PySem.W.dataKind s'.heap (ds.map fun d => toPy (kf d))) false kA.toList its) := ⟨s'.heap, kA.toList, hal, rfl, hE2⟩
    have each := reps_each (rs.pers m p') rv
    have out := PySem.W.keyedOut_each (β := D) (bs := ds) (fun d => toPy (kf d)) ko each
    have hs : ds.mergeSort (PySem.W.dataLe false fun d => toPy (kf d)) = sortK kf ds := by
      have h := List.map_mergeSort (r := PySem.W.dataLe false fun d => toPy (kf d)) (s := fun a b => !ltD (kf b) (kf a)) (f := id) (l := ds) fun a ha' b hb' => by
        show (!PySem.W.dataLt (toPy (kf b)) (toPy (kf a))) = (!ltD (kf b) (kf a))
        rw [lt_py _ _ (pl b hb').1 (pl a ha').1 (al b hb' a ha')]
      rw [List.map_id, List.map_id] at h
      exact h
    rw [hs] at out
    obtain ⟨ws, r1, r2⟩ := each_reps out
    have hwl : ws.length ≤ sizeLine := by
      rw [← r1.length]
      have : (sortK kf ds).length = ds.length := by unfold sortK; simp
      rw [this, hlen]; exact hZ
    have I3 := adopt (t' := tk) (vs := ws) (h' := h') I' oa ok na' nk' (fun b o hba hbk e => kp b o hba (by rw [g1 b hbk]; exact e)) ⟨hwl, _, c, r2, hD⟩
    have hn := m'.free na'
    exact ⟨.ref a, _, I3, rfl, th _ _ M _ (m'.new na') (p'.trans (pers_new na')) (rep_newL m' na' r1) q⟩
end
section
variable {X : Cx} {G : Gd} {e f a b c d o : Expr} {pos p2 p3 kp : Pos} {t : DE}
/-- sorted(xs, key=f), f a def of the text -/
theorem me_sortK {k j : Nat} {x px : Str} {sp : MSp} (hu : X.A.units + 64 < cLine) (F : FnM X.prog X.w X.K X.mg X.base k x [px] sp) (hr : Room j X.A) (hk : k + 2 ≤ j) (hm : X.mg "sorted" = none) (he : ME X G e t) (hg : Gl X "sorted" := by rfl) (hg2 : Gl X x := by rfl) (hdb : (x == ("__debug__" : Str)) = false := by decide)
    (he2 : backTo pos (starEach [e] X.env) = (false, eval e X.env) :: backTo pos (starEach [] X.env) := by rfl) (hpl : (backTo pos (starEach [e] X.env)).any (·.1) = false := by rfl)
    (hall : (backToKw pos (keywordEach [⟨some "key", .Name x p3, kp⟩] X.env)).all (·.1.isSome) = true := by rfl) (hnone : (backToKw pos (keywordEach [⟨some "key", .Name x p3, kp⟩] X.env)).any (·.1.isNone) = false := by rfl) (hks : (backToKw pos (keywordEach [⟨some "key", .Name x p3, kp⟩] X.env)).filterMap (·.1) = [Str.ofString "key"] := by rfl)
    (hs : starEach [e] X.env = [(false, eval e X.env)] := by rfl) :
    ME X G (.Call (.Name "sorted" p2) [e] [⟨some "key", .Name x p3, kp⟩] pos) (mSortK sp t) := by
  obtain ⟨f, fd, hmf, hkp, hb, F⟩ := F.ex
  have hc : CallRK X (.builtin "sorted") [Str.ofString "key"] fun vs zs H Q => ∃ d v M Qm, vs = [v] ∧ zs = [.ref f] ∧ RelM X.K G.hid M H ∧ Rep X.K G.hid M H d v ∧ kSK sp Qm d M ∧ ThenV X.K G M H Qm Q := by
    intro pins s σ H vs zs us ws Q I r rz ⟨d, v, M, Qm, e1, e2, m, rd, h, th⟩
    subst e1; subst e2
    obtain rfl := Vals.ref1 rz
    have hr2 := hr.mono hk
    unfold kSK at h
    cases d with
    | lst ds =>
      cases rd with
      | @lst a _ vs hl ra =>
        obtain ⟨kf, hko, q⟩ := h
        obtain rfl := Vals.ref1 r
        exact sortK_run hu F hr2 hb I m hl.sq ra hko q th
    | obj a =>
      cases rd
      dsimp only at h
      split at h
      · next ds em =>
        obtain ⟨vs, hv, ra⟩ := m.1 _ _ em
        obtain ⟨kf, hko, q⟩ := h
        obtain rfl := Vals.ref1 r
        exact sortK_run hu F hr2 hb I m (.inl (.inl hv)) ra hko q th
      · exact h.elim
    | _ => exact h.elim
  refine PE.imp (pe_callBK hc hg hm (by decide +kernel) (ma_cons he ma_nil hs) (pk_cons (nm := some "key") (pe_glob (v := .ref f) hg2 hmf rfl hdb) pk_nil) (by decide) (by decide) he2 hpl hall hnone hks) fun σ H Q ⟨env, M, Qm, s, h, q⟩ => ?_
  refine ⟨env, M, fun ds M1 => match ds with | [x] => kSK sp Qm x M1 | _ => False, s, h, fun ds vs M1 H1 m1 p1 r1 h1 => ?_⟩
  match ds, r1, h1 with
  | [d], r1, h1 =>
    obtain ⟨v, rfl, rd⟩ := r1.inv1
    exact ⟨d, v, M1, Qm, rfl, rfl, m1, rd, h1, fun z vz M3 H3 m3 p3 r3 h3 => q z vz M3 H3 m3 (p1.trans p3) r3 h3⟩
end
end Dl
end
section
set_option linter.all false
namespace Lk23
open Dl
/-! k23: the promises of the defs -/
def vInt (i : Int) : Prop := i.natAbs < 10 ^ 30
def sOk (s : List Nat) : Prop := s.length ≤ 200 ∧ ∀ c ∈ s, 32 ≤ c ∧ c ≤ 126
def isVal : D → Prop
  | .non => True
  | .bl _ => True
  | .int i => vInt i
  | .str s => sOk s
  | _ => False
def isIntD : D → Bool
  | .int _ => true
  | _ => false
def isStrD : D → Bool
  | .str _ => true
  | _ => false
/-- the codes -/
def esc (c : Nat) : List Nat := if c = 32 then [33, 97] else if c = 33 then [33, 98] else [c]
def tcode (s : List Nat) : List Nat := (s.map esc).flatten ++ [32]
def ncode (i : Int) : List Nat := if i = 0 then [111] else if 0 < i then 112 :: (64 + (natDigs i.natAbs).length) :: natDigs i.natAbs else 110 :: (96 - (natDigs i.natAbs).length) :: (natDigs i.natAbs).map fun d => 105 - d
def code : D → List Nat
  | .non => [48]
  | .bl b => [if b then 50 else 49]
  | .int i => ncode i
  | .str s => 116 :: tcode s
  | _ => []
def codes (ds : List D) : List Nat := (ds.map code).flatten
/-- the ranks -/
def rank : D → D
  | .non => .lst [.int 0, .int 0, .str []]
  | .bl b => .lst [.int (1 + b2i b), .int 0, .str []]
  | .int i => .lst [.int 3, .int i, .str []]
  | .str s => .lst [.int 4, .int 0, .str s]
  | d => d
def ranks (d : D) : D := match d with
  | .tup ds => .lst (ds.map rank)
  | _ => d
/-- the jar: its two numbers -/
def jarAt (M : Mh) (p : Nat) : Prop := ∃ x y, M p = some (.lst [.int x, .int y]) ∧ 0 ≤ y ∧ y < 2 ^ 32
def Jn (M : Mh) (p : Nat) (M' : Mh) : Prop := jarAt M' p ∧ ∀ b, b ≠ p → M' b = M b
/-- draws something good -/
abbrev spDraw (good : D → Prop) : MSp := sp1 fun a M Q _ => ∃ p, a = .obj p ∧ jarAt M p ∧ ∀ v M', good v → Jn M p M' → Q v M'
abbrev sp__law_drawn : MSp := sp2 fun a b M Q _ => ∃ p n, a = .obj p ∧ b = .int n ∧ 0 < n ∧ n < 2 ^ 64 ∧ jarAt M p ∧ ∀ d M', 0 ≤ d → d < n → Jn M p M' → Q (.int d) M'
abbrev sp__law_jar : MSp := sp1 fun a M Q _ => ∃ i, a = .int i ∧ ∀ p M', M p = none → Jn M p M' → Q (.obj p) M'
def signs : List Nat := [32, 33, 34, 35, 36, 38, 39, 40, 41, 42, 43, 44, 45, 46, 47, 48, 49, 50, 51, 52, 53, 54, 55, 56, 57, 58, 59, 60, 61, 62, 63, 64, 65, 66, 67, 68, 69, 70, 71, 72, 73, 74, 75, 76, 77, 78, 79, 80, 81, 82, 83, 84, 85, 86, 87, 88, 89, 90, 91, 92, 93, 94, 95, 96, 97, 98, 99, 100, 101, 102, 103, 104, 105, 106, 107, 108, 109, 110, 111, 112, 113, 114, 115, 116, 117, 118, 119, 120, 121, 122, 123, 124, 125, 126]
abbrev sp__law_signs : MSp := sp0 fun M Q _ => Q (.str signs) M
abbrev sp__law_text : MSp := spDraw fun v => ∃ s, v = .str s ∧ sOk s
abbrev sp__law_number : MSp := spDraw fun v => ∃ i, v = .int i ∧ vInt i
abbrev sp__law_value : MSp := spDraw isVal
abbrev sp__law_near_number : MSp := sp2 fun a b M Q _ => ∃ p i, a = .obj p ∧ b = .int i ∧ vInt i ∧ jarAt M p ∧ ∀ j M', vInt j → Jn M p M' → Q (.int j) M'
abbrev sp__law_near_text : MSp := sp2 fun a b M Q _ => ∃ p s, a = .obj p ∧ b = .str s ∧ sOk s ∧ jarAt M p ∧ ∀ z M', sOk z → Jn M p M' → Q (.str z) M'
def isRow (ds : List D) : Prop := ds.length ≤ 4 ∧ ∀ d ∈ ds, isVal d
abbrev sp__law_near : MSp := sp2 fun a b M Q _ => ∃ p ds, a = .obj p ∧ b = .tup ds ∧ isRow ds ∧ jarAt M p ∧ ∀ es M', isRow es → Jn M p M' → Q (.tup es) M'
abbrev spVal (f : D → D) : MSp := sp1 fun a M Q _ => isVal a ∧ Q (f a) M
abbrev sp_is_integer : MSp := spVal fun a => .bl (isIntD a)
abbrev sp_is_text : MSp := spVal fun a => .bl (isStrD a)
abbrev sp_is_value : MSp := spVal fun _ => .bl true
abbrev sp_text_code : MSp := sp1 fun a M Q _ => ∃ s, a = .str s ∧ sOk s ∧ Q (.str (tcode s)) M
abbrev sp_number_code : MSp := sp1 fun a M Q _ => ∃ i, a = .int i ∧ vInt i ∧ Q (.str (ncode i)) M
abbrev sp_code_of : MSp := spVal fun a => .str (code a)
abbrev sp_value_code : MSp := spVal fun a => .str (code a)
abbrev sp_row_code : MSp := sp1 fun a M Q _ => ∃ ds, a = .tup ds ∧ ds.length ≤ 100 ∧ (∀ d ∈ ds, isVal d) ∧ Q (.str (codes ds)) M
abbrev sp__law_rank : MSp := spVal rank
abbrev sp__law_ranks : MSp := sp1 fun a M Q _ => ∃ ds, a = .tup ds ∧ ds.length ≤ 100 ∧ (∀ d ∈ ds, isVal d) ∧ Q (ranks a) M
abbrev sp_law : MSp := fun ds M Q _ => ∃ ns : List Int, ds = [.lst (ns.map .int)] ∧ ns.length ≤ 63 ∧ (∀ a, M a = none) ∧ ∀ M', Q (.bl true) M'
end Lk23
end
section
set_option linter.all false
namespace Lk23
open Dl
def t_is_integer : DX → DS := fun W =>
 (mRet (mAndV (mCB rIsiB (mCons (mVar 0) (mCons (mC (.ty "int")) mNil))) (mNotV (mCB rIsiB (mCons (mVar 0) (mCons (mC (.ty "bool")) mNil))))))
def t_is_text : DX → DS := fun W =>
 (mRet (mAndV (mCB rIsiB (mCons (mVar 0) (mCons (mC (.ty "str")) mNil))) (mCB rAll (mCons (mComp (iSeq (mVar 0)) (.nm 1) mYes (mChain rLe rLe (mC (.str [32])) (mVar 1) (mC (.str [126]))) [1]) mNil))))
def t_is_value : DX → DS := fun W =>
 (mSeq (mIfS (mOr (mB (mOp (isNonR true) (mVar 0) (mC .non))) (mB (mCB rIsiB (mCons (mVar 0) (mCons (mC (.ty "bool")) mNil)))))
 (mRet (mC (.bl true)))
 mNext)
 (mSeq (mIfS (mB (mCall sp_is_integer W (mCons (mVar 0) mNil)))
 (mRet (mOp rLe (mCB rAbs (mCons (mVar 0) mNil)) (mC (.int 999999999999999999999999999999))))
 mNext)
 (mRet (mAndV (mCall sp_is_text W (mCons (mVar 0) mNil)) (mOp rLe (mCB rLen (mCons (mVar 0) mNil)) (mC (.int 200)))))))
def t_text_code : DX → DS := fun W =>
 (mSeq (mAsg (mDisp (((mC (.str [32])), (mOp rAdd (mC (.str [33])) (mC (.str [97])))) :: (((mC (.str [33])), (mOp rAdd (mC (.str [33])) (mC (.str [98])))) :: []))) (gNm 1))
 (mRet (mOp rAdd (mBm "str" rJoin (mC (.str [])) (mCons (mComp (iSeq (mVar 0)) (.nm 2) mYes (mGet2 (mVar 1) (mVar 2) (mVar 2)) [2]) mNil)) (mC (.str [32])))))
def t_number_code : DX → DS := fun W =>
 (mSeq (mIfS (mB (mOp rEq (mVar 0) (mC (.int 0))))
 (mRet (mC (.str [111])))
 mNext)
 (mSeq (mAsg (mCB rStr (mCons (mCB rAbs (mCons (mVar 0) mNil)) mNil)) (gNm 1))
 (mSeq (mIfS (mB (mOp rGt (mVar 0) (mC (.int 0))))
 (mRet (mOp rAdd (mOp rAdd (mC (.str [112])) (mOp rIx (mC (.str [65, 66, 67, 68, 69, 70, 71, 72, 73, 74, 75, 76, 77, 78, 79, 80, 81, 82, 83, 84, 85, 86, 87, 88, 89, 90, 91, 92, 93, 94, 95])) (mOp rSub (mCB rLen (mCons (mVar 1) mNil)) (mC (.int 1))))) (mVar 1)))
 mNext)
 (mRet (mOp rAdd (mOp rAdd (mC (.str [110])) (mOp rIx (mC (.str [65, 66, 67, 68, 69, 70, 71, 72, 73, 74, 75, 76, 77, 78, 79, 80, 81, 82, 83, 84, 85, 86, 87, 88, 89, 90, 91, 92, 93, 94, 95])) (mOp rSub (mOp rAdd (mC (.int 30)) (mC (.int 1))) (mCB rLen (mCons (mVar 1) mNil))))) (mBm "str" rJoin (mC (.str [])) (mCons (mComp (iSeq (mVar 1)) (.nm 2) mYes (mCB rStr (mCons (mOp rSub (mC (.int 9)) (mCB rInt (mCons (mVar 2) mNil))) mNil)) [2]) mNil)))))))
def t_code_of : DX → DS := fun W =>
 (mSeq (mIfS (mOr (mB (mOp (isNonR true) (mVar 0) (mC .non))) (mOr (mB (mOp (isBlR true) (mVar 0) (mC (.bl false)))) (mB (mOp (isBlR true) (mVar 0) (mC (.bl true))))))
 (mRet (mIf (mB (mOp (isNonR true) (mVar 0) (mC .non))) (mC (.str [48])) (mCB rStr (mCons (mOp rAdd (mC (.int 1)) (mCB rInt (mCons (mVar 0) mNil))) mNil))))
 mNext)
 (mRet (mIf (mB (mCB rIsiB (mCons (mVar 0) (mCons (mC (.ty "str")) mNil)))) (mOp rAdd (mC (.str [116])) (mCall sp_text_code W (mCons (mVar 0) mNil))) (mCall sp_number_code W (mCons (mVar 0) mNil)))))
def t_value_code : DX → DS := fun W =>
 (mSeq (mIfS (mNot (mB (mCall sp_is_value W (mCons (mVar 0) mNil))))
 mNever
 mNext)
 (mRet (mCall sp_code_of W (mCons (mVar 0) mNil))))
def t_row_code : DX → DS := fun W =>
 (mSeq (mIfS (mOr (mNot (mB (mCB rIsiB (mCons (mVar 0) (mCons (mC (.ty "tuple")) mNil))))) (mNot (mB (mCB rAll (mCons (mComp (iSeq (mVar 0)) (.nm 1) mYes (mCall sp_is_value (fun _ _ _ => False) (mCons (mVar 1) mNil)) [1]) mNil)))))
 mNever
 mNext)
 (mRet (mBm "str" rJoin (mC (.str [])) (mCons (mComp (iSeq (mVar 0)) (.nm 1) mYes (mCall sp_code_of (fun _ _ _ => False) (mCons (mVar 1) mNil)) [1]) mNil))))
def t__law_jar : DX → DS := fun W =>
 (mSeq (mAsg (mOp rMod (mCB rInt (mCons (mVar 0) mNil)) (mOp rMul (mOp rMul (mOp rPow (mC (.int 10)) (mC (.int 64))) (mOp rPow (mC (.int 10)) (mC (.int 64)))) (mOp rPow (mC (.int 10)) (mC (.int 64))))) (gNm 0))
 (mRet (mLstO (mCons (mCB rMax2 (mCons (mC (.int 0)) (mCons (mOp rSub (mVar 0) (mOp rPow (mC (.int 10)) (mC (.int 18)))) mNil))) (mCons (mOp rAdd (mOp rMod (mVar 0) (mC (.int 2147483629))) (mC (.int 3))) mNil)))))
def t__law_drawn : DX → DS := fun W =>
 (mSeq (mIfS (mB (mOp rGt (mOp rIx (mVar 0) (mC (.int 0))) (mC (.int 0))))
 (mSeq (mAsg (mOp rMod (mCB rInt (mCons (mOp rIx (mVar 0) (mC (.int 0))) mNil)) (mVar 1)) (gNm 2))
 (mSeq (mAsg (mOp rFdiv (mOp rIx (mVar 0) (mC (.int 0))) (mVar 1)) (gSb (mVar 0) (mC (.int 0)) sIx))
 (mRet (mVar 2))))
 mNext)
 (mSeq (mAsg (mOp rMod (mCB rInt (mCons (mOp rAdd (mOp rMul (mOp rIx (mVar 0) (mC (.int 1))) (mC (.int 48271))) (mC (.int 12820163))) mNil)) (mC (.int 2147483647))) (gSb (mVar 0) (mC (.int 1)) sIx))
 (mRet (mOp rMod (mOp rFdiv (mOp rMod (mCB rInt (mCons (mOp rMul (mOp rIx (mVar 0) (mC (.int 1))) (mOp rIx (mVar 0) (mC (.int 1)))) mNil)) (mC (.int 2147483629))) (mC (.int 64))) (mVar 1)))))
def t__law_signs : DX → DS := fun W =>
 (mSeq (mAsg (mC (.str [32, 33, 34, 35, 36, 38, 39, 40, 41, 42, 43, 44, 45, 46, 47, 48, 49, 50, 51, 52, 53, 54, 55, 56, 57, 58, 59, 60, 61, 62, 63, 64, 65, 66, 67, 68, 69, 70, 71, 72, 73, 74, 75, 76, 77, 78, 79, 80, 81, 82, 83, 84, 85, 86, 87, 88, 89, 90, 91, 92, 93, 94, 95, 96])) (gNm 0))
 (mRet (mOp rAdd (mVar 0) (mC (.str [97, 98, 99, 100, 101, 102, 103, 104, 105, 106, 107, 108, 109, 110, 111, 112, 113, 114, 115, 116, 117, 118, 119, 120, 121, 122, 123, 124, 125, 126])))))
def t__law_text : DX → DS := fun W =>
 (mSeq (mAsg (mTup (mCons (mCall0 sp__law_signs) (mCons (mC (.str [32, 33, 34, 97])) (mCons (mCall sp__law_drawn W (mCons (mVar 0) (mCons (mC (.int 8)) mNil))) mNil)))) (gTpN 3 (gsCons (gNm 1) (gsCons (gNm 2) (gsCons (gNm 3) gsNil)))))
 (mSeq (mIfS (mB (mOp rEq (mVar 3) (mC (.int 0))))
 (mSeq (mAsg (mOp rSub (mC (.int 200)) (mCall sp__law_drawn W (mCons (mVar 0) (mCons (mC (.int 3)) mNil)))) (gNm 4))
 (mSeq (mPar3 5 6 7 (mCons (mOp rIx (mVar 1) (mCall sp__law_drawn W (mCons (mVar 0) (mCons (mC (.int 94)) mNil)))) (mCons (mOp rIx (mVar 2) (mCall sp__law_drawn W (mCons (mVar 0) (mCons (mC (.int 4)) mNil)))) (mCons (mCall sp__law_drawn W (mCons (mVar 0) (mCons (mVar 4) mNil))) mNil))))
 (mRet (mOp rAdd (mOp rAdd (mOp rMul (mVar 5) (mVar 7)) (mVar 6)) (mOp rMul (mVar 5) (mOp rSub (mOp rSub (mVar 4) (mVar 7)) (mC (.int 1))))))))
 mNext)
 (mSeq (mIfS (mB (mOp rLt (mVar 3) (mC (.int 5))))
 (mRet (mBm "str" rJoin (mC (.str [])) (mCons (mComp (iRange1 (mCons (mCall sp__law_drawn W (mCons (mVar 0) (mCons (mC (.int 5)) mNil))) mNil)) (.nm 8) mYes (mOp rIx (mVar 2) (mCall sp__law_drawn (fun _ _ _ => False) (mCons (mVar 0) (mCons (mC (.int 4)) mNil)))) [8]) mNil)))
 mNext)
 (mRet (mBm "str" rJoin (mC (.str [])) (mCons (mComp (iRange1 (mCons (mCall sp__law_drawn W (mCons (mVar 0) (mCons (mC (.int 8)) mNil))) mNil)) (.nm 8) mYes (mOp rIx (mVar 1) (mCall sp__law_drawn (fun _ _ _ => False) (mCons (mVar 0) (mCons (mC (.int 94)) mNil)))) [8]) mNil))))))
def t__law_number : DX → DS := fun W =>
 (mSeq (mPar3 1 2 3 (mCons (mCall sp__law_drawn W (mCons (mVar 0) (mCons (mC (.int 8)) mNil))) (mCons (mOp rAdd (mC (.int 1)) (mCall sp__law_drawn W (mCons (mVar 0) (mCons (mC (.int 30)) mNil)))) (mCons (mCall sp__law_drawn W (mCons (mVar 0) (mCons (mC (.int 2)) mNil))) mNil))))
 (mSeq (mAsg (mC (.int 1)) (gNm 4))
 (mSeq (mFor (iRange1 (mCons (mOp rSub (mVar 2) (mC (.int 1))) mNil)) (.nm 5)
 (mAsg (mOp rMul (mVar 4) (mC (.int 10))) (gNm 4)))
 (mSeq (mIfS (mB (mOp rLt (mVar 1) (mC (.int 2))))
 (mAsg (mCall sp__law_drawn W (mCons (mVar 0) (mCons (mC (.int 12)) mNil))) (gNm 6))
 (mIfS (mB (mOp rLt (mVar 1) (mC (.int 5))))
 (mAsg (mOp rIx (mLst (mCons (mVar 4) (mCons (mOp rSub (mOp rMul (mVar 4) (mC (.int 10))) (mC (.int 1))) mNil))) (mOp rMod (mCB rInt (mCons (mVar 1) mNil)) (mC (.int 2)))) (gNm 6))
 (mSeq (mAsg (mOp rAdd (mC (.int 1)) (mCall sp__law_drawn W (mCons (mVar 0) (mCons (mC (.int 9)) mNil)))) (gNm 6))
 (mFor (iRange1 (mCons (mOp rSub (mVar 2) (mC (.int 1))) mNil)) (.nm 5)
 (mAsg (mOp rAdd (mOp rMul (mVar 6) (mC (.int 10))) (mCall sp__law_drawn W (mCons (mVar 0) (mCons (mC (.int 10)) mNil)))) (gNm 6))))))
 (mRet (mIf (mB (mOp rEq (mVar 3) (mC (.int 0)))) (mVar 6) (mOp rSub (mC (.int 0)) (mVar 6))))))))
def t__law_value : DX → DS := fun W =>
 (mSeq (mAsg (mCall sp__law_drawn W (mCons (mVar 0) (mCons (mC (.int 9)) mNil))) (gNm 1))
 (mSeq (mIfS (mB (mOp rLt (mVar 1) (mC (.int 3))))
 (mRet (mOp rIx (mLst (mCons (mC .non) (mCons (mC (.bl false)) (mCons (mC (.bl true)) mNil)))) (mVar 1)))
 mNext)
 (mRet (mIf (mB (mOp rLt (mVar 1) (mC (.int 6)))) (mCall sp__law_number W (mCons (mVar 0) mNil)) (mCall sp__law_text W (mCons (mVar 0) mNil))))))
def t__law_near_number : DX → DS := fun W =>
 (mSeq (mPar 2 3 (mCons (mCall sp__law_drawn W (mCons (mVar 0) (mCons (mC (.int 7)) mNil))) (mCons (mCall sp__law_drawn W (mCons (mVar 0) (mCons (mC (.int 10)) mNil))) mNil)))
 (mSeq (mAsg (mOp rIx (mLst (mCons (mOp rAdd (mVar 1) (mC (.int 1))) (mCons (mOp rSub (mVar 1) (mC (.int 1))) (mCons (mOp rSub (mC (.int 0)) (mVar 1)) (mCons (mOp rAdd (mOp rMul (mVar 1) (mC (.int 10))) (mVar 3)) (mCons (mOp rFdiv (mVar 1) (mC (.int 10))) (mCons (mOp rAdd (mVar 1) (mOp rPow (mC (.int 10)) (mC (.int 20)))) (mCons (mOp rMul (mVar 1) (mC (.int 10))) mNil)))))))) (mVar 2)) (gNm 4))
 (mRet (mIf (mB (mOp rLt (mCB rAbs (mCons (mVar 4) mNil)) (mOp rPow (mC (.int 10)) (mC (.int 30))))) (mVar 4) (mOp rFdiv (mVar 1) (mC (.int 10)))))))
def t__law_near_text : DX → DS := fun W =>
 (mSeq (mPar3 2 3 4 (mCons (mCall0 sp__law_signs) (mCons (mCall sp__law_drawn W (mCons (mVar 0) (mCons (mC (.int 6)) mNil))) (mCons (mCall sp__law_drawn W (mCons (mVar 0) (mCons (mOp rAdd (mCB rLen (mCons (mVar 1) mNil)) (mC (.int 1))) mNil))) mNil))))
 (mSeq (mAsg (mOp rIx (mLst (mCons (mOp rIx (mVar 2) (mCall sp__law_drawn W (mCons (mVar 0) (mCons (mC (.int 94)) mNil)))) (mCons (mC (.str [32])) (mCons (mC (.str [33])) (mCons (mC (.str [97])) mNil))))) (mCall sp__law_drawn W (mCons (mVar 0) (mCons (mC (.int 4)) mNil)))) (gNm 5))
 (mSeq (mIfS (mB (mOp rEq (mVar 3) (mC (.int 0))))
 (mRet (mSlice (mOp rAdd (mVar 1) (mVar 5)) oNone (oSome (mC (.int 200)))))
 mNext)
 (mSeq (mIfS (mB (mOp rEq (mVar 3) (mC (.int 1))))
 (mRet (mSlice (mVar 1) oNone (oSome (mUn rNeg (mC (.int 1))))))
 mNext)
 (mSeq (mIfS (mB (mOp rEq (mVar 3) (mC (.int 2))))
 (mRet (mSlice (mOp rAdd (mOp rAdd (mSlice (mVar 1) oNone (oSome (mVar 4))) (mVar 5)) (mSlice (mVar 1) (oSome (mVar 4)) oNone)) oNone (oSome (mC (.int 200)))))
 mNext)
 (mSeq (mIfS (mB (mOp rEq (mVar 3) (mC (.int 3))))
 (mRet (mOp rAdd (mSlice (mVar 1) oNone (oSome (mVar 4))) (mSlice (mVar 1) (oSome (mOp rAdd (mVar 4) (mC (.int 1)))) oNone)))
 mNext)
 (mSeq (mIfS (mB (mOp rLt (mVar 4) (mCB rLen (mCons (mVar 1) mNil))))
 (mSeq (mAsg (mBm "str" rFind (mVar 2) (mCons (mOp rIx (mVar 1) (mVar 4)) mNil)) (gNm 6))
 (mRet (mOp rAdd (mOp rAdd (mSlice (mVar 1) oNone (oSome (mVar 4))) (mOp rIx (mVar 2) (mCB rMax2 (mCons (mC (.int 0)) (mCons (mCB rMin2 (mCons (mC (.int 93)) (mCons (mOp rAdd (mVar 6) (mOp rIx (mLst (mCons (mC (.int 1)) (mCons (mUn rNeg (mC (.int 1))) mNil))) (mOp rMod (mCB rInt (mCons (mVar 3) mNil)) (mC (.int 2))))) mNil))) mNil))))) (mSlice (mVar 1) (oSome (mOp rAdd (mVar 4) (mC (.int 1)))) oNone))))
 mNext)
 (mRet (mVar 1)))))))))
def t__law_near : DX → DS := fun W =>
 (mSeq (mPar 2 3 (mCons (mCall sp__law_drawn W (mCons (mVar 0) (mCons (mC (.int 6)) mNil))) (mCons (mCall sp__law_drawn W (mCons (mVar 0) (mCons (mOp rAdd (mCB rLen (mCons (mVar 1) mNil)) (mC (.int 1))) mNil))) mNil)))
 (mSeq (mIfS (mAnd (mB (mOp rEq (mVar 2) (mC (.int 0)))) (mB (mOp rLt (mCB rLen (mCons (mVar 1) mNil)) (mC (.int 4)))))
 (mRet (mOp rAdd (mVar 1) (mTup (mCons (mCall sp__law_value W (mCons (mVar 0) mNil)) mNil))))
 mNext)
 (mSeq (mIfS (mB (mOp rEq (mVar 2) (mC (.int 1))))
 (mRet (mSlice (mVar 1) oNone (oSome (mUn rNeg (mC (.int 1))))))
 mNext)
 (mSeq (mIfS (mOr (mB (mOp rEq (mVar 3) (mCB rLen (mCons (mVar 1) mNil)))) (mB (mOp rEq (mVar 2) (mC (.int 2)))))
 (mRet (mCB rTuple (mCons (mComp (iRange1 (mCons (mCall sp__law_drawn W (mCons (mVar 0) (mCons (mC (.int 5)) mNil))) mNil)) (.nm 6) mYes (mCall sp__law_value (fun _ _ _ => False) (mCons (mVar 0) mNil)) [6]) mNil)))
 mNext)
 (mSeq (mAsg (mOp rIx (mVar 1) (mVar 3)) (gNm 4))
 (mSeq (mIfS (mOr (mB (mOp (isNonR true) (mVar 4) (mC .non))) (mOr (mB (mOp (isBlR true) (mVar 4) (mC (.bl true)))) (mOr (mB (mOp (isBlR true) (mVar 4) (mC (.bl false)))) (mB (mOp rEq (mVar 2) (mC (.int 3)))))))
 (mAsg (mCall sp__law_value W (mCons (mVar 0) mNil)) (gNm 5))
 (mIfS (mB (mCB rIsiB (mCons (mVar 4) (mCons (mC (.ty "int")) mNil))))
 (mAsg (mCall sp__law_near_number W (mCons (mVar 0) (mCons (mVar 4) mNil))) (gNm 5))
 (mAsg (mCall sp__law_near_text W (mCons (mVar 0) (mCons (mVar 4) mNil))) (gNm 5))))
 (mRet (mOp rAdd (mOp rAdd (mSlice (mVar 1) oNone (oSome (mVar 3))) (mTup (mCons (mVar 5) mNil))) (mSlice (mVar 1) (oSome (mOp rAdd (mVar 3) (mC (.int 1)))) oNone)))))))))
def t__law_rank : DX → DS := fun W =>
 (mSeq (mIfS (mOr (mB (mOp (isNonR true) (mVar 0) (mC .non))) (mOr (mB (mOp (isBlR true) (mVar 0) (mC (.bl false)))) (mB (mOp (isBlR true) (mVar 0) (mC (.bl true))))))
 (mRet (mIf (mB (mOp (isNonR true) (mVar 0) (mC .non))) (mLst (mCons (mC (.int 0)) (mCons (mC (.int 0)) (mCons (mC (.str [])) mNil)))) (mLst (mCons (mOp rAdd (mC (.int 1)) (mCB rInt (mCons (mVar 0) mNil))) (mCons (mC (.int 0)) (mCons (mC (.str [])) mNil))))))
 mNext)
 (mRet (mIf (mB (mCB rIsiB (mCons (mVar 0) (mCons (mC (.ty "str")) mNil)))) (mLst (mCons (mC (.int 4)) (mCons (mC (.int 0)) (mCons (mVar 0) mNil)))) (mLst (mCons (mC (.int 3)) (mCons (mVar 0) (mCons (mC (.str [])) mNil)))))))
def t__law_ranks : DX → DS := fun W =>
 (mRet (mComp (iSeq (mVar 0)) (.nm 1) mYes (mCall sp__law_rank (fun _ _ _ => False) (mCons (mVar 1) mNil)) [1]))
def t_law : DX → DS := fun W =>
 (mSeq (mFor (iSeq (mOp rAdd (mLst (mCons (mC (.int 5)) mNil)) (mSlice (mVar 0) oNone (oSome (mC (.int 24)))))) (.nm 1)
 (mSeq (mAsg (mCall sp__law_jar W (mCons (mVar 1) mNil)) (gNm 2))
 (mSeq (mAsg (mLstO (mCons (mCB rTuple (mCons (mComp (iRange1 (mCons (mCall sp__law_drawn W (mCons (mVar 2) (mCons (mC (.int 5)) mNil))) mNil)) (.nm 4) mYes (mCall sp__law_value (fun _ _ _ => False) (mCons (mVar 2) mNil)) [4]) mNil)) mNil)) (gNm 3))
 (mSeq (mFor (iRange1 (mCons (mOp rAdd (mC (.int 2)) (mCall sp__law_drawn W (mCons (mVar 2) (mCons (mC (.int 4)) mNil)))) mNil)) (.nm 4)
 (mDrop (mBm "list" rAppend (mVar 3) (mCons (mCall sp__law_near W (mCons (mVar 2) (mCons (mOp rIx (mVar 3) (mUn rNeg (mC (.int 1)))) mNil))) mNil))))
 (mSeq (mAsg (mComp (iSeq (mVar 3)) (.nm 13) mYes (mCall sp_row_code (fun _ _ _ => False) (mCons (mVar 13) mNil)) [13]) (gNm 5))
 (mSeq (mIfS (mNot (mB (mCB rAll (mCons (mComp (iSeq (mVar 5)) (.nm 11) mYes (mCB rIsiB (mCons (mVar 11) (mCons (mC (.ty "str")) mNil))) [11]) mNil))))
 (mRet (mC (.bl false)))
 mNext)
 (mSeq (mFor (iRange1 (mCons (mCB rLen (mCons (mVar 3) mNil)) mNil)) (.nm 6)
 (mFor (iRange1 (mCons (mCB rLen (mCons (mVar 3) mNil)) mNil)) (.nm 4)
 (mSeq (mPar 7 8 (mCons (mCall sp__law_ranks W (mCons (mOp rIx (mVar 3) (mVar 6)) mNil)) (mCons (mCall sp__law_ranks W (mCons (mOp rIx (mVar 3) (mVar 4)) mNil)) mNil)))
 (mIfS (mOr (mB (mOp rNe (mOp rLt (mOp rIx (mVar 5) (mVar 6)) (mOp rIx (mVar 5) (mVar 4))) (mOp rLt (mVar 7) (mVar 8)))) (mB (mOp rNe (mOp rEq (mOp rIx (mVar 5) (mVar 6)) (mOp rIx (mVar 5) (mVar 4))) (mOp rEq (mVar 7) (mVar 8)))))
 (mRet (mC (.bl false)))
 mNext))))
 (mSeq (mIfS (mB (mOp rNe (mComp (iSeq (mSortK sp__law_ranks (mVar 3))) (.nm 13) mYes (mCall sp_row_code (fun _ _ _ => False) (mCons (mVar 13) mNil)) [13]) (mCB rSortedL (mCons (mVar 5) mNil))))
 (mRet (mC (.bl false)))
 mNext)
 (mSeq (mAsg (mOp rAdd (mOp rIx (mVar 3) (mC (.int 0))) (mOp rIx (mVar 3) (mUn rNeg (mC (.int 1))))) (gNm 9))
 (mSeq (mFor (iSeq (mVar 9)) (.nm 10)
 (mFor (iSeq (mVar 9)) (.nm 8)
 (mSeq (mPar 11 12 (mCons (mCall sp_value_code W (mCons (mVar 8) mNil)) (mCons (mCall sp_value_code W (mCons (mVar 10) mNil)) mNil)))
 (mIfS (mB (mOp rNe (mOp rEq (mSlice (mVar 12) oNone (oSome (mCB rLen (mCons (mVar 11) mNil)))) (mVar 11)) (mOp rEq (mCall sp__law_rank W (mCons (mVar 10) mNil)) (mCall sp__law_rank W (mCons (mVar 8) mNil)))))
 (mRet (mC (.bl false)))
 mNext))))
 (mIfS (mB (mOp rNe (mCall sp_row_code W (mCons (mVar 9) mNil)) (mOp rAdd (mOp rIx (mVar 5) (mC (.int 0))) (mOp rIx (mVar 5) (mUn rNeg (mC (.int 1)))))))
 (mRet (mC (.bl false)))
 mNext)))))))))))
 (mRet (mC (.bl true))))
end Lk23
end
section
set_option linter.all false
set_option maxRecDepth 10000
namespace Lk23
open Dl
local macro_rules | `(tactic| iterate 1 (fail "dl")) => `(tactic| first | (with_reducible first | refine x_seq ?_ | refine x_ret ?_ | refine x_retN ?_ | refine x_next ?_ | refine x_break ?_ | refine x_cont ?_ | refine x_drop ?_ | refine x_asg ?_ | refine x_ifs ?_ | refine x_if ?_ | refine x_true ?_ | refine x_false ?_ | refine x_c ?_ | refine x_op ?_ | refine x_un ?_ | refine x_nil ?_ | refine x_cons ?_ | refine x_cb ?_ | refine x_B ?_ | refine x_kB ?_ | refine x_andV ?_ | refine x_orV ?_ | refine x_notV ?_ | refine x_kAt ?_ | refine x_kAf ?_ | refine x_kOt ?_ | refine x_kOf ?_ | refine x_kN ?_ | refine x_and ?_ | refine x_or ?_ | refine x_not ?_ | refine x_yes ?_ | refine x_call ?_ | refine x_call0 ?_ | refine x_par ?_ | refine x_par3 ?_ | refine x_kpar ?_ | refine x_kpar3 ?_ | refine x_v0 ?_ | refine x_v1 ?_ | refine x_v2 ?_ | refine x_v3 ?_ | refine x_v4 ?_ | refine x_v5 ?_ | refine x_v6 ?_ | refine x_v7 ?_ | refine x_v8 ?_ | refine x_v9 ?_ | refine x_v10 ?_ | refine x_v11 ?_ | refine x_v12 ?_ | refine x_v13 ?_ | refine x_v14 ?_ | refine x_v15 ?_ | refine x_v16 ?_ | refine x_v17 ?_ | refine x_v18 ?_ | refine x_v19 ?_ | refine x_v20 ?_ | refine x_v21 ?_ | refine x_v22 ?_ | refine x_v23 ?_ | refine x_g0 ?_ | refine x_g1 ?_ | refine x_g2 ?_ | refine x_g3 ?_ | refine x_g4 ?_ | refine x_g5 ?_ | refine x_g6 ?_ | refine x_g7 ?_ | refine x_g8 ?_ | refine x_g9 ?_ | refine x_g10 ?_ | refine x_g11 ?_ | refine x_g12 ?_ | refine x_g13 ?_ | refine x_g14 ?_ | refine x_g15 ?_ | refine x_g16 ?_ | refine x_g17 ?_ | refine x_g18 ?_ | refine x_g19 ?_ | refine x_g20 ?_ | refine x_g21 ?_ | refine x_g22 ?_ | refine x_g23 ?_ | refine x_gTp rfl ?_ | refine x_gsN ?_ | refine x_gsC ?_ | refine x_gSb ?_ | refine x_sl ?_ | refine x_oN ?_ | refine x_oS ?_ | refine x_kO ?_ | refine x_bm ?_ | refine x_kstr ?_ | refine x_tup ?_ | refine x_lst ?_ | refine x_lstO ?_ | refine x_ln0 ?_ | refine x_ln1 ?_ | refine x_ln2 ?_ | refine x_ln3 ?_ | refine x_ln4 ?_ | refine x_ln5 ?_ | refine x_ln6 ?_ | refine x_ln7 ?_ | refine x_ln8 ?_ | refine x_ln9 ?_ | refine x_ln10 ?_ | refine x_ln11 ?_ | refine x_addI ?_ | refine x_addII ?_ | refine x_subI ?_ | refine x_negI ?_ | refine x_eqI ?_ | refine x_eqS ?_ | refine x_neS ?_ | refine x_neI ?_ | refine x_eqB ?_ | refine x_neB ?_ | refine x_ltI ?_ | refine x_gtI ?_ | refine x_leI ?_ | refine x_geI ?_ | refine x_ltS ?_ | refine x_leS ?_ | refine x_isN ?_ | refine x_isB ?_ | refine x_lenT ?_ | refine x_lenL ?_ | refine x_abs ?_ | refine x_intI ?_ | refine x_intB ?_ | refine x_max ?_ | refine x_min ?_ | refine x_tupL ?_ | refine x_tupT ?_ | refine x_slT ?_ | refine x_slL ?_ | refine x_iSeq ?_ | refine x_kSL ?_ | refine x_kST ?_ | refine x_kSS ?_ | refine x_r1 ?_ | refine x_r2 ?_ | refine x_comp ?_ | refine x_compO ?_ | refine x_for ?_) | (refine x_dt rfl ?_) | (refine x_df rfl ?_))

theorem one {p : D → Mh → DQ → (Exn → Mh → Prop) → Prop} {ds M Q E} (h : sp1 p ds M Q E) : ∃ v, ds = [v] ∧ p v M Q E := by match ds, h with | [v], h => exact ⟨v, rfl, h⟩
theorem two {p : D → D → Mh → DQ → (Exn → Mh → Prop) → Prop} {ds M Q E} (h : sp2 p ds M Q E) : ∃ a b, ds = [a, b] ∧ p a b M Q E := by match ds, h with | [a, b], h => exact ⟨a, b, rfl, h⟩
theorem law_is_integer (ds M Q E) (h : sp_is_integer ds M Q E) : t_is_integer (fun x _ M' => E x M') (fnEnds Q) (startE 1 ds) M := by
  obtain ⟨v, rfl, hv, hq⟩ := one h
  show t_is_integer _ ⟨_, _, _, _⟩ [some v] M
  unfold t_is_integer
  (repeat iterate 1 (fail "dl"))
  cases v with
  | int i => exact isiD (b := true) (.inl rfl) rfl (by (repeat iterate 1 (fail "dl")); exact isiD (b := false) (.inr (.inr (.inl rfl))) rfl (by (repeat iterate 1 (fail "dl")); exact hq))
  | bl b => exact isiD (b := true) (.inl rfl) rfl (by (repeat iterate 1 (fail "dl")); exact isiD (b := true) (.inr (.inr (.inl rfl))) rfl (by (repeat iterate 1 (fail "dl")); exact hq))
  | non => exact isiD (b := false) (.inl rfl) rfl (by (repeat iterate 1 (fail "dl")); exact hq)
  | str s => exact isiD (b := false) (.inl rfl) rfl (by (repeat iterate 1 (fail "dl")); exact hq)
  | _ => exact hv.elim
theorem bools_true : ∀ (s : List Nat), bools (s.map fun _ => D.bl true) = some (s.map fun _ => true)
  | [] => rfl
  | _ :: s => by simp [bools, bools_true s]
theorem ltS_one (a b : Nat) : ltS [a] [b] = decide (a < b) := by
  unfold ltS
  rw [decide_eq_decide, List.cons_lt_cons_iff]
  simp
theorem sOk.line {s : List Nat} (h : sOk s) : s.length ≤ line := Nat.le_trans h.1 (Nat.le_of_ble_eq_true rfl)
theorem law_is_text (ds M Q E) (h : sp_is_text ds M Q E) : t_is_text (fun x _ M' => E x M') (fnEnds Q) (startE 2 ds) M := by
  obtain ⟨v, rfl, hv, hq⟩ := one h
  show t_is_text _ ⟨_, _, _, _⟩ [some v, none] M
  unfold t_is_text
  (repeat iterate 1 (fail "dl"))
  cases v with
  | str s =>
    refine isiD (.inr (.inl rfl)) rfl ?_
    (repeat iterate 1 (fail "dl"))
    refine compGo_map (fun _ => .bl true) _ [] M (by simpa using hv.line) (fun d hd => ?_) ?_
    · obtain ⟨c, hc, rfl⟩ := List.mem_map.mp hd
      refine ⟨_, rfl, fun Q' hq' => ?_⟩
      have := hv.2 c hc
      show mChain rLe rLe (mC (.str [32])) (mVar 1) (mC (.str [126])) [some (.str s), some (.str [c])] M Q'
      unfold mChain
      (repeat iterate 1 (fail "dl"))
      rw [ltS_one, decide_eq_false (by omega)]
      show mC _ _ _ _
      (repeat iterate 1 (fail "dl"))
      rw [ltS_one, decide_eq_false (by omega)]
      exact hq'
    · refine allL (bs := s.map fun _ => true) ?_ ?_
      · rw [List.nil_append, List.map_map]; exact bools_true s
      · have : (List.map (fun x => true) s).all id = true := by simp
        rw [this]; exact hq
  | int i => exact isiD (.inr (.inl rfl)) rfl (by (repeat iterate 1 (fail "dl")); exact hq)
  | bl b => exact isiD (.inr (.inl rfl)) rfl (by (repeat iterate 1 (fail "dl")); exact hq)
  | non => exact isiD (.inr (.inl rfl)) rfl (by (repeat iterate 1 (fail "dl")); exact hq)
  | _ => exact hv.elim
theorem law_is_value (ds M Q E) (h : sp_is_value ds M Q E) : t_is_value (fun x _ M' => E x M') (fnEnds Q) (startE 1 ds) M := by
  obtain ⟨v, rfl, hv, hq⟩ := one h
  show t_is_value _ ⟨_, _, _, _⟩ [some v] M
  unfold t_is_value
  (repeat iterate 1 (fail "dl"))
  cases v with
  | non => (repeat iterate 1 (fail "dl")); exact hq
  | bl b =>
    (repeat iterate 1 (fail "dl"))
    exact isiD (.inr (.inr (.inl rfl))) rfl (by (repeat iterate 1 (fail "dl")); exact hq)
  | int i =>
    (repeat iterate 1 (fail "dl"))
    refine isiD (.inr (.inr (.inl rfl))) rfl ?_
    (repeat iterate 1 (fail "dl"))
    refine ⟨hv, ?_⟩
    (repeat iterate 1 (fail "dl"))
    rw [decide_eq_true (show iabs i ≤ 999999999999999999999999999999 from by
      have : i.natAbs < 10 ^ 30 := hv
      unfold iabs; split <;> omega)]
    exact hq
  | str s =>
    (repeat iterate 1 (fail "dl"))
    refine isiD (.inr (.inr (.inl rfl))) rfl ?_
    (repeat iterate 1 (fail "dl"))
    refine ⟨hv, ?_⟩
    (repeat iterate 1 (fail "dl"))
    refine ⟨hv, ?_⟩
    show kAnd _ _ _ (.bl true) _
    (repeat iterate 1 (fail "dl"))
    refine lenS hv.line ?_
    (repeat iterate 1 (fail "dl"))
    rw [decide_eq_true (show (s.length : Int) ≤ 200 from by have := hv.1; omega)]
    exact hq
  | _ => exact hv.elim
theorem law_value_code (ds M Q E) (h : sp_value_code ds M Q E) : t_value_code (fun x _ M' => E x M') (fnEnds Q) (startE 1 ds) M := by
  obtain ⟨v, rfl, hv, hq⟩ := one h
  show t_value_code _ ⟨_, _, _, _⟩ [some v] M
  unfold t_value_code
  (repeat iterate 1 (fail "dl"))
  refine ⟨hv, ?_⟩
  (repeat iterate 1 (fail "dl"))
  exact ⟨hv, hq⟩
theorem law__law_jar (ds M Q E) (h : sp__law_jar ds M Q E) : t__law_jar (fun x _ M' => E x M') (fnEnds Q) (startE 1 ds) M := by
  obtain ⟨v, rfl, i, rfl, hq⟩ := one h
  show t__law_jar _ ⟨_, _, _, _⟩ [some (.int i)] M
  unfold t__law_jar
  have e64 : ((10 : Int) ^ (64 : Int).toNat) = 10 ^ 64 := rfl
  have e18 : ((10 : Int) ^ (18 : Int).toNat) = 10 ^ 18 := rfl
  (repeat iterate 1 (fail "dl"))
  refine powI (by decide) (by decide) (.of (k := 4) (by decide) (by decide)) ?_
  (repeat iterate 1 (fail "dl"))
  refine powI (by decide) (by decide) (.of (k := 4) (by decide) (by decide)) ?_
  refine mulI (.inr (.inr ⟨.of (k := 300) (by decide +kernel) (by decide), .of (k := 300) (by decide +kernel) (by decide)⟩)) ?_
  (repeat iterate 1 (fail "dl"))
  refine powI (by decide) (by decide) (.of (k := 4) (by decide) (by decide)) ?_
  refine mulI (.inr (.inr ⟨.of (k := 600) (by decide +kernel) (by decide), .of (k := 600) (by decide +kernel) (by decide)⟩)) ?_
  refine modI (by decide) ?_
  (repeat iterate 1 (fail "dl"))
  refine powI (by decide) (by decide) (.of (k := 4) (by decide) (by decide)) ?_
  (repeat iterate 1 (fail "dl"))
  refine modI (by decide) ?_
  (repeat iterate 1 (fail "dl"))
  intro p hp
  exact hq p _ hp ⟨⟨_, _, mu_same, by omega, by omega⟩, fun b hb => mu_ne hb⟩
theorem law__law_drawn (ds M Q E) (h : sp__law_drawn ds M Q E) : t__law_drawn (fun x _ M' => E x M') (fnEnds Q) (startE 3 ds) M := by
  obtain ⟨a, b, rfl, p, n, rfl, rfl, hn, hn2, ⟨x, y, hM, hy, hy2⟩, hq⟩ := two h
  show t__law_drawn _ ⟨_, _, _, _⟩ [some (.obj p), some (.int n), none] M
  unfold t__law_drawn
  (repeat iterate 1 (fail "dl"))
  refine ixO hM rfl ?_
  (repeat iterate 1 (fail "dl"))
  refine ⟨fun hb => ?_, fun hb => ?_⟩
  · (repeat iterate 1 (fail "dl"))
    refine ixO hM rfl ?_
    (repeat iterate 1 (fail "dl"))
    refine modI hn ?_
    (repeat iterate 1 (fail "dl"))
    refine ixO hM rfl ?_
    (repeat iterate 1 (fail "dl"))
    refine fdivI hn (.of (k := 64) (by omega) (by decide)) ?_
    (repeat iterate 1 (fail "dl"))
    refine setO hM rfl ?_
    (repeat iterate 1 (fail "dl"))
    exact hq _ _ (Int.emod_nonneg _ (by omega)) (Int.emod_lt_of_pos _ hn) ⟨⟨_, _, mu_same, hy, hy2⟩, fun b hb => mu_ne hb⟩
  · (repeat iterate 1 (fail "dl"))
    refine ixO hM rfl ?_
    (repeat iterate 1 (fail "dl"))
    refine mulI (.inl (.of (k := 32) (by omega) (by decide))) ?_
    (repeat iterate 1 (fail "dl"))
    refine modI (by decide) ?_
    (repeat iterate 1 (fail "dl"))
    refine setO hM rfl ?_
    have hM2 : (mu M p (.lst ([D.int x, D.int y].set 1 (D.int ((y * 48271 + 12820163) % 2147483647))))) p = some (.lst [D.int x, D.int ((y * 48271 + 12820163) % 2147483647)]) := mu_same
    have h1 := Int.emod_nonneg (y * 48271 + 12820163) (show (2147483647 : Int) ≠ 0 by decide)
    have h2 := Int.emod_lt_of_pos (y * 48271 + 12820163) (show (0 : Int) < 2147483647 by decide)
    (repeat iterate 1 (fail "dl"))
    refine ixO hM2 rfl ?_
    (repeat iterate 1 (fail "dl"))
    refine ixO hM2 rfl ?_
    refine mulI (.inl (.of (k := 32) (by omega) (by decide))) ?_
    (repeat iterate 1 (fail "dl"))
    refine modI (by decide) ?_
    (repeat iterate 1 (fail "dl"))
    refine fdivI (by decide) (.of (k := 10) (by decide) (by decide)) ?_
    (repeat iterate 1 (fail "dl"))
    refine modI hn ?_
    exact hq _ _ (Int.emod_nonneg _ (by omega)) (Int.emod_lt_of_pos _ hn) ⟨⟨_, _, hM2, h1, by omega⟩, fun b hb => mu_ne hb⟩
theorem law__law_signs (ds M Q E) (h : sp__law_signs ds M Q E) : t__law_signs (fun x _ M' => E x M') (fnEnds Q) (startE 1 ds) M := by
  match ds, h with
  | [], h =>
    show t__law_signs _ ⟨_, _, _, _⟩ [none] M
    unfold t__law_signs
    (repeat iterate 1 (fail "dl"))
    exact addS (by decide) h
theorem law__law_rank (ds M Q E) (h : sp__law_rank ds M Q E) : t__law_rank (fun x _ M' => E x M') (fnEnds Q) (startE 1 ds) M := by
  obtain ⟨v, rfl, hv, hq⟩ := one h
  show t__law_rank _ ⟨_, _, _, _⟩ [some v] M
  unfold t__law_rank
  (repeat iterate 1 (fail "dl"))
  cases v with
  | non => (repeat iterate 1 (fail "dl")); exact hq
  | bl b =>
    cases b
    · (repeat iterate 1 (fail "dl"))
      exact hq
    · (repeat iterate 1 (fail "dl"))
      exact hq
  | int i =>
    (repeat iterate 1 (fail "dl"))
    exact isiD (.inr (.inl rfl)) rfl (by (repeat iterate 1 (fail "dl")); exact hq)
  | str s =>
    (repeat iterate 1 (fail "dl"))
    exact isiD (.inr (.inl rfl)) rfl (by (repeat iterate 1 (fail "dl")); exact hq)
  | _ => exact hv.elim
theorem put_nm {i : Nat} {env : Env} {d : D} : (Tgt.nm i).put env d = some (env.set i (some d)) := rfl
theorem law__law_ranks (ds M Q E) (h : sp__law_ranks ds M Q E) : t__law_ranks (fun x _ M' => E x M') (fnEnds Q) (startE 2 ds) M := by
  obtain ⟨v, rfl, ds, rfl, hl, hv, hq⟩ := one h
  show t__law_ranks _ ⟨_, _, _, _⟩ [some (.tup ds), none] M
  unfold t__law_ranks
  (repeat iterate 1 (fail "dl"))
  refine compGo_map rank _ [] M (by simp only [List.length_nil]; exact Nat.le_trans (show 0 + ds.length ≤ 100 from by omega) (Nat.le_of_ble_eq_true rfl)) (fun d hd => ⟨_, put_nm, fun Q' hq' => ?_⟩) hq
  show mCall _ _ _ [some (.tup ds), some d] M Q'
  (repeat iterate 1 (fail "dl"))
  exact ⟨hv d hd, hq'⟩
theorem esc_len (c : Nat) : (esc c).length ≤ 2 := by
  unfold esc; split
  · decide
  · split <;> simp
theorem flat_len {α : Type} {f : α → List Nat} {n : Nat} : ∀ {xs : List α}, (∀ x ∈ xs, (f x).length ≤ n) → (xs.map f).flatten.length ≤ n * xs.length
  | [], _ => by simp
  | x :: xs, h => by
    have h1 := h x List.mem_cons_self
    have h2 := flat_len (n := n) (xs := xs) fun y hy => h y (List.mem_cons_of_mem _ hy)
    simp only [List.map_cons, List.flatten_cons, List.length_append, List.length_cons]
    rw [Nat.mul_add, Nat.mul_one]; omega
theorem tcode_len {s : List Nat} (h : sOk s) : (tcode s).length ≤ 401 := by
  unfold tcode
  have h1 := flat_len (f := esc) (n := 2) (xs := s) fun c _ => esc_len c
  have h2 := h.1
  simp only [List.length_append, List.length_cons, List.length_nil]; omega
theorem digits_len : ∀ (k n : Nat), n < 10 ^ (k + 1) → (natDigs n).length ≤ k + 1 := by
  intro k n h
  unfold natDigs
  rw [List.length_map]
  exact (Nat.length_toDigits_le_iff (b := 10) (n := n) (k := k + 1) (by decide) (by omega)).mpr h
theorem ncode_len {i : Int} (h : vInt i) : (ncode i).length ≤ 32 := by
  have h1 := digits_len 29 i.natAbs h
  unfold ncode
  split
  · simp
  · split <;> simp only [List.length_cons, List.length_map] <;> omega
theorem code_len {v : D} (h : isVal v) : (code v).length ≤ 402 := by
  cases v with
  | non => decide
  | bl b => cases b <;> decide
  | int i => have := ncode_len h; show (ncode i).length ≤ 402; omega
  | str s => have := tcode_len h; show (116 :: tcode s).length ≤ 402; rw [List.length_cons]; omega
  | _ => exact h.elim
theorem joinT_nil : ∀ ts : List (List Nat), joinT [] ts = ts.flatten
  | [] => rfl
  | [x] => (List.append_nil x).symm
  | x :: y :: r => by
    have := joinT_nil (y :: r)
    show x ++ [] ++ joinT [] (y :: r) = x ++ (y :: r).flatten
    rw [this, List.append_nil]
theorem texts_map {α : Type} (f : α → List Nat) : ∀ xs : List α, texts (xs.map fun x => D.str (f x)) = some (xs.map f)
  | [] => rfl
  | x :: xs => by simp [texts, texts_map f xs]
theorem sum_len : ∀ ts : List (List Nat), (ts.map List.length).sum = ts.flatten.length
  | [] => rfl
  | x :: xs => by
    show x.length + (xs.map List.length).sum = (x ++ xs.flatten).length
    rw [sum_len xs, List.length_append]
/-- ''.join of a mapped list -/
theorem joinM {α : Type} {M : Mh} {Q : DQ} (f : α → List Nat) (xs : List α) (h : (xs.map f).flatten.length ≤ line) (q : Q (.str (xs.map f).flatten) M) : rJoin (.str []) [.lst (xs.map fun x => D.str (f x))] M Q := by
  refine joinL (texts_map f xs) ?_ ?_ ?_
  · rw [joinT_nil]; exact h
  · rw [sum_len, List.length_nil, Nat.mul_zero, Nat.add_zero]; exact h
  · rw [joinT_nil]; exact q
theorem natDigs_small {n : Nat} (h : n < 10) : natDigs n = [48 + n] := by
  have : ∀ k : Fin 10, natDigs k.val = [48 + k.val] := by decide
  exact this ⟨n, h⟩
theorem law_code_of (ds M Q E) (h : sp_code_of ds M Q E) : t_code_of (fun x _ M' => E x M') (fnEnds Q) (startE 1 ds) M := by
  obtain ⟨v, rfl, hv, hq⟩ := one h
  show t_code_of _ ⟨_, _, _, _⟩ [some v] M
  unfold t_code_of
  (repeat iterate 1 (fail "dl"))
  cases v with
  | non => (repeat iterate 1 (fail "dl")); exact hq
  | bl b =>
    cases b
    · (repeat iterate 1 (fail "dl"))
      refine strI (i := 1) (.of (k := 4) (by decide) (by decide)) ?_
      exact hq
    · (repeat iterate 1 (fail "dl"))
      refine strI (i := 2) (.of (k := 4) (by decide) (by decide)) ?_
      exact hq
  | int i =>
    (repeat iterate 1 (fail "dl"))
    exact isiD (.inr (.inl rfl)) rfl (by (repeat iterate 1 (fail "dl")); exact ⟨i, rfl, hv, hq⟩)
  | str s =>
    (repeat iterate 1 (fail "dl"))
    refine isiD (.inr (.inl rfl)) rfl ?_
    (repeat iterate 1 (fail "dl"))
    refine ⟨s, rfl, hv, ?_⟩
    refine addS ?_ hq
    have := tcode_len hv
    show 1 + (tcode s).length ≤ 16777216
    omega
  | _ => exact hv.elim
theorem law_row_code (ds M Q E) (h : sp_row_code ds M Q E) : t_row_code (fun x _ M' => E x M') (fnEnds Q) (startE 2 ds) M := by
  obtain ⟨v, rfl, ds, rfl, hl, hv, hq⟩ := one h
  show t_row_code _ ⟨_, _, _, _⟩ [some (.tup ds), none] M
  unfold t_row_code
  (repeat iterate 1 (fail "dl"))
  refine isiD (b := true) (.inr (.inr (.inr (.inl rfl)))) rfl ?_
  (repeat iterate 1 (fail "dl"))
  have hz : ([] : List D).length + ds.length ≤ line := by simp only [List.length_nil]; exact Nat.le_trans (show 0 + ds.length ≤ 100 from by omega) (Nat.le_of_ble_eq_true rfl)
  refine compGo_map (fun _ => .bl true) _ [] M hz (fun d hd => ⟨_, put_nm, fun Q' hq' => ?_⟩) ?_
  · show mCall _ _ _ [some (.tup ds), some d] M Q'
    (repeat iterate 1 (fail "dl"))
    exact ⟨hv d hd, hq'⟩
  refine allL (bs := ds.map fun _ => true) ?_ ?_
  · rw [List.nil_append]
    clear hl hv hq hz h
    induction ds with
    | nil => rfl
    | cons d r ih => simp [bools, ih]
  have : (List.map (fun x => true) ds).all id = true := by simp
  rw [this]
  (repeat iterate 1 (fail "dl"))
  refine compGo_map (fun d => .str (code d)) _ [] M hz (fun d hd => ⟨_, put_nm, fun Q' hq' => ?_⟩) ?_
  · show mCall _ _ _ [some (.tup ds), some d] M Q'
    (repeat iterate 1 (fail "dl"))
    exact ⟨hv d hd, hq'⟩
  rw [List.nil_append]
  refine joinM code ds ?_ hq
  have := flat_len (f := code) (n := 402) (xs := ds) fun d hd => code_len (hv d hd)
  show _ ≤ 16777216
  omega
theorem sOk.tail {c : Nat} {s : List Nat} (h : sOk (c :: s)) : sOk s := ⟨Nat.le_of_succ_le h.1, fun x hx => h.2 x (List.mem_cons_of_mem _ hx)⟩
theorem law_text_code (ds M Q E) (h : sp_text_code ds M Q E) : t_text_code (fun x _ M' => fgtX E x M') (fnEnds (fgt Q)) (startE 3 ds) M := by
  obtain ⟨v, rfl, s, rfl, hs, hq⟩ := one h
  show t_text_code _ ⟨_, _, _, _⟩ [some (.str s), none, none] M
  unfold t_text_code
  (repeat iterate 1 (fail "dl"))
  unfold mDisp mPairs mPairs mPairs
  (repeat iterate 1 (fail "dl"))
  refine addS (by decide) ?_
  (repeat iterate 1 (fail "dl"))
  refine addS (by decide) ?_
  refine ⟨rfl, rfl, by decide, fun p hp => ?_⟩
  have hM : (mu M p (.dct (mergeD [] [(D.str [32], D.str ([33] ++ [97])), (D.str [33], D.str ([33] ++ [98]))]))) p = some (.dct [(D.str [32], D.str [33, 97]), (D.str [33], D.str [33, 98])]) := mu_same
  (repeat iterate 1 (fail "dl"))
  refine compGo_map (fun d => match d with | .str [c] => .str (esc c) | d => d) _ [] _ ?_ (fun d hd => ?_) ?_
  · simp only [List.length_map, List.length_nil]
    have := hs.line
    omega
  · obtain ⟨c, hc, rfl⟩ := List.mem_map.mp hd
    refine ⟨_, put_nm, fun Q' hq' => ?_⟩
    show mGet2 _ _ _ [some (.str s), some (.obj p), some (.str [c])] _ Q'
    unfold mGet2
    (repeat iterate 1 (fail "dl"))
    refine ⟨by unfold dctAt; rw [hM]; rfl, ?_⟩
    (repeat iterate 1 (fail "dl"))
    refine ⟨rfl, ?_⟩
    have e : dctAt (mu M p (.dct (mergeD [] [(D.str [32], D.str ([33] ++ [97])), (D.str [33], D.str ([33] ++ [98]))]))) p = some [(D.str [32], D.str [33, 97]), (D.str [33], D.str [33, 98])] := by
      unfold dctAt; rw [hM]
    rw [e]
    dsimp only at hq' ⊢
    unfold findD
    unfold esc at hq'
    by_cases h1 : c = 32
    · subst h1; exact hq'
    · rw [if_neg h1] at hq'
      by_cases h2 : c = 33
      · subst h2; exact hq'
      · rw [if_neg h2] at hq'
        have n1 : ¬ (D.str [32] = D.str [c]) := fun z => by injection z with z; injection z with z; exact h1 z.symm
        have n2 : ¬ (D.str [33] = D.str [c]) := fun z => by injection z with z; injection z with z; exact h2 z.symm
        rw [List.find?_cons_of_neg (by simpa using n1), List.find?_cons_of_neg (by simpa using n2), List.find?_nil]
        exact hq'
  · rw [List.nil_append, List.map_map]
    have ht : (s.map esc).flatten.length ≤ 400 := by
      have h1 := flat_len (f := esc) (n := 2) (xs := s) fun c _ => esc_len c
      have h2 := hs.1
      omega
    have := joinM (M := mu M p (.dct (mergeD [] [(D.str [32], D.str ([33] ++ [97])), (D.str [33], D.str ([33] ++ [98]))]))) (Q := fun x M1 => mC (.str [32]) [some (.str s), some (.obj p), none] M1 fun y M2 => rAdd x y M2 (fgt Q)) esc s (Nat.le_trans ht (Nat.le_of_ble_eq_true rfl)) ?_
    · exact this
    · show mC _ _ _ _
      (repeat iterate 1 (fail "dl"))
      refine addS ?_ ?_
      · show _ + 1 ≤ 16777216
        omega
      · exact ⟨M, Sub.mu hp, hq⟩
theorem iabs_nat (i : Int) : iabs i = (i.natAbs : Int) := by unfold iabs; split <;> omega
theorem intDigs_nat (n : Nat) : intDigs (n : Int) = natDigs n := by
  unfold intDigs
  rw [if_neg (by omega)]; rfl
theorem natDigs_dig (n : Nat) : ∀ c ∈ natDigs n, 48 ≤ c ∧ c ≤ 57 := by
  intro c hc
  unfold natDigs at hc
  obtain ⟨d, hd, rfl⟩ := List.mem_map.mp hc
  have h := Nat.isDigit_of_mem_toDigits (b := 10) (n := n) (by decide) (by decide) hd
  unfold Char.isDigit at h
  simp only [Bool.and_eq_true, decide_eq_true_eq] at h
  exact ⟨h.1, h.2⟩
theorem natDigs_pos (n : Nat) : 0 < (natDigs n).length := by
  unfold natDigs
  rw [List.length_map]
  exact Nat.length_toDigits_pos
theorem counts_at : ∀ k : Fin 31, atD [65, 66, 67, 68, 69, 70, 71, 72, 73, 74, 75, 76, 77, 78, 79, 80, 81, 82, 83, 84, 85, 86, 87, 88, 89, 90, 91, 92, 93, 94, 95] (k.val : Int) = some (65 + k.val) := by decide
theorem law_number_code (ds M Q E) (h : sp_number_code ds M Q E) : t_number_code (fun x _ M' => E x M') (fnEnds Q) (startE 3 ds) M := by
  obtain ⟨v, rfl, i, rfl, hi, hq⟩ := one h
  show t_number_code _ ⟨_, _, _, _⟩ [some (.int i), none, none] M
  unfold t_number_code
  (repeat iterate 1 (fail "dl"))
  unfold ncode at hq
  by_cases h0 : i = 0
  · rw [if_pos h0] at hq
    refine x_dt (beq_iff_eq.mpr h0) ?_
    (repeat iterate 1 (fail "dl"))
    exact hq
  rw [if_neg h0] at hq
  refine x_df (beq_eq_false_iff_ne.mpr h0) ?_
  (repeat iterate 1 (fail "dl"))
  rw [iabs_nat]
  have hz : Sz 1900 (i.natAbs : Int) := .of (k := 100) (Nat.lt_trans (show (i.natAbs : Int).natAbs < 10 ^ 30 from by rw [Int.natAbs_natCast]; exact hi) (by decide)) (by decide)
  refine strI hz ?_
  rw [intDigs_nat]
  have hl := digits_len 29 i.natAbs hi
  have hp := natDigs_pos i.natAbs
  have hll : (natDigs i.natAbs).length ≤ line := Nat.le_trans hl (Nat.le_of_ble_eq_true rfl)
  (repeat iterate 1 (fail "dl"))
  by_cases h1 : 0 < i
  · rw [if_pos h1] at hq
    refine x_dt (decide_eq_true h1) ?_
    (repeat iterate 1 (fail "dl"))
    refine lenS hll ?_
    (repeat iterate 1 (fail "dl"))
    have e := counts_at ⟨(natDigs i.natAbs).length - 1, by omega⟩
    refine ixS (c := 64 + (natDigs i.natAbs).length) (by decide) ?_ ?_
    · rw [show ((natDigs i.natAbs).length : Int) - 1 = (((natDigs i.natAbs).length - 1 : Nat) : Int) from by omega, e]
      congr 1; dsimp only; omega
    refine addS (by show 1 + 1 ≤ 16777216; omega) ?_
    (repeat iterate 1 (fail "dl"))
    refine addS (by show 2 + (natDigs i.natAbs).length ≤ 16777216; omega) ?_
    exact hq
  · rw [if_neg h1] at hq
    refine x_df (decide_eq_false h1) ?_
    (repeat iterate 1 (fail "dl"))
    refine lenS hll ?_
    (repeat iterate 1 (fail "dl"))
    have e := counts_at ⟨31 - (natDigs i.natAbs).length, by omega⟩
    refine ixS (c := 96 - (natDigs i.natAbs).length) (by decide) ?_ ?_
    · rw [show (30 : Int) + 1 - ((natDigs i.natAbs).length : Int) = ((31 - (natDigs i.natAbs).length : Nat) : Int) from by omega, e]
      congr 1; dsimp only; omega
    refine addS (by show 1 + 1 ≤ 16777216; omega) ?_
    (repeat iterate 1 (fail "dl"))
    refine compGo_map (fun d => match d with | .str [c] => .str [105 - c] | d => d) _ [] _ (by simpa using hll) (fun d hd => ?_) ?_
    · obtain ⟨c, hc, rfl⟩ := List.mem_map.mp hd
      refine ⟨_, put_nm, fun Q' hq' => ?_⟩
      have hd := natDigs_dig _ c hc
      show mCB rStr _ [some (.int i), some (.str (natDigs i.natAbs)), some (.str [c])] M Q'
      (repeat iterate 1 (fail "dl"))
      refine ⟨hd.1, hd.2, ?_⟩
      (repeat iterate 1 (fail "dl"))
      refine strI (.of (k := 10) (by omega) (by decide)) ?_
      rw [show (9 : Int) - ((c - 48 : Nat) : Int) = ((57 - c : Nat) : Int) from by omega, intDigs_nat, natDigs_small (by omega)]
      rw [show 48 + (57 - c) = 105 - c from by omega]
      exact hq'
    · rw [List.nil_append, List.map_map]
      have hf : ((natDigs i.natAbs).map fun c => [105 - c]).flatten = (natDigs i.natAbs).map fun d => 105 - d := by
        generalize natDigs i.natAbs = l
        induction l with
        | nil => rfl
        | cons a r ih => simp [ih]
      refine joinM (Q := fun x M1 => rAdd (.str ([110] ++ [96 - (natDigs i.natAbs).length])) x M1 Q) (fun c => [105 - c]) (natDigs i.natAbs) ?_ ?_
      · rw [hf, List.length_map]; exact hll
      · rw [hf]
        exact addS (by rw [List.length_map]; show 2 + (natDigs i.natAbs).length ≤ 16777216; omega) hq
end Lk23
end
section
set_option linter.all false
set_option maxRecDepth 10000
namespace Lk23
open Dl
local macro_rules | `(tactic| iterate 1 (fail "dl")) => `(tactic| first | (with_reducible first | refine x_seq ?_ | refine x_ret ?_ | refine x_retN ?_ | refine x_next ?_ | refine x_break ?_ | refine x_cont ?_ | refine x_drop ?_ | refine x_asg ?_ | refine x_ifs ?_ | refine x_if ?_ | refine x_true ?_ | refine x_false ?_ | refine x_c ?_ | refine x_op ?_ | refine x_un ?_ | refine x_nil ?_ | refine x_cons ?_ | refine x_cb ?_ | refine x_B ?_ | refine x_kB ?_ | refine x_andV ?_ | refine x_orV ?_ | refine x_notV ?_ | refine x_kAt ?_ | refine x_kAf ?_ | refine x_kOt ?_ | refine x_kOf ?_ | refine x_kN ?_ | refine x_and ?_ | refine x_or ?_ | refine x_not ?_ | refine x_yes ?_ | refine x_call ?_ | refine x_call0 ?_ | refine x_par ?_ | refine x_par3 ?_ | refine x_kpar ?_ | refine x_kpar3 ?_ | refine x_v0 ?_ | refine x_v1 ?_ | refine x_v2 ?_ | refine x_v3 ?_ | refine x_v4 ?_ | refine x_v5 ?_ | refine x_v6 ?_ | refine x_v7 ?_ | refine x_v8 ?_ | refine x_v9 ?_ | refine x_v10 ?_ | refine x_v11 ?_ | refine x_v12 ?_ | refine x_v13 ?_ | refine x_v14 ?_ | refine x_v15 ?_ | refine x_v16 ?_ | refine x_v17 ?_ | refine x_v18 ?_ | refine x_v19 ?_ | refine x_v20 ?_ | refine x_v21 ?_ | refine x_v22 ?_ | refine x_v23 ?_ | refine x_g0 ?_ | refine x_g1 ?_ | refine x_g2 ?_ | refine x_g3 ?_ | refine x_g4 ?_ | refine x_g5 ?_ | refine x_g6 ?_ | refine x_g7 ?_ | refine x_g8 ?_ | refine x_g9 ?_ | refine x_g10 ?_ | refine x_g11 ?_ | refine x_g12 ?_ | refine x_g13 ?_ | refine x_g14 ?_ | refine x_g15 ?_ | refine x_g16 ?_ | refine x_g17 ?_ | refine x_g18 ?_ | refine x_g19 ?_ | refine x_g20 ?_ | refine x_g21 ?_ | refine x_g22 ?_ | refine x_g23 ?_ | refine x_gTp rfl ?_ | refine x_gsN ?_ | refine x_gsC ?_ | refine x_gSb ?_ | refine x_sl ?_ | refine x_oN ?_ | refine x_oS ?_ | refine x_kO ?_ | refine x_bm ?_ | refine x_kstr ?_ | refine x_tup ?_ | refine x_lst ?_ | refine x_lstO ?_ | refine x_ln0 ?_ | refine x_ln1 ?_ | refine x_ln2 ?_ | refine x_ln3 ?_ | refine x_ln4 ?_ | refine x_ln5 ?_ | refine x_ln6 ?_ | refine x_ln7 ?_ | refine x_ln8 ?_ | refine x_ln9 ?_ | refine x_ln10 ?_ | refine x_ln11 ?_ | refine x_addI ?_ | refine x_addII ?_ | refine x_subI ?_ | refine x_negI ?_ | refine x_eqI ?_ | refine x_eqS ?_ | refine x_neS ?_ | refine x_neI ?_ | refine x_eqB ?_ | refine x_neB ?_ | refine x_ltI ?_ | refine x_gtI ?_ | refine x_leI ?_ | refine x_geI ?_ | refine x_ltS ?_ | refine x_leS ?_ | refine x_isN ?_ | refine x_isB ?_ | refine x_lenT ?_ | refine x_lenL ?_ | refine x_abs ?_ | refine x_intI ?_ | refine x_intB ?_ | refine x_max ?_ | refine x_min ?_ | refine x_tupL ?_ | refine x_tupT ?_ | refine x_slT ?_ | refine x_slL ?_ | refine x_iSeq ?_ | refine x_kSL ?_ | refine x_kST ?_ | refine x_kSS ?_ | refine x_r1 ?_ | refine x_r2 ?_ | refine x_comp ?_ | refine x_compO ?_ | refine x_for ?_) | (refine x_dt rfl ?_) | (refine x_df rfl ?_))

theorem draw {M : Mh} {p : Nat} {n : Int} {Q : DQ} {E : Exn → Mh → Prop} (hj : jarAt M p) (h0 : 0 < n) (h1 : n < 2 ^ 64) (h : ∀ d M', 0 ≤ d → d < n → Jn M p M' → Q (.int d) M') : sp__law_drawn [.obj p, .int n] M Q E := ⟨p, n, rfl, rfl, h0, h1, hj, h⟩
theorem signs0 {M : Mh} {Q : DQ} {E : Exn → Mh → Prop} (h : Q (.str signs) M) : sp__law_signs [] M Q E := h
theorem Jn.trans {M M1 M2 : Mh} {p : Nat} (a : Jn M p M1) (b : Jn M1 p M2) : Jn M p M2 := ⟨b.1, fun c hc => (b.2 c hc).trans (a.2 c hc)⟩
theorem Jn.refl {M : Mh} {p : Nat} (a : jarAt M p) : Jn M p M := ⟨a, fun _ _ => rfl⟩
def sg (c : Nat) : Prop := 32 ≤ c ∧ c ≤ 126
theorem signs_sg : ∀ c ∈ signs, sg c := by unfold sg; decide
theorem low_sg : ∀ c ∈ [32, 33, 34, 97], sg c := by unfold sg; decide
theorem rep1 (n c : Nat) : (List.replicate n [c]).flatten = List.replicate n c := by
  induction n with
  | zero => rfl
  | succ n ih => rw [List.replicate_succ, List.flatten_cons, ih]; rfl
theorem flat1 (l : List Nat) : (l.map fun c => [c]).flatten = l := by
  induction l with
  | nil => rfl
  | cons a r ih => simp [ih]
theorem sOk_small {l : List Nat} (h : ∀ c ∈ l, sg c) (hl : l.length ≤ 200) : sOk l := ⟨hl, h⟩
theorem law__law_text (ds M Q E) (h : sp__law_text ds M Q E) : t__law_text (fun x _ M' => E x M') (fnEnds Q) (startE 9 ds) M := by
  obtain ⟨v, rfl, p, rfl, hj, hq⟩ := one h
  show t__law_text _ ⟨_, _, _, _⟩ [some (.obj p), none, none, none, none, none, none, none, none] M
  unfold t__law_text
  (repeat iterate 1 (fail "dl"))
  refine signs0 ?_
  (repeat iterate 1 (fail "dl"))
  refine draw hj (by decide) (by decide) fun kd M1 h0 h1 j1 => ?_
  (repeat iterate 1 (fail "dl"))
  -- a text of drawn signs
  have comp : ∀ (bs : List Nat) (n : Int) (i : Nat) (te : DE) (env : Env) (own : List Nat) (rest : D → Mh → Prop), 0 ≤ n → n < 8 → (∀ c ∈ bs, sg c) →
      (∀ d M2, Jn M1 p M2 → ∃ env1, (Tgt.nm 8).put (wipeE env own) d = some env1 ∧ ∀ Q' : DQ, (∀ c M3, c ∈ bs → Jn M1 p M3 → Q' (.str [c]) M3) → te env1 M2 Q') →
      ∀ M2, Jn M1 p M2 → (∀ s M3, sOk s → Jn M1 p M3 → rest (.str s) M3) → compGo (Tgt.nm 8) mYes te (wipeE env own) always (fun acc M3 => rJoin (.str []) [.lst acc] M3 rest) (rngD 0 n.toNat) [] M2 := by
    intro bs n i te env own rest hn0 hn1 hbs step M2 j2 fin
    have hlen : (rngD 0 n.toNat).length = n.toNat := by unfold rngD; simp
    refine compGo_inv (fun acc M3 => (∃ cs : List Nat, acc = cs.map (fun c => D.str [c]) ∧ ∀ c ∈ cs, sg c) ∧ Jn M1 p M3) _ [] M2 (by rw [hlen]; show 0 + n.toNat ≤ 16777216; omega) (fun d hd acc M3 ⟨⟨cs, e, hc⟩, j3⟩ => ⟨trivial, ?_⟩) (fun acc M3 hl ⟨⟨cs, e, hc⟩, j3⟩ => ⟨trivial, ?_⟩) ⟨⟨[], rfl, fun c hc => by cases hc⟩, j2⟩
    · obtain ⟨env1, e1, st⟩ := step d M3 j3
      refine ⟨env1, e1, fun Q' hq' => st Q' fun c M4 hcb j4 => hq' _ M4 ⟨⟨cs ++ [c], by rw [e]; simp, fun x hx => ?_⟩, j4⟩⟩
      rcases List.mem_append.mp hx with z | z
      · exact hc x z
      · rw [List.mem_singleton.mp z]; exact hbs c hcb
    · subst e
      rw [List.length_map, hlen] at hl
      have hl2 : cs.length ≤ 7 := by simp only [List.length_nil] at hl; omega
      refine joinM (fun c => [c]) cs ?_ ?_
      · rw [flat1]; show cs.length ≤ 16777216; omega
      · rw [flat1]; exact fin cs M3 ⟨by omega, hc⟩ j3
  refine ⟨fun hb => ?_, fun hb => ?_⟩
  · (repeat iterate 1 (fail "dl"))
    refine draw j1.1 (by decide) (by decide) fun d3 M2 g0 g1 j2 => ?_
    (repeat iterate 1 (fail "dl"))
    refine draw j2.1 (by decide) (by decide) fun d4 M3 g2 g3 j3 => ?_
    obtain ⟨c1, e1, m1, _⟩ := atD_ok (xs := signs) (i := d4) g2 (by show d4 < (94 : Int); omega)
    refine ixS (by decide) e1 ?_
    (repeat iterate 1 (fail "dl"))
    refine draw j3.1 (by decide) (by decide) fun d5 M4 g4 g5 j4 => ?_
    obtain ⟨c2, e2, m2, _⟩ := atD_ok (xs := [32, 33, 34, 97]) (i := d5) g4 (by show d5 < (4 : Int); omega)
    refine ixS (by decide) e2 ?_
    (repeat iterate 1 (fail "dl"))
    refine draw j4.1 (by omega) (by omega) fun d6 M5 g6 g7 j5 => ?_
    (repeat iterate 1 (fail "dl"))
    refine mulS (by omega) (by omega) (by show 1 * d6.toNat ≤ 16777216; omega) ?_
    (repeat iterate 1 (fail "dl"))
    rw [rep1]
    refine addS (by rw [List.length_replicate]; show d6.toNat + 1 ≤ 16777216; omega) ?_
    (repeat iterate 1 (fail "dl"))
    refine mulS (by omega) (by omega) (by show 1 * (200 - d3 - d6 - 1).toNat ≤ 16777216; omega) ?_
    rw [rep1]
    refine addS (by simp only [List.length_append, List.length_replicate, List.length_cons, List.length_nil]; show _ ≤ 16777216; omega) ?_
    refine hq _ M5 ⟨_, rfl, ?_, ?_⟩ ((((j1.trans j2).trans j3).trans j4).trans j5)
    · simp only [List.length_append, List.length_replicate, List.length_cons, List.length_nil]; omega
    · intro c hc
      rcases List.mem_append.mp hc with hc | hc
      · rcases List.mem_append.mp hc with hc | hc
        · rw [List.eq_of_mem_replicate hc]; exact signs_sg c1 m1
        · rw [List.mem_singleton.mp hc]; exact low_sg c2 m2
      · rw [List.eq_of_mem_replicate hc]; exact signs_sg c1 m1
  · (repeat iterate 1 (fail "dl"))
    refine ⟨fun hb2 => ?_, fun hb2 => ?_⟩
    · (repeat iterate 1 (fail "dl"))
      refine draw j1.1 (by decide) (by decide) fun n M2 g0 g1 j2 => ?_
      (repeat iterate 1 (fail "dl"))
      refine kR1 (by omega) (by omega) ?_
      refine comp [32, 33, 34, 97] n 0 _ _ _ Q g0 (by omega) low_sg (fun d M3 j3 => ⟨[some (.obj p), some (.str signs), some (.str [32, 33, 34, 97]), some (.int kd), none, none, none, none, some d], rfl, fun Q' hq' => ?_⟩) M2 j2 fun s M3 hs j3 => hq _ M3 ⟨s, rfl, hs⟩ (j1.trans j3)
      (repeat iterate 1 (fail "dl"))
      refine draw j3.1 (by decide) (by decide) fun d5 M4 g4 g5 j4 => ?_
      obtain ⟨c2, e2, m2, _⟩ := atD_ok (xs := [32, 33, 34, 97]) (i := d5) g4 (by show d5 < (4 : Int); omega)
      exact ixS (by decide) e2 (hq' c2 M4 m2 (j3.trans j4))
    · (repeat iterate 1 (fail "dl"))
      refine draw j1.1 (by decide) (by decide) fun n M2 g0 g1 j2 => ?_
      (repeat iterate 1 (fail "dl"))
      refine kR1 (by omega) (by omega) ?_
      refine comp signs n 0 _ _ _ Q g0 (by omega) signs_sg (fun d M3 j3 => ⟨[some (.obj p), some (.str signs), some (.str [32, 33, 34, 97]), some (.int kd), none, none, none, none, some d], rfl, fun Q' hq' => ?_⟩) M2 j2 fun s M3 hs j3 => hq _ M3 ⟨s, rfl, hs⟩ (j1.trans j3)
      (repeat iterate 1 (fail "dl"))
      refine draw j3.1 (by decide) (by decide) fun d5 M4 g4 g5 j4 => ?_
      obtain ⟨c2, e2, m2, _⟩ := atD_ok (xs := signs) (i := d5) g4 (by show d5 < (94 : Int); omega)
      exact ixS (by decide) e2 (hq' c2 M4 m2 (j3.trans j4))
theorem pow_lt {k n : Nat} (h : k ≤ n) : (10 : Int) ^ k ≤ 10 ^ n := by
  have := Nat.pow_le_pow_right (n := 10) (by decide) h
  exact_mod_cast this
theorem law__law_number (ds M Q E) (h : sp__law_number ds M Q E) : t__law_number (fun x _ M' => E x M') (fnEnds Q) (startE 7 ds) M := by
  obtain ⟨v, rfl, p, rfl, hj, hq⟩ := one h
  show t__law_number _ ⟨_, _, _, _⟩ [some (.obj p), none, none, none, none, none, none] M
  unfold t__law_number
  (repeat iterate 1 (fail "dl"))
  refine draw hj (by decide) (by decide) fun kd M1 h0 h1 j1 => ?_
  (repeat iterate 1 (fail "dl"))
  refine draw j1.1 (by decide) (by decide) fun mn M2 h2 h3 j2 => ?_
  (repeat iterate 1 (fail "dl"))
  refine draw j2.1 (by decide) (by decide) fun bl M3 h4 h5 j3 => ?_
  have jj := (j1.trans j2).trans j3
  have hlen : ∀ n : Nat, (rngD 0 n).length = n := fun n => by unfold rngD; simp
  obtain ⟨m, hm⟩ := Int.eq_ofNat_of_zero_le h2
  have hm30 : m < 30 := by omega
  (repeat iterate 1 (fail "dl"))
  refine kR1 (by omega) (by omega) ?_
  have e1 : ((1 : Int) + mn - 1).toNat = m := by omega
  rw [e1]
  -- the end
  have fin : ∀ (f : Int) (M' : Mh) (x4 x5 : Option D), vInt f → Jn M p M' → ((bl == 0) = true → mVar 6 [some (.obj p), some (.int kd), some (.int (1 + mn)), some (.int bl), x4, x5, some (.int f)] M' Q) ∧ ((bl == 0) = false → mOp rSub (mC (.int 0)) (mVar 6) [some (.obj p), some (.int kd), some (.int (1 + mn)), some (.int bl), x4, x5, some (.int f)] M' Q) := by
    intro f M' x4 x5 hf j'
    refine ⟨fun _ => ?_, fun _ => ?_⟩
    · (repeat iterate 1 (fail "dl")); exact hq _ M' ⟨f, rfl, hf⟩ j'
    · (repeat iterate 1 (fail "dl")); exact hq _ M' ⟨_, rfl, by unfold vInt at hf ⊢; omega⟩ j'
  refine forGo_inv (fun k env M' => M' = M3 ∧ ∃ x5, env = [some (.obj p), some (.int kd), some (.int (1 + mn)), some (.int bl), some (.int (10 ^ k)), x5, none]) _ 0 _ M3 (fun i d env M' hd ⟨eM, x5, e⟩ => ⟨trivial, _, put_nm, fun nx' hn => ?_⟩) (fun env M' ⟨eM, x5, e⟩ => ⟨trivial, ?_⟩) ⟨rfl, _, rfl⟩
  · subst eM; subst e
    show mAsg _ _ ⟨_, _, _, _⟩ [some (.obj p), some (.int kd), some (.int (1 + mn)), some (.int bl), some (.int (10 ^ (0 + i))), some d, none] M'
    (repeat iterate 1 (fail "dl"))
    refine mulI (.inr (.inl (.of (k := 4) (by decide) (by decide)))) ?_
    (repeat iterate 1 (fail "dl"))
    exact hn _ _ ⟨rfl, some d, by rw [Int.pow_succ]⟩
  subst eM; subst e
  rw [hlen, Nat.zero_add]
  have hpm : (1 : Int) ≤ 10 ^ m := by have := pow_lt (Nat.zero_le m); simpa using this
  have hpm2 : (10 : Int) ^ m * 10 ≤ 10 ^ 30 := by rw [← Int.pow_succ]; exact pow_lt (by omega)
  (repeat iterate 1 (fail "dl"))
  refine ⟨fun hb => ?_, fun hb => ?_⟩
  · (repeat iterate 1 (fail "dl"))
    refine draw jj.1 (by decide) (by decide) fun f M4 g0 g1 j4 => ?_
    (repeat iterate 1 (fail "dl"))
    exact fin f M4 _ _ (by unfold vInt; omega) (jj.trans j4)
  · (repeat iterate 1 (fail "dl"))
    refine ⟨fun hb2 => ?_, fun hb2 => ?_⟩
    · (repeat iterate 1 (fail "dl"))
      refine mulI (.inr (.inl (.of (k := 4) (by decide) (by decide)))) ?_
      (repeat iterate 1 (fail "dl"))
      refine modI (by decide) ?_
      obtain ⟨d, e, mm, _⟩ := atD_ok (xs := [D.int (10 ^ m), D.int (10 ^ m * 10 - 1)]) (i := kd % 2) (by omega) (by show _ < (2 : Int); omega)
      refine ixL e ?_
      have hd : ∃ f, d = .int f ∧ vInt f := by
        rcases List.mem_cons.mp mm with z | z
        · exact ⟨_, z, by unfold vInt; omega⟩
        · exact ⟨_, List.mem_singleton.mp z, by unfold vInt; omega⟩
      obtain ⟨f, rfl, hf⟩ := hd
      (repeat iterate 1 (fail "dl"))
      exact fin f _ _ _ hf jj
    · (repeat iterate 1 (fail "dl"))
      refine draw jj.1 (by decide) (by decide) fun f M4 g0 g1 j4 => ?_
      (repeat iterate 1 (fail "dl"))
      refine kR1 (by omega) (by omega) ?_
      rw [e1]
      refine forGo_inv (fun k env M' => Jn M p M' ∧ ∃ (x5 : Option D) (f : Int), env = [some (.obj p), some (.int kd), some (.int (1 + mn)), some (.int bl), some (.int (10 ^ m)), x5, some (.int f)] ∧ 0 ≤ f ∧ f < 10 ^ (k + 1)) _ 0 _ M4 (fun i d env M' hd ⟨jM, x5, f, e, f0, f1⟩ => ⟨trivial, _, put_nm, fun nx' hn => ?_⟩) (fun env M' ⟨jM, x5, f, e, f0, f1⟩ => ⟨trivial, ?_⟩) ⟨jj.trans j4, _, _, rfl, by omega, by omega⟩
      · subst e
        show mAsg _ _ ⟨_, _, _, _⟩ [some (.obj p), some (.int kd), some (.int (1 + mn)), some (.int bl), some (.int (10 ^ m)), some d, some (.int f)] M'
        (repeat iterate 1 (fail "dl"))
        refine mulI (.inr (.inl (.of (k := 4) (by decide) (by decide)))) ?_
        (repeat iterate 1 (fail "dl"))
        refine draw jM.1 (by decide) (by decide) fun g M5 k0 k1 j5 => ?_
        (repeat iterate 1 (fail "dl"))
        refine hn _ _ ⟨jM.trans j5, some d, _, rfl, by omega, ?_⟩
        rw [Int.pow_succ]; omega
      · subst e
        rw [hlen, Nat.zero_add] at f1
        have := pow_lt (show m + 1 ≤ 30 by omega)
        dsimp only
        (repeat iterate 1 (fail "dl"))
        exact fin f M' _ _ (by unfold vInt; omega) jM
theorem law__law_value (ds M Q E) (h : sp__law_value ds M Q E) : t__law_value (fun x _ M' => E x M') (fnEnds Q) (startE 2 ds) M := by
  obtain ⟨v, rfl, p, rfl, hj, hq⟩ := one h
  show t__law_value _ ⟨_, _, _, _⟩ [some (.obj p), none] M
  unfold t__law_value
  (repeat iterate 1 (fail "dl"))
  refine draw hj (by decide) (by decide) fun kd M1 h0 h1 j1 => ?_
  (repeat iterate 1 (fail "dl"))
  refine ⟨fun hb => ?_, fun hb => ?_⟩
  · (repeat iterate 1 (fail "dl"))
    have hb := of_decide_eq_true hb
    obtain ⟨d, e, mm, _⟩ := atD_ok (xs := [D.non, D.bl false, D.bl true]) (i := kd) h0 (by show _ < (3 : Int); omega)
    refine ixL e (hq d M1 ?_ j1)
    simp only [List.mem_cons, List.not_mem_nil, or_false] at mm
    rcases mm with rfl | rfl | rfl <;> trivial
  · (repeat iterate 1 (fail "dl"))
    refine ⟨fun hb => ?_, fun hb => ?_⟩
    · (repeat iterate 1 (fail "dl"))
      exact ⟨p, rfl, j1.1, fun v M2 ⟨i, e, hi⟩ j2 => hq v M2 (by subst e; exact hi) (j1.trans j2)⟩
    · (repeat iterate 1 (fail "dl"))
      exact ⟨p, rfl, j1.1, fun v M2 ⟨i, e, hi⟩ j2 => hq v M2 (by subst e; exact hi) (j1.trans j2)⟩
theorem law__law_near_number (ds M Q E) (h : sp__law_near_number ds M Q E) : t__law_near_number (fun x _ M' => E x M') (fnEnds Q) (startE 5 ds) M := by
  obtain ⟨a, b, rfl, p, i, rfl, rfl, hi, hj, hq⟩ := two h
  show t__law_near_number _ ⟨_, _, _, _⟩ [some (.obj p), some (.int i), none, none, none] M
  unfold t__law_near_number
  (repeat iterate 1 (fail "dl"))
  refine draw hj (by decide) (by decide) fun kd M1 h0 h1 j1 => ?_
  (repeat iterate 1 (fail "dl"))
  refine draw j1.1 (by decide) (by decide) fun dg M2 h2 h3 j2 => ?_
  have s10 : Sz 4000 10 := .of (k := 4) (by decide) (by decide)
  have m10 : ∀ i : Int, MulOk i 10 := fun i => .inr (.inl (.of (k := 4) (by decide) (by decide)))
  (repeat iterate 1 (fail "dl"))
  refine mulI (m10 i) ?_
  (repeat iterate 1 (fail "dl"))
  refine fdivI (by decide) s10 ?_
  (repeat iterate 1 (fail "dl"))
  refine powI (by decide) (by decide) (.of (k := 4) (by decide) (by decide)) ?_
  (repeat iterate 1 (fail "dl"))
  refine mulI (m10 i) ?_
  (repeat iterate 1 (fail "dl"))
  refine ixL (d := .int ((fun k : Int => if k = 0 then i + 1 else if k = 1 then i - 1 else if k = 2 then 0 - i else if k = 3 then i * 10 + dg else if k = 4 then i / 10 else if k = 5 then i + 10 ^ (20 : Int).toNat else i * 10) kd)) ?_ ?_
  · have : kd = 0 ∨ kd = 1 ∨ kd = 2 ∨ kd = 3 ∨ kd = 4 ∨ kd = 5 ∨ kd = 6 := by omega
    rcases this with rfl | rfl | rfl | rfl | rfl | rfl | rfl <;> rfl
  generalize (fun k : Int => if k = 0 then i + 1 else if k = 1 then i - 1 else if k = 2 then 0 - i else if k = 3 then i * 10 + dg else if k = 4 then i / 10 else if k = 5 then i + 10 ^ (20 : Int).toNat else i * 10) kd = f
  (repeat iterate 1 (fail "dl"))
  refine powI (by decide) (by decide) (.of (k := 4) (by decide) (by decide)) ?_
  (repeat iterate 1 (fail "dl"))
  refine ⟨fun hb => ?_, fun hb => ?_⟩
  · (repeat iterate 1 (fail "dl"))
    have hb := of_decide_eq_true hb
    refine hq f M2 ?_ (j1.trans j2)
    rw [iabs_nat] at hb
    unfold vInt
    have e : (10 : Int) ^ (30 : Int).toNat = ((10 ^ 30 : Nat) : Int) := rfl
    rw [e] at hb
    exact Int.ofNat_lt.mp hb
  · (repeat iterate 1 (fail "dl"))
    refine fdivI (by decide) s10 ?_
    refine hq _ M2 ?_ (j1.trans j2)
    unfold vInt at hi ⊢
    omega
end Lk23
end
section
set_option linter.all false
set_option maxRecDepth 10000
namespace Lk23
open Dl
local macro_rules | `(tactic| iterate 1 (fail "dl")) => `(tactic| first | (with_reducible first | refine x_seq ?_ | refine x_ret ?_ | refine x_retN ?_ | refine x_next ?_ | refine x_break ?_ | refine x_cont ?_ | refine x_drop ?_ | refine x_asg ?_ | refine x_ifs ?_ | refine x_if ?_ | refine x_true ?_ | refine x_false ?_ | refine x_c ?_ | refine x_op ?_ | refine x_un ?_ | refine x_nil ?_ | refine x_cons ?_ | refine x_cb ?_ | refine x_B ?_ | refine x_kB ?_ | refine x_andV ?_ | refine x_orV ?_ | refine x_notV ?_ | refine x_kAt ?_ | refine x_kAf ?_ | refine x_kOt ?_ | refine x_kOf ?_ | refine x_kN ?_ | refine x_and ?_ | refine x_or ?_ | refine x_not ?_ | refine x_yes ?_ | refine x_call ?_ | refine x_call0 ?_ | refine x_par ?_ | refine x_par3 ?_ | refine x_kpar ?_ | refine x_kpar3 ?_ | refine x_v0 ?_ | refine x_v1 ?_ | refine x_v2 ?_ | refine x_v3 ?_ | refine x_v4 ?_ | refine x_v5 ?_ | refine x_v6 ?_ | refine x_v7 ?_ | refine x_v8 ?_ | refine x_v9 ?_ | refine x_v10 ?_ | refine x_v11 ?_ | refine x_v12 ?_ | refine x_v13 ?_ | refine x_v14 ?_ | refine x_v15 ?_ | refine x_v16 ?_ | refine x_v17 ?_ | refine x_v18 ?_ | refine x_v19 ?_ | refine x_v20 ?_ | refine x_v21 ?_ | refine x_v22 ?_ | refine x_v23 ?_ | refine x_g0 ?_ | refine x_g1 ?_ | refine x_g2 ?_ | refine x_g3 ?_ | refine x_g4 ?_ | refine x_g5 ?_ | refine x_g6 ?_ | refine x_g7 ?_ | refine x_g8 ?_ | refine x_g9 ?_ | refine x_g10 ?_ | refine x_g11 ?_ | refine x_g12 ?_ | refine x_g13 ?_ | refine x_g14 ?_ | refine x_g15 ?_ | refine x_g16 ?_ | refine x_g17 ?_ | refine x_g18 ?_ | refine x_g19 ?_ | refine x_g20 ?_ | refine x_g21 ?_ | refine x_g22 ?_ | refine x_g23 ?_ | refine x_gTp rfl ?_ | refine x_gsN ?_ | refine x_gsC ?_ | refine x_gSb ?_ | refine x_sl ?_ | refine x_oN ?_ | refine x_oS ?_ | refine x_kO ?_ | refine x_bm ?_ | refine x_kstr ?_ | refine x_tup ?_ | refine x_lst ?_ | refine x_lstO ?_ | refine x_ln0 ?_ | refine x_ln1 ?_ | refine x_ln2 ?_ | refine x_ln3 ?_ | refine x_ln4 ?_ | refine x_ln5 ?_ | refine x_ln6 ?_ | refine x_ln7 ?_ | refine x_ln8 ?_ | refine x_ln9 ?_ | refine x_ln10 ?_ | refine x_ln11 ?_ | refine x_addI ?_ | refine x_addII ?_ | refine x_subI ?_ | refine x_negI ?_ | refine x_eqI ?_ | refine x_eqS ?_ | refine x_neS ?_ | refine x_neI ?_ | refine x_eqB ?_ | refine x_neB ?_ | refine x_ltI ?_ | refine x_gtI ?_ | refine x_leI ?_ | refine x_geI ?_ | refine x_ltS ?_ | refine x_leS ?_ | refine x_isN ?_ | refine x_isB ?_ | refine x_lenT ?_ | refine x_lenL ?_ | refine x_abs ?_ | refine x_intI ?_ | refine x_intB ?_ | refine x_max ?_ | refine x_min ?_ | refine x_tupL ?_ | refine x_tupT ?_ | refine x_slT ?_ | refine x_slL ?_ | refine x_iSeq ?_ | refine x_kSL ?_ | refine x_kST ?_ | refine x_kSS ?_ | refine x_r1 ?_ | refine x_r2 ?_ | refine x_comp ?_ | refine x_compO ?_ | refine x_for ?_) | (refine x_dt rfl ?_) | (refine x_df rfl ?_))

theorem sOk.take {s : List Nat} (h : sOk s) (n : Nat) : sOk (s.take n) := ⟨by rw [List.length_take]; have := h.1; omega, fun c hc => h.2 c (List.mem_of_mem_take hc)⟩
theorem sOk.take200 {s : List Nat} (h : ∀ c ∈ s, sg c) : sOk (s.take 200) := ⟨by rw [List.length_take]; omega, fun c hc => h c (List.mem_of_mem_take hc)⟩
theorem findC_rng {c : Nat} : ∀ (k : Nat) (s : List Nat), -1 ≤ findC c k s ∧ findC c k s < k + s.length + 1
  | k, [] => ⟨by show (-1 : Int) ≤ -1; decide, by show (-1 : Int) < _; omega⟩
  | k, d :: r => by
    unfold findC
    split
    · exact ⟨by omega, by simp only [List.length_cons]; omega⟩
    · have := findC_rng (c := c) (k + 1) r
      refine ⟨this.1, ?_⟩
      simp only [List.length_cons]
      omega
theorem law__law_near_text (ds M Q E) (h : sp__law_near_text ds M Q E) : t__law_near_text (fun x _ M' => E x M') (fnEnds Q) (startE 7 ds) M := by
  obtain ⟨a, b, rfl, p, s, rfl, rfl, hs, hj, hq⟩ := two h
  show t__law_near_text _ ⟨_, _, _, _⟩ [some (.obj p), some (.str s), none, none, none, none, none] M
  unfold t__law_near_text
  have hz := hs.line
  have h200 := hs.1
  (repeat iterate 1 (fail "dl"))
  refine signs0 ?_
  (repeat iterate 1 (fail "dl"))
  refine draw hj (by decide) (by decide) fun kd M1 h0 h1 j1 => ?_
  (repeat iterate 1 (fail "dl"))
  refine lenS hz ?_
  (repeat iterate 1 (fail "dl"))
  refine draw j1.1 (by omega) (by omega) fun at_ M2 h2 h3 j2 => ?_
  (repeat iterate 1 (fail "dl"))
  refine draw j2.1 (by decide) (by decide) fun d1 M3 g0 g1 j3 => ?_
  obtain ⟨c1, e1, m1, _⟩ := atD_ok (xs := signs) (i := d1) g0 (by show d1 < (94 : Int); omega)
  refine ixS (by decide) e1 ?_
  (repeat iterate 1 (fail "dl"))
  refine draw j3.1 (by decide) (by decide) fun d2 M4 g2 g3 j4 => ?_
  have jj := ((j1.trans j2).trans j3).trans j4
  refine ixL (d := .str [(fun k : Int => if k = 0 then c1 else if k = 1 then 32 else if k = 2 then 33 else 97) d2]) ?_ ?_
  · have : d2 = 0 ∨ d2 = 1 ∨ d2 = 2 ∨ d2 = 3 := by omega
    rcases this with rfl | rfl | rfl | rfl <;> rfl
  have hc : sg ((fun k : Int => if k = 0 then c1 else if k = 1 then 32 else if k = 2 then 33 else 97) d2) := by
    have h1 := signs_sg c1 m1
    dsimp only
    split
    · exact h1
    · unfold sg; split
      · omega
      · split <;> omega
  generalize (fun k : Int => if k = 0 then c1 else if k = 1 then 32 else if k = 2 then 33 else 97) d2 = c at hc
  (repeat iterate 1 (fail "dl"))
  refine ⟨fun hb => ?_, fun hb => ?_⟩
  · (repeat iterate 1 (fail "dl"))
    refine addS (by show s.length + 1 ≤ 16777216; omega) ?_
    (repeat iterate 1 (fail "dl"))
    refine slS (by simp only [List.length_append, List.length_cons, List.length_nil]; show _ ≤ 16777216; omega) ?_
    rw [cut_pre (by decide)]
    refine hq _ M4 (sOk.take200 fun x hx => ?_) jj
    rcases List.mem_append.mp hx with z | z
    · exact hs.2 x z
    · rw [List.mem_singleton.mp z]; exact hc
  (repeat iterate 1 (fail "dl"))
  refine ⟨fun hb => ?_, fun hb => ?_⟩
  · (repeat iterate 1 (fail "dl"))
    refine slS hz ?_
    rw [cut_last, List.dropLast_eq_take]
    exact hq _ M4 (hs.take _) jj
  (repeat iterate 1 (fail "dl"))
  refine ⟨fun hb => ?_, fun hb => ?_⟩
  · (repeat iterate 1 (fail "dl"))
    refine slS hz ?_
    rw [cut_pre h2]
    (repeat iterate 1 (fail "dl"))
    refine addS (by rw [List.length_take]; show _ + 1 ≤ 16777216; omega) ?_
    (repeat iterate 1 (fail "dl"))
    refine slS hz ?_
    rw [cut_post h2]
    have e2 : (s.take at_.toNat ++ [c] ++ s.drop at_.toNat).length ≤ 201 := by simp only [List.length_append, List.length_take, List.length_drop, List.length_cons, List.length_nil]; omega
    refine addS (by simp only [List.length_append, List.length_take, List.length_drop, List.length_cons, List.length_nil]; show _ ≤ 16777216; omega) ?_
    (repeat iterate 1 (fail "dl"))
    refine slS (Nat.le_trans e2 (Nat.le_of_ble_eq_true rfl)) ?_
    rw [cut_pre (by decide)]
    refine hq _ M4 (sOk.take200 fun x hx => ?_) jj
    rcases List.mem_append.mp hx with z | z
    · rcases List.mem_append.mp z with z | z
      · exact hs.2 x (List.mem_of_mem_take z)
      · rw [List.mem_singleton.mp z]; exact hc
    · exact hs.2 x (List.mem_of_mem_drop z)
  (repeat iterate 1 (fail "dl"))
  refine ⟨fun hb => ?_, fun hb => ?_⟩
  · (repeat iterate 1 (fail "dl"))
    refine slS hz ?_
    rw [cut_pre h2]
    (repeat iterate 1 (fail "dl"))
    refine slS hz ?_
    rw [cut_post (by omega)]
    refine addS (by simp only [List.length_take, List.length_drop]; show _ ≤ 16777216; omega) ?_
    refine hq _ M4 ⟨by simp only [List.length_append, List.length_take, List.length_drop]; omega, fun x hx => ?_⟩ jj
    rcases List.mem_append.mp hx with z | z
    · exact hs.2 x (List.mem_of_mem_take z)
    · exact hs.2 x (List.mem_of_mem_drop z)
  (repeat iterate 1 (fail "dl"))
  refine lenS hz ?_
  (repeat iterate 1 (fail "dl"))
  refine ⟨fun hb => ?_, fun hb => ?_⟩
  · have hb := of_decide_eq_true hb
    (repeat iterate 1 (fail "dl"))
    obtain ⟨c0, e0, m0, _⟩ := atD_ok (xs := s) (i := at_) h2 hb
    refine ixS hz e0 ?_
    (repeat iterate 1 (fail "dl"))
    have fr := findC_rng (c := c0) 0 signs
    refine findS ?_
    generalize findC c0 0 signs = pl at fr ⊢
    (repeat iterate 1 (fail "dl"))
    refine slS hz ?_
    rw [cut_pre h2]
    (repeat iterate 1 (fail "dl"))
    refine modI (by decide) ?_
    refine ixL (d := .int ((fun k : Int => if k = 0 then 1 else -1) (kd % 2))) ?_ ?_
    · have : kd % 2 = 0 ∨ kd % 2 = 1 := by omega
      rcases this with z | z <;> rw [z] <;> rfl
    have hst : (fun k : Int => if k = 0 then (1 : Int) else -1) (kd % 2) = 1 ∨ (fun k : Int => if k = 0 then (1 : Int) else -1) (kd % 2) = -1 := by
      dsimp only; split
      · exact .inl rfl
      · exact .inr rfl
    generalize (fun k : Int => if k = 0 then (1 : Int) else -1) (kd % 2) = st at hst
    (repeat iterate 1 (fail "dl"))
    have hmm : ∀ z : Int, 0 ≤ (if (if z < 93 then z else 93) > 0 then (if z < 93 then z else 93) else 0) ∧ (if (if z < 93 then z else 93) > 0 then (if z < 93 then z else 93) else 0) < 94 := by
      intro z; split <;> split <;> omega
    obtain ⟨c3, e3, m3, _⟩ := atD_ok (xs := signs) (hmm (pl + st)).1 (by show _ < (94 : Int); exact (hmm (pl + st)).2)
    refine ixS (by decide) e3 ?_
    refine addS (by simp only [List.length_take]; show _ + 1 ≤ 16777216; omega) ?_
    (repeat iterate 1 (fail "dl"))
    refine slS hz ?_
    rw [cut_post (by omega)]
    refine addS (by simp only [List.length_append, List.length_take, List.length_drop, List.length_cons, List.length_nil]; show _ ≤ 16777216; omega) ?_
    refine hq _ M4 ⟨by simp only [List.length_append, List.length_take, List.length_drop, List.length_cons, List.length_nil]; omega, fun x hx => ?_⟩ jj
    rcases List.mem_append.mp hx with z | z
    · rcases List.mem_append.mp z with z | z
      · exact hs.2 x (List.mem_of_mem_take z)
      · rw [List.mem_singleton.mp z]; exact signs_sg c3 m3
    · exact hs.2 x (List.mem_of_mem_drop z)
  (repeat iterate 1 (fail "dl"))
  exact hq s M4 hs jj
theorem rowline {n : Nat} (h : n ≤ 1000) : n ≤ line := Nat.le_trans h (Nat.le_of_ble_eq_true rfl)
theorem law__law_near (ds M Q E) (h : sp__law_near ds M Q E) : t__law_near (fun x _ M' => E x M') (fnEnds Q) (startE 7 ds) M := by
  obtain ⟨a, b, rfl, p, ds, rfl, rfl, ⟨hl, hv⟩, hj, hq⟩ := two h
  show t__law_near _ ⟨_, _, _, _⟩ [some (.obj p), some (.tup ds), none, none, none, none, none] M
  unfold t__law_near
  (repeat iterate 1 (fail "dl"))
  refine draw hj (by decide) (by decide) fun kd M1 h0 h1 j1 => ?_
  (repeat iterate 1 (fail "dl"))
  refine draw j1.1 (by omega) (by omega) fun at_ M2 h2 h3 j2 => ?_
  have jj := j1.trans j2
  (repeat iterate 1 (fail "dl"))
  refine ⟨fun hb => ?_, fun hb => ?_⟩
  (repeat iterate 1 (fail "dl"))
  refine ⟨fun hb2 => ?_, fun hb2 => ?_⟩
  · have hb2 := of_decide_eq_true hb2
    (repeat iterate 1 (fail "dl"))
    refine ⟨p, rfl, jj.1, fun v M3 hv3 j3 => ?_⟩
    (repeat iterate 1 (fail "dl"))
    refine addT (rowline (by simp only [List.length_cons, List.length_nil]; omega)) ?_
    refine hq _ M3 ⟨by simp only [List.length_append, List.length_cons, List.length_nil]; omega, fun x hx => ?_⟩ (jj.trans j3)
    rcases List.mem_append.mp hx with z | z
    · exact hv x z
    · rw [List.mem_singleton.mp z]; exact hv3
  all_goals
    (repeat iterate 1 (fail "dl"))
    refine ⟨fun hb => ?_, fun hb => ?_⟩
    · (repeat iterate 1 (fail "dl"))
      rw [cut_last, List.dropLast_eq_take]
      exact hq _ M2 ⟨by rw [List.length_take]; omega, fun x hx => hv x (List.mem_of_mem_take hx)⟩ jj
    (repeat iterate 1 (fail "dl"))
    refine ⟨fun hb => ?_, fun hb => ?_⟩
    rotate_left
    (repeat iterate 1 (fail "dl"))
    refine ⟨fun hb2 => ?_, fun hb2 => ?_⟩
    rotate_left
    · (repeat iterate 1 (fail "dl"))
      have hat : at_ < ds.length := by
        have := beq_eq_false_iff_ne.mp hb
        omega
      obtain ⟨v, e, hm, _⟩ := atD_ok h2 hat
      refine ixT e ?_
      have hvv := hv v hm
      (repeat iterate 1 (fail "dl"))
      have fin : ∀ (w : D) (M3 : Mh) (x6 : Option D), isVal w → Jn M2 p M3 → rAdd (.tup (cut ds none (some at_))) (.tup [w]) M3 fun x M6 => mSlice (mVar 1) (oSome (mOp rAdd (mVar 3) (mC (.int 1)))) oNone [some (.obj p), some (.tup ds), some (.int kd), some (.int at_), some v, some w, x6] M6 fun y M7 => rAdd x y M7 Q := by
        intro w M3 x6 hw j3
        rw [cut_pre h2]
        refine addT (rowline (by simp only [List.length_take, List.length_cons, List.length_nil]; omega)) ?_
        (repeat iterate 1 (fail "dl"))
        rw [cut_post (by omega)]
        refine addT (rowline (by simp only [List.length_append, List.length_take, List.length_drop, List.length_cons, List.length_nil]; omega)) ?_
        refine hq _ M3 ⟨by simp only [List.length_append, List.length_take, List.length_drop, List.length_cons, List.length_nil]; omega, fun x hx => ?_⟩ (jj.trans j3)
        rcases List.mem_append.mp hx with z | z
        · rcases List.mem_append.mp z with z | z
          · exact hv x (List.mem_of_mem_take z)
          · rw [List.mem_singleton.mp z]; exact hw
        · exact hv x (List.mem_of_mem_drop z)
      cases v with
      | non =>
        (repeat iterate 1 (fail "dl"))
        refine ⟨p, rfl, jj.1, fun w M3 hw j3 => ?_⟩
        (repeat iterate 1 (fail "dl"))
        exact fin w M3 _ hw j3
      | bl b =>
        cases b
        all_goals
          (repeat iterate 1 (fail "dl"))
          refine ⟨p, rfl, jj.1, fun w M3 hw j3 => ?_⟩
          (repeat iterate 1 (fail "dl"))
          exact fin w M3 _ hw j3
      | int i =>
        (repeat iterate 1 (fail "dl"))
        refine ⟨fun hb => ?_, fun hb => ?_⟩
        · (repeat iterate 1 (fail "dl"))
          refine ⟨p, rfl, jj.1, fun w M3 hw j3 => ?_⟩
          (repeat iterate 1 (fail "dl"))
          exact fin w M3 _ hw j3
        · (repeat iterate 1 (fail "dl"))
          refine isiD (b := true) (.inl rfl) rfl ?_
          (repeat iterate 1 (fail "dl"))
          refine ⟨p, i, rfl, rfl, hvv, jj.1, fun w M3 hw j3 => ?_⟩
          (repeat iterate 1 (fail "dl"))
          exact fin (.int w) M3 _ hw j3
      | str s =>
        (repeat iterate 1 (fail "dl"))
        refine ⟨fun hb => ?_, fun hb => ?_⟩
        · (repeat iterate 1 (fail "dl"))
          refine ⟨p, rfl, jj.1, fun w M3 hw j3 => ?_⟩
          (repeat iterate 1 (fail "dl"))
          exact fin w M3 _ hw j3
        · (repeat iterate 1 (fail "dl"))
          refine isiD (b := false) (.inl rfl) rfl ?_
          (repeat iterate 1 (fail "dl"))
          refine ⟨p, s, rfl, rfl, hvv, jj.1, fun w M3 hw j3 => ?_⟩
          (repeat iterate 1 (fail "dl"))
          exact fin (.str w) M3 _ hw j3
      | _ => exact hvv.elim
    all_goals
      (repeat iterate 1 (fail "dl"))
      refine draw jj.1 (by decide) (by decide) fun n M3 g0 g1 j3 => ?_
      (repeat iterate 1 (fail "dl"))
      refine kR1 (by omega) (by omega) ?_
      have hlen : (rngD 0 n.toNat).length = n.toNat := by unfold rngD; simp
      refine compGo_inv (fun acc M4 => (∀ d ∈ acc, isVal d) ∧ Jn M3 p M4) _ [] M3 (by rw [hlen]; show 0 + n.toNat ≤ 16777216; omega) (fun d hd acc M4 ⟨hc, j4⟩ => ⟨trivial, [some (.obj p), some (.tup ds), some (.int kd), some (.int at_), none, none, some d], rfl, fun Q' hq' => ?_⟩) (fun acc M4 hl4 ⟨hc, j4⟩ => ⟨trivial, ?_⟩) ⟨(fun d hd => by cases hd), Jn.refl j3.1⟩
      · (repeat iterate 1 (fail "dl"))
        refine ⟨p, rfl, j4.1, fun w M5 hw j5 => hq' w M5 ⟨fun x hx => ?_, j4.trans j5⟩⟩
        rcases List.mem_append.mp hx with z | z
        · exact hc x z
        · rw [List.mem_singleton.mp z]; exact hw
      · (repeat iterate 1 (fail "dl"))
        rw [hlen] at hl4
        exact hq acc M4 ⟨by simp only [List.length_nil] at hl4; omega, hc⟩ ((jj.trans j3).trans j4)
end Lk23
end
section
set_option linter.all false
set_option maxRecDepth 10000
namespace Lk23
open Dl
/-! the order of codes -/
theorem ltS_cons (a b : Nat) (s t : List Nat) : ltS (a :: s) (b :: t) = if a = b then ltS s t else decide (a < b) := by
  unfold ltS
  by_cases e : a = b
  · subst e
    rw [if_pos rfl, decide_eq_decide, List.cons_lt_cons_iff]
    simp
  · rw [if_neg e, decide_eq_decide, List.cons_lt_cons_iff]
    simp [e]
theorem ltS_nil (s : List Nat) : ltS s [] = false := by
  unfold ltS; cases s <;> rfl
theorem ltS_nil_cons (a : Nat) (s : List Nat) : ltS [] (a :: s) = true := by
  unfold ltS; rfl
theorem ltS_pre (p x y : List Nat) : ltS (p ++ x) (p ++ y) = ltS x y := by
  induction p with
  | nil => rfl
  | cons a p ih => rw [List.cons_append, List.cons_append, ltS_cons, if_pos rfl, ih]
/-- they differ within both, the first one is less: l -/
def Dif (x y : List Nat) (l : Bool) : Prop := ∃ (p : List Nat) (a b : Nat) (s t : List Nat), x = p ++ a :: s ∧ y = p ++ b :: t ∧ a ≠ b ∧ decide (a < b) = l
theorem Dif.lt {x y : List Nat} {l : Bool} (h : Dif x y l) : ltS x y = l := by
  obtain ⟨p, a, b, s, t, rfl, rfl, n, e⟩ := h
  rw [ltS_pre, ltS_cons, if_neg n, e]
theorem Dif.ne {x y : List Nat} {l : Bool} (h : Dif x y l) : x ≠ y := by
  obtain ⟨p, a, b, s, t, rfl, rfl, n, e⟩ := h
  intro z
  have := List.append_cancel_left z
  injection this with z1 _
  exact n z1
theorem Dif.app {x y : List Nat} {l : Bool} (h : Dif x y l) (u v : List Nat) : Dif (x ++ u) (y ++ v) l := by
  obtain ⟨p, a, b, s, t, rfl, rfl, n, e⟩ := h
  exact ⟨p, a, b, s ++ u, t ++ v, by simp, by simp, n, e⟩
theorem Dif.pre {x y : List Nat} {l : Bool} (h : Dif x y l) (q : List Nat) : Dif (q ++ x) (q ++ y) l := by
  obtain ⟨p, a, b, s, t, rfl, rfl, n, e⟩ := h
  exact ⟨q ++ p, a, b, s, t, by simp, by simp, n, e⟩
theorem Dif.cons {x y : List Nat} {l : Bool} (h : Dif x y l) (c : Nat) : Dif (c :: x) (c :: y) l := h.pre [c]
theorem Dif.head {a b : Nat} {l : Bool} (s t : List Nat) (n : a ≠ b) (e : decide (a < b) = l) : Dif (a :: s) (b :: t) l := ⟨[], a, b, s, t, rfl, rfl, n, e⟩
theorem Dif.sym {x y : List Nat} {l : Bool} (h : Dif x y l) : Dif y x (!l) := by
  obtain ⟨p, a, b, s, t, rfl, rfl, n, e⟩ := h
  refine ⟨p, b, a, t, s, rfl, rfl, n.symm, ?_⟩
  subst e
  by_cases z : a < b
  · simp [z]; omega
  · simp [z]; omega
theorem Dif.take {x y : List Nat} {l : Bool} (h : Dif x y l) : x.take y.length ≠ y := by
  obtain ⟨p, a, b, s, t, rfl, rfl, n, e⟩ := h
  intro z
  have h1 : ((p ++ a :: s).take (p ++ b :: t).length)[p.length]? = some a := by
    rw [List.getElem?_take_of_lt (by simp), List.getElem?_append_right (Nat.le_refl _)]; simp
  rw [z, List.getElem?_append_right (Nat.le_refl _)] at h1
  simp at h1
  exact n h1.symm
/-- texts -/
theorem esc_head {c : Nat} (h : 32 ≤ c) : ∃ d r, esc c = d :: r ∧ 33 ≤ d := by
  unfold esc
  by_cases h1 : c = 32
  · rw [if_pos h1]; exact ⟨_, _, rfl, by decide⟩
  · rw [if_neg h1]
    by_cases h2 : c = 33
    · rw [if_pos h2]; exact ⟨_, _, rfl, by decide⟩
    · rw [if_neg h2]; exact ⟨_, _, rfl, by omega⟩
theorem esc_dif {c d : Nat} (hc : 32 ≤ c) (hd : 32 ≤ d) (n : c ≠ d) : Dif (esc c) (esc d) (decide (c < d)) := by
  unfold esc
  by_cases h1 : c = 32
  · subst h1
    rw [if_pos rfl, if_neg n.symm]
    by_cases h2 : d = 33
    · subst h2; exact (Dif.head (a := 97) (b := 98) [] [] (by decide) rfl).cons 33
    · rw [if_neg h2]; exact Dif.head _ _ (by omega) (by rw [decide_eq_decide]; omega)
  · rw [if_neg h1]
    by_cases h2 : c = 33
    · subst h2
      rw [if_pos rfl]
      by_cases h3 : d = 32
      · subst h3; exact (Dif.head (a := 98) (b := 97) [] [] (by decide) rfl).cons 33
      · rw [if_neg h3, if_neg n.symm]; exact Dif.head _ _ (by omega) (by rw [decide_eq_decide])
    · rw [if_neg h2]
      by_cases h3 : d = 32
      · subst h3; exact Dif.head _ _ (by omega) (by rw [decide_eq_decide]; omega)
      · rw [if_neg h3]
        by_cases h4 : d = 33
        · subst h4; exact Dif.head _ _ (by omega) (by rw [decide_eq_decide])
        · rw [if_neg h4]; exact Dif.head _ _ n rfl
theorem tcode_cons (c : Nat) (s : List Nat) : tcode (c :: s) = esc c ++ tcode s := by
  unfold tcode; simp
theorem tcode_dif : ∀ {s t : List Nat}, (∀ c ∈ s, 32 ≤ c) → (∀ c ∈ t, 32 ≤ c) → s ≠ t → Dif (tcode s) (tcode t) (ltS s t)
  | [], [], _, _, n => absurd rfl n
  | [], d :: t, hs, ht, n => by
    rw [tcode_cons, ltS_nil_cons]
    obtain ⟨x, r, e, hx⟩ := esc_head (ht d List.mem_cons_self)
    rw [e]
    exact Dif.head (a := 32) [] (r ++ tcode t) (by omega) (decide_eq_true (by omega))
  | c :: s, [], hs, ht, n => by
    rw [tcode_cons, ltS_nil]
    obtain ⟨x, r, e, hx⟩ := esc_head (hs c List.mem_cons_self)
    rw [e]
    exact Dif.head (b := 32) (r ++ tcode s) [] (by omega) (decide_eq_false (by omega))
  | c :: s, d :: t, hs, ht, n => by
    rw [tcode_cons, tcode_cons, ltS_cons]
    by_cases e : c = d
    · subst e
      rw [if_pos rfl]
      exact (tcode_dif (fun x hx => hs x (List.mem_cons_of_mem _ hx)) (fun x hx => ht x (List.mem_cons_of_mem _ hx)) fun z => n (by rw [z])).pre _
    · rw [if_neg e]
      exact (esc_dif (hs c List.mem_cons_self) (ht d List.mem_cons_self) e).app _ _
/-- digits -/
theorem digit_val : ∀ k : Fin 10, (Nat.digitChar k.val).toNat = 48 + k.val := by decide
theorem natDigs_step {n : Nat} (h : 10 ≤ n) : natDigs n = natDigs (n / 10) ++ [48 + n % 10] := by
  unfold natDigs
  rw [Nat.toDigits_of_base_le (by decide) h, List.map_append]
  have := digit_val ⟨n % 10, by omega⟩
  simp only [List.map_cons, List.map_nil, this]
theorem natDigs_dif : ∀ (n m : Nat), m < n → (natDigs m).length < (natDigs n).length ∨ ((natDigs m).length = (natDigs n).length ∧ Dif (natDigs m) (natDigs n) true) := by
  intro n
  induction n using Nat.strongRecOn with
  | ind n ih =>
    intro m h
    by_cases h1 : n < 10
    · rw [natDigs_small h1, natDigs_small (by omega)]
      exact .inr ⟨rfl, Dif.head [] [] (by omega) (decide_eq_true (by omega))⟩
    · by_cases h2 : m < 10
      · rw [natDigs_small h2, natDigs_step (by omega)]
        have := natDigs_pos (n / 10)
        exact .inl (by simp only [List.length_append, List.length_cons, List.length_nil]; omega)
      · rw [natDigs_step (n := n) (by omega), natDigs_step (n := m) (by omega)]
        simp only [List.length_append, List.length_cons, List.length_nil]
        by_cases h3 : m / 10 < n / 10
        · rcases ih (n / 10) (by omega) (m / 10) h3 with z | ⟨z1, z2⟩
          · exact .inl (by omega)
          · exact .inr ⟨by omega, z2.app _ _⟩
        · have e : m / 10 = n / 10 := by omega
          rw [e]
          exact .inr ⟨rfl, (Dif.head (a := 48 + m % 10) (b := 48 + n % 10) [] [] (by omega) (decide_eq_true (by omega))).pre _⟩
theorem Dif.comp {x y : List Nat} (hx : ∀ c ∈ x, c ≤ 57) (hy : ∀ c ∈ y, c ≤ 57) (h : Dif x y true) : Dif (y.map fun d => 105 - d) (x.map fun d => 105 - d) true := by
  obtain ⟨p, a, b, s, t, rfl, rfl, n, e⟩ := h
  have e := of_decide_eq_true e
  have h1 := hx a (by simp)
  have h2 := hy b (by simp)
  exact ⟨p.map fun d => 105 - d, 105 - b, 105 - a, t.map fun d => 105 - d, s.map fun d => 105 - d, by simp, by simp, by omega, decide_eq_true (by omega)⟩
theorem ncode_dif1 {i j : Int} (hi : vInt i) (hj : vInt j) (h : i < j) : Dif (ncode i) (ncode j) true := by
  have li := digits_len 29 i.natAbs hi
  have lj := digits_len 29 j.natAbs hj
  unfold ncode
  by_cases i0 : i = 0
  · rw [if_pos i0, if_neg (by omega), if_pos (by omega)]
    exact Dif.head _ _ (by decide) rfl
  · rw [if_neg i0]
    by_cases ip : 0 < i
    · rw [if_pos ip, if_neg (by omega), if_pos (by omega)]
      rcases natDigs_dif j.natAbs i.natAbs (by omega) with z | ⟨z1, z2⟩
      · exact (Dif.head _ _ (by omega) (decide_eq_true (by omega))).cons _
      · rw [z1]; exact (z2.cons _).cons _
    · rw [if_neg ip]
      by_cases j0 : j = 0
      · rw [if_pos j0]; exact Dif.head _ _ (by decide) rfl
      · rw [if_neg j0]
        by_cases jp : 0 < j
        · rw [if_pos jp]; exact Dif.head _ _ (by decide) rfl
        · rw [if_neg jp]
          rcases natDigs_dif i.natAbs j.natAbs (by omega) with z | ⟨z1, z2⟩
          · exact (Dif.head _ _ (by omega) (decide_eq_true (by omega))).cons _
          · rw [z1]
            exact ((z2.comp (fun c hc => (natDigs_dig _ c hc).2) fun c hc => (natDigs_dig _ c hc).2).cons _).cons _
theorem ncode_dif {i j : Int} (hi : vInt i) (hj : vInt j) (n : i ≠ j) : Dif (ncode i) (ncode j) (decide (i < j)) := by
  by_cases h : i < j
  · rw [decide_eq_true h]; exact ncode_dif1 hi hj h
  · rw [decide_eq_false h]; exact (ncode_dif1 hj hi (by omega)).sym
theorem ncode_head (i : Int) : ∃ c r, ncode i = c :: r ∧ 110 ≤ c ∧ c ≤ 112 := by
  unfold ncode
  split
  · exact ⟨_, _, rfl, by decide⟩
  · split <;> exact ⟨_, _, rfl, by decide⟩
theorem eqvI (i j : Int) : eqv (.int i) (.int j) = (i == j) := rfl
theorem lt3 (a a' i i' : Int) (s s' : List Nat) : ltD (.lst [.int a, .int i, .str s]) (.lst [.int a', .int i', .str s']) = if a == a' then (if i == i' then (if s == s' then false else ltS s s') else decide (i < i')) else decide (a < a') := by
  show ltDs _ _ = _
  unfold ltDs
  rw [eqvI]
  by_cases h : (a == a') = true
  · rw [if_pos h, if_pos h]
    unfold ltDs
    rw [eqvI]
    by_cases h2 : (i == i') = true
    · rw [if_pos h2, if_pos h2]
      unfold ltDs
      show (if (s == s') = true then _ else _) = _
      by_cases h3 : (s == s') = true
      · rw [if_pos h3, if_pos h3]; rfl
      · rw [if_neg h3, if_neg h3]; rfl
    · rw [if_neg h2, if_neg h2]; rfl
  · rw [if_neg h, if_neg h]; rfl
theorem eq3 (a a' i i' : Int) (s s' : List Nat) : eqv (.lst [.int a, .int i, .str s]) (.lst [.int a', .int i', .str s']) = (a == a' && (i == i' && (s == s' && true))) := rfl
/-- the order of two values' codes -/
theorem code_dif {v w : D} (hv : isVal v) (hw : isVal w) : (v = w ∧ eqv (rank v) (rank w) = true) ∨ (v ≠ w ∧ eqv (rank v) (rank w) = false ∧ Dif (code v) (code w) (ltD (rank v) (rank w))) := by
  have hsg : ∀ {s : List Nat}, sOk s → ∀ c ∈ s, 32 ≤ c := fun h c hc => (h.2 c hc).1
  cases v with
  | non =>
    cases w with
    | non => exact .inl ⟨rfl, rfl⟩
    | bl b => exact .inr ⟨(fun z => by cases z), by cases b <;> rfl, by cases b <;> exact Dif.head _ _ (by decide) rfl⟩
    | int j =>
      obtain ⟨c, r, e, h1, h2⟩ := ncode_head j
      exact .inr ⟨(fun z => by cases z), rfl, by show Dif [48] (ncode j) _; rw [e]; exact Dif.head _ _ (by omega) (decide_eq_true (by omega))⟩
    | str t => exact .inr ⟨(fun z => by cases z), rfl, Dif.head _ _ (by decide) rfl⟩
    | _ => exact hw.elim
  | bl b =>
    cases w with
    | non => exact .inr ⟨(fun z => by cases z), by cases b <;> rfl, by cases b <;> exact Dif.head _ _ (by decide) rfl⟩
    | bl c =>
      cases b <;> cases c
      · exact .inl ⟨rfl, rfl⟩
      · exact .inr ⟨(fun z => by cases z), rfl, Dif.head _ _ (by decide) rfl⟩
      · exact .inr ⟨(fun z => by cases z), rfl, Dif.head _ _ (by decide) rfl⟩
      · exact .inl ⟨rfl, rfl⟩
    | int j =>
      obtain ⟨c, r, e, h1, h2⟩ := ncode_head j
      refine .inr ⟨(fun z => by cases z), by cases b <;> rfl, ?_⟩
      show Dif _ (ncode j) _
      rw [e]
      cases b <;> exact Dif.head _ _ (by show _ ≠ c; simp; omega) (decide_eq_true (by show (_ : Nat) < c; simp; omega))
    | str t => exact .inr ⟨(fun z => by cases z), by cases b <;> rfl, by cases b <;> exact Dif.head _ _ (by decide) rfl⟩
    | _ => exact hw.elim
  | int i =>
    obtain ⟨c, r, e, h1, h2⟩ := ncode_head i
    cases w with
    | non => exact .inr ⟨(fun z => by cases z), rfl, by show Dif (ncode i) [48] _; rw [e]; exact Dif.head _ _ (by omega) (decide_eq_false (by omega))⟩
    | bl b =>
      refine .inr ⟨(fun z => by cases z), by cases b <;> rfl, ?_⟩
      show Dif (ncode i) _ _
      rw [e]
      cases b <;> exact Dif.head _ _ (by show c ≠ _; simp; omega) (decide_eq_false (by show ¬ c < (_ : Nat); simp; omega))
    | int j =>
      by_cases z : i = j
      · subst z; exact .inl ⟨rfl, by unfold rank; rw [eq3]; simp⟩
      · refine .inr ⟨fun q => z (by cases q; rfl), by unfold rank; rw [eq3]; simp [z], ?_⟩
        unfold rank
        rw [lt3, if_pos (by decide), if_neg (by simpa using z)]
        exact ncode_dif hv hw z
    | str t => exact .inr ⟨(fun z => by cases z), rfl, by show Dif (ncode i) (116 :: tcode t) _; rw [e]; exact Dif.head _ _ (by omega) (decide_eq_true (by omega))⟩
    | _ => exact hw.elim
  | str s =>
    cases w with
    | non => exact .inr ⟨(fun z => by cases z), rfl, Dif.head _ _ (by decide) rfl⟩
    | bl b => exact .inr ⟨(fun z => by cases z), by cases b <;> rfl, by cases b <;> exact Dif.head _ _ (by decide) rfl⟩
    | int j =>
      obtain ⟨c, r, e, h1, h2⟩ := ncode_head j
      exact .inr ⟨(fun z => by cases z), rfl, by show Dif (116 :: tcode s) (ncode j) _; rw [e]; exact Dif.head _ _ (by omega) (decide_eq_false (by omega))⟩
    | str t =>
      by_cases z : s = t
      · subst z; exact .inl ⟨rfl, by unfold rank; rw [eq3]; simp⟩
      · refine .inr ⟨fun q => z (by cases q; rfl), by unfold rank; rw [eq3]; simp [z], ?_⟩
        unfold rank
        rw [lt3, if_pos (by decide), if_pos (by decide), if_neg (by simpa using z)]
        exact (tcode_dif (hsg hv) (hsg hw) z).cons 116
    | _ => exact hw.elim
  | _ => exact hv.elim
theorem code_ne {v : D} (h : isVal v) : ∃ c r, code v = c :: r := by
  cases v with
  | non => exact ⟨_, _, rfl⟩
  | bl b => exact ⟨_, _, rfl⟩
  | int i => obtain ⟨c, r, e, _⟩ := ncode_head i; exact ⟨c, r, e⟩
  | str s => exact ⟨_, _, rfl⟩
  | _ => exact h.elim
theorem codes_cons (v : D) (r : List D) : codes (v :: r) = code v ++ codes r := rfl
theorem codes_app (a b : List D) : codes (a ++ b) = codes a ++ codes b := by unfold codes; simp
/-- of two rows -/
theorem codes_ord : ∀ {a b : List D}, (∀ d ∈ a, isVal d) → (∀ d ∈ b, isVal d) → ltS (codes a) (codes b) = ltDs (a.map rank) (b.map rank) ∧ (codes a == codes b) = eqvs (a.map rank) (b.map rank)
  | [], [], _, _ => ⟨rfl, rfl⟩
  | [], w :: b, _, hb => by
    obtain ⟨c, r, e⟩ := code_ne (hb w List.mem_cons_self)
    rw [codes_cons, e]
    exact ⟨rfl, rfl⟩
  | v :: a, [], ha, _ => by
    obtain ⟨c, r, e⟩ := code_ne (ha v List.mem_cons_self)
    rw [codes_cons, e]
    exact ⟨ltS_nil _, rfl⟩
  | v :: a, w :: b, ha, hb => by
    obtain ⟨ih1, ih2⟩ := codes_ord (a := a) (b := b) (fun d hd => ha d (List.mem_cons_of_mem _ hd)) fun d hd => hb d (List.mem_cons_of_mem _ hd)
    rw [codes_cons, codes_cons, List.map_cons, List.map_cons]
    unfold ltDs eqvs
    rcases code_dif (ha v List.mem_cons_self) (hb w List.mem_cons_self) with ⟨rfl, e⟩ | ⟨n, e, h⟩
    · rw [if_pos e, e, ltS_pre, Bool.true_and]
      refine ⟨ih1, ?_⟩
      rw [← ih2]
      by_cases z : codes a = codes b
      · rw [z]; simp
      · rw [beq_eq_false_iff_ne.mpr z, beq_eq_false_iff_ne.mpr fun q => z (List.append_cancel_left q)]
    · rw [if_neg (by rw [e]; simp), e, Bool.false_and]
      exact ⟨(h.app _ _).lt, beq_eq_false_iff_ne.mpr (h.app _ _).ne⟩
end Lk23
end
section
set_option linter.all false
set_option maxRecDepth 10000
namespace Lk23
open Dl
local macro_rules | `(tactic| iterate 1 (fail "dl")) => `(tactic| first | (with_reducible first | refine x_seq ?_ | refine x_ret ?_ | refine x_retN ?_ | refine x_next ?_ | refine x_break ?_ | refine x_cont ?_ | refine x_drop ?_ | refine x_asg ?_ | refine x_ifs ?_ | refine x_if ?_ | refine x_true ?_ | refine x_false ?_ | refine x_c ?_ | refine x_op ?_ | refine x_un ?_ | refine x_nil ?_ | refine x_cons ?_ | refine x_cb ?_ | refine x_B ?_ | refine x_kB ?_ | refine x_andV ?_ | refine x_orV ?_ | refine x_notV ?_ | refine x_kAt ?_ | refine x_kAf ?_ | refine x_kOt ?_ | refine x_kOf ?_ | refine x_kN ?_ | refine x_and ?_ | refine x_or ?_ | refine x_not ?_ | refine x_yes ?_ | refine x_call ?_ | refine x_call0 ?_ | refine x_par ?_ | refine x_par3 ?_ | refine x_kpar ?_ | refine x_kpar3 ?_ | refine x_v0 ?_ | refine x_v1 ?_ | refine x_v2 ?_ | refine x_v3 ?_ | refine x_v4 ?_ | refine x_v5 ?_ | refine x_v6 ?_ | refine x_v7 ?_ | refine x_v8 ?_ | refine x_v9 ?_ | refine x_v10 ?_ | refine x_v11 ?_ | refine x_v12 ?_ | refine x_v13 ?_ | refine x_v14 ?_ | refine x_v15 ?_ | refine x_v16 ?_ | refine x_v17 ?_ | refine x_v18 ?_ | refine x_v19 ?_ | refine x_v20 ?_ | refine x_v21 ?_ | refine x_v22 ?_ | refine x_v23 ?_ | refine x_g0 ?_ | refine x_g1 ?_ | refine x_g2 ?_ | refine x_g3 ?_ | refine x_g4 ?_ | refine x_g5 ?_ | refine x_g6 ?_ | refine x_g7 ?_ | refine x_g8 ?_ | refine x_g9 ?_ | refine x_g10 ?_ | refine x_g11 ?_ | refine x_g12 ?_ | refine x_g13 ?_ | refine x_g14 ?_ | refine x_g15 ?_ | refine x_g16 ?_ | refine x_g17 ?_ | refine x_g18 ?_ | refine x_g19 ?_ | refine x_g20 ?_ | refine x_g21 ?_ | refine x_g22 ?_ | refine x_g23 ?_ | refine x_gTp rfl ?_ | refine x_gsN ?_ | refine x_gsC ?_ | refine x_gSb ?_ | refine x_sl ?_ | refine x_oN ?_ | refine x_oS ?_ | refine x_kO ?_ | refine x_bm ?_ | refine x_kstr ?_ | refine x_tup ?_ | refine x_lst ?_ | refine x_lstO ?_ | refine x_ln0 ?_ | refine x_ln1 ?_ | refine x_ln2 ?_ | refine x_ln3 ?_ | refine x_ln4 ?_ | refine x_ln5 ?_ | refine x_ln6 ?_ | refine x_ln7 ?_ | refine x_ln8 ?_ | refine x_ln9 ?_ | refine x_ln10 ?_ | refine x_ln11 ?_ | refine x_addI ?_ | refine x_addII ?_ | refine x_subI ?_ | refine x_negI ?_ | refine x_eqI ?_ | refine x_eqS ?_ | refine x_neS ?_ | refine x_neI ?_ | refine x_eqB ?_ | refine x_neB ?_ | refine x_ltI ?_ | refine x_gtI ?_ | refine x_leI ?_ | refine x_geI ?_ | refine x_ltS ?_ | refine x_leS ?_ | refine x_isN ?_ | refine x_isB ?_ | refine x_lenT ?_ | refine x_lenL ?_ | refine x_abs ?_ | refine x_intI ?_ | refine x_intB ?_ | refine x_max ?_ | refine x_min ?_ | refine x_tupL ?_ | refine x_tupT ?_ | refine x_slT ?_ | refine x_slL ?_ | refine x_iSeq ?_ | refine x_kSL ?_ | refine x_kST ?_ | refine x_kSS ?_ | refine x_r1 ?_ | refine x_r2 ?_ | refine x_comp ?_ | refine x_compO ?_ | refine x_for ?_) | (refine x_dt rfl ?_) | (refine x_df rfl ?_))

/-! the law -/
theorem alike_rank {v w : D} (hv : isVal v) (hw : isVal w) : alikeD (rank v) (rank w) = true := by
  cases v with
  | non | bl | int | str => cases w with
    | non | bl | int | str => rfl
    | _ => exact hw.elim
  | _ => exact hv.elim
theorem alike_ranks : ∀ {a b : List D}, (∀ d ∈ a, isVal d) → (∀ d ∈ b, isVal d) → alikeDs (a.map rank) (b.map rank) = true
  | [], _, _, _ => by simp [alikeDs]
  | _ :: _, [], _, _ => by simp [alikeDs]
  | v :: a, w :: b, ha, hb => by
    rw [List.map_cons, List.map_cons]
    unfold alikeDs
    rw [alike_rank (ha v List.mem_cons_self) (hb w List.mem_cons_self), alike_ranks (fun d hd => ha d (List.mem_cons_of_mem _ hd)) fun d hd => hb d (List.mem_cons_of_mem _ hd)]
    rfl
theorem all_lt {s : List Nat} (h : ∀ c ∈ s, c ≤ 200) : s.all (· < 1114112) = true := by
  rw [List.all_eq_true]
  intro c hc
  exact decide_eq_true (by have := h c hc; omega)
theorem plain_rank {v : D} (hv : isVal v) : plain (rank v) = true ∧ deep (rank v) = 1 := by
  cases v with
  | non => exact ⟨rfl, rfl⟩
  | bl b => exact ⟨rfl, rfl⟩
  | int i => exact ⟨rfl, rfl⟩
  | str s =>
    refine ⟨?_, rfl⟩
    show (true && (true && (s.all (· < 1114112) && true))) = true
    rw [all_lt fun c hc => by have := hv.2 c hc; omega]; rfl
  | _ => exact hv.elim
theorem plain_ranks : ∀ {a : List D}, (∀ d ∈ a, isVal d) → plains (a.map rank) = true ∧ deeps (a.map rank) ≤ 1
  | [], _ => ⟨rfl, by decide⟩
  | v :: a, h => by
    obtain ⟨h1, h2⟩ := plain_rank (h v List.mem_cons_self)
    obtain ⟨h3, h4⟩ := plain_ranks (a := a) fun d hd => h d (List.mem_cons_of_mem _ hd)
    rw [List.map_cons]
    unfold plains deeps
    rw [h1, h3, h2]
    exact ⟨rfl, by omega⟩
def rk (r : List D) : D := .lst (r.map rank)
theorem ranks_tup (r : List D) : ranks (.tup r) = rk r := rfl
theorem plain_rk {r : List D} (h : isRow r) : plain (rk r) = true ∧ deep (rk r) ≤ 2 := by
  obtain ⟨h1, h2⟩ := plain_ranks h.2
  exact ⟨h1, by show deeps _ + 1 ≤ 2; omega⟩
theorem cmp_rk {a b : List D} (ha : isRow a) (hb : isRow b) : cmpOk (rk a) (rk b) = true := by
  show (plain (rk a) && plain (rk b) && alikeD (rk a) (rk b) && decide (deep (rk a) ≤ 60)) = true
  have h := plain_rk ha
  rw [h.1, (plain_rk hb).1, decide_eq_true (by omega)]
  show (true && true && alikeDs _ _ && true) = true
  rw [alike_ranks ha.2 hb.2]; rfl
theorem eqo_rk {a b : List D} (ha : isRow a) (hb : isRow b) : eqOk (rk a) (rk b) = true := by
  have h := plain_rk ha
  have h' := plain_rk hb
  unfold eqOk
  rw [h.1, h'.1, decide_eq_true (by omega), decide_eq_true (by omega)]; simp
theorem ord_rk {a b : List D} (ha : isRow a) (hb : isRow b) : ltS (codes a) (codes b) = ltD (rk a) (rk b) ∧ (codes a == codes b) = eqv (rk a) (rk b) := codes_ord ha.2 hb.2
theorem code_le {v : D} (h : isVal v) : ∀ c ∈ code v, c ≤ 200 := by
  cases v with
  | non => decide
  | bl b => cases b <;> decide
  | int i =>
    intro c hc
    change c ∈ ncode i at hc
    have hl := digits_len 29 i.natAbs h
    unfold ncode at hc
    split at hc
    · rw [List.mem_singleton.mp hc]; decide
    · split at hc
      · rcases List.mem_cons.mp hc with z | hc
        · omega
        · rcases List.mem_cons.mp hc with z | hc
          · omega
          · have := natDigs_dig _ c hc; omega
      · rcases List.mem_cons.mp hc with z | hc
        · omega
        · rcases List.mem_cons.mp hc with z | hc
          · omega
          · obtain ⟨d, hd, rfl⟩ := List.mem_map.mp hc
            omega
  | str s =>
    intro c hc
    rcases List.mem_cons.mp hc with z | hc
    · omega
    · unfold tcode at hc
      rcases List.mem_append.mp hc with hc | hc
      · obtain ⟨l, hl, hc⟩ := List.mem_flatten.mp hc
        obtain ⟨d, hd, rfl⟩ := List.mem_map.mp hl
        have := h.2 d hd
        unfold esc at hc
        split at hc
        · simp only [List.mem_cons, List.not_mem_nil, or_false] at hc; omega
        · split at hc
          · simp only [List.mem_cons, List.not_mem_nil, or_false] at hc; omega
          · rw [List.mem_singleton.mp hc]; omega
      · rw [List.mem_singleton.mp hc]; decide
  | _ => exact h.elim
theorem codes_le {r : List D} (h : ∀ d ∈ r, isVal d) : ∀ c ∈ codes r, c ≤ 200 := by
  intro c hc
  obtain ⟨l, hl, hc⟩ := List.mem_flatten.mp hc
  obtain ⟨d, hd, rfl⟩ := List.mem_map.mp hl
  exact code_le (h d hd) c hc
theorem codes_len {r : List D} (hl : r.length ≤ 8) (h : ∀ d ∈ r, isVal d) : (codes r).length ≤ 4000 := by
  have := flat_len (f := code) (n := 402) (xs := r) fun d hd => code_len (h d hd)
  unfold codes; omega
theorem plain_codes {rows : List (List D)} (h : ∀ r ∈ rows, isRow r) : plains (rows.map fun r => D.str (codes r)) = true ∧ deeps (rows.map fun r => D.str (codes r)) = 0 := by
  induction rows with
  | nil => exact ⟨rfl, rfl⟩
  | cons r rows ih =>
    obtain ⟨h1, h2⟩ := ih fun x hx => h x (List.mem_cons_of_mem _ hx)
    rw [List.map_cons]
    unfold plains deeps
    rw [h1, h2]
    refine ⟨?_, rfl⟩
    show ((codes r).all (· < 1114112) && true) = true
    rw [all_lt (codes_le (h r List.mem_cons_self).2)]; rfl
theorem eqvs_refl_codes (rows : List (List D)) : eqvs (rows.map fun r => D.str (codes r)) (rows.map fun r => D.str (codes r)) = true := by
  induction rows with
  | nil => rfl
  | cons r rows ih =>
    rw [List.map_cons]
    unfold eqvs
    rw [ih]
    show ((codes r == codes r) && true) = true
    simp
theorem sorted_codes {rows : List (List D)} (h : ∀ r ∈ rows, isRow r) : ∃ rs : List (List D), (∀ r ∈ rs, isRow r) ∧ rs.length = rows.length ∧ sortK ranks (rows.map D.tup) = rs.map D.tup ∧ sortD (rows.map fun r => D.str (codes r)) = rs.map fun r => D.str (codes r) := by
  refine ⟨rows.mergeSort fun a b => !ltD (rk b) (rk a), fun r hr => h r (List.mem_mergeSort.mp hr), by simp, ?_, ?_⟩
  · exact (List.map_mergeSort (f := D.tup) (r := fun a b => !ltD (rk b) (rk a)) (s := fun a b => !ltD (ranks b) (ranks a)) fun a ha b hb => rfl).symm
  · refine (List.map_mergeSort (f := fun r => D.str (codes r)) (r := fun a b => !ltD (rk b) (rk a)) (s := fun a b => !ltD b a) fun a ha b hb => ?_).symm
    rw [← (ord_rk (h b hb) (h a ha)).1]; rfl
theorem sortOk_codes {rows : List (List D)} (hl : rows.length ≤ 100) (h : ∀ r ∈ rows, isRow r) : sortOk (rows.map fun r => D.str (codes r)) := by
  refine ⟨fun x hx y hy => ?_, fun x hx => ?_, by rw [List.length_map]; exact rowline (by omega)⟩
  · obtain ⟨a, _, rfl⟩ := List.mem_map.mp hx
    obtain ⟨b, _, rfl⟩ := List.mem_map.mp hy
    rfl
  · obtain ⟨a, ha, rfl⟩ := List.mem_map.mp hx
    exact ⟨all_lt (codes_le (h a ha).2), by show 0 ≤ 60; decide, (fun z => by cases z), fun z => by cases z⟩
theorem sortOk_rk {rows : List (List D)} (hl : rows.length ≤ 100) (h : ∀ r ∈ rows, isRow r) : sortOk ((rows.map D.tup).map ranks) := by
  rw [List.map_map]
  refine ⟨fun x hx y hy => ?_, fun x hx => ?_, by rw [List.length_map]; exact rowline (by omega)⟩
  · obtain ⟨a, ha, rfl⟩ := List.mem_map.mp hx
    obtain ⟨b, hb, rfl⟩ := List.mem_map.mp hy
    exact alike_ranks (h a ha).2 (h b hb).2
  · obtain ⟨a, ha, rfl⟩ := List.mem_map.mp hx
    obtain ⟨h1, h2⟩ := plain_rk (h a ha)
    exact ⟨h1, by show deep (rk a) ≤ 60; omega, (fun z => by cases z), fun z => by cases z⟩
theorem bools_all {α : Type} (xs : List α) : bools (xs.map fun _ => D.bl true) = some (xs.map fun _ => true) ∧ (xs.map fun _ => true).all id = true := by
  induction xs with
  | nil => exact ⟨rfl, rfl⟩
  | cons a r ih =>
    refine ⟨?_, by simp⟩
    rw [List.map_cons]
    unfold bools
    rw [ih.1]; rfl
theorem rng_at {n i : Nat} {d : D} (h : (rngD 0 n)[i]? = some d) : d = .int i ∧ i < n := by
  unfold rngD at h
  have hi : i < n := by
    have := (List.getElem?_eq_some_iff.mp h).1
    simpa using this
  rw [List.getElem?_map, List.getElem?_range hi] at h
  have := Option.some.inj h
  exact ⟨by rw [← this]; simp, hi⟩
theorem at_map {α : Type} (f : α → D) {xs : List α} {i : Nat} {x : α} (h : xs[i]? = some x) : atD (xs.map f) (i : Int) = some (f x) := by
  have hi : i < xs.length := (List.getElem?_eq_some_iff.mp h).1
  unfold atD atIx
  rw [if_pos (by omega), if_pos (by rw [List.length_map]; omega)]
  show (xs.map f)[(i : Int).toNat]? = _
  rw [Int.toNat_natCast, List.getElem?_map, h]; rfl
def codeT : D → D
  | .tup r => .str (codes r)
  | d => d
theorem atD_zero {α : Type} {x : α} {xs : List α} : atD (x :: xs) 0 = some x := by
  unfold atD atIx
  rw [if_pos (by decide), if_pos (by rw [List.length_cons]; omega)]
  rfl
theorem rowline' {n : Nat} (h : n ≤ 100000) : n ≤ line := Nat.le_trans h (Nat.le_of_ble_eq_true rfl)
theorem sortKv {sp : MSp} {env : Env} {i : Nat} {a : Nat} {ds : List D} {M : Mh} {Q : DQ} {k : D → D} (hM : M a = some (.lst ds)) (hk : keyOk sp k ds) (q : Q (.lst (sortK k ds)) M) (he : env[i]? = some (some (.obj a)) := by rfl) : mSortK sp (mVar i) env M Q := by
  unfold mSortK mVar kSK
  rw [he]
  dsimp only
  rw [hM]
  exact ⟨k, hk, q⟩
theorem law_law (ds M Q E) (h : sp_law ds M Q E) : t_law (fun x _ M' => E x M') (fnEnds Q) (startE 14 ds) M := by
  obtain ⟨ns, rfl, hn, hM, hq⟩ := h
  show t_law _ ⟨_, _, _, _⟩ [some (.lst (ns.map .int)), none, none, none, none, none, none, none, none, none, none, none, none, none] M
  unfold t_law
  (repeat iterate 1 (fail "dl"))
  refine addL (rowline (by rw [cut_pre (by decide), List.length_take, List.length_map]; simp only [List.length_cons, List.length_nil]; omega)) ?_
  rw [cut_pre (by decide)]
  (repeat iterate 1 (fail "dl"))
  refine forGo_inv (fun k env M' => ∃ x1 x2 x3 x4 x5 x6 x7 x8 x9 x10 x11 x12 x13, env = [some (.lst (ns.map .int)), x1, x2, x3, x4, x5, x6, x7, x8, x9, x10, x11, x12, x13]) _ 0 _ M (fun i d env M hd ⟨x1, x2, x3, x4, x5, x6, x7, x8, x9, x10, x11, x12, x13, e⟩ => ⟨trivial, _, put_nm, fun nx' hnx => ?_⟩) (fun env M' _ => ⟨trivial, ?_⟩) ⟨none, none, none, none, none, none, none, none, none, none, none, none, none, rfl⟩
  rotate_left
  · dsimp only
    (repeat iterate 1 (fail "dl"))
    exact hq M'
  subst e
  have hint : ∃ n : Int, d = .int n := by
    have hm := List.mem_of_getElem? hd
    rcases List.mem_append.mp hm with z | z
    · exact ⟨5, List.mem_singleton.mp z⟩
    · obtain ⟨n, _, rfl⟩ := List.mem_map.mp (List.mem_of_mem_take z)
      exact ⟨n, rfl⟩
  obtain ⟨n, rfl⟩ := hint
  show mSeq _ _ ⟨_, _, _, _⟩ [some (.lst (ns.map .int)), some (.int n), x2, x3, x4, x5, x6, x7, x8, x9, x10, x11, x12, x13] M
  clear hM hd
  generalize D.lst (ns.map .int) = sc at *
  (repeat iterate 1 (fail "dl"))
  refine ⟨n, rfl, fun p M1 hp j1 => ?_⟩
  have J1 := j1.1
  clear j1 hp M
  rename_i M0
  (repeat iterate 1 (fail "dl"))
  refine draw J1 (by decide) (by decide) fun k0 M2 g0 g1 j2 => ?_
  (repeat iterate 1 (fail "dl"))
  refine kR1 (by omega) (by omega) ?_
  have hlen : (rngD 0 k0.toNat).length = k0.toNat := by unfold rngD; simp
  refine compGo_inv (fun acc M4 => (∀ d ∈ acc, isVal d) ∧ jarAt M4 p) _ [] M2 (by rw [hlen]; show 0 + k0.toNat ≤ 16777216; omega) (fun d hd acc M4 ⟨hc, j4⟩ => ⟨trivial, [some sc, some (.int n), some (.obj p), x3, some d, x5, x6, x7, x8, x9, x10, x11, x12, x13], rfl, fun Q' hq' => ?_⟩) (fun acc M4 hl4 ⟨hc, j4⟩ => ⟨trivial, ?_⟩) ⟨(fun d hd => by cases hd), j2.1⟩
  · (repeat iterate 1 (fail "dl"))
    refine ⟨p, rfl, j4, fun w M5 hw j5 => hq' w M5 ⟨fun x hx => ?_, j5.1⟩⟩
    rcases List.mem_append.mp hx with z | z
    · exact hc x z
    · rw [List.mem_singleton.mp z]; exact hw
  rw [hlen] at hl4
  have hr0 : isRow acc := ⟨by simp only [List.length_nil] at hl4; omega, hc⟩
  (repeat iterate 1 (fail "dl"))
  intro q hq0
  have hpq : q ≠ p := fun z => by
    obtain ⟨x, y, e, _⟩ := j4
    rw [z, e] at hq0; cases hq0
  have J5 : jarAt (mu M4 q (.lst [.tup acc])) p := by
    obtain ⟨x, y, e, h⟩ := j4
    exact ⟨x, y, by rw [mu_ne hpq.symm]; exact e, h⟩
  have hR5 : (mu M4 q (.lst [.tup acc])) q = some (.lst ([acc].map D.tup)) := mu_same
  generalize mu M4 q (.lst [.tup acc]) = M5 at J5 hR5
  (repeat iterate 1 (fail "dl"))
  refine draw J5 (by decide) (by decide) fun d4 M6 g2 g3 j6 => ?_
  (repeat iterate 1 (fail "dl"))
  refine kR1 (by omega) (by omega) ?_
  have hlen2 : (rngD 0 (2 + d4).toNat).length = (2 + d4).toNat := by unfold rngD; simp
  refine forGo_inv (fun k env M' => (∃ y4, env = [some sc, some (.int n), some (.obj p), some (.obj q), y4, x5, x6, x7, x8, x9, x10, x11, x12, x13]) ∧ jarAt M' p ∧ ∃ rows : List (List D), M' q = some (.lst (rows.map D.tup)) ∧ rows.length = k + 1 ∧ ∀ r ∈ rows, isRow r) _ 0 _ M6 (fun i d env M' hd ⟨⟨y4, e⟩, jM, rows, hR, hl, hrr⟩ => ⟨trivial, _, put_nm, fun nx' hnx' => ?_⟩) (fun env M' ⟨⟨y4, e⟩, jM, rows, hR, hl, hrr⟩ => ⟨trivial, ?_⟩) ⟨⟨_, rfl⟩, j6.1, [acc], (j6.2 q hpq).trans hR5, rfl, fun r hr => by rw [List.mem_singleton.mp hr]; exact hr0⟩
  · subst e
    show mDrop _ ⟨_, _, _, _⟩ [some sc, some (.int n), some (.obj p), some (.obj q), some d, x5, x6, x7, x8, x9, x10, x11, x12, x13] M'
    have hne : rows ≠ [] := fun z => by rw [z] at hl; cases hl
    have hi := (rng_at hd).2
    (repeat iterate 1 (fail "dl"))
    refine kLst hR rfl ?_
    (repeat iterate 1 (fail "dl"))
    refine ixO hR (atD_last (by simpa using hne)) ?_
    rw [List.getLast_map]
    (repeat iterate 1 (fail "dl"))
    refine ⟨p, rows.getLast hne, rfl, rfl, hrr _ (List.getLast_mem hne), jM, fun es M7 hes j7 => ?_⟩
    have hR7 := (j7.2 q hpq).trans hR
    (repeat iterate 1 (fail "dl"))
    refine appO hR7 ?_ ?_
    · rw [List.length_map, hl]; show _ < 16777216; omega
    refine hnx' _ _ ⟨⟨_, rfl⟩, ?_, rows ++ [es], ?_, ?_, ?_⟩
    · obtain ⟨x, y, e, h⟩ := j7.1
      exact ⟨x, y, by rw [mu_ne hpq.symm]; exact e, h⟩
    · rw [mu_same]; simp
    · simp only [List.length_append, List.length_cons, List.length_nil, hl]
    · intro r hr
      rcases List.mem_append.mp hr with z | z
      · exact hrr r z
      · rw [List.mem_singleton.mp z]; exact hes
  rw [hlen2] at hl
  have hl6 : rows.length ≤ 10 := by omega
  have hne : rows ≠ [] := fun z => by rw [z] at hl; simp at hl
  subst e
  dsimp only
  (repeat iterate 1 (fail "dl"))
  refine kSO hR ?_
  refine compGo_mapC codeT _ [] _ hR (rowline (by rw [List.length_map]; simp only [List.length_nil]; omega)) (fun d hd => ?_) ?_
  · obtain ⟨r, hr, rfl⟩ := List.mem_map.mp hd
    refine ⟨[some sc, some (.int n), some (.obj p), some (.obj q), y4, x5, x6, x7, x8, x9, x10, x11, x12, some (.tup r)], rfl, fun Q' hq' => ?_⟩
    (repeat iterate 1 (fail "dl"))
    exact ⟨r, rfl, by have := (hrr r hr).1; omega, (hrr r hr).2, hq'⟩
  rw [List.nil_append, List.map_map]
  have hcm : List.map (codeT ∘ D.tup) rows = rows.map fun r => D.str (codes r) := rfl
  rw [hcm]
  (repeat iterate 1 (fail "dl"))
  refine compGo_map (fun _ => .bl true) _ [] _ (rowline (by rw [List.length_map]; simp only [List.length_nil]; omega)) (fun d hd => ?_) ?_
  · obtain ⟨r, hr, rfl⟩ := List.mem_map.mp hd
    refine ⟨[some sc, some (.int n), some (.obj p), some (.obj q), y4, some (.lst (rows.map fun r => D.str (codes r))), x6, x7, x8, x9, x10, some (.str (codes r)), x12, x13], rfl, fun Q' hq' => ?_⟩
    (repeat iterate 1 (fail "dl"))
    exact isiD (b := true) (.inr (.inl rfl)) rfl hq'
  rw [List.nil_append, List.map_map]
  refine allL (bs := rows.map fun _ => true) (bools_all rows).1 ?_
  rw [(bools_all rows).2]
  (repeat iterate 1 (fail "dl"))
  refine lenO hR ?_
  (repeat iterate 1 (fail "dl"))
  rw [List.length_map]
  refine kR1 (by omega) (by omega) ?_
  rw [Int.toNat_natCast]
  refine forGo_inv (fun k env M2 => M2 = M' ∧ ∃ y4 y6 y7 y8, env = [some sc, some (.int n), some (.obj p), some (.obj q), y4, some (.lst (rows.map fun r => D.str (codes r))), y6, y7, y8, x9, x10, x11, x12, x13]) _ 0 _ M' (fun i d env M2 hd ⟨eM, y4, y6, y7, y8, e⟩ => ⟨trivial, _, put_nm, fun nx2 hnx2 => ?_⟩) (fun env M2 ⟨eM, y4, y6, y7, y8, e⟩ => ⟨trivial, ?_⟩) ⟨rfl, _, _, _, _, rfl⟩
  · subst eM; subst e
    obtain ⟨rfl, hi⟩ := rng_at hd
    obtain ⟨r1, hr1⟩ : ∃ r1, rows[i]? = some r1 := ⟨_, List.getElem?_eq_getElem hi⟩
    have hv1 := hrr r1 (List.mem_of_getElem? hr1)
    show mFor _ _ _ ⟨_, _, _, _⟩ [some sc, some (.int n), some (.obj p), some (.obj q), y4, some (.lst (rows.map fun r => D.str (codes r))), some (.int i), y7, y8, x9, x10, x11, x12, x13] M2
    (repeat iterate 1 (fail "dl"))
    refine lenO hR ?_
    (repeat iterate 1 (fail "dl"))
    rw [List.length_map]
    refine kR1 (by omega) (by omega) ?_
    rw [Int.toNat_natCast]
    refine forGo_inv (fun k env M3 => M3 = M2 ∧ ∃ y4 y7 y8, env = [some sc, some (.int n), some (.obj p), some (.obj q), y4, some (.lst (rows.map fun r => D.str (codes r))), some (.int i), y7, y8, x9, x10, x11, x12, x13]) _ 0 _ M2 (fun i2 d env M3 hd ⟨eM, y4, y7, y8, e⟩ => ⟨trivial, _, put_nm, fun nx3 hnx3 => ?_⟩) (fun env M3 ⟨eM, y4, y7, y8, e⟩ => ⟨trivial, ?_⟩) ⟨rfl, _, _, _, rfl⟩
    · subst eM; subst e
      obtain ⟨rfl, hi2⟩ := rng_at hd
      obtain ⟨r2, hr2⟩ : ∃ r2, rows[i2]? = some r2 := ⟨_, List.getElem?_eq_getElem hi2⟩
      have hv2 := hrr r2 (List.mem_of_getElem? hr2)
      show mSeq _ _ ⟨_, _, _, _⟩ [some sc, some (.int n), some (.obj p), some (.obj q), some (.int i2), some (.lst (rows.map fun r => D.str (codes r))), some (.int i), y7, y8, x9, x10, x11, x12, x13] M3
      (repeat iterate 1 (fail "dl"))
      refine ixO hR (at_map D.tup hr1) ?_
      (repeat iterate 1 (fail "dl"))
      refine ⟨r1, rfl, by have := hv1.1; omega, hv1.2, ?_⟩
      (repeat iterate 1 (fail "dl"))
      refine ixO hR (at_map D.tup hr2) ?_
      (repeat iterate 1 (fail "dl"))
      refine ⟨r2, rfl, by have := hv2.1; omega, hv2.2, ?_⟩
      (repeat iterate 1 (fail "dl"))
      refine ixL (at_map (fun r => D.str (codes r)) hr1) ?_
      (repeat iterate 1 (fail "dl"))
      refine ixL (at_map (fun r => D.str (codes r)) hr2) ?_
      (repeat iterate 1 (fail "dl"))
      refine ⟨cmp_rk hv1 hv2, ?_⟩
      (repeat iterate 1 (fail "dl"))
      have ho := ord_rk hv1 hv2
      refine x_df (by rw [ho.1, ranks_tup, ranks_tup]; simp) ?_
      (repeat iterate 1 (fail "dl"))
      refine ixL (at_map (fun r => D.str (codes r)) hr1) ?_
      (repeat iterate 1 (fail "dl"))
      refine ixL (at_map (fun r => D.str (codes r)) hr2) ?_
      (repeat iterate 1 (fail "dl"))
      refine ⟨eqo_rk hv1 hv2, ?_⟩
      (repeat iterate 1 (fail "dl"))
      refine x_df (by rw [ho.2, ranks_tup, ranks_tup]; simp) ?_
      (repeat iterate 1 (fail "dl"))
      exact hnx3 _ _ ⟨rfl, _, _, _, rfl⟩
    · subst eM; subst e
      exact hnx2 _ _ ⟨rfl, _, _, _, _, rfl⟩
  subst eM; subst e
  dsimp only
  (repeat iterate 1 (fail "dl"))
  obtain ⟨rs, hrs, hrl, e1, e2⟩ := sorted_codes hrr
  refine sortKv hR (k := ranks) ⟨fun d hd M3 => ?_, sortOk_rk (by omega) hrr⟩ ?_
  · obtain ⟨r, hr, rfl⟩ := List.mem_map.mp hd
    exact ⟨r, rfl, by have := (hrr r hr).1; omega, (hrr r hr).2, rfl, rfl⟩
  rw [e1]
  (repeat iterate 1 (fail "dl"))
  refine compGo_map codeT _ [] _ (rowline (by rw [List.length_map, hrl]; simp only [List.length_nil]; omega)) (fun d hd => ?_) ?_
  · obtain ⟨r, hr, rfl⟩ := List.mem_map.mp hd
    refine ⟨[some sc, some (.int n), some (.obj p), some (.obj q), y4, some (.lst (rows.map fun r => D.str (codes r))), y6, y7, y8, x9, x10, x11, x12, some (.tup r)], rfl, fun Q' hq' => ?_⟩
    (repeat iterate 1 (fail "dl"))
    exact ⟨r, rfl, by have := (hrs r hr).1; omega, (hrs r hr).2, hq'⟩
  rw [List.nil_append, List.map_map]
  have hcm2 : List.map (codeT ∘ D.tup) rs = rs.map fun r => D.str (codes r) := rfl
  rw [hcm2]
  (repeat iterate 1 (fail "dl"))
  refine ⟨sortOk_codes (by omega) hrr, ?_⟩
  rw [e2]
  refine ⟨?_, ?_⟩
  · have hp := plain_codes hrs
    show ((_ && _) || (plain (D.lst (rs.map fun r => D.str (codes r))) && plain (D.lst (rs.map fun r => D.str (codes r))) && decide (deep (D.lst (rs.map fun r => D.str (codes r))) ≤ 60) && decide (deep (D.lst (rs.map fun r => D.str (codes r))) ≤ 60))) = true
    have h1 : plain (D.lst (rs.map fun r => D.str (codes r))) = true := hp.1
    have h2 : deep (D.lst (rs.map fun r => D.str (codes r))) ≤ 60 := by show deeps _ + 1 ≤ 60; omega
    rw [h1, decide_eq_true h2]; simp
  (repeat iterate 1 (fail "dl"))
  refine x_df (by show (!eqvs _ _) = false; rw [eqvs_refl_codes]; rfl) ?_
  (repeat iterate 1 (fail "dl"))
  obtain ⟨r0, rest, rfl⟩ : ∃ r0 rest, rows = r0 :: rest := by
    cases rows with
    | nil => exact absurd rfl hne
    | cons a b => exact ⟨a, b, rfl⟩
  have h0 := hrr r0 List.mem_cons_self
  have hL := hrr _ (List.getLast_mem hne)
  refine ixO hR (d := .tup r0) atD_zero ?_
  (repeat iterate 1 (fail "dl"))
  refine ixO hR (atD_last (by simp)) ?_
  rw [List.getLast_map]
  refine addT (rowline (by have := h0.1; have := hL.1; omega)) ?_
  have hvals : ∀ d ∈ r0 ++ (r0 :: rest).getLast hne, isVal d := fun d hd => (List.mem_append.mp hd).elim (h0.2 d) (hL.2 d)
  have hvl : (r0 ++ (r0 :: rest).getLast hne).length ≤ 8 := by have := h0.1; have := hL.1; rw [List.length_append]; omega
  have hcd : codes (r0 ++ (r0 :: rest).getLast hne) = codes r0 ++ codes ((r0 :: rest).getLast hne) := codes_app _ _
  have hc0 := codes_len (r := r0) (by have := h0.1; omega) h0.2
  have hcL := codes_len (r := (r0 :: rest).getLast hne) (by have := hL.1; omega) hL.2
  generalize r0 ++ (r0 :: rest).getLast hne = vals at hvals hvl hcd
  (repeat iterate 1 (fail "dl"))
  refine forGo_inv (fun k env M3 => M3 = M2 ∧ ∃ z8 z10 z11 z12, env = [some sc, some (.int n), some (.obj p), some (.obj q), y4, some (.lst ((r0 :: rest).map fun r => D.str (codes r))), y6, y7, z8, some (.tup vals), z10, z11, z12, x13]) _ 0 _ M2 (fun i d env M3 hd ⟨eM, z8, z10, z11, z12, e⟩ => ⟨trivial, _, put_nm, fun nx2 hnx2 => ?_⟩) (fun env M3 ⟨eM, z8, z10, z11, z12, e⟩ => ⟨trivial, ?_⟩) ⟨rfl, _, _, _, _, rfl⟩
  · subst eM; subst e
    have hv := hvals d (List.mem_of_getElem? hd)
    show mFor _ _ _ ⟨_, _, _, _⟩ [some sc, some (.int n), some (.obj p), some (.obj q), y4, some (.lst ((r0 :: rest).map fun r => D.str (codes r))), y6, y7, z8, some (.tup vals), some d, z11, z12, x13] M3
    (repeat iterate 1 (fail "dl"))
    refine forGo_inv (fun k env M4 => M4 = M3 ∧ ∃ z8 z11 z12, env = [some sc, some (.int n), some (.obj p), some (.obj q), y4, some (.lst ((r0 :: rest).map fun r => D.str (codes r))), y6, y7, z8, some (.tup vals), some d, z11, z12, x13]) _ 0 _ M3 (fun i w env M4 hd ⟨eM, z8, z11, z12, e⟩ => ⟨trivial, _, put_nm, fun nx3 hnx3 => ?_⟩) (fun env M4 ⟨eM, z8, z11, z12, e⟩ => ⟨trivial, ?_⟩) ⟨rfl, _, _, _, rfl⟩
    · subst eM; subst e
      have hw := hvals w (List.mem_of_getElem? hd)
      show mSeq _ _ ⟨_, _, _, _⟩ [some sc, some (.int n), some (.obj p), some (.obj q), y4, some (.lst ((r0 :: rest).map fun r => D.str (codes r))), y6, y7, some w, some (.tup vals), some d, z11, z12, x13] M4
      (repeat iterate 1 (fail "dl"))
      refine ⟨hw, ?_⟩
      (repeat iterate 1 (fail "dl"))
      refine ⟨hv, ?_⟩
      (repeat iterate 1 (fail "dl"))
      refine lenS (rowline (by have := code_len hw; omega)) ?_
      (repeat iterate 1 (fail "dl"))
      refine slS (rowline (by have := code_len hv; omega)) ?_
      rw [cut_pre (by omega), Int.toNat_natCast]
      (repeat iterate 1 (fail "dl"))
      refine ⟨hv, ?_⟩
      (repeat iterate 1 (fail "dl"))
      refine ⟨hw, ?_⟩
      refine ⟨?_, ?_⟩
      · have h1 := plain_rank hv
        have h2 := plain_rank hw
        unfold eqOk
        rw [h1.1, h2.1, decide_eq_true (show deep (rank d) ≤ 60 by omega), decide_eq_true (show deep (rank w) ≤ 60 by omega)]; simp
      (repeat iterate 1 (fail "dl"))
      have key : (List.take (code w).length (code d) == code w) = eqv (rank d) (rank w) := by
        rcases code_dif hv hw with ⟨e, h⟩ | ⟨_, h, hd⟩
        · rw [h, e]; simp
        · rw [h]; exact beq_eq_false_iff_ne.mpr hd.take
      refine x_df (by rw [key]; simp) ?_
      (repeat iterate 1 (fail "dl"))
      exact hnx3 _ _ ⟨rfl, _, _, _, rfl⟩
    · subst eM; subst e
      exact hnx2 _ _ ⟨rfl, _, _, _, _, rfl⟩
  subst eM; subst e
  dsimp only
  (repeat iterate 1 (fail "dl"))
  refine ⟨vals, rfl, by omega, hvals, ?_⟩
  (repeat iterate 1 (fail "dl"))
  refine ixL (d := .str (codes r0)) atD_zero ?_
  (repeat iterate 1 (fail "dl"))
  refine ixL (atD_last (by simp)) ?_
  rw [List.getLast_map]
  refine addS (rowline' (by omega)) ?_
  (repeat iterate 1 (fail "dl"))
  refine x_df (by rw [hcd]; simp) ?_
  (repeat iterate 1 (fail "dl"))
  exact hnx _ _ ⟨_, _, _, _, _, _, _, _, _, _, _, _, _, rfl⟩
end Lk23
end
section
set_option Elab.async false
set_option linter.all false
set_option maxRecDepth 100000
set_option maxHeartbeats 0
namespace Lk23
open PySem PySem.Spec PyProof.Rows L2
def top (i : Nat) : Stmt := PySem.Challenge.pw_heldpasts_k23_whole_codes_go_as_values_d.main.body.getD i (.Pass ⟨0, 0, 0, 0⟩)
def d0 : He.DefD := ⟨("is_integer", none), "is_integer", "is_integer", defArgs (top 7), defBody (top 7), defScope (top 7), [], []⟩
def d1 : He.DefD := ⟨("is_text", none), "is_text", "is_text", defArgs (top 8), defBody (top 8), defScope (top 8), [], []⟩
def d2 : He.DefD := ⟨("is_value", none), "is_value", "is_value", defArgs (top 16), defBody (top 16), defScope (top 16), [], []⟩
def d3 : He.DefD := ⟨("text_code", none), "text_code", "text_code", defArgs (top 17), defBody (top 17), defScope (top 17), [], []⟩
def d4 : He.DefD := ⟨("number_code", none), "number_code", "number_code", defArgs (top 18), defBody (top 18), defScope (top 18), [], []⟩
def d5 : He.DefD := ⟨("code_of", none), "code_of", "code_of", defArgs (top 19), defBody (top 19), defScope (top 19), [], []⟩
def d6 : He.DefD := ⟨("value_code", none), "value_code", "value_code", defArgs (top 20), defBody (top 20), defScope (top 20), [], []⟩
def d7 : He.DefD := ⟨("row_code", none), "row_code", "row_code", defArgs (top 21), defBody (top 21), defScope (top 21), [], []⟩
def d8 : He.DefD := ⟨("_law_jar", none), "_law_jar", "_law_jar", defArgs (top 23), defBody (top 23), defScope (top 23), [], []⟩
def d9 : He.DefD := ⟨("_law_drawn", none), "_law_drawn", "_law_drawn", defArgs (top 24), defBody (top 24), defScope (top 24), [], []⟩
def d10 : He.DefD := ⟨("_law_signs", none), "_law_signs", "_law_signs", defArgs (top 25), defBody (top 25), defScope (top 25), [], []⟩
def d11 : He.DefD := ⟨("_law_text", none), "_law_text", "_law_text", defArgs (top 26), defBody (top 26), defScope (top 26), [], []⟩
def d12 : He.DefD := ⟨("_law_number", none), "_law_number", "_law_number", defArgs (top 27), defBody (top 27), defScope (top 27), [], []⟩
def d13 : He.DefD := ⟨("_law_value", none), "_law_value", "_law_value", defArgs (top 28), defBody (top 28), defScope (top 28), [], []⟩
def d14 : He.DefD := ⟨("_law_near_number", none), "_law_near_number", "_law_near_number", defArgs (top 29), defBody (top 29), defScope (top 29), [], []⟩
def d15 : He.DefD := ⟨("_law_near_text", none), "_law_near_text", "_law_near_text", defArgs (top 30), defBody (top 30), defScope (top 30), [], []⟩
def d16 : He.DefD := ⟨("_law_near", none), "_law_near", "_law_near", defArgs (top 31), defBody (top 31), defScope (top 31), [], []⟩
def d17 : He.DefD := ⟨("_law_rank", none), "_law_rank", "_law_rank", defArgs (top 32), defBody (top 32), defScope (top 32), [], []⟩
def d18 : He.DefD := ⟨("_law_ranks", none), "_law_ranks", "_law_ranks", defArgs (top 33), defBody (top 33), defScope (top 33), [], []⟩
def d19 : He.DefD := ⟨("law", none), "law", "law", defArgs (top 34), defBody (top 34), defScope (top 34), [], []⟩
def fn : List He.DefD := [d0, d1, d2, d3, d4, d5, d6, d7, d8, d9, d10, d11, d12, d13, d14, d15, d16, d17, d18, d19]
def fa : List He.Fa := [.free "int", .free "isinstance", .free "bool", .free "str", .str "LEAST_SIGN" " ", .str "GREATEST_SIGN" "~", .free "all", .free "abs", .int "MOST_INTEGER" (999999999999999999999999999999), .free "len", .int "MOST_SIGNS" (200), .str "MARK" "!", .str "END" " ", .str "COUNTS" "ABCDEFGHIJKLMNOPQRSTUVWXYZ[\\]^_", .int "MOST_FIGURES" (30), .free "tuple", .free "max", .free "range", .free "min", .free "sorted", .glo "is_integer", .glo "is_text", .glo "is_value", .glo "text_code", .glo "number_code", .glo "code_of", .glo "value_code", .glo "row_code", .glo "_law_jar", .glo "_law_drawn", .glo "_law_signs", .glo "_law_text", .glo "_law_number", .glo "_law_value", .glo "_law_near_number", .glo "_law_near_text", .glo "_law_near", .glo "_law_rank", .glo "_law_ranks", .glo "law"]
def lo0 : List PySem.Str := ["StoreError", "InvalidRow", "InvalidValue", "LEAST_SIGN", "GREATEST_SIGN", "is_integer", "is_text", "END", "MARK", "MOST_FIGURES", "MOST_INTEGER", "MOST_SIGNS", "COUNTS", "is_value", "text_code", "number_code", "code_of", "value_code", "row_code", "_law_jar", "_law_drawn", "_law_signs", "_law_text", "_law_number", "_law_value", "_law_near_number", "_law_near_text", "_law_near", "_law_rank", "_law_ranks"]
def lo : List PySem.Str := lo0
abbrev R : PySem.W.OpenRow := PySem.W.OpenLaw.row PySem.Challenge.rw_heldpasts_k23_whole_codes_go_as_values_d
abbrev hk : PySem.W.Hook := He.hookD 5 fa fn
def ob (s : PySem.W.SharedT) : He.AlD := He.obsDG 5 fa fn (HandSHeadRun.getT s)
theorem ob_eq (s : PySem.W.SharedT) : ob s = hk.obs s.abs := He.obsDG_eq (HandSHeadRun.getT_eq s)
theorem run (w : World) : HandSHeadRun.RunEq R (PySem.W.view R.prog [34]) hk ob 60000 lo w := by
  intro os
  kernel_rfl
end Lk23
end
section
set_option Elab.async false
set_option linter.all false
set_option maxRecDepth 100000
set_option maxHeartbeats 0
namespace Lk23
open PySem PySem.Spec PyProof.Rows L2 Dl
structure Tx (K : PySem.W.Frag) (mg : Str → Option Value) : Prop where
  ok : ∀ (i : Nat) (f : He.Fa), fa[i]? = some f → f.ok K = true
  at_ : ∃ h : Heap, K.In h ∧ h.Ns mainGlobals mg
section
variable {P : Program} {w : World} {K : PySem.W.Frag} {mg : Str → Option Value} {base : Heap}
theorem Tx.free (T : Tx K mg) (i : Nat) {x : Str} (h : fa[i]? = some (.free x) := by rfl) : mg x = none := let ⟨_, X, G⟩ := T.at_; He.free_ok X G (T.ok i _ h)
theorem Tx.glo (T : Tx K mg) (i : Nat) {x : Str} (h : fa[i]? = some (.glo x) := by rfl) : mg x = some (.ref (He.ga K x)) := let ⟨_, X, G⟩ := T.at_; He.glo_ok X G (T.ok i _ h)
theorem Tx.int (T : Tx K mg) (i : Nat) {x : Str} {j : Int} (h : fa[i]? = some (.int x j) := by rfl) : ∃ t, mg x = some (.int j t) := let ⟨_, X, G⟩ := T.at_; He.int_ok X G (T.ok i _ h)
theorem Tx.str (T : Tx K mg) (i : Nat) {x z : Str} (h : fa[i]? = some (.str x z) := by rfl) : ∃ t, mg x = some (.str z t) := let ⟨_, X, G⟩ := T.at_; He.str_ok X G (T.ok i _ h)
theorem sc_is_integer : FnScope ["value"] ["value"] (defScope (top 7)) := ⟨rfl, rfl, rfl, by decide +kernel, rfl, by decide +kernel, by decide +kernel⟩
theorem ok_is_integer (T : Tx K mg) {f : Addr} {fd : FuncData} (F : FunD K "is_integer" "is_integer" (defArgs (top 7)) (defBody (top 7)) (defScope (top 7)) [] [] f fd) (hm : mg "is_integer" = some (.ref f)) : FnM P w K mg base 1 "is_integer" ["value"] sp_is_integer := by
  refine fnM_mk F hm sc_is_integer (F.bindsN fun _ _ _ _ _ _ us hl => match us, hl with | [_], _ => rfl) (fun _ _ _ _ h => sp1_len h) t_is_integer (fun cdv A outer s H E G W hr tk => ?_) law_is_integer
  have nd := sc_is_integer.nd
  have hu : (Xb P w K mg base ["value"] "is_integer" (defScope (top 7)) f cdv A outer s H E).A.units + 64 < cLine := hr.units
  have hu1 : (Xb P w K mg base ["value"] "is_integer" (defScope (top 7)) f cdv A outer s H E).A.units + 1 < cLine := by omega
  have hp : PassesOwn (model P w) (Xb P w K mg base ["value"] "is_integer" (defScope (top 7)) f cdv A outer s H E).A (Xb P w K mg base ["value"] "is_integer" (defScope (top 7)) f cdv A outer s H E).env (Xb P w K mg base ["value"] "is_integer" (defScope (top 7)) f cdv A outer s H E).xe := passes_of rfl
  exact (mss_one (ms_ret (me_and (me_callB cm_isi (T.free 1) (ma_cons (me_var (pv 0)) (ma_cons (me_bltn (T.free 0)) ma_nil))) (me_one (me_not (me_callB cm_isi (T.free 1) (ma_cons (me_var (pv 0)) (ma_cons (me_bltn (T.free 2)) ma_nil))))))))
theorem sc_is_text : FnScope ["value", "sign"] ["value"] (defScope (top 8)) := ⟨rfl, rfl, rfl, by decide +kernel, rfl, by decide +kernel, by decide +kernel⟩
theorem ok_is_text (T : Tx K mg) {f : Addr} {fd : FuncData} (F : FunD K "is_text" "is_text" (defArgs (top 8)) (defBody (top 8)) (defScope (top 8)) [] [] f fd) (hm : mg "is_text" = some (.ref f)) : FnM P w K mg base 1 "is_text" ["value"] sp_is_text := by
  refine fnM_mk F hm sc_is_text (F.bindsN fun _ _ _ _ _ _ us hl => match us, hl with | [_], _ => rfl) (fun _ _ _ _ h => sp1_len h) t_is_text (fun cdv A outer s H E G W hr tk => ?_) law_is_text
  have nd := sc_is_text.nd
  have hu : (Xb P w K mg base ["value", "sign"] "is_text" (defScope (top 8)) f cdv A outer s H E).A.units + 64 < cLine := hr.units
  have hu1 : (Xb P w K mg base ["value", "sign"] "is_text" (defScope (top 8)) f cdv A outer s H E).A.units + 1 < cLine := by omega
  have hp : PassesOwn (model P w) (Xb P w K mg base ["value", "sign"] "is_text" (defScope (top 8)) f cdv A outer s H E).A (Xb P w K mg base ["value", "sign"] "is_text" (defScope (top 8)) f cdv A outer s H E).env (Xb P w K mg base ["value", "sign"] "is_text" (defScope (top 8)) f cdv A outer s H E).xe := passes_of rfl
  exact (mss_one (ms_ret (me_and (me_callB cm_isi (T.free 1) (ma_cons (me_var (pv 0)) (ma_cons (me_bltn (T.free 3)) ma_nil))) (me_one (me_callB (cm_all rfl) (T.free 6) (ma_cons (me_comp (own := [("sign", 1)]) rfl nd (mi_seq (me_var (pv 0))) ⟨blkOk_by (N := ["value", "sign"]) (sc := (defScope (top 8))) (own := [("sign", 1)]) (by decide +kernel), fun _ _ _ _ _ => (tg_nm (i := 1) nd), fun _ _ _ _ _ => mts_nil, fun _ _ _ _ _ _ => (me_chain (om_le hu) (om_le hu) (me_gstr (T.str 4)) (me_var (pv 1)) (me_gstr (T.str 5))), by decide⟩) ma_nil))))))
theorem sc_is_value : FnScope ["value"] ["value"] (defScope (top 16)) := ⟨rfl, rfl, rfl, by decide +kernel, rfl, by decide +kernel, by decide +kernel⟩
theorem ok_is_value (T : Tx K mg) (F_is_integer : FnM P w K mg base 1 "is_integer" ["value"] sp_is_integer) (F_is_text : FnM P w K mg base 1 "is_text" ["value"] sp_is_text) {f : Addr} {fd : FuncData} (F : FunD K "is_value" "is_value" (defArgs (top 16)) (defBody (top 16)) (defScope (top 16)) [] [] f fd) (hm : mg "is_value" = some (.ref f)) : FnM P w K mg base 2 "is_value" ["value"] sp_is_value := by
  refine fnM_mk F hm sc_is_value (F.bindsN fun _ _ _ _ _ _ us hl => match us, hl with | [_], _ => rfl) (fun _ _ _ _ h => sp1_len h) t_is_value (fun cdv A outer s H E G W hr tk => ?_) law_is_value
  have nd := sc_is_value.nd
  have hu : (Xb P w K mg base ["value"] "is_value" (defScope (top 16)) f cdv A outer s H E).A.units + 64 < cLine := hr.units
  have hu1 : (Xb P w K mg base ["value"] "is_value" (defScope (top 16)) f cdv A outer s H E).A.units + 1 < cLine := by omega
  have hp : PassesOwn (model P w) (Xb P w K mg base ["value"] "is_value" (defScope (top 16)) f cdv A outer s H E).A (Xb P w K mg base ["value"] "is_value" (defScope (top 16)) f cdv A outer s H E).env (Xb P w K mg base ["value"] "is_value" (defScope (top 16)) f cdv A outer s H E).xe := passes_of rfl
  exact (mss_cons (ms_if (mt_w (mw_or (mt_cmp om_isN (me_var (pv 0)) me_non) (mw_or1 (mt_val (me_callB cm_isi (T.free 1) (ma_cons (me_var (pv 0)) (ma_cons (me_bltn (T.free 2)) ma_nil)))))))
     (mss_one (ms_ret me_bl))
     mss_nil)
     (mss_cons (ms_if (mt_val (me_call F_is_integer hr (by decide) tk (ma_cons (me_var (pv 0)) ma_nil)))
     (mss_one (ms_ret (me_cmp (om_le hu) (me_callB cm_abs (T.free 7) (ma_cons (me_var (pv 0)) ma_nil)) (me_gint (T.int 8)))))
     mss_nil)
     (mss_one (ms_ret (me_and (me_call F_is_text hr (by decide) tk (ma_cons (me_var (pv 0)) ma_nil)) (me_one (me_cmp (om_le hu) (me_callB cm_len (T.free 9) (ma_cons (me_var (pv 0)) ma_nil)) (me_gint (T.int 10)))))))))
theorem sc_text_code : FnScope ["text", "told", "sign"] ["text"] (defScope (top 17)) := ⟨rfl, rfl, rfl, by decide +kernel, rfl, by decide +kernel, by decide +kernel⟩
theorem ok_text_code (T : Tx K mg) {f : Addr} {fd : FuncData} (F : FunD K "text_code" "text_code" (defArgs (top 17)) (defBody (top 17)) (defScope (top 17)) [] [] f fd) (hm : mg "text_code" = some (.ref f)) : FnM P w K mg base 1 "text_code" ["text"] sp_text_code := by
  refine fnM_mkF F hm sc_text_code (F.bindsN fun _ _ _ _ _ _ us hl => match us, hl with | [_], _ => rfl) (fun _ _ _ _ h => sp1_len h) t_text_code (fun cdv A outer s H E G W hr tk => ?_) law_text_code
  have nd := sc_text_code.nd
  have hu : (Xb P w K mg base ["text", "told", "sign"] "text_code" (defScope (top 17)) f cdv A outer s H E).A.units + 64 < cLine := hr.units
  have hu1 : (Xb P w K mg base ["text", "told", "sign"] "text_code" (defScope (top 17)) f cdv A outer s H E).A.units + 1 < cLine := by omega
  have hp : PassesOwn (model P w) (Xb P w K mg base ["text", "told", "sign"] "text_code" (defScope (top 17)) f cdv A outer s H E).A (Xb P w K mg base ["text", "told", "sign"] "text_code" (defScope (top 17)) f cdv A outer s H E).env (Xb P w K mg base ["text", "told", "sign"] "text_code" (defScope (top 17)) f cdv A outer s H E).xe := passes_of rfl
  exact (mss_cons (ms_set (i := 1) nd (me_disp (.cons (fun _ => (me_gstr (T.str 12))) (fun _ => (me_op om_add (me_gstr (T.str 11)) (me_str (by decide +kernel)))) (.cons (fun _ => (me_gstr (T.str 11))) (fun _ => (me_op om_add (me_gstr (T.str 11)) (me_str (by decide +kernel)))) .nil))))
     (mss_one (ms_ret (me_op om_add (me_join (me_str (by decide +kernel)) (ma_cons (me_comp (own := [("sign", 2)]) rfl nd (mi_seq (me_var (pv 0))) ⟨blkOk_by (N := ["text", "told", "sign"]) (sc := (defScope (top 17))) (own := [("sign", 2)]) (by decide +kernel), fun _ _ _ _ _ => (tg_nm (i := 2) nd), fun _ _ _ _ _ => mts_nil, fun _ _ _ _ _ _ => (me_get2 hu1 (me_var (pv 1)) (me_var (pv 2)) (me_var (pv 2))), by decide⟩) ma_nil)) (me_gstr (T.str 12))))))
theorem sc_number_code : FnScope ["number", "digits", "digit"] ["number"] (defScope (top 18)) := ⟨rfl, rfl, rfl, by decide +kernel, rfl, by decide +kernel, by decide +kernel⟩
theorem ok_number_code (T : Tx K mg) {f : Addr} {fd : FuncData} (F : FunD K "number_code" "number_code" (defArgs (top 18)) (defBody (top 18)) (defScope (top 18)) [] [] f fd) (hm : mg "number_code" = some (.ref f)) : FnM P w K mg base 1 "number_code" ["number"] sp_number_code := by
  refine fnM_mk F hm sc_number_code (F.bindsN fun _ _ _ _ _ _ us hl => match us, hl with | [_], _ => rfl) (fun _ _ _ _ h => sp1_len h) t_number_code (fun cdv A outer s H E G W hr tk => ?_) law_number_code
  have nd := sc_number_code.nd
  have hu : (Xb P w K mg base ["number", "digits", "digit"] "number_code" (defScope (top 18)) f cdv A outer s H E).A.units + 64 < cLine := hr.units
  have hu1 : (Xb P w K mg base ["number", "digits", "digit"] "number_code" (defScope (top 18)) f cdv A outer s H E).A.units + 1 < cLine := by omega
  have hp : PassesOwn (model P w) (Xb P w K mg base ["number", "digits", "digit"] "number_code" (defScope (top 18)) f cdv A outer s H E).A (Xb P w K mg base ["number", "digits", "digit"] "number_code" (defScope (top 18)) f cdv A outer s H E).env (Xb P w K mg base ["number", "digits", "digit"] "number_code" (defScope (top 18)) f cdv A outer s H E).xe := passes_of rfl
  exact (mss_cons (ms_if (mt_cmp (om_eq hu) (me_var (pv 0)) me_int)
     (mss_one (ms_ret (me_str (by decide +kernel))))
     mss_nil)
     (mss_cons (ms_set (i := 1) nd (me_callTy cm_str (T.free 3) (ma_cons (me_callB cm_abs (T.free 7) (ma_cons (me_var (pv 0)) ma_nil)) ma_nil)))
     (mss_cons (ms_if (mt_cmp (om_gt hu) (me_var (pv 0)) me_int)
     (mss_one (ms_ret (me_op om_add (me_op om_add (me_str (by decide +kernel)) (me_ix (me_gstr (T.str 13)) (me_op om_sub (me_callB cm_len (T.free 9) (ma_cons (me_var (pv 1)) ma_nil)) me_int))) (me_var (pv 1)))))
     mss_nil)
     (mss_one (ms_ret (me_op om_add (me_op om_add (me_str (by decide +kernel)) (me_ix (me_gstr (T.str 13)) (me_op om_sub (me_op om_add (me_gint (T.int 14)) me_int) (me_callB cm_len (T.free 9) (ma_cons (me_var (pv 1)) ma_nil))))) (me_join (me_str (by decide +kernel)) (ma_cons (me_comp (own := [("digit", 2)]) rfl nd (mi_seq (me_var (pv 1))) ⟨blkOk_by (N := ["number", "digits", "digit"]) (sc := (defScope (top 18))) (own := [("digit", 2)]) (by decide +kernel), fun _ _ _ _ _ => (tg_nm (i := 2) nd), fun _ _ _ _ _ => mts_nil, fun _ _ _ _ _ _ => (me_callTy cm_str (T.free 3) (ma_cons (me_op om_sub me_int (me_callTy cm_int (T.free 0) (ma_cons (me_var (pv 2)) ma_nil))) ma_nil)), by decide⟩) ma_nil))))))))
theorem sc_code_of : FnScope ["value"] ["value"] (defScope (top 19)) := ⟨rfl, rfl, rfl, by decide +kernel, rfl, by decide +kernel, by decide +kernel⟩
theorem ok_code_of (T : Tx K mg) (F_text_code : FnM P w K mg base 1 "text_code" ["text"] sp_text_code) (F_number_code : FnM P w K mg base 1 "number_code" ["number"] sp_number_code) {f : Addr} {fd : FuncData} (F : FunD K "code_of" "code_of" (defArgs (top 19)) (defBody (top 19)) (defScope (top 19)) [] [] f fd) (hm : mg "code_of" = some (.ref f)) : FnM P w K mg base 2 "code_of" ["value"] sp_code_of := by
  refine fnM_mk F hm sc_code_of (F.bindsN fun _ _ _ _ _ _ us hl => match us, hl with | [_], _ => rfl) (fun _ _ _ _ h => sp1_len h) t_code_of (fun cdv A outer s H E G W hr tk => ?_) law_code_of
  have nd := sc_code_of.nd
  have hu : (Xb P w K mg base ["value"] "code_of" (defScope (top 19)) f cdv A outer s H E).A.units + 64 < cLine := hr.units
  have hu1 : (Xb P w K mg base ["value"] "code_of" (defScope (top 19)) f cdv A outer s H E).A.units + 1 < cLine := by omega
  have hp : PassesOwn (model P w) (Xb P w K mg base ["value"] "code_of" (defScope (top 19)) f cdv A outer s H E).A (Xb P w K mg base ["value"] "code_of" (defScope (top 19)) f cdv A outer s H E).env (Xb P w K mg base ["value"] "code_of" (defScope (top 19)) f cdv A outer s H E).xe := passes_of rfl
  exact (mss_cons (ms_if (mt_w (mw_or (mt_cmp om_isN (me_var (pv 0)) me_non) (mw_or (mt_cmp om_isB (me_var (pv 0)) me_bl) (mw_or1 (mt_cmp om_isB (me_var (pv 0)) me_bl)))))
     (mss_one (ms_ret (me_if (mt_cmp om_isN (me_var (pv 0)) me_non) (me_str (by decide +kernel)) (me_callTy cm_str (T.free 3) (ma_cons (me_op om_add me_int (me_callTy cm_int (T.free 0) (ma_cons (me_var (pv 0)) ma_nil))) ma_nil)))))
     mss_nil)
     (mss_one (ms_ret (me_if (mt_val (me_callB cm_isi (T.free 1) (ma_cons (me_var (pv 0)) (ma_cons (me_bltn (T.free 3)) ma_nil)))) (me_op om_add (me_str (by decide +kernel)) (me_call F_text_code hr (by decide) tk (ma_cons (me_var (pv 0)) ma_nil))) (me_call F_number_code hr (by decide) tk (ma_cons (me_var (pv 0)) ma_nil))))))
theorem sc_value_code : FnScope ["value"] ["value"] (defScope (top 20)) := ⟨rfl, rfl, rfl, by decide +kernel, rfl, by decide +kernel, by decide +kernel⟩
theorem ok_value_code (T : Tx K mg) (F_is_value : FnM P w K mg base 2 "is_value" ["value"] sp_is_value) (F_code_of : FnM P w K mg base 2 "code_of" ["value"] sp_code_of) {f : Addr} {fd : FuncData} (F : FunD K "value_code" "value_code" (defArgs (top 20)) (defBody (top 20)) (defScope (top 20)) [] [] f fd) (hm : mg "value_code" = some (.ref f)) : FnM P w K mg base 3 "value_code" ["value"] sp_value_code := by
  refine fnM_mk F hm sc_value_code (F.bindsN fun _ _ _ _ _ _ us hl => match us, hl with | [_], _ => rfl) (fun _ _ _ _ h => sp1_len h) t_value_code (fun cdv A outer s H E G W hr tk => ?_) law_value_code
  have nd := sc_value_code.nd
  have hu : (Xb P w K mg base ["value"] "value_code" (defScope (top 20)) f cdv A outer s H E).A.units + 64 < cLine := hr.units
  have hu1 : (Xb P w K mg base ["value"] "value_code" (defScope (top 20)) f cdv A outer s H E).A.units + 1 < cLine := by omega
  have hp : PassesOwn (model P w) (Xb P w K mg base ["value"] "value_code" (defScope (top 20)) f cdv A outer s H E).A (Xb P w K mg base ["value"] "value_code" (defScope (top 20)) f cdv A outer s H E).env (Xb P w K mg base ["value"] "value_code" (defScope (top 20)) f cdv A outer s H E).xe := passes_of rfl
  exact (mss_cons (ms_if (mt_not (mt_val (me_call F_is_value hr (by decide) tk (ma_cons (me_var (pv 0)) ma_nil))))
     (mss_one ms_never)
     mss_nil)
     (mss_one (ms_ret (me_call F_code_of hr (by decide) tk (ma_cons (me_var (pv 0)) ma_nil)))))
theorem sc_row_code : FnScope ["values", "value"] ["values"] (defScope (top 21)) := ⟨rfl, rfl, rfl, by decide +kernel, rfl, by decide +kernel, by decide +kernel⟩
theorem ok_row_code (T : Tx K mg) (F_is_value : FnM P w K mg base 2 "is_value" ["value"] sp_is_value) (F_code_of : FnM P w K mg base 2 "code_of" ["value"] sp_code_of) {f : Addr} {fd : FuncData} (F : FunD K "row_code" "row_code" (defArgs (top 21)) (defBody (top 21)) (defScope (top 21)) [] [] f fd) (hm : mg "row_code" = some (.ref f)) : FnM P w K mg base 3 "row_code" ["values"] sp_row_code := by
  refine fnM_mk F hm sc_row_code (F.bindsN fun _ _ _ _ _ _ us hl => match us, hl with | [_], _ => rfl) (fun _ _ _ _ h => sp1_len h) t_row_code (fun cdv A outer s H E G W hr tk => ?_) law_row_code
  have nd := sc_row_code.nd
  have hu : (Xb P w K mg base ["values", "value"] "row_code" (defScope (top 21)) f cdv A outer s H E).A.units + 64 < cLine := hr.units
  have hu1 : (Xb P w K mg base ["values", "value"] "row_code" (defScope (top 21)) f cdv A outer s H E).A.units + 1 < cLine := by omega
  have hp : PassesOwn (model P w) (Xb P w K mg base ["values", "value"] "row_code" (defScope (top 21)) f cdv A outer s H E).A (Xb P w K mg base ["values", "value"] "row_code" (defScope (top 21)) f cdv A outer s H E).env (Xb P w K mg base ["values", "value"] "row_code" (defScope (top 21)) f cdv A outer s H E).xe := passes_of rfl
  exact (mss_cons (ms_if (mt_w (mw_or (mt_not (mt_val (me_callB cm_isi (T.free 1) (ma_cons (me_var (pv 0)) (ma_cons (me_bltn (T.free 15)) ma_nil))))) (mw_or1 (mt_not (mt_val (me_callB (cm_all rfl) (T.free 6) (ma_cons (me_comp (own := [("value", 1)]) rfl nd (mi_seq (me_var (pv 0))) ⟨blkOk_by (N := ["values", "value"]) (sc := (defScope (top 21))) (own := [("value", 1)]) (by decide +kernel), fun _ _ _ _ _ => (tg_nm (i := 1) nd), fun _ _ _ _ _ => mts_nil, fun _ _ _ _ _ _ => (me_call F_is_value hr (by decide) tkN (ma_cons (me_var (pv 1)) ma_nil)), by decide⟩) ma_nil)))))))
     (mss_one ms_never)
     mss_nil)
     (mss_one (ms_ret (me_join (me_str (by decide +kernel)) (ma_cons (me_comp (own := [("value", 1)]) rfl nd (mi_seq (me_var (pv 0))) ⟨blkOk_by (N := ["values", "value"]) (sc := (defScope (top 21))) (own := [("value", 1)]) (by decide +kernel), fun _ _ _ _ _ => (tg_nm (i := 1) nd), fun _ _ _ _ _ => mts_nil, fun _ _ _ _ _ _ => (me_call F_code_of hr (by decide) tkN (ma_cons (me_var (pv 1)) ma_nil)), by decide⟩) ma_nil)))))
theorem sc__law_jar : FnScope ["_law_cell"] ["_law_cell"] (defScope (top 23)) := ⟨rfl, rfl, rfl, by decide +kernel, rfl, by decide +kernel, by decide +kernel⟩
theorem ok__law_jar (T : Tx K mg) {f : Addr} {fd : FuncData} (F : FunD K "_law_jar" "_law_jar" (defArgs (top 23)) (defBody (top 23)) (defScope (top 23)) [] [] f fd) (hm : mg "_law_jar" = some (.ref f)) : FnM P w K mg base 1 "_law_jar" ["_law_cell"] sp__law_jar := by
  refine fnM_mk F hm sc__law_jar (F.bindsN fun _ _ _ _ _ _ us hl => match us, hl with | [_], _ => rfl) (fun _ _ _ _ h => sp1_len h) t__law_jar (fun cdv A outer s H E G W hr tk => ?_) law__law_jar
  have nd := sc__law_jar.nd
  have hu : (Xb P w K mg base ["_law_cell"] "_law_jar" (defScope (top 23)) f cdv A outer s H E).A.units + 64 < cLine := hr.units
  have hu1 : (Xb P w K mg base ["_law_cell"] "_law_jar" (defScope (top 23)) f cdv A outer s H E).A.units + 1 < cLine := by omega
  have hp : PassesOwn (model P w) (Xb P w K mg base ["_law_cell"] "_law_jar" (defScope (top 23)) f cdv A outer s H E).A (Xb P w K mg base ["_law_cell"] "_law_jar" (defScope (top 23)) f cdv A outer s H E).env (Xb P w K mg base ["_law_cell"] "_law_jar" (defScope (top 23)) f cdv A outer s H E).xe := passes_of rfl
  exact (mss_cons (ms_set (i := 0) nd (me_op om_mod (me_callTy cm_int (T.free 0) (ma_cons (me_var (pv 0)) ma_nil)) (me_op om_mul (me_op om_mul (me_op om_pow me_int me_int) (me_op om_pow me_int me_int)) (me_op om_pow me_int me_int))))
     (mss_one (ms_ret (me_lstO (ma_cons (me_callB (cm_max2 rfl) (T.free 16) (ma_cons me_int (ma_cons (me_op om_sub (me_var (pv 0)) (me_op om_pow me_int me_int)) ma_nil))) (ma_cons (me_op om_add (me_op om_mod (me_var (pv 0)) me_int) me_int) ma_nil))))))
theorem sc__law_drawn : FnScope ["_law_jar_here", "_law_many", "_law_digit"] ["_law_jar_here", "_law_many"] (defScope (top 24)) := ⟨rfl, rfl, rfl, by decide +kernel, rfl, by decide +kernel, by decide +kernel⟩
theorem ok__law_drawn (T : Tx K mg) {f : Addr} {fd : FuncData} (F : FunD K "_law_drawn" "_law_drawn" (defArgs (top 24)) (defBody (top 24)) (defScope (top 24)) [] [] f fd) (hm : mg "_law_drawn" = some (.ref f)) : FnM P w K mg base 1 "_law_drawn" ["_law_jar_here", "_law_many"] sp__law_drawn := by
  refine fnM_mk F hm sc__law_drawn (F.bindsN fun _ _ _ _ _ _ us hl => match us, hl with | [_, _], _ => rfl) (fun _ _ _ _ h => sp2_len h) t__law_drawn (fun cdv A outer s H E G W hr tk => ?_) law__law_drawn
  have nd := sc__law_drawn.nd
  have hu : (Xb P w K mg base ["_law_jar_here", "_law_many", "_law_digit"] "_law_drawn" (defScope (top 24)) f cdv A outer s H E).A.units + 64 < cLine := hr.units
  have hu1 : (Xb P w K mg base ["_law_jar_here", "_law_many", "_law_digit"] "_law_drawn" (defScope (top 24)) f cdv A outer s H E).A.units + 1 < cLine := by omega
  have hp : PassesOwn (model P w) (Xb P w K mg base ["_law_jar_here", "_law_many", "_law_digit"] "_law_drawn" (defScope (top 24)) f cdv A outer s H E).A (Xb P w K mg base ["_law_jar_here", "_law_many", "_law_digit"] "_law_drawn" (defScope (top 24)) f cdv A outer s H E).env (Xb P w K mg base ["_law_jar_here", "_law_many", "_law_digit"] "_law_drawn" (defScope (top 24)) f cdv A outer s H E).xe := passes_of rfl
  exact (mss_cons (ms_if (mt_cmp (om_gt hu) (me_ix (me_var (pv 0)) me_int) me_int)
     (mss_cons (ms_set (i := 2) nd (me_op om_mod (me_callTy cm_int (T.free 0) (ma_cons (me_ix (me_var (pv 0)) me_int) ma_nil)) (me_var (pv 1))))
     (mss_cons (ms_asg (me_op om_fdiv (me_ix (me_var (pv 0)) me_int) (me_var (pv 1))) (mg_sub (me_var (pv 0)) me_int sm_ix))
     (mss_one (ms_ret (me_var (pv 2))))))
     mss_nil)
     (mss_cons (ms_asg (me_op om_mod (me_callTy cm_int (T.free 0) (ma_cons (me_op om_add (me_op om_mul (me_ix (me_var (pv 0)) me_int) me_int) me_int) ma_nil)) me_int) (mg_sub (me_var (pv 0)) me_int sm_ix))
     (mss_one (ms_ret (me_op om_mod (me_op om_fdiv (me_op om_mod (me_callTy cm_int (T.free 0) (ma_cons (me_op om_mul (me_ix (me_var (pv 0)) me_int) (me_ix (me_var (pv 0)) me_int)) ma_nil)) me_int) me_int) (me_var (pv 1)))))))
theorem sc__law_signs : FnScope ["_law_signs_here"] [] (defScope (top 25)) := ⟨rfl, rfl, rfl, by decide +kernel, rfl, by decide +kernel, by decide +kernel⟩
theorem ok__law_signs (T : Tx K mg) {f : Addr} {fd : FuncData} (F : FunD K "_law_signs" "_law_signs" (defArgs (top 25)) (defBody (top 25)) (defScope (top 25)) [] [] f fd) (hm : mg "_law_signs" = some (.ref f)) : FnM P w K mg base 1 "_law_signs" [] sp__law_signs := by
  refine fnM_mk F hm sc__law_signs (F.bindsN fun _ _ _ _ _ _ us hl => match us, hl with | [], _ => rfl) (fun _ _ _ _ h => sp0_len h) t__law_signs (fun cdv A outer s H E G W hr tk => ?_) law__law_signs
  have nd := sc__law_signs.nd
  have hu : (Xb P w K mg base ["_law_signs_here"] "_law_signs" (defScope (top 25)) f cdv A outer s H E).A.units + 64 < cLine := hr.units
  have hu1 : (Xb P w K mg base ["_law_signs_here"] "_law_signs" (defScope (top 25)) f cdv A outer s H E).A.units + 1 < cLine := by omega
  have hp : PassesOwn (model P w) (Xb P w K mg base ["_law_signs_here"] "_law_signs" (defScope (top 25)) f cdv A outer s H E).A (Xb P w K mg base ["_law_signs_here"] "_law_signs" (defScope (top 25)) f cdv A outer s H E).env (Xb P w K mg base ["_law_signs_here"] "_law_signs" (defScope (top 25)) f cdv A outer s H E).xe := passes_of rfl
  exact (mss_cons (ms_set (i := 0) nd (me_str (by decide +kernel)))
     (mss_one (ms_ret (me_op om_add (me_var (pv 0)) (me_str (by decide +kernel))))))
theorem sc__law_text : FnScope ["_law_jar_here", "_law_signs_here", "_law_low", "_law_kind", "_law_size", "_law_one", "_law_other", "_law_at", "_law_k"] ["_law_jar_here"] (defScope (top 26)) := ⟨rfl, rfl, rfl, by decide +kernel, rfl, by decide +kernel, by decide +kernel⟩
theorem ok__law_text (T : Tx K mg) (F__law_drawn : FnM P w K mg base 1 "_law_drawn" ["_law_jar_here", "_law_many"] sp__law_drawn) (F__law_signs : FnM P w K mg base 1 "_law_signs" [] sp__law_signs) {f : Addr} {fd : FuncData} (F : FunD K "_law_text" "_law_text" (defArgs (top 26)) (defBody (top 26)) (defScope (top 26)) [] [] f fd) (hm : mg "_law_text" = some (.ref f)) : FnM P w K mg base 2 "_law_text" ["_law_jar_here"] sp__law_text := by
  refine fnM_mk F hm sc__law_text (F.bindsN fun _ _ _ _ _ _ us hl => match us, hl with | [_], _ => rfl) (fun _ _ _ _ h => sp1_len h) t__law_text (fun cdv A outer s H E G W hr tk => ?_) law__law_text
  have nd := sc__law_text.nd
  have hu : (Xb P w K mg base ["_law_jar_here", "_law_signs_here", "_law_low", "_law_kind", "_law_size", "_law_one", "_law_other", "_law_at", "_law_k"] "_law_text" (defScope (top 26)) f cdv A outer s H E).A.units + 64 < cLine := hr.units
  have hu1 : (Xb P w K mg base ["_law_jar_here", "_law_signs_here", "_law_low", "_law_kind", "_law_size", "_law_one", "_law_other", "_law_at", "_law_k"] "_law_text" (defScope (top 26)) f cdv A outer s H E).A.units + 1 < cLine := by omega
  have hp : PassesOwn (model P w) (Xb P w K mg base ["_law_jar_here", "_law_signs_here", "_law_low", "_law_kind", "_law_size", "_law_one", "_law_other", "_law_at", "_law_k"] "_law_text" (defScope (top 26)) f cdv A outer s H E).A (Xb P w K mg base ["_law_jar_here", "_law_signs_here", "_law_low", "_law_kind", "_law_size", "_law_one", "_law_other", "_law_at", "_law_k"] "_law_text" (defScope (top 26)) f cdv A outer s H E).env (Xb P w K mg base ["_law_jar_here", "_law_signs_here", "_law_low", "_law_kind", "_law_size", "_law_one", "_law_other", "_law_at", "_law_k"] "_law_text" (defScope (top 26)) f cdv A outer s H E).xe := passes_of rfl
  exact (mss_cons (ms_asg (me_tup (ma_cons (me_call0 F__law_signs hr (by decide)) (ma_cons (me_str (by decide +kernel)) (ma_cons (me_call F__law_drawn hr (by decide) tk (ma_cons (me_var (pv 0)) (ma_cons me_int ma_nil))) ma_nil)))) (mg_tup rfl (mgs_cons (mg_name (pg_name (i := 1) nd rfl (by first | exact .inl rfl | exact .inr rfl))) (mgs_cons (mg_name (pg_name (i := 2) nd rfl (by first | exact .inl rfl | exact .inr rfl))) (mgs_cons (mg_name (pg_name (i := 3) nd rfl (by first | exact .inl rfl | exact .inr rfl))) mgs_nil)))))
     (mss_cons (ms_if (mt_cmp (om_eq hu) (me_var (pv 3)) me_int)
     (mss_cons (ms_set (i := 4) nd (me_op om_sub me_int (me_call F__law_drawn hr (by decide) tk (ma_cons (me_var (pv 0)) (ma_cons me_int ma_nil)))))
     (mss_cons (ms_par3 (i := 5) (j := 6) (l := 7) rfl nd (by decide) (by decide) (by decide) (ma_cons (me_ix (me_var (pv 1)) (me_call F__law_drawn hr (by decide) tk (ma_cons (me_var (pv 0)) (ma_cons me_int ma_nil)))) (ma_cons (me_ix (me_var (pv 2)) (me_call F__law_drawn hr (by decide) tk (ma_cons (me_var (pv 0)) (ma_cons me_int ma_nil)))) (ma_cons (me_call F__law_drawn hr (by decide) tk (ma_cons (me_var (pv 0)) (ma_cons (me_var (pv 4)) ma_nil))) ma_nil))))
     (mss_one (ms_ret (me_op om_add (me_op om_add (me_op om_mul (me_var (pv 5)) (me_var (pv 7))) (me_var (pv 6))) (me_op om_mul (me_var (pv 5)) (me_op om_sub (me_op om_sub (me_var (pv 4)) (me_var (pv 7))) me_int)))))))
     mss_nil)
     (mss_cons (ms_if (mt_cmp (om_lt hu) (me_var (pv 3)) me_int)
     (mss_one (ms_ret (me_join (me_str (by decide +kernel)) (ma_cons (me_comp (own := [("_law_k", 8)]) rfl nd (mi_range1 (T.free 17) (ma_cons (me_call F__law_drawn hr (by decide) tk (ma_cons (me_var (pv 0)) (ma_cons me_int ma_nil))) ma_nil)) ⟨blkOk_by (N := ["_law_jar_here", "_law_signs_here", "_law_low", "_law_kind", "_law_size", "_law_one", "_law_other", "_law_at", "_law_k"]) (sc := (defScope (top 26))) (own := [("_law_k", 8)]) (by decide +kernel), fun _ _ _ _ _ => (tg_nm (i := 8) nd), fun _ _ _ _ _ => mts_nil, fun _ _ _ _ _ _ => (me_ix (me_var (pv 2)) (me_call F__law_drawn hr (by decide) tkN (ma_cons (me_var (pv 0)) (ma_cons me_int ma_nil)))), by decide⟩) ma_nil))))
     mss_nil)
     (mss_one (ms_ret (me_join (me_str (by decide +kernel)) (ma_cons (me_comp (own := [("_law_k", 8)]) rfl nd (mi_range1 (T.free 17) (ma_cons (me_call F__law_drawn hr (by decide) tk (ma_cons (me_var (pv 0)) (ma_cons me_int ma_nil))) ma_nil)) ⟨blkOk_by (N := ["_law_jar_here", "_law_signs_here", "_law_low", "_law_kind", "_law_size", "_law_one", "_law_other", "_law_at", "_law_k"]) (sc := (defScope (top 26))) (own := [("_law_k", 8)]) (by decide +kernel), fun _ _ _ _ _ => (tg_nm (i := 8) nd), fun _ _ _ _ _ => mts_nil, fun _ _ _ _ _ _ => (me_ix (me_var (pv 1)) (me_call F__law_drawn hr (by decide) tkN (ma_cons (me_var (pv 0)) (ma_cons me_int ma_nil)))), by decide⟩) ma_nil)))))))
theorem sc__law_number : FnScope ["_law_jar_here", "_law_kind", "_law_many", "_law_below", "_law_power", "_law_k", "_law_found"] ["_law_jar_here"] (defScope (top 27)) := ⟨rfl, rfl, rfl, by decide +kernel, rfl, by decide +kernel, by decide +kernel⟩
theorem ok__law_number (T : Tx K mg) (F__law_drawn : FnM P w K mg base 1 "_law_drawn" ["_law_jar_here", "_law_many"] sp__law_drawn) {f : Addr} {fd : FuncData} (F : FunD K "_law_number" "_law_number" (defArgs (top 27)) (defBody (top 27)) (defScope (top 27)) [] [] f fd) (hm : mg "_law_number" = some (.ref f)) : FnM P w K mg base 2 "_law_number" ["_law_jar_here"] sp__law_number := by
  refine fnM_mk F hm sc__law_number (F.bindsN fun _ _ _ _ _ _ us hl => match us, hl with | [_], _ => rfl) (fun _ _ _ _ h => sp1_len h) t__law_number (fun cdv A outer s H E G W hr tk => ?_) law__law_number
  have nd := sc__law_number.nd
  have hu : (Xb P w K mg base ["_law_jar_here", "_law_kind", "_law_many", "_law_below", "_law_power", "_law_k", "_law_found"] "_law_number" (defScope (top 27)) f cdv A outer s H E).A.units + 64 < cLine := hr.units
  have hu1 : (Xb P w K mg base ["_law_jar_here", "_law_kind", "_law_many", "_law_below", "_law_power", "_law_k", "_law_found"] "_law_number" (defScope (top 27)) f cdv A outer s H E).A.units + 1 < cLine := by omega
  have hp : PassesOwn (model P w) (Xb P w K mg base ["_law_jar_here", "_law_kind", "_law_many", "_law_below", "_law_power", "_law_k", "_law_found"] "_law_number" (defScope (top 27)) f cdv A outer s H E).A (Xb P w K mg base ["_law_jar_here", "_law_kind", "_law_many", "_law_below", "_law_power", "_law_k", "_law_found"] "_law_number" (defScope (top 27)) f cdv A outer s H E).env (Xb P w K mg base ["_law_jar_here", "_law_kind", "_law_many", "_law_below", "_law_power", "_law_k", "_law_found"] "_law_number" (defScope (top 27)) f cdv A outer s H E).xe := passes_of rfl
  exact (mss_cons (ms_par3 (i := 1) (j := 2) (l := 3) rfl nd (by decide) (by decide) (by decide) (ma_cons (me_call F__law_drawn hr (by decide) tk (ma_cons (me_var (pv 0)) (ma_cons me_int ma_nil))) (ma_cons (me_op om_add me_int (me_call F__law_drawn hr (by decide) tk (ma_cons (me_var (pv 0)) (ma_cons me_int ma_nil)))) (ma_cons (me_call F__law_drawn hr (by decide) tk (ma_cons (me_var (pv 0)) (ma_cons me_int ma_nil))) ma_nil))))
     (mss_cons (ms_set (i := 4) nd me_int)
     (mss_cons (ms_for hp rfl (mi_range1 (T.free 17) (ma_cons (me_op om_sub (me_var (pv 2)) me_int) ma_nil)) (tg_nm (i := 5) nd)
     (mss_one (ms_set (i := 4) nd (me_op om_mul (me_var (pv 4)) me_int))))
     (mss_cons (ms_if (mt_cmp (om_lt hu) (me_var (pv 1)) me_int)
     (mss_one (ms_set (i := 6) nd (me_call F__law_drawn hr (by decide) tk (ma_cons (me_var (pv 0)) (ma_cons me_int ma_nil)))))
     (mss_one (ms_if (mt_cmp (om_lt hu) (me_var (pv 1)) me_int)
     (mss_one (ms_set (i := 6) nd (me_ix (me_lst (ma_cons (me_var (pv 4)) (ma_cons (me_op om_sub (me_op om_mul (me_var (pv 4)) me_int) me_int) ma_nil))) (me_op om_mod (me_callTy cm_int (T.free 0) (ma_cons (me_var (pv 1)) ma_nil)) me_int))))
     (mss_cons (ms_set (i := 6) nd (me_op om_add me_int (me_call F__law_drawn hr (by decide) tk (ma_cons (me_var (pv 0)) (ma_cons me_int ma_nil)))))
     (mss_one (ms_for hp rfl (mi_range1 (T.free 17) (ma_cons (me_op om_sub (me_var (pv 2)) me_int) ma_nil)) (tg_nm (i := 5) nd)
     (mss_one (ms_set (i := 6) nd (me_op om_add (me_op om_mul (me_var (pv 6)) me_int) (me_call F__law_drawn hr (by decide) tk (ma_cons (me_var (pv 0)) (ma_cons me_int ma_nil))))))))))))
     (mss_one (ms_ret (me_if (mt_cmp (om_eq hu) (me_var (pv 3)) me_int) (me_var (pv 6)) (me_op om_sub me_int (me_var (pv 6))))))))))
theorem sc__law_value : FnScope ["_law_jar_here", "_law_kind"] ["_law_jar_here"] (defScope (top 28)) := ⟨rfl, rfl, rfl, by decide +kernel, rfl, by decide +kernel, by decide +kernel⟩
theorem ok__law_value (T : Tx K mg) (F__law_drawn : FnM P w K mg base 1 "_law_drawn" ["_law_jar_here", "_law_many"] sp__law_drawn) (F__law_number : FnM P w K mg base 2 "_law_number" ["_law_jar_here"] sp__law_number) (F__law_text : FnM P w K mg base 2 "_law_text" ["_law_jar_here"] sp__law_text) {f : Addr} {fd : FuncData} (F : FunD K "_law_value" "_law_value" (defArgs (top 28)) (defBody (top 28)) (defScope (top 28)) [] [] f fd) (hm : mg "_law_value" = some (.ref f)) : FnM P w K mg base 3 "_law_value" ["_law_jar_here"] sp__law_value := by
  refine fnM_mk F hm sc__law_value (F.bindsN fun _ _ _ _ _ _ us hl => match us, hl with | [_], _ => rfl) (fun _ _ _ _ h => sp1_len h) t__law_value (fun cdv A outer s H E G W hr tk => ?_) law__law_value
  have nd := sc__law_value.nd
  have hu : (Xb P w K mg base ["_law_jar_here", "_law_kind"] "_law_value" (defScope (top 28)) f cdv A outer s H E).A.units + 64 < cLine := hr.units
  have hu1 : (Xb P w K mg base ["_law_jar_here", "_law_kind"] "_law_value" (defScope (top 28)) f cdv A outer s H E).A.units + 1 < cLine := by omega
  have hp : PassesOwn (model P w) (Xb P w K mg base ["_law_jar_here", "_law_kind"] "_law_value" (defScope (top 28)) f cdv A outer s H E).A (Xb P w K mg base ["_law_jar_here", "_law_kind"] "_law_value" (defScope (top 28)) f cdv A outer s H E).env (Xb P w K mg base ["_law_jar_here", "_law_kind"] "_law_value" (defScope (top 28)) f cdv A outer s H E).xe := passes_of rfl
  exact (mss_cons (ms_set (i := 1) nd (me_call F__law_drawn hr (by decide) tk (ma_cons (me_var (pv 0)) (ma_cons me_int ma_nil))))
     (mss_cons (ms_if (mt_cmp (om_lt hu) (me_var (pv 1)) me_int)
     (mss_one (ms_ret (me_ix (me_lst (ma_cons me_non (ma_cons me_bl (ma_cons me_bl ma_nil)))) (me_var (pv 1)))))
     mss_nil)
     (mss_one (ms_ret (me_if (mt_cmp (om_lt hu) (me_var (pv 1)) me_int) (me_call F__law_number hr (by decide) tk (ma_cons (me_var (pv 0)) ma_nil)) (me_call F__law_text hr (by decide) tk (ma_cons (me_var (pv 0)) ma_nil)))))))
theorem sc__law_near_number : FnScope ["_law_jar_here", "_law_value_here", "_law_kind", "_law_digit", "_law_found"] ["_law_jar_here", "_law_value_here"] (defScope (top 29)) := ⟨rfl, rfl, rfl, by decide +kernel, rfl, by decide +kernel, by decide +kernel⟩
theorem ok__law_near_number (T : Tx K mg) (F__law_drawn : FnM P w K mg base 1 "_law_drawn" ["_law_jar_here", "_law_many"] sp__law_drawn) {f : Addr} {fd : FuncData} (F : FunD K "_law_near_number" "_law_near_number" (defArgs (top 29)) (defBody (top 29)) (defScope (top 29)) [] [] f fd) (hm : mg "_law_near_number" = some (.ref f)) : FnM P w K mg base 2 "_law_near_number" ["_law_jar_here", "_law_value_here"] sp__law_near_number := by
  refine fnM_mk F hm sc__law_near_number (F.bindsN fun _ _ _ _ _ _ us hl => match us, hl with | [_, _], _ => rfl) (fun _ _ _ _ h => sp2_len h) t__law_near_number (fun cdv A outer s H E G W hr tk => ?_) law__law_near_number
  have nd := sc__law_near_number.nd
  have hu : (Xb P w K mg base ["_law_jar_here", "_law_value_here", "_law_kind", "_law_digit", "_law_found"] "_law_near_number" (defScope (top 29)) f cdv A outer s H E).A.units + 64 < cLine := hr.units
  have hu1 : (Xb P w K mg base ["_law_jar_here", "_law_value_here", "_law_kind", "_law_digit", "_law_found"] "_law_near_number" (defScope (top 29)) f cdv A outer s H E).A.units + 1 < cLine := by omega
  have hp : PassesOwn (model P w) (Xb P w K mg base ["_law_jar_here", "_law_value_here", "_law_kind", "_law_digit", "_law_found"] "_law_near_number" (defScope (top 29)) f cdv A outer s H E).A (Xb P w K mg base ["_law_jar_here", "_law_value_here", "_law_kind", "_law_digit", "_law_found"] "_law_near_number" (defScope (top 29)) f cdv A outer s H E).env (Xb P w K mg base ["_law_jar_here", "_law_value_here", "_law_kind", "_law_digit", "_law_found"] "_law_near_number" (defScope (top 29)) f cdv A outer s H E).xe := passes_of rfl
  exact (mss_cons (ms_par (i := 2) (j := 3) rfl nd (by decide) (ma_cons (me_call F__law_drawn hr (by decide) tk (ma_cons (me_var (pv 0)) (ma_cons me_int ma_nil))) (ma_cons (me_call F__law_drawn hr (by decide) tk (ma_cons (me_var (pv 0)) (ma_cons me_int ma_nil))) ma_nil)))
     (mss_cons (ms_set (i := 4) nd (me_ix (me_lst (ma_cons (me_op om_add (me_var (pv 1)) me_int) (ma_cons (me_op om_sub (me_var (pv 1)) me_int) (ma_cons (me_op om_sub me_int (me_var (pv 1))) (ma_cons (me_op om_add (me_op om_mul (me_var (pv 1)) me_int) (me_var (pv 3))) (ma_cons (me_op om_fdiv (me_var (pv 1)) me_int) (ma_cons (me_op om_add (me_var (pv 1)) (me_op om_pow me_int me_int)) (ma_cons (me_op om_mul (me_var (pv 1)) me_int) ma_nil)))))))) (me_var (pv 2))))
     (mss_one (ms_ret (me_if (mt_cmp (om_lt hu) (me_callB cm_abs (T.free 7) (ma_cons (me_var (pv 4)) ma_nil)) (me_op om_pow me_int me_int)) (me_var (pv 4)) (me_op om_fdiv (me_var (pv 1)) me_int))))))
theorem sc__law_near_text : FnScope ["_law_jar_here", "_law_value_here", "_law_signs_here", "_law_kind", "_law_at", "_law_sign", "_law_place"] ["_law_jar_here", "_law_value_here"] (defScope (top 30)) := ⟨rfl, rfl, rfl, by decide +kernel, rfl, by decide +kernel, by decide +kernel⟩
theorem ok__law_near_text (T : Tx K mg) (F__law_drawn : FnM P w K mg base 1 "_law_drawn" ["_law_jar_here", "_law_many"] sp__law_drawn) (F__law_signs : FnM P w K mg base 1 "_law_signs" [] sp__law_signs) {f : Addr} {fd : FuncData} (F : FunD K "_law_near_text" "_law_near_text" (defArgs (top 30)) (defBody (top 30)) (defScope (top 30)) [] [] f fd) (hm : mg "_law_near_text" = some (.ref f)) : FnM P w K mg base 2 "_law_near_text" ["_law_jar_here", "_law_value_here"] sp__law_near_text := by
  refine fnM_mk F hm sc__law_near_text (F.bindsN fun _ _ _ _ _ _ us hl => match us, hl with | [_, _], _ => rfl) (fun _ _ _ _ h => sp2_len h) t__law_near_text (fun cdv A outer s H E G W hr tk => ?_) law__law_near_text
  have nd := sc__law_near_text.nd
  have hu : (Xb P w K mg base ["_law_jar_here", "_law_value_here", "_law_signs_here", "_law_kind", "_law_at", "_law_sign", "_law_place"] "_law_near_text" (defScope (top 30)) f cdv A outer s H E).A.units + 64 < cLine := hr.units
  have hu1 : (Xb P w K mg base ["_law_jar_here", "_law_value_here", "_law_signs_here", "_law_kind", "_law_at", "_law_sign", "_law_place"] "_law_near_text" (defScope (top 30)) f cdv A outer s H E).A.units + 1 < cLine := by omega
  have hp : PassesOwn (model P w) (Xb P w K mg base ["_law_jar_here", "_law_value_here", "_law_signs_here", "_law_kind", "_law_at", "_law_sign", "_law_place"] "_law_near_text" (defScope (top 30)) f cdv A outer s H E).A (Xb P w K mg base ["_law_jar_here", "_law_value_here", "_law_signs_here", "_law_kind", "_law_at", "_law_sign", "_law_place"] "_law_near_text" (defScope (top 30)) f cdv A outer s H E).env (Xb P w K mg base ["_law_jar_here", "_law_value_here", "_law_signs_here", "_law_kind", "_law_at", "_law_sign", "_law_place"] "_law_near_text" (defScope (top 30)) f cdv A outer s H E).xe := passes_of rfl
  exact (mss_cons (ms_par3 (i := 2) (j := 3) (l := 4) rfl nd (by decide) (by decide) (by decide) (ma_cons (me_call0 F__law_signs hr (by decide)) (ma_cons (me_call F__law_drawn hr (by decide) tk (ma_cons (me_var (pv 0)) (ma_cons me_int ma_nil))) (ma_cons (me_call F__law_drawn hr (by decide) tk (ma_cons (me_var (pv 0)) (ma_cons (me_op om_add (me_callB cm_len (T.free 9) (ma_cons (me_var (pv 1)) ma_nil)) me_int) ma_nil))) ma_nil))))
     (mss_cons (ms_set (i := 5) nd (me_ix (me_lst (ma_cons (me_ix (me_var (pv 2)) (me_call F__law_drawn hr (by decide) tk (ma_cons (me_var (pv 0)) (ma_cons me_int ma_nil)))) (ma_cons (me_str (by decide +kernel)) (ma_cons (me_str (by decide +kernel)) (ma_cons (me_str (by decide +kernel)) ma_nil))))) (me_call F__law_drawn hr (by decide) tk (ma_cons (me_var (pv 0)) (ma_cons me_int ma_nil)))))
     (mss_cons (ms_if (mt_cmp (om_eq hu) (me_var (pv 3)) me_int)
     (mss_one (ms_ret (me_sl (me_op om_add (me_var (pv 1)) (me_var (pv 5))) mo_none (mo_some me_int))))
     mss_nil)
     (mss_cons (ms_if (mt_cmp (om_eq hu) (me_var (pv 3)) me_int)
     (mss_one (ms_ret (me_sl (me_var (pv 1)) mo_none (mo_some (me_un um_neg me_int)))))
     mss_nil)
     (mss_cons (ms_if (mt_cmp (om_eq hu) (me_var (pv 3)) me_int)
     (mss_one (ms_ret (me_sl (me_op om_add (me_op om_add (me_sl (me_var (pv 1)) mo_none (mo_some (me_var (pv 4)))) (me_var (pv 5))) (me_sl (me_var (pv 1)) (mo_some (me_var (pv 4))) mo_none)) mo_none (mo_some me_int))))
     mss_nil)
     (mss_cons (ms_if (mt_cmp (om_eq hu) (me_var (pv 3)) me_int)
     (mss_one (ms_ret (me_op om_add (me_sl (me_var (pv 1)) mo_none (mo_some (me_var (pv 4)))) (me_sl (me_var (pv 1)) (mo_some (me_op om_add (me_var (pv 4)) me_int)) mo_none))))
     mss_nil)
     (mss_cons (ms_if (mt_cmp (om_lt hu) (me_var (pv 4)) (me_callB cm_len (T.free 9) (ma_cons (me_var (pv 1)) ma_nil)))
     (mss_cons (ms_set (i := 6) nd (me_find (me_var (pv 2)) (ma_cons (me_ix (me_var (pv 1)) (me_var (pv 4))) ma_nil)))
     (mss_one (ms_ret (me_op om_add (me_op om_add (me_sl (me_var (pv 1)) mo_none (mo_some (me_var (pv 4)))) (me_ix (me_var (pv 2)) (me_callB (cm_max2 rfl) (T.free 16) (ma_cons me_int (ma_cons (me_callB (cm_min2 rfl) (T.free 18) (ma_cons me_int (ma_cons (me_op om_add (me_var (pv 6)) (me_ix (me_lst (ma_cons me_int (ma_cons (me_un um_neg me_int) ma_nil))) (me_op om_mod (me_callTy cm_int (T.free 0) (ma_cons (me_var (pv 3)) ma_nil)) me_int))) ma_nil))) ma_nil))))) (me_sl (me_var (pv 1)) (mo_some (me_op om_add (me_var (pv 4)) me_int)) mo_none)))))
     mss_nil)
     (mss_one (ms_ret (me_var (pv 1)))))))))))
theorem sc__law_near : FnScope ["_law_jar_here", "_law_row", "_law_kind", "_law_at", "_law_value_here", "_law_found", "_law_k"] ["_law_jar_here", "_law_row"] (defScope (top 31)) := ⟨rfl, rfl, rfl, by decide +kernel, rfl, by decide +kernel, by decide +kernel⟩
theorem ok__law_near (T : Tx K mg) (F__law_drawn : FnM P w K mg base 1 "_law_drawn" ["_law_jar_here", "_law_many"] sp__law_drawn) (F__law_value : FnM P w K mg base 3 "_law_value" ["_law_jar_here"] sp__law_value) (F__law_near_number : FnM P w K mg base 2 "_law_near_number" ["_law_jar_here", "_law_value_here"] sp__law_near_number) (F__law_near_text : FnM P w K mg base 2 "_law_near_text" ["_law_jar_here", "_law_value_here"] sp__law_near_text) {f : Addr} {fd : FuncData} (F : FunD K "_law_near" "_law_near" (defArgs (top 31)) (defBody (top 31)) (defScope (top 31)) [] [] f fd) (hm : mg "_law_near" = some (.ref f)) : FnM P w K mg base 4 "_law_near" ["_law_jar_here", "_law_row"] sp__law_near := by
  refine fnM_mk F hm sc__law_near (F.bindsN fun _ _ _ _ _ _ us hl => match us, hl with | [_, _], _ => rfl) (fun _ _ _ _ h => sp2_len h) t__law_near (fun cdv A outer s H E G W hr tk => ?_) law__law_near
  have nd := sc__law_near.nd
  have hu : (Xb P w K mg base ["_law_jar_here", "_law_row", "_law_kind", "_law_at", "_law_value_here", "_law_found", "_law_k"] "_law_near" (defScope (top 31)) f cdv A outer s H E).A.units + 64 < cLine := hr.units
  have hu1 : (Xb P w K mg base ["_law_jar_here", "_law_row", "_law_kind", "_law_at", "_law_value_here", "_law_found", "_law_k"] "_law_near" (defScope (top 31)) f cdv A outer s H E).A.units + 1 < cLine := by omega
  have hp : PassesOwn (model P w) (Xb P w K mg base ["_law_jar_here", "_law_row", "_law_kind", "_law_at", "_law_value_here", "_law_found", "_law_k"] "_law_near" (defScope (top 31)) f cdv A outer s H E).A (Xb P w K mg base ["_law_jar_here", "_law_row", "_law_kind", "_law_at", "_law_value_here", "_law_found", "_law_k"] "_law_near" (defScope (top 31)) f cdv A outer s H E).env (Xb P w K mg base ["_law_jar_here", "_law_row", "_law_kind", "_law_at", "_law_value_here", "_law_found", "_law_k"] "_law_near" (defScope (top 31)) f cdv A outer s H E).xe := passes_of rfl
  exact (mss_cons (ms_par (i := 2) (j := 3) rfl nd (by decide) (ma_cons (me_call F__law_drawn hr (by decide) tk (ma_cons (me_var (pv 0)) (ma_cons me_int ma_nil))) (ma_cons (me_call F__law_drawn hr (by decide) tk (ma_cons (me_var (pv 0)) (ma_cons (me_op om_add (me_callB cm_len (T.free 9) (ma_cons (me_var (pv 1)) ma_nil)) me_int) ma_nil))) ma_nil)))
     (mss_cons (ms_if (mt_w (mw_and (mt_cmp (om_eq hu) (me_var (pv 2)) me_int) (mw_and1 (mt_cmp (om_lt hu) (me_callB cm_len (T.free 9) (ma_cons (me_var (pv 1)) ma_nil)) me_int))))
     (mss_one (ms_ret (me_op om_add (me_var (pv 1)) (me_tup (ma_cons (me_call F__law_value hr (by decide) tk (ma_cons (me_var (pv 0)) ma_nil)) ma_nil)))))
     mss_nil)
     (mss_cons (ms_if (mt_cmp (om_eq hu) (me_var (pv 2)) me_int)
     (mss_one (ms_ret (me_sl (me_var (pv 1)) mo_none (mo_some (me_un um_neg me_int)))))
     mss_nil)
     (mss_cons (ms_if (mt_w (mw_or (mt_cmp (om_eq hu) (me_var (pv 3)) (me_callB cm_len (T.free 9) (ma_cons (me_var (pv 1)) ma_nil))) (mw_or1 (mt_cmp (om_eq hu) (me_var (pv 2)) me_int))))
     (mss_one (ms_ret (me_callTy cm_tuple (T.free 15) (ma_cons (me_comp (own := [("_law_k", 6)]) rfl nd (mi_range1 (T.free 17) (ma_cons (me_call F__law_drawn hr (by decide) tk (ma_cons (me_var (pv 0)) (ma_cons me_int ma_nil))) ma_nil)) ⟨blkOk_by (N := ["_law_jar_here", "_law_row", "_law_kind", "_law_at", "_law_value_here", "_law_found", "_law_k"]) (sc := (defScope (top 31))) (own := [("_law_k", 6)]) (by decide +kernel), fun _ _ _ _ _ => (tg_nm (i := 6) nd), fun _ _ _ _ _ => mts_nil, fun _ _ _ _ _ _ => (me_call F__law_value hr (by decide) tkN (ma_cons (me_var (pv 0)) ma_nil)), by decide⟩) ma_nil))))
     mss_nil)
     (mss_cons (ms_set (i := 4) nd (me_ix (me_var (pv 1)) (me_var (pv 3))))
     (mss_cons (ms_if (mt_w (mw_or (mt_cmp om_isN (me_var (pv 4)) me_non) (mw_or (mt_cmp om_isB (me_var (pv 4)) me_bl) (mw_or (mt_cmp om_isB (me_var (pv 4)) me_bl) (mw_or1 (mt_cmp (om_eq hu) (me_var (pv 2)) me_int))))))
     (mss_one (ms_set (i := 5) nd (me_call F__law_value hr (by decide) tk (ma_cons (me_var (pv 0)) ma_nil))))
     (mss_one (ms_if (mt_val (me_callB cm_isi (T.free 1) (ma_cons (me_var (pv 4)) (ma_cons (me_bltn (T.free 0)) ma_nil))))
     (mss_one (ms_set (i := 5) nd (me_call F__law_near_number hr (by decide) tk (ma_cons (me_var (pv 0)) (ma_cons (me_var (pv 4)) ma_nil)))))
     (mss_one (ms_set (i := 5) nd (me_call F__law_near_text hr (by decide) tk (ma_cons (me_var (pv 0)) (ma_cons (me_var (pv 4)) ma_nil))))))))
     (mss_one (ms_ret (me_op om_add (me_op om_add (me_sl (me_var (pv 1)) mo_none (mo_some (me_var (pv 3)))) (me_tup (ma_cons (me_var (pv 5)) ma_nil))) (me_sl (me_var (pv 1)) (mo_some (me_op om_add (me_var (pv 3)) me_int)) mo_none))))))))))
theorem sc__law_rank : FnScope ["_law_value_here"] ["_law_value_here"] (defScope (top 32)) := ⟨rfl, rfl, rfl, by decide +kernel, rfl, by decide +kernel, by decide +kernel⟩
theorem ok__law_rank (T : Tx K mg) {f : Addr} {fd : FuncData} (F : FunD K "_law_rank" "_law_rank" (defArgs (top 32)) (defBody (top 32)) (defScope (top 32)) [] [] f fd) (hm : mg "_law_rank" = some (.ref f)) : FnM P w K mg base 1 "_law_rank" ["_law_value_here"] sp__law_rank := by
  refine fnM_mk F hm sc__law_rank (F.bindsN fun _ _ _ _ _ _ us hl => match us, hl with | [_], _ => rfl) (fun _ _ _ _ h => sp1_len h) t__law_rank (fun cdv A outer s H E G W hr tk => ?_) law__law_rank
  have nd := sc__law_rank.nd
  have hu : (Xb P w K mg base ["_law_value_here"] "_law_rank" (defScope (top 32)) f cdv A outer s H E).A.units + 64 < cLine := hr.units
  have hu1 : (Xb P w K mg base ["_law_value_here"] "_law_rank" (defScope (top 32)) f cdv A outer s H E).A.units + 1 < cLine := by omega
  have hp : PassesOwn (model P w) (Xb P w K mg base ["_law_value_here"] "_law_rank" (defScope (top 32)) f cdv A outer s H E).A (Xb P w K mg base ["_law_value_here"] "_law_rank" (defScope (top 32)) f cdv A outer s H E).env (Xb P w K mg base ["_law_value_here"] "_law_rank" (defScope (top 32)) f cdv A outer s H E).xe := passes_of rfl
  exact (mss_cons (ms_if (mt_w (mw_or (mt_cmp om_isN (me_var (pv 0)) me_non) (mw_or (mt_cmp om_isB (me_var (pv 0)) me_bl) (mw_or1 (mt_cmp om_isB (me_var (pv 0)) me_bl)))))
     (mss_one (ms_ret (me_if (mt_cmp om_isN (me_var (pv 0)) me_non) (me_lst (ma_cons me_int (ma_cons me_int (ma_cons (me_str (by decide +kernel)) ma_nil)))) (me_lst (ma_cons (me_op om_add me_int (me_callTy cm_int (T.free 0) (ma_cons (me_var (pv 0)) ma_nil))) (ma_cons me_int (ma_cons (me_str (by decide +kernel)) ma_nil)))))))
     mss_nil)
     (mss_one (ms_ret (me_if (mt_val (me_callB cm_isi (T.free 1) (ma_cons (me_var (pv 0)) (ma_cons (me_bltn (T.free 3)) ma_nil)))) (me_lst (ma_cons me_int (ma_cons me_int (ma_cons (me_var (pv 0)) ma_nil)))) (me_lst (ma_cons me_int (ma_cons (me_var (pv 0)) (ma_cons (me_str (by decide +kernel)) ma_nil))))))))
theorem sc__law_ranks : FnScope ["_law_row", "_law_value_here"] ["_law_row"] (defScope (top 33)) := ⟨rfl, rfl, rfl, by decide +kernel, rfl, by decide +kernel, by decide +kernel⟩
theorem ok__law_ranks (T : Tx K mg) (F__law_rank : FnM P w K mg base 1 "_law_rank" ["_law_value_here"] sp__law_rank) {f : Addr} {fd : FuncData} (F : FunD K "_law_ranks" "_law_ranks" (defArgs (top 33)) (defBody (top 33)) (defScope (top 33)) [] [] f fd) (hm : mg "_law_ranks" = some (.ref f)) : FnM P w K mg base 2 "_law_ranks" ["_law_row"] sp__law_ranks := by
  refine fnM_mk F hm sc__law_ranks (F.bindsN fun _ _ _ _ _ _ us hl => match us, hl with | [_], _ => rfl) (fun _ _ _ _ h => sp1_len h) t__law_ranks (fun cdv A outer s H E G W hr tk => ?_) law__law_ranks
  have nd := sc__law_ranks.nd
  have hu : (Xb P w K mg base ["_law_row", "_law_value_here"] "_law_ranks" (defScope (top 33)) f cdv A outer s H E).A.units + 64 < cLine := hr.units
  have hu1 : (Xb P w K mg base ["_law_row", "_law_value_here"] "_law_ranks" (defScope (top 33)) f cdv A outer s H E).A.units + 1 < cLine := by omega
  have hp : PassesOwn (model P w) (Xb P w K mg base ["_law_row", "_law_value_here"] "_law_ranks" (defScope (top 33)) f cdv A outer s H E).A (Xb P w K mg base ["_law_row", "_law_value_here"] "_law_ranks" (defScope (top 33)) f cdv A outer s H E).env (Xb P w K mg base ["_law_row", "_law_value_here"] "_law_ranks" (defScope (top 33)) f cdv A outer s H E).xe := passes_of rfl
  exact (mss_one (ms_ret (me_comp (own := [("_law_value_here", 1)]) rfl nd (mi_seq (me_var (pv 0))) ⟨blkOk_by (N := ["_law_row", "_law_value_here"]) (sc := (defScope (top 33))) (own := [("_law_value_here", 1)]) (by decide +kernel), fun _ _ _ _ _ => (tg_nm (i := 1) nd), fun _ _ _ _ _ => mts_nil, fun _ _ _ _ _ _ => (me_call F__law_rank hr (by decide) tkN (ma_cons (me_var (pv 1)) ma_nil)), by decide⟩)))
theorem sc_law : FnScope ["_law_script", "_law_cell", "_law_jar_here", "_law_rows", "_law_k", "_law_codes", "_law_j", "_law_one", "_law_other", "_law_values", "_law_value_here", "_law_code", "_law_begun", "_law_row"] ["_law_script"] (defScope (top 34)) := ⟨rfl, rfl, rfl, by decide +kernel, rfl, by decide +kernel, by decide +kernel⟩
theorem ok_law (T : Tx K mg) (F__law_jar : FnM P w K mg base 1 "_law_jar" ["_law_cell"] sp__law_jar) (F__law_drawn : FnM P w K mg base 1 "_law_drawn" ["_law_jar_here", "_law_many"] sp__law_drawn) (F__law_value : FnM P w K mg base 3 "_law_value" ["_law_jar_here"] sp__law_value) (F__law_near : FnM P w K mg base 4 "_law_near" ["_law_jar_here", "_law_row"] sp__law_near) (F_row_code : FnM P w K mg base 3 "row_code" ["values"] sp_row_code) (F__law_ranks : FnM P w K mg base 2 "_law_ranks" ["_law_row"] sp__law_ranks) (F_value_code : FnM P w K mg base 3 "value_code" ["value"] sp_value_code) (F__law_rank : FnM P w K mg base 1 "_law_rank" ["_law_value_here"] sp__law_rank) {f : Addr} {fd : FuncData} (F : FunD K "law" "law" (defArgs (top 34)) (defBody (top 34)) (defScope (top 34)) [] [] f fd) (hm : mg "law" = some (.ref f)) : FnOk P w K mg base (L2.CX P w) 5 f fd ["_law_script"] (liftSp K spLaw) := by
  refine fnOk_mk F sc_law (fun _ _ _ _ h => spLaw_len h) t_law (fun cdv A outer s H E G W hr tk => ?_) law_law
  have nd := sc_law.nd
  have hu : (Xb P w K mg base ["_law_script", "_law_cell", "_law_jar_here", "_law_rows", "_law_k", "_law_codes", "_law_j", "_law_one", "_law_other", "_law_values", "_law_value_here", "_law_code", "_law_begun", "_law_row"] "law" (defScope (top 34)) f cdv A outer s H E).A.units + 64 < cLine := hr.units
  have hu1 : (Xb P w K mg base ["_law_script", "_law_cell", "_law_jar_here", "_law_rows", "_law_k", "_law_codes", "_law_j", "_law_one", "_law_other", "_law_values", "_law_value_here", "_law_code", "_law_begun", "_law_row"] "law" (defScope (top 34)) f cdv A outer s H E).A.units + 1 < cLine := by omega
  have hp : PassesOwn (model P w) (Xb P w K mg base ["_law_script", "_law_cell", "_law_jar_here", "_law_rows", "_law_k", "_law_codes", "_law_j", "_law_one", "_law_other", "_law_values", "_law_value_here", "_law_code", "_law_begun", "_law_row"] "law" (defScope (top 34)) f cdv A outer s H E).A (Xb P w K mg base ["_law_script", "_law_cell", "_law_jar_here", "_law_rows", "_law_k", "_law_codes", "_law_j", "_law_one", "_law_other", "_law_values", "_law_value_here", "_law_code", "_law_begun", "_law_row"] "law" (defScope (top 34)) f cdv A outer s H E).env (Xb P w K mg base ["_law_script", "_law_cell", "_law_jar_here", "_law_rows", "_law_k", "_law_codes", "_law_j", "_law_one", "_law_other", "_law_values", "_law_value_here", "_law_code", "_law_begun", "_law_row"] "law" (defScope (top 34)) f cdv A outer s H E).xe := passes_of rfl
  exact (mss_cons (ms_for hp rfl (mi_seq (me_op om_add (me_lst (ma_cons me_int ma_nil)) (me_sl (me_var (pv 0)) mo_none (mo_some me_int)))) (tg_nm (i := 1) nd)
     (mss_cons (ms_set (i := 2) nd (me_call F__law_jar hr (by decide) tk (ma_cons (me_var (pv 1)) ma_nil)))
     (mss_cons (ms_set (i := 3) nd (me_lstO (ma_cons (me_callTy cm_tuple (T.free 15) (ma_cons (me_comp (own := [("_law_k", 4)]) rfl nd (mi_range1 (T.free 17) (ma_cons (me_call F__law_drawn hr (by decide) tk (ma_cons (me_var (pv 2)) (ma_cons me_int ma_nil))) ma_nil)) ⟨blkOk_by (N := ["_law_script", "_law_cell", "_law_jar_here", "_law_rows", "_law_k", "_law_codes", "_law_j", "_law_one", "_law_other", "_law_values", "_law_value_here", "_law_code", "_law_begun", "_law_row"]) (sc := (defScope (top 34))) (own := [("_law_k", 4)]) (by decide +kernel), fun _ _ _ _ _ => (tg_nm (i := 4) nd), fun _ _ _ _ _ => mts_nil, fun _ _ _ _ _ _ => (me_call F__law_value hr (by decide) tkN (ma_cons (me_var (pv 2)) ma_nil)), by decide⟩) ma_nil)) ma_nil)))
     (mss_cons (ms_for hp rfl (mi_range1 (T.free 17) (ma_cons (me_op om_add me_int (me_call F__law_drawn hr (by decide) tk (ma_cons (me_var (pv 2)) (ma_cons me_int ma_nil)))) ma_nil)) (tg_nm (i := 4) nd)
     (mss_one (ms_expr (me_append (me_var (pv 3)) (ma_cons (me_call F__law_near hr (by decide) tk (ma_cons (me_var (pv 2)) (ma_cons (me_ix (me_var (pv 3)) (me_un um_neg me_int)) ma_nil))) ma_nil)))))
     (mss_cons (ms_setComp (own := [("_law_row", 13)]) (i := 5) rfl nd (sw_true rfl rfl rfl (by decide +kernel)) (mi_seq (me_var (pv 3))) ⟨blkOk_by (N := ["_law_script", "_law_cell", "_law_jar_here", "_law_rows", "_law_k", "_law_codes", "_law_j", "_law_one", "_law_other", "_law_values", "_law_value_here", "_law_code", "_law_begun", "_law_row"]) (sc := (defScope (top 34))) (own := [("_law_row", 13)]) (by decide +kernel), fun _ _ _ _ _ => (tg_nm (i := 13) nd), fun _ _ _ _ _ => mts_nil, fun _ _ _ _ _ _ => (me_call F_row_code hr (by decide) tkN (ma_cons (me_var (pv 13)) ma_nil)), by decide⟩)
     (mss_cons (ms_if (mt_not (mt_val (me_callB (cm_all rfl) (T.free 6) (ma_cons (me_comp (own := [("_law_code", 11)]) rfl nd (mi_seq (me_var (pv 5))) ⟨blkOk_by (N := ["_law_script", "_law_cell", "_law_jar_here", "_law_rows", "_law_k", "_law_codes", "_law_j", "_law_one", "_law_other", "_law_values", "_law_value_here", "_law_code", "_law_begun", "_law_row"]) (sc := (defScope (top 34))) (own := [("_law_code", 11)]) (by decide +kernel), fun _ _ _ _ _ => (tg_nm (i := 11) nd), fun _ _ _ _ _ => mts_nil, fun _ _ _ _ _ _ => (me_callB cm_isi (T.free 1) (ma_cons (me_var (pv 11)) (ma_cons (me_bltn (T.free 3)) ma_nil))), by decide⟩) ma_nil))))
     (mss_one (ms_ret me_bl))
     mss_nil)
     (mss_cons (ms_for hp rfl (mi_range1 (T.free 17) (ma_cons (me_callB cm_len (T.free 9) (ma_cons (me_var (pv 3)) ma_nil)) ma_nil)) (tg_nm (i := 6) nd)
     (mss_one (ms_for hp rfl (mi_range1 (T.free 17) (ma_cons (me_callB cm_len (T.free 9) (ma_cons (me_var (pv 3)) ma_nil)) ma_nil)) (tg_nm (i := 4) nd)
     (mss_cons (ms_par (i := 7) (j := 8) rfl nd (by decide) (ma_cons (me_call F__law_ranks hr (by decide) tk (ma_cons (me_ix (me_var (pv 3)) (me_var (pv 6))) ma_nil)) (ma_cons (me_call F__law_ranks hr (by decide) tk (ma_cons (me_ix (me_var (pv 3)) (me_var (pv 4))) ma_nil)) ma_nil)))
     (mss_one (ms_if (mt_w (mw_or (mt_cmp (om_ne hu) (me_cmp (om_lt hu) (me_ix (me_var (pv 5)) (me_var (pv 6))) (me_ix (me_var (pv 5)) (me_var (pv 4)))) (me_cmp (om_lt hu) (me_var (pv 7)) (me_var (pv 8)))) (mw_or1 (mt_cmp (om_ne hu) (me_cmp (om_eq hu) (me_ix (me_var (pv 5)) (me_var (pv 6))) (me_ix (me_var (pv 5)) (me_var (pv 4)))) (me_cmp (om_eq hu) (me_var (pv 7)) (me_var (pv 8)))))))
     (mss_one (ms_ret me_bl))
     mss_nil))))))
     (mss_cons (ms_if (mt_cmp (om_ne hu) (me_comp (own := [("_law_row", 13)]) rfl nd (mi_seq (me_sortK hu F__law_ranks hr (by decide) (T.free 19) (me_var (pv 3)))) ⟨blkOk_by (N := ["_law_script", "_law_cell", "_law_jar_here", "_law_rows", "_law_k", "_law_codes", "_law_j", "_law_one", "_law_other", "_law_values", "_law_value_here", "_law_code", "_law_begun", "_law_row"]) (sc := (defScope (top 34))) (own := [("_law_row", 13)]) (by decide +kernel), fun _ _ _ _ _ => (tg_nm (i := 13) nd), fun _ _ _ _ _ => mts_nil, fun _ _ _ _ _ _ => (me_call F_row_code hr (by decide) tkN (ma_cons (me_var (pv 13)) ma_nil)), by decide⟩) (me_callB (cm_sorted hu) (T.free 19) (ma_cons (me_var (pv 5)) ma_nil)))
     (mss_one (ms_ret me_bl))
     mss_nil)
     (mss_cons (ms_set (i := 9) nd (me_op om_add (me_ix (me_var (pv 3)) me_int) (me_ix (me_var (pv 3)) (me_un um_neg me_int))))
     (mss_cons (ms_for hp rfl (mi_seq (me_var (pv 9))) (tg_nm (i := 10) nd)
     (mss_one (ms_for hp rfl (mi_seq (me_var (pv 9))) (tg_nm (i := 8) nd)
     (mss_cons (ms_par (i := 11) (j := 12) rfl nd (by decide) (ma_cons (me_call F_value_code hr (by decide) tk (ma_cons (me_var (pv 8)) ma_nil)) (ma_cons (me_call F_value_code hr (by decide) tk (ma_cons (me_var (pv 10)) ma_nil)) ma_nil)))
     (mss_one (ms_if (mt_cmp (om_ne hu) (me_cmp (om_eq hu) (me_sl (me_var (pv 12)) mo_none (mo_some (me_callB cm_len (T.free 9) (ma_cons (me_var (pv 11)) ma_nil)))) (me_var (pv 11))) (me_cmp (om_eq hu) (me_call F__law_rank hr (by decide) tk (ma_cons (me_var (pv 10)) ma_nil)) (me_call F__law_rank hr (by decide) tk (ma_cons (me_var (pv 8)) ma_nil))))
     (mss_one (ms_ret me_bl))
     mss_nil))))))
     (mss_one (ms_if (mt_cmp (om_ne hu) (me_call F_row_code hr (by decide) tk (ma_cons (me_var (pv 9)) ma_nil)) (me_op om_add (me_ix (me_var (pv 5)) me_int) (me_ix (me_var (pv 5)) (me_un um_neg me_int))))
     (mss_one (ms_ret me_bl))
     mss_nil))))))))))))
     (mss_one (ms_ret me_bl)))
theorem facts {h : Heap} (X : K.In h) (Gm : h.Ns mainGlobals mg) (hfa : ∃ f, mg ("law" : Str) = some (.ref f)) (c : He.SaysD fa fn K) :
    ∃ (f : Addr) (fd : FuncData), mg ("law" : Str) = some (.ref f) ∧ (∀ (s : Shared) (v : Value), BindsTo s fd ⟨[v], []⟩ [("_law_script", v)]) ∧ ∀ base : Heap, FnOk P w K mg base CX0 5 f fd ["_law_script"] (liftSp K spLaw) := by
  have T : Tx K mg := ⟨fun i f h => c.fact i h, h, X, Gm⟩
  obtain ⟨fd_is_integer, D_is_integer⟩ := c.def_ 0 (d := d0) rfl
  obtain ⟨fd_is_text, D_is_text⟩ := c.def_ 1 (d := d1) rfl
  obtain ⟨fd_is_value, D_is_value⟩ := c.def_ 2 (d := d2) rfl
  obtain ⟨fd_text_code, D_text_code⟩ := c.def_ 3 (d := d3) rfl
  obtain ⟨fd_number_code, D_number_code⟩ := c.def_ 4 (d := d4) rfl
  obtain ⟨fd_code_of, D_code_of⟩ := c.def_ 5 (d := d5) rfl
  obtain ⟨fd_value_code, D_value_code⟩ := c.def_ 6 (d := d6) rfl
  obtain ⟨fd_row_code, D_row_code⟩ := c.def_ 7 (d := d7) rfl
  obtain ⟨fd__law_jar, D__law_jar⟩ := c.def_ 8 (d := d8) rfl
  obtain ⟨fd__law_drawn, D__law_drawn⟩ := c.def_ 9 (d := d9) rfl
  obtain ⟨fd__law_signs, D__law_signs⟩ := c.def_ 10 (d := d10) rfl
  obtain ⟨fd__law_text, D__law_text⟩ := c.def_ 11 (d := d11) rfl
  obtain ⟨fd__law_number, D__law_number⟩ := c.def_ 12 (d := d12) rfl
  obtain ⟨fd__law_value, D__law_value⟩ := c.def_ 13 (d := d13) rfl
  obtain ⟨fd__law_near_number, D__law_near_number⟩ := c.def_ 14 (d := d14) rfl
  obtain ⟨fd__law_near_text, D__law_near_text⟩ := c.def_ 15 (d := d15) rfl
  obtain ⟨fd__law_near, D__law_near⟩ := c.def_ 16 (d := d16) rfl
  obtain ⟨fd__law_rank, D__law_rank⟩ := c.def_ 17 (d := d17) rfl
  obtain ⟨fd__law_ranks, D__law_ranks⟩ := c.def_ 18 (d := d18) rfl
  obtain ⟨fd_law, D_law⟩ := c.def_ 19 (d := d19) rfl
  have B_ := FunD.bindsA (ps := ["_law_script"]) D_law fun _ _ _ _ _ _ us hl => match us, hl with | [_], _ => rfl
  refine ⟨_, fd_law, T.glo 39, fun s v => B_ s [v] rfl, fun base => ?_⟩
  have O_is_integer : FnM P w K mg base 1 "is_integer" ["value"] sp_is_integer := ok_is_integer T D_is_integer (T.glo 20)
  have O_is_text : FnM P w K mg base 1 "is_text" ["value"] sp_is_text := ok_is_text T D_is_text (T.glo 21)
  have O_is_value : FnM P w K mg base 2 "is_value" ["value"] sp_is_value := ok_is_value T O_is_integer O_is_text D_is_value (T.glo 22)
  have O_text_code : FnM P w K mg base 1 "text_code" ["text"] sp_text_code := ok_text_code T D_text_code (T.glo 23)
  have O_number_code : FnM P w K mg base 1 "number_code" ["number"] sp_number_code := ok_number_code T D_number_code (T.glo 24)
  have O_code_of : FnM P w K mg base 2 "code_of" ["value"] sp_code_of := ok_code_of T O_text_code O_number_code D_code_of (T.glo 25)
  have O_value_code : FnM P w K mg base 3 "value_code" ["value"] sp_value_code := ok_value_code T O_is_value O_code_of D_value_code (T.glo 26)
  have O_row_code : FnM P w K mg base 3 "row_code" ["values"] sp_row_code := ok_row_code T O_is_value O_code_of D_row_code (T.glo 27)
  have O__law_jar : FnM P w K mg base 1 "_law_jar" ["_law_cell"] sp__law_jar := ok__law_jar T D__law_jar (T.glo 28)
  have O__law_drawn : FnM P w K mg base 1 "_law_drawn" ["_law_jar_here", "_law_many"] sp__law_drawn := ok__law_drawn T D__law_drawn (T.glo 29)
  have O__law_signs : FnM P w K mg base 1 "_law_signs" [] sp__law_signs := ok__law_signs T D__law_signs (T.glo 30)
  have O__law_text : FnM P w K mg base 2 "_law_text" ["_law_jar_here"] sp__law_text := ok__law_text T O__law_drawn O__law_signs D__law_text (T.glo 31)
  have O__law_number : FnM P w K mg base 2 "_law_number" ["_law_jar_here"] sp__law_number := ok__law_number T O__law_drawn D__law_number (T.glo 32)
  have O__law_value : FnM P w K mg base 3 "_law_value" ["_law_jar_here"] sp__law_value := ok__law_value T O__law_drawn O__law_number O__law_text D__law_value (T.glo 33)
  have O__law_near_number : FnM P w K mg base 2 "_law_near_number" ["_law_jar_here", "_law_value_here"] sp__law_near_number := ok__law_near_number T O__law_drawn D__law_near_number (T.glo 34)
  have O__law_near_text : FnM P w K mg base 2 "_law_near_text" ["_law_jar_here", "_law_value_here"] sp__law_near_text := ok__law_near_text T O__law_drawn O__law_signs D__law_near_text (T.glo 35)
  have O__law_near : FnM P w K mg base 4 "_law_near" ["_law_jar_here", "_law_row"] sp__law_near := ok__law_near T O__law_drawn O__law_value O__law_near_number O__law_near_text D__law_near (T.glo 36)
  have O__law_rank : FnM P w K mg base 1 "_law_rank" ["_law_value_here"] sp__law_rank := ok__law_rank T D__law_rank (T.glo 37)
  have O__law_ranks : FnM P w K mg base 2 "_law_ranks" ["_law_row"] sp__law_ranks := ok__law_ranks T O__law_rank D__law_ranks (T.glo 38)
  exact fnOk_law (ok_law T O__law_jar O__law_drawn O__law_value O__law_near O_row_code O__law_ranks O_value_code O__law_rank D_law (T.glo 39))
end
end Lk23
open PySem PySem.W PySem.Calls PyProof.Rows
theorem PySem.Challenge.cw_heldpasts_k23_whole_codes_go_as_values_d_holds : PySem.Challenge.rw_heldpasts_k23_whole_codes_go_as_values_d.Holds := by
  w_on; o_law
  refine HandSHeadRun.head_any (r := OpenLaw.row PySem.Challenge.rw_heldpasts_k23_whole_codes_go_as_values_d) (q := view (OpenLaw.row PySem.Challenge.rw_heldpasts_k23_whole_codes_go_as_values_d).prog [34]) (H := Lk23.hk) (ob := Lk23.ob) (M := 60000) (loose := Lk23.lo) (d := HandSHeadRun.topDef (OpenLaw.row PySem.Challenge.rw_heldpasts_k23_whole_codes_go_as_values_d).prog 34) (kwd := []) Lk23.ob_eq
    (by kernel_rfl) (fun s => by kernel_rfl) Lk23.run (by kernel_rfl) (by kernel_rfl) (by kernel_rfl) (by rfl) (by first | assumption | decide +kernel) (by decide +kernel) ⟨rfl, rfl, rfl, rfl, rfl, by decide +kernel⟩ ?hw ?hc
  case hw => w_witness2
  case hc =>
    refine L2.walk_ofE (l := PySem.Challenge.rw_heldpasts_k23_whole_codes_go_as_values_d) (n := 63) (k := 5) (x := "_law_script") (CX := L2.CX0) rfl (by decide) (by kernel_rfl) ⟨rfl, by decide, by decide⟩ ?F (fun _ _ _ _ z => z)
    intro w mg fa h Y G hmg0
    obtain ⟨K, KX, c⟩ := Y
    have hmg : mg ("law" : PySem.Str) = some (.ref fa) := by
      have e : (HandSHeadRun.topDef (OpenLaw.row PySem.Challenge.rw_heldpasts_k23_whole_codes_go_as_values_d).prog 34).name = ("law" : PySem.Str) := by kernel_rfl
      rw [← e]
      exact hmg0
    obtain ⟨f, fd, hm, hb, hF⟩ := Lk23.facts (P := (PySem.Challenge.rw_heldpasts_k23_whole_codes_go_as_values_d).prog) (w := w) KX G ⟨_, hmg⟩ c
    have e := hmg.symm.trans hm
    cases e
    exact ⟨K, fd, Dl.liftSp K Dl.spLaw, KX, hb, fun H a ns hl _ hS => Dl.law_rd hl hS, fun base _ _ => hF base⟩
end
