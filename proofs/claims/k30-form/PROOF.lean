import PyProof.Rows.All
import Wide.All
import OpenK.AllK
import Wide.FinOn
import PySem.Str
import PyProof.Fits
import PyProof.NoPylong
import HandS.List
import HandS.ForMost
import HandS.TupAny
import HandS.IsInst
import HandS.Wide
import HandS.Style
import HandS.Conv
import HandS.Deep
import HandS.EndBits
import KE.KDictKeyed
import KE.KDictPairs
import KE.IntBitsLaws
import PyProof.EqLayable
import PySem.Challenge.RW_hazardry_k30_programs_in_form
set_option Elab.async false
set_option linter.all false
/-! DL: a clean level over the hand layer. Values (tuples by value, lists and dicts by address), a store, and what Python's
expressions and statements ask, as predicate transformers. -/
namespace DL
open PySem

/-! ## values -/
inductive D where
  | non | bl (b : Bool) | int (i : Int) | str (x : Str) | tup (xs : List D) | ref (a : Addr) | ty (n : String)
  /-- a list that is read alone -/
  | lro (xs : List D)
  deriving Inhabited

mutual
def D.beq : D → D → Bool
  | .non, .non => true
  | .bl a, .bl b => a == b
  | .int a, .int b => decide (a = b)
  | .str a, .str b => decide (a = b)
  | .tup a, .tup b => D.beqs a b
  | .lro a, .lro b => D.beqs a b
  | .ref a, .ref b => decide (a = b)
  | .ty a, .ty b => decide (a = b)
  | _, _ => false
def D.beqs : List D → List D → Bool
  | [], [] => true
  | a :: as, b :: bs => D.beq a b && D.beqs as bs
  | _, _ => false
end
mutual
theorem D.beq_self : ∀ a : D, D.beq a a = true
  | .non => rfl
  | .bl a => by simp [D.beq]
  | .int a => by simp [D.beq]
  | .str a => by simp [D.beq]
  | .tup a => by rw [D.beq]; exact D.beqs_self a
  | .lro a => by rw [D.beq]; exact D.beqs_self a
  | .ref a => by simp [D.beq]
  | .ty a => by simp [D.beq]
theorem D.beqs_self : ∀ a : List D, D.beqs a a = true
  | [] => rfl
  | a :: as => by rw [D.beqs, D.beq_self a, D.beqs_self as]; rfl
end
mutual
theorem D.eq_of_beq : ∀ a b : D, D.beq a b = true → a = b
  | .non, b, h => by cases b <;> simp [D.beq] at h ⊢
  | .bl a, b, h => by cases b <;> simp [D.beq] at h ⊢; exact h
  | .int a, b, h => by cases b <;> simp [D.beq] at h ⊢; exact h
  | .str a, b, h => by cases b <;> simp [D.beq] at h ⊢; exact h
  | .tup a, b, h => by
    cases b <;> simp [D.beq] at h ⊢
    exact D.eq_of_beqs a _ h
  | .lro a, b, h => by
    cases b <;> simp [D.beq] at h ⊢
    exact D.eq_of_beqs a _ h
  | .ref a, b, h => by cases b <;> simp [D.beq] at h ⊢; exact h
  | .ty a, b, h => by cases b <;> simp [D.beq] at h ⊢; exact h
theorem D.eq_of_beqs : ∀ a b : List D, D.beqs a b = true → a = b
  | [], b, h => by cases b <;> simp [D.beqs] at h ⊢
  | a :: as, b, h => by
    cases b with
    | nil => simp [D.beqs] at h
    | cons b bs =>
      simp only [D.beqs, Bool.and_eq_true] at h
      rw [D.eq_of_beq a b h.1, D.eq_of_beqs as bs h.2]
end
instance : DecidableEq D := fun a b => if h : D.beq a b = true then isTrue (D.eq_of_beq a b h) else isFalse fun e => h (e ▸ D.beq_self a)

/-! ## the store -/
abbrev Key := Sum Int Str
inductive O where
  | lst (xs : List D)
  /-- a dict whose keys are ints and texts; one whose keys are tuples (of ints, texts, None, tuples) -/
  | dk (kvs : List (Key × D)) | dn (kvs : List (D × D))
  /-- an instance of a class of the text -/
  | ins (C : String) (fs : List (Str × D))
abbrev Sto := Addr → Option O
def Sto.set (M : Sto) (a : Addr) (o : O) : Sto := fun b => if b = a then some o else M b
@[simp] theorem set_same {M : Sto} {a : Addr} {o : O} : M.set a o a = some o := if_pos rfl
theorem set_ne {M : Sto} {a b : Addr} {o : O} (h : b ≠ a) : M.set a o b = M b := if_neg h
theorem set_set {M : Sto} {a : Addr} {o u : O} : (M.set a o).set a u = M.set a u := by
  funext b; unfold Sto.set; split <;> rfl
theorem set_comm {M : Sto} {a b : Addr} {o u : O} (h : a ≠ b) : (M.set a o).set b u = (M.set b u).set a o := by
  funext c; unfold Sto.set
  by_cases h1 : c = b
  · subst h1; rw [if_pos rfl, if_neg (Ne.symm h), if_pos rfl]
  · rw [if_neg h1, if_neg h1]
theorem set_self {M : Sto} {a : Addr} {o : O} (h : M a = some o) : M.set a o = M := by
  funext b; unfold Sto.set; split
  · rename_i e; rw [e, h]
  · rfl
theorem ne_of {M : Sto} {a b : Addr} {o : O} (h : M a = some o) (h' : M b = none) : a ≠ b := by
  intro e; subst e; rw [h] at h'; cases h'

/-! ## names -/
abbrev Ev := List (Option D)
@[simp] def gt : Ev → Nat → Option D
  | [], _ => none
  | x :: _, 0 => x
  | _ :: r, i + 1 => gt r i
@[simp] def put : Ev → Nat → D → Ev
  | [], _, _ => []
  | _ :: r, 0, d => some d :: r
  | x :: r, i + 1, d => x :: put r i d
@[simp] def wipe (e : Ev) : List Nat → Ev
  | [] => e
  | i :: r => (wipe e r).set i none
@[simp] def start (n : Nat) (ds : List D) : Ev := ds.map some ++ List.replicate (n - ds.length) none

/-! ## what is wanted -/
/-- of an exception: its class, its own fields -/
abbrev XW := String → List (Str × D) → Sto → Prop
abbrev KD := D → Sto → Prop
abbrev WE := XW → Ev → Sto → KD → Prop
abbrev WT := XW → Ev → Sto → (Bool → Sto → Prop) → Prop
structure Ends where
  nx : Ev → Sto → Prop
  rt : KD
  bk : Ev → Sto → Prop
  ct : Ev → Sto → Prop
abbrev WS := XW → Ends → Ev → Sto → Prop
abbrev WG := D → XW → Ev → Sto → (Ev → Sto → Prop) → Prop
abbrev FD := XW → List D → Sto → KD → Prop
abbrev X0 : XW := fun _ _ _ => False

/-! ## operations by values -/
abbrev B2 := D → D → Sto → KD → Prop
abbrev C2 := D → D → Sto → (Bool → Prop) → Prop
def opAdd : B2 := fun x y M Q => match x, y with
  | .int i, .int j => Q (.int (i + j)) M
  | .str a, .str b => a.length + b.length ≤ sizeLine ∧ Q (.str (a ++ b)) M
  | .tup xs, .tup ys => xs.length + ys.length ≤ sizeLine ∧ Q (.tup (xs ++ ys)) M
  | .ref a, .ref b => match M a, M b with
    | some (.lst xs), some (.lst ys) => xs.length + ys.length ≤ sizeLine ∧ ∀ p, M p = none → Q (.ref p) (M.set p (.lst (xs ++ ys)))
    | _, _ => False
  | _, _ => False
/-- + in place, of ints, texts and tuples -/
def ipAdd : B2 := fun x y M Q => match x, y with
  | .int i, .int j => Q (.int (i + j)) M
  | _, _ => False
def opSub : B2 := fun x y M Q => match x, y with
  | .int i, .int j => Q (.int (i - j)) M
  | _, _ => False
def opMul : B2 := fun x y M Q => match x, y with
  | .int i, .int j => IntMulOk i j ∧ Q (.int (i * j)) M
  | _, _ => False
def opDiv : B2 := fun x y M Q => match x, y with
  | .int i, .int j => j ≠ 0 ∧ Builtin.divisionGoesByPylong i j = false ∧ Q (.int (i.fdiv j)) M
  | _, _ => False
def opMod : B2 := fun x y M Q => match x, y with
  | .int i, .int j => j ≠ 0 ∧ Q (.int (i.fmod j)) M
  | _, _ => False
def opPow : B2 := fun x y M Q => match x, y with
  | .int i, .int j => 0 ≤ j ∧ j ≤ 1000000 ∧ i.natAbs < 2 ^ 64 ∧ Q (.int (i ^ j.toNat)) M
  | _, _ => False
/-- a flat value -/
def flat : D → Bool
  | .non | .bl _ | .int _ | .str _ => true
  | _ => false
/-- x == y of flat values -/
def eqF : D → D → Bool
  | .non, .non => true
  | .bl a, .bl b => a == b
  | .bl a, .int b => (if a then 1 else 0) == b
  | .int a, .bl b => a == (if b then 1 else 0)
  | .int a, .int b => decide (a = b)
  | .str a, .str b => decide (a = b)
  | _, _ => false
mutual
/-- as data -/
def D.py : D → PyData
  | .non => .none
  | .bl b => .bool b
  | .int i => .int i
  | .str x => .str x
  | .tup xs => .tuple (D.pys xs)
  | .ref _ => .dict []
  | .ty _ => .dict []
  | .lro _ => .dict []
def D.pys : List D → List PyData
  | [] => []
  | x :: xs => x.py :: D.pys xs
end
def D.scal : D → D → Bool
  | .int _, .int _ | .str _, .str _ | .bl _, .bl _ => true
  | _, _ => false
def cEq : C2 := fun x y M k => match x, y with
  | .int i, .int j => k (decide (i = j))
  | .str a, .str b => k (decide (a = b))
  | .bl a, .bl b => k (a == b)
  | x, y => SeqAt.shaped x.py = true ∧ SeqAt.shaped y.py = true ∧ k (PyData.eqv x.py y.py)
def cNe : C2 := fun x y M k => cEq x y M fun b => k (!b)
def cLt : C2 := fun x y M k => match x, y with
  | .int i, .int j => k (decide (i < j))
  | _, _ => False
def cLe : C2 := fun x y M k => match x, y with
  | .int i, .int j => k (decide (i ≤ j))
  | _, _ => False
def cGt : C2 := fun x y M k => match x, y with
  | .int i, .int j => k (decide (j < i))
  | _, _ => False
def cGe : C2 := fun x y M k => match x, y with
  | .int i, .int j => k (decide (j ≤ i))
  | _, _ => False
def cIsN : C2 := fun x y _ k => match y with
  | .non => k (decide (x = .non))
  | _ => False
def cNotN : C2 := fun x y _ k => match y with
  | .non => k (!decide (x = .non))
  | _ => False
/-- a key of a dict -/
def keyD : D → Option Key
  | .int i => some (.inl i)
  | .str x => some (.inr x)
  | _ => none
def dKey : Key → D
  | .inl i => .int i
  | .inr x => .str x
mutual
def nest : D → Option Nat
  | .non | .int _ | .str _ => some 0
  | .tup xs => (nests xs).map (· + 1)
  | _ => none
def nests : List D → Option Nat
  | [] => some 0
  | x :: xs => match nest x, nests xs with
    | some a, some b => some (max a b)
    | _, _ => none
end
/-- a tuple that may be a key -/
def nkOk (x : D) : Bool := match x with
  | .tup _ => match nest x with
    | some n => decide (n ≤ 8)
    | none => false
  | _ => false
section
variable {κ : Type} [DecidableEq κ]
def lk : List (κ × D) → κ → Option D
  | [], _ => none
  | p :: r, k => if p.1 = k then some p.2 else lk r k
def ins (kvs : List (κ × D)) (k : κ) (v : D) : List (κ × D) :=
  if (kvs.any fun kv => decide (kv.1 = k)) = true then kvs.map fun kv => if kv.1 = k then (kv.1, v) else kv else kvs ++ [(k, v)]
end
/-- k in d, or what stands there -/
def dLk (x : O) (y : D) (k : Option D → Prop) : Prop := match x with
  | .dk kvs => match keyD y with
    | some κ => k (lk kvs κ)
    | none => False
  | .dn kvs => nkOk y = true ∧ k (lk kvs y)
  | _ => False
def cIn : C2 := fun x y M k => match y with
  | .tup xs => flat x = true ∧ xs.all flat = true ∧ k (xs.any fun z => eqF z x)
  | .str s => match x with
    | .str t => k (!(Builtin.Str.occurrences s t 0 s.length 1).isEmpty)
    | _ => False
  | .ref a => match M a with
    | some (.lst xs) => flat x = true ∧ xs.all flat = true ∧ k (xs.any fun z => eqF z x)
    | some o => dLk o x fun r => k r.isSome
    | none => False
  | _ => False
def cNotIn : C2 := fun x y M k => cIn x y M fun b => k (!b)

/-! ## truth, length, items -/
def truD (x : D) (M : Sto) (k : Bool → Prop) : Prop := match x with
  | .non => k false
  | .bl b => k b
  | .int i => k (i != 0)
  | .str s => s.length ≤ sizeLine ∧ k ((s.length : Int) != 0)
  | .tup xs => k (!xs.isEmpty)
  | .lro xs => k (!xs.isEmpty)
  | .ref a => match M a with
    | some (.lst xs) => k (!xs.isEmpty)
    | some (.dk kvs) => k (!kvs.isEmpty)
    | _ => False
  | .ty _ => False
def lenD (x : D) (M : Sto) (k : Nat → Prop) : Prop := match x with
  | .str s => s.length ≤ sizeLine ∧ k s.length
  | .tup xs => k xs.length
  | .lro xs => k xs.length
  | .ref a => match M a with
    | some (.lst xs) => k xs.length
    | _ => False
  | _ => False
def at' (xs : List D) (i : Int) (k : D → Prop) : Prop := match L2.atI xs i with
  | some d => k d
  | none => False
def subD (x y : D) (M : Sto) (k : D → Prop) : Prop := match x with
  | .tup xs => match y with
    | .int i => at' xs i k
    | _ => False
  | .lro xs => match y with
    | .int i => at' xs i k
    | _ => False
  | .str s => match y with
    | .int i => s.length ≤ sizeLine ∧ match L2.atI s.cps.toList i with
      | some c => k (.str ⟨#[c]⟩)
      | none => False
    | _ => False
  | .ref a => match M a with
    | some (.lst xs) => match y with
      | .int i => at' xs i k
      | _ => False
    | some o => dLk o y fun r => match r with
      | some d => k d
      | none => False
    | none => False
  | _ => False
def cut {α : Type} (xs : List α) (lo hi : Option Int) : List α := (xs.drop (HT.sIx xs.length 0 lo)).take (HT.sIx xs.length xs.length hi - HT.sIx xs.length 0 lo)
def slD (x : D) (lo hi : Option Int) (M : Sto) (Q : KD) : Prop := match x with
  | .tup xs => Q (.tup (cut xs lo hi)) M
  | .lro xs => ∀ p, M p = none → Q (.ref p) (M.set p (.lst (cut xs lo hi)))
  | .ref a => match M a with
    | some (.lst xs) => ∀ p, M p = none → Q (.ref p) (M.set p (.lst (cut xs lo hi)))
    | _ => False
  | _ => False
def revD (x : D) (M : Sto) (Q : KD) : Prop := match x with
  | .tup xs => Q (.tup xs.reverse) M
  | .ref a => match M a with
    | some (.lst xs) => ∀ p, M p = none → Q (.ref p) (M.set p (.lst xs.reverse))
    | _ => False
  | _ => False

/-! ## expressions -/
def eVar (i : Nat) : WE := fun _ env M Q => match gt env i with
  | some d => Q d M
  | none => False
def eC (d : D) : WE := fun _ _ M Q => Q d M
def argsW : List WE → XW → Ev → Sto → (List D → Sto → Prop) → Prop
  | [], _, _, M, Q => Q [] M
  | f :: fs, E, env, M, Q => f E env M fun d M1 => argsW fs E env M1 fun ds M2 => Q (d :: ds) M2
def eTup (fs : List WE) : WE := fun E env M Q => argsW fs E env M fun ds M1 => Q (.tup ds) M1
def eLst (fs : List WE) : WE := fun E env M Q => argsW fs E env M fun ds M1 => ∀ p, M1 p = none → Q (.ref p) (M1.set p (.lst ds))
def eBin (op : B2) (f g : WE) : WE := fun E env M Q => f E env M fun x M1 => g E env M1 fun y M2 => op x y M2 Q
def eNeg (f : WE) : WE := fun E env M Q => f E env M fun x M1 => match x with
  | .int i => Q (.int (-i)) M1
  | _ => False
def eCmp (c : C2) (f g : WE) : WE := fun E env M Q => f E env M fun x M1 => g E env M1 fun y M2 => c x y M2 fun b => Q (.bl b) M2
def tCmp (c : C2) (f g : WE) : WT := fun E env M Q => f E env M fun x M1 => g E env M1 fun y M2 => c x y M2 fun b => Q b M2
/-- a < b < c -/
def tChain (c c' : C2) (f g h : WE) : WT := fun E env M Q => f E env M fun x M1 => g E env M1 fun y M2 => c x y M2 fun b =>
  if b = true then h E env M2 fun z M3 => c' y z M3 fun b' => Q b' M3 else Q false M2
def tTru (f : WE) : WT := fun E env M Q => f E env M fun x M1 => truD x M1 fun b => Q b M1
def tAnd (t u : WT) : WT := fun E env M Q => t E env M fun b M1 => if b = true then u E env M1 Q else Q false M1
def tOr (t u : WT) : WT := fun E env M Q => t E env M fun b M1 => if b = true then Q true M1 else u E env M1 Q
def tNot (t : WT) : WT := fun E env M Q => t E env M fun b M1 => Q (!b) M1
/-- and, or, not as values (of bools) -/
def eAnd (f g : WE) : WE := fun E env M Q => f E env M fun x M1 => match x with
  | .bl b => if b = true then g E env M1 Q else Q (.bl false) M1
  | _ => False
def eOr (f g : WE) : WE := fun E env M Q => f E env M fun x M1 => match x with
  | .bl b => if b = true then Q (.bl true) M1 else g E env M1 Q
  | _ => False
def eNotB (f : WE) : WE := fun E env M Q => f E env M fun x M1 => match x with
  | .bl b => Q (.bl (!b)) M1
  | _ => False
def eIf (t : WT) (f g : WE) : WE := fun E env M Q => t E env M fun b M1 => if b = true then f E env M1 Q else g E env M1 Q
def eSub (f g : WE) : WE := fun E env M Q => f E env M fun x M1 => g E env M1 fun y M2 => subD x y M2 fun d => Q d M2
def optW : Option WE → XW → Ev → Sto → (Option Int → Sto → Prop) → Prop
  | none, _, _, M, Q => Q none M
  | some f, E, env, M, Q => f E env M fun x M1 => match x with
    | .int i => Q (some i) M1
    | _ => False
def eSl (f : WE) (lo hi : Option WE) : WE := fun E env M Q => f E env M fun x M1 => optW lo E env M1 fun l M2 => optW hi E env M2 fun h M3 => slD x l h M3 Q
def eRev (f : WE) : WE := fun E env M Q => f E env M fun x M1 => revD x M1 Q
def eFld (C : String) (f : WE) (name : Str) : WE := fun E env M Q => f E env M fun x M1 => match x with
  | .ref a => match M1 a with
    | some (.ins C' fs) => C' = C ∧ match fs.lookup name with
      | some d => Q d M1
      | none => False
    | _ => False
  | _ => False
/-! calls -/
def eCall (g : FD) (fs : List WE) : WE := fun E env M Q => argsW fs E env M fun ds M1 => g E ds M1 Q
def eMeth (C : String) (m : Str) (g : FD) (f : WE) (fs : List WE) : WE := fun E env M Q => f E env M fun x M1 => match x with
  | .ref a => match M1 a with
    | some (.ins C' flds) => C' = C ∧ flds.lookup m = none ∧ argsW fs E env M1 fun ds M2 => g E (x :: ds) M2 Q
    | _ => False
  | _ => False
def eNew (C : String) (g : FD) (fs : List WE) : WE := fun E env M Q => argsW fs E env M fun ds M1 => ∀ x, M1 x = none →
  g E (.ref x :: ds) (M1.set x (.ins C [])) fun v M2 => v = .non ∧ Q (.ref x) M2
def eLen (f : WE) : WE := fun E env M Q => f E env M fun x M1 => lenD x M1 fun n => Q (.int n) M1
def eAbs (f : WE) : WE := fun E env M Q => f E env M fun x M1 => match x with
  | .int i => Q (.int (if i < 0 then -i else i)) M1
  | _ => False
def eInt (f : WE) : WE := fun E env M Q => f E env M fun x M1 => match x with
  | .int i => Q (.int i) M1
  | .bl b => Q (.int (if b then 1 else 0)) M1
  | _ => False
def eTupOf (f : WE) : WE := fun E env M Q => f E env M fun x M1 => match x with
  | .tup xs => Q (.tup xs) M1
  | .ref a => match M1 a with
    | some (.lst xs) => Q (.tup xs) M1
    | _ => False
  | _ => False
def eLstOf (f : WE) : WE := fun E env M Q => f E env M fun x M1 => match x with
  | .tup xs => ∀ p, M1 p = none → Q (.ref p) (M1.set p (.lst xs))
  | .ref a => match M1 a with
    | some (.lst xs) => ∀ p, M1 p = none → Q (.ref p) (M1.set p (.lst xs))
    | some (.dk kvs) => ∀ p, M1 p = none → Q (.ref p) (M1.set p (.lst (kvs.map fun kv => dKey kv.1)))
    | _ => False
  | _ => False
def asBools : List D → Option (List Bool)
  | [] => some []
  | .bl b :: r => (asBools r).map (b :: ·)
  | _ => none
def asInts : List D → Option (List Int)
  | [] => some []
  | .int i :: r => (asInts r).map (i :: ·)
  | _ => none
def eAll (f : WE) : WE := fun E env M Q => f E env M fun x M1 => match x with
  | .ref a => match M1 a with
    | some (.lst xs) => match asBools xs with
      | some bs => Q (.bl (bs.all id)) M1
      | none => False
    | _ => False
  | _ => False
def eAny (f : WE) : WE := fun E env M Q => f E env M fun x M1 => match x with
  | .ref a => match M1 a with
    | some (.lst xs) => match asBools xs with
      | some bs => Q (.bl (bs.any id)) M1
      | none => False
    | _ => False
  | _ => False
def eSum (f : WE) : WE := fun E env M Q => f E env M fun x M1 => match x with
  | .ref a => match M1 a with
    | some (.lst xs) => match asInts xs with
      | some ks => Q (.int ks.sum) M1
      | none => False
    | _ => False
  | _ => False
/-- the type's name of a value -/
def tyD (x : D) (M : Sto) (k : String → Prop) : Prop := match x with
  | .non => k "NoneType"
  | .bl _ => k "bool"
  | .int _ => k "int"
  | .str _ => k "str"
  | .tup _ => k "tuple"
  | .ref a => match M a with
    | some (.lst _) => k "list"
    | some (.dk _) => k "dict"
    | _ => False
  | .lro _ => k "list"
  | .ty _ => False
def isTy (t c : String) : Bool := t == c || (t == "bool" && c == "int")
def eIsi (f : WE) (cs : List String) : WE := fun E env M Q => f E env M fun x M1 => tyD x M1 fun t => Q (.bl (cs.any (isTy t))) M1
/-! dicts -/
def eDk : WE := fun _ _ M Q => ∀ p, M p = none → Q (.ref p) (M.set p (.dk []))
def eDn : WE := fun _ _ M Q => ∀ p, M p = none → Q (.ref p) (M.set p (.dn []))
def refD (x : D) (M : Sto) (k : O → Prop) : Prop := match x with
  | .ref a => match M a with
    | some o => k o
    | none => False
  | _ => False
def isDct (x : D) (M : Sto) (k : Prop) : Prop := match x with
  | .ref a => match M a with
    | some (.dk _) => k
    | some (.dn _) => k
    | _ => False
  | _ => False
def eGet1 (f g : WE) : WE := fun E env M Q => f E env M fun x M1 => isDct x M1 <| g E env M1 fun y M2 => refD x M2 fun o => dLk o y fun r => Q (r.getD .non) M2
def eGet2 (f g h : WE) : WE := fun E env M Q => f E env M fun x M1 => isDct x M1 <| g E env M1 fun y M2 => h E env M2 fun z M3 => refD x M3 fun o => dLk o y fun r => Q (r.getD z) M3
/-- dict(pairs) of texts or ints -/
def pairsK : List D → Option (List (Key × D))
  | [] => some []
  | .tup [k, v] :: r => match keyD k, pairsK r with
    | some κ, some s => some ((κ, v) :: s)
    | _, _ => none
  | _ => none
def insAll (kvs : List (Key × D)) (more : List (Key × D)) : List (Key × D) := more.foldl (fun acc kv => ins acc kv.1 kv.2) kvs
def itemsD (x : D) (M : Sto) (k : List D → Prop) : Prop := match x with
  | .tup xs => k xs
  | .ref a => match M a with
    | some (.lst xs) => k xs
    | _ => False
  | _ => False
def eDict (f : WE) : WE := fun E env M Q => f E env M fun x M1 => itemsD x M1 fun xs => match pairsK xs with
    | some kvs => ∀ p, M1 p = none → Q (.ref p) (M1.set p (.dk (insAll [] kvs)))
    | none => False
/-! methods of lists -/
def lstAt (x : D) (M : Sto) (k : Addr → List D → Prop) : Prop := match x with
  | .ref a => match M a with
    | some (.lst xs) => k a xs
    | _ => False
  | _ => False
def eAppend (f g : WE) : WE := fun E env M Q => f E env M fun x M1 => lstAt x M1 fun _ _ => g E env M1 fun y M2 => lstAt x M2 fun a xs => xs.length < sizeLine ∧ Q .non (M2.set a (.lst (xs ++ [y])))
def ePop (f : WE) : WE := fun E env M Q => f E env M fun x M1 => lstAt x M1 fun a xs => match xs.getLast? with
  | some y => Q y (M1.set a (.lst xs.dropLast))
  | none => False
def eExtend (f g : WE) : WE := fun E env M Q => f E env M fun x M1 => lstAt x M1 fun _ _ => g E env M1 fun y M2 => lstAt x M2 fun a xs => lstAt y M2 fun _ ys => xs.length + ys.length ≤ sizeLine ∧ Q .non (M2.set a (.lst (xs ++ ys)))

/-! ## what a loop walks: a check at each turn, the items -/
abbrev WI := XW → Ev → Sto → ((Sto → Prop) → List D → Sto → Prop) → Prop
def iVal (f : WE) : WI := fun E env M k => f E env M fun x M1 => match x with
  | .tup xs => k (fun _ => True) xs M1
  | .lro xs => k (fun _ => True) xs M1
  | .ref a => match M1 a with
    | some (.lst xs) => k (fun M' => M' a = some (.lst xs)) xs M1
    | _ => False
  | _ => False
def rangeL (lo hi : Int) : List D := (List.range (hi - lo).toNat).map fun (i : Nat) => .int (lo + i)
def iRange1 (f : WE) : WI := fun E env M k => f E env M fun x M1 => match x with
  | .int j => -(2 ^ 62) ≤ j ∧ j < 2 ^ 62 ∧ k (fun _ => True) (rangeL 0 j) M1
  | _ => False
def iRange2 (f g : WE) : WI := fun E env M k => f E env M fun x M1 => g E env M1 fun y M2 => match x, y with
  | .int i, .int j => (-(2 ^ 62) ≤ i ∧ i < 2 ^ 62 ∧ -(2 ^ 62) ≤ j ∧ j < 2 ^ 62) ∧ k (fun _ => True) (rangeL i j) M2
  | _, _ => False

def charsOf (s : Str) : List D := s.cps.toList.map fun c => .str ⟨#[c]⟩
def iChars (f : WE) : WI := fun E env M k => f E env M fun x M1 => match x with
  | .str s => k (fun _ => True) (charsOf s) M1
  | _ => False
def cIsB : C2 := fun x y _ k => match x, y with
  | .bl a, .bl b => k (a == b)
  | _, _ => False
def cNotB : C2 := fun x y _ k => match x, y with
  | .bl a, .bl b => k (!(a == b))
  | _, _ => False
/-! ## targets -/
def gName (i : Nat) : WG := fun d _ env M Q => Q (put env i d) M
def gAll : List WG → List D → XW → Ev → Sto → (Ev → Sto → Prop) → Prop
  | [], [], _, env, M, Q => Q env M
  | g :: gs, d :: ds, E, env, M, Q => g d E env M fun env1 M1 => gAll gs ds E env1 M1 Q
  | _, _, _, _, _, _ => False
def gTup (gs : List WG) : WG := fun d E env M Q => match d with
  | .tup ds => ds.length = gs.length ∧ gAll gs ds E env M Q
  | _ => False
/-- o[i] = d -/
def setD (o i d : D) (M : Sto) (Q : Sto → Prop) : Prop := match o with
  | .ref a => match M a with
    | some (.lst xs) => match i with
      | .int k => match L2.ixN xs.length k with
        | some j => Q (M.set a (.lst (xs.set j d)))
        | none => False
      | _ => False
    | some (.dk kvs) => match keyD i with
      | some κ => kvs.length < sizeLine ∧ Q (M.set a (.dk (ins kvs κ d)))
      | none => False
    | some (.dn kvs) => nkOk i = true ∧ kvs.length < sizeLine ∧ Q (M.set a (.dn (ins kvs i d)))
    | _ => False
  | _ => False
def gSub (f g : WE) : WG := fun d E env M Q => f E env M fun o M1 => g E env M1 fun i M2 => setD o i d M2 fun M3 => Q env M3
def putF (name : Str) (d : D) : List (Str × D) → List (Str × D)
  | [] => [(name, d)]
  | p :: r => if p.1 = name then (name, d) :: r else p :: putF name d r
def gFld (C : String) (f : WE) (name : Str) : WG := fun d E env M Q => f E env M fun o M1 => match o with
  | .ref a => match M1 a with
    | some (.ins C' fs) => C' = C ∧ fs.length < 1000 ∧ Q env (M1.set a (.ins C (putF name d fs)))
    | _ => False
  | _ => False

/-! ## statements -/
def sNil : WS := fun _ D env M => D.nx env M
def sSeq (s t : WS) : WS := fun E D env M => s E { D with nx := fun e m => t E D e m } env M
def sAsg (f : WE) (g : WG) : WS := fun E D env M => f E env M fun d M1 => g d E env M1 D.nx
def sAug (i : Nat) (op : B2) (f : WE) : WS := fun E D env M => match gt env i with
  | some x => f E env M fun y M1 => op x y M1 fun z M2 => D.nx (put env i z) M2
  | none => False
/-- o.name op= e -/
def sAugF (C : String) (o : WE) (name : Str) (op : B2) (f : WE) : WS := fun E D env M => o E env M fun x M1 => match x with
  | .ref a => match M1 a with
    | some (.ins C0 fs) => C0 = C ∧ match fs.lookup name with
      | some old => f E env M1 fun y M2 => op old y M2 fun z M3 => match M3 a with
        | some (.ins C' fs') => C' = C ∧ fs'.length < 1000 ∧ D.nx env (M3.set a (.ins C (putF name z fs')))
        | _ => False
      | none => False
    | _ => False
  | _ => False
def sExpr (f : WE) : WS := fun E D env M => f E env M fun _ M1 => D.nx env M1
def sRet (f : WE) : WS := fun E D env M => f E env M D.rt
def sRetN : WS := fun _ D _ M => D.rt .non M
def sIf (t : WT) (a b : WS) : WS := fun E D env M => t E env M fun c M1 => if c = true then a E D env M1 else b E D env M1
def sBreak : WS := fun _ D env M => D.bk env M
def sCont : WS := fun _ D env M => D.ct env M
def sNever : WS := fun _ _ _ _ => False
def forL (g : WG) (b : WS) (chk : Sto → Prop) : List D → XW → Ends → Ev → Sto → Prop
  | [], _, D, env, M => chk M ∧ D.nx env M
  | x :: xs, E, D, env, M => chk M ∧ g x E env M fun env1 M1 => b E { D with nx := fun e m => forL g b chk xs E D e m, ct := fun e m => forL g b chk xs E D e m, bk := D.nx } env1 M1
def sFor (src : WI) (g : WG) (b : WS) : WS := fun E D env M => src E env M fun chk xs M1 => forL g b chk xs E D env M1
def sWhile (c : WT) (b : WS) : WS := fun E D env M => ∃ W : Nat → Ev → Sto → Prop, (∃ m, W m env M) ∧ ∀ m env M, W m env M →
  c E env M fun t M1 => if t = true then b E { D with nx := fun e M' => ∃ m', m' < m ∧ W m' e M', ct := fun e M' => ∃ m', m' < m ∧ W m' e M', bk := D.nx } env M1 else D.nx env M1

/-! ## comprehensions -/
def compL (p : Addr) (vs : List Nat) (g : WG) (t : WT) (f : WE) (env : Ev) (chk : Sto → Prop) : List D → Sto → (Sto → Prop) → Prop
  | [], M, Q => chk M ∧ Q M
  | x :: xs, M, Q => chk M ∧ g x X0 (wipe env vs) M fun env1 M1 => t X0 env1 M1 fun b M2 =>
    if b = true then f X0 env1 M2 fun d M3 => (match M3 p with
      | some (.lst acc) => acc.length < sizeLine ∧ compL p vs g t f env chk xs (M3.set p (.lst (acc ++ [d]))) Q
      | _ => False)
    else compL p vs g t f env chk xs M2 Q
def tYes : WT := fun _ _ M Q => Q true M
def eComp (src : WI) (vs : List Nat) (g : WG) (t : WT) (f : WE) : WE := fun E env M Q => src E env M fun chk xs M1 => ∀ p, M1 p = none →
  compL p vs g t f env chk xs (M1.set p (.lst [])) fun M2 => Q (.ref p) M2

/-! ## defs -/
def endsOf (Q : KD) : Ends := ⟨fun _ M => Q .non M, Q, fun _ _ => False, fun _ _ => False⟩
@[simp] def fn1 (g : D → XW → Sto → KD → Prop) : FD := fun E ds M Q => match ds with
  | [x] => g x E M Q
  | _ => False
@[simp] def fn2 (g : D → D → XW → Sto → KD → Prop) : FD := fun E ds M Q => match ds with
  | [x, y] => g x y E M Q
  | _ => False
@[simp] def fn3 (g : D → D → D → XW → Sto → KD → Prop) : FD := fun E ds M Q => match ds with
  | [x, y, z] => g x y z E M Q
  | _ => False
@[simp] def fn4 (g : D → D → D → D → XW → Sto → KD → Prop) : FD := fun E ds M Q => match ds with
  | [x, y, z, u] => g x y z u E M Q
  | _ => False
@[simp] def fn5 (g : D → D → D → D → D → XW → Sto → KD → Prop) : FD := fun E ds M Q => match ds with
  | [x, y, z, u, v] => g x y z u v E M Q
  | _ => False
end DL

set_option Elab.async false
set_option linter.all false
set_option maxRecDepth 100000
set_option maxHeartbeats 4000000
/-! DS: the clean level is sound over the hand layer -/
namespace DL
open PySem PySem.Spec PyProof.Rows L2

/-! ## what a value stands for -/
/-- a list that nobody writes -/
def SqF (K : PySem.W.Frag) (H : Hp) (a : Addr) (xs : List V) : Prop :=
  (∃ o, H a = some (.frz o (.lst xs))) ∨
    ∃ (o : Obj) (its : Array Value) (n : Nat), K.lookup a = some o ∧ o.cls = .type "list" ∧ o.dict = none ∧ o.data = .seq its n ∧ its.size ≤ sizeLine ∧ Vals xs its.toList
theorem SqF.l {K : PySem.W.Frag} {H : Hp} {a : Addr} {xs : List V} (h : SqF K H a xs) : SqL K H a xs := h.elim (fun h => .inl (.inr h)) .inr
/-- the object of a tuple as the text makes it -/
abbrev TupO (its : List Value) : Obj := { cls := .type "tuple", data := .seq its.toArray }
/-- a tuple, known to the object -/
def SqD (K : PySem.W.Frag) (H : Hp) (a : Addr) (xs : List V) : Prop :=
  (∃ its, H a = some (.frz (TupO its) (.tup xs))) ∨
    ∃ (o : Obj) (its : Array Value) (n : Nat), K.lookup a = some o ∧ o.cls = .type "tuple" ∧ o.dict = none ∧ o.data = .seq its n ∧ its.size ≤ sizeLine ∧ Vals xs its.toList
theorem SqD.s {K : PySem.W.Frag} {H : Hp} {a : Addr} {xs : List V} (h : SqD K H a xs) : SqT K H a xs :=
  h.elim (fun ⟨_, h⟩ => .inl (.inr ⟨_, h⟩)) fun ⟨o, its, n, a, b, _, c, d, e⟩ => .inr ⟨o, its, n, a, b, c, d, e⟩
mutual
inductive Rep (K : PySem.W.Frag) (H : Hp) : V → D → Prop
  | non : Rep K H .non .non
  | bl (b : Bool) : Rep K H (.bl b) (.bl b)
  | int (i : Int) : Rep K H (.int i) (.int i)
  | str (x : Str) : Rep K H (.str x) (.str x)
  | ref (a : Addr) : Rep K H (.ref a) (.ref a)
  | ty (n : String) : Rep K H (.ty n) (.ty n)
  | tup {a : Addr} {vs : List V} {ds : List D} : SqD K H a vs → Reps K H vs ds → Rep K H (.ref a) (.tup ds)
  | lro {a : Addr} {vs : List V} {ds : List D} : SqF K H a vs → Reps K H vs ds → Rep K H (.ref a) (.lro ds)
inductive Reps (K : PySem.W.Frag) (H : Hp) : List V → List D → Prop
  | nil : Reps K H [] []
  | cons {v : V} {d : D} {vs : List V} {ds : List D} : Rep K H v d → Reps K H vs ds → Reps K H (v :: vs) (d :: ds)
end
/-- tuples and lists that nobody writes stand still -/
structure Tups (K : PySem.W.Frag) (H H' : Hp) : Prop where
  t : ∀ a vs, SqD K H a vs → SqD K H' a vs
  f : ∀ a vs, SqF K H a vs → SqF K H' a vs
theorem Tups.refl {K : PySem.W.Frag} {H : Hp} : Tups K H H := ⟨fun _ _ h => h, fun _ _ h => h⟩
theorem Tups.trans {K : PySem.W.Frag} {H H1 H2 : Hp} (a : Tups K H H1) (b : Tups K H1 H2) : Tups K H H2 := ⟨fun x vs h => b.t x vs (a.t x vs h), fun x vs h => b.f x vs (a.f x vs h)⟩
section
variable {K : PySem.W.Frag} {H H' : Hp}
mutual
theorem Rep.mono (t : Tups K H H') : ∀ (d : D) {v : V}, Rep K H v d → Rep K H' v d
  | .non, _, h => by cases h; exact .non
  | .bl b, _, h => by cases h; exact .bl b
  | .int b, _, h => by cases h; exact .int b
  | .str b, _, h => by cases h; exact .str b
  | .ref b, _, h => by cases h; exact .ref b
  | .ty b, _, h => by cases h; exact .ty b
  | .tup ds, _, h => by
    cases h with
    | tup s r => exact .tup (t.t _ _ s) (Reps.mono t ds r)
  | .lro ds, _, h => by
    cases h with
    | lro s r => exact .lro (t.f _ _ s) (Reps.mono t ds r)
theorem Reps.mono (t : Tups K H H') : ∀ (ds : List D) {vs : List V}, Reps K H vs ds → Reps K H' vs ds
  | [], _, h => by cases h; exact .nil
  | d :: ds, _, h => by
    cases h with
    | cons a b => exact .cons (Rep.mono t d a) (Reps.mono t ds b)
end
theorem Rep.m {v : V} {d : D} (h : Rep K H v d) (t : Tups K H H') : Rep K H' v d := Rep.mono t d h
theorem Reps.m {vs : List V} {ds : List D} (h : Reps K H vs ds) (t : Tups K H H') : Reps K H' vs ds := Reps.mono t ds h
theorem Reps.length : ∀ {vs : List V} {ds : List D}, Reps K H vs ds → vs.length = ds.length
  | _, _, .nil => rfl
  | _, _, .cons _ t => by rw [List.length_cons, List.length_cons, Reps.length t]
theorem Reps.get : ∀ {vs : List V} {ds : List D} {i : Nat} {d : D}, Reps K H vs ds → ds[i]? = some d → ∃ v, vs[i]? = some v ∧ Rep K H v d
  | _, _, _, _, .nil, e => by simp at e
  | _, _, 0, _, .cons r _, e => by simp at e; subst e; exact ⟨_, rfl, r⟩
  | _, _, i + 1, d, .cons _ t, e => by
    obtain ⟨u, h1, h2⟩ := Reps.get (i := i) (d := d) t (by simpa using e)
    exact ⟨u, by simpa using h1, h2⟩
theorem Reps.getV : ∀ {vs : List V} {ds : List D} {i : Nat} {v : V}, Reps K H vs ds → vs[i]? = some v → ∃ d, ds[i]? = some d ∧ Rep K H v d
  | _, _, _, _, .nil, e => by simp at e
  | _, _, 0, _, .cons r _, e => by simp at e; subst e; exact ⟨_, rfl, r⟩
  | _, _, i + 1, d, .cons _ t, e => by
    obtain ⟨u, h1, h2⟩ := Reps.getV (i := i) (v := d) t (by simpa using e)
    exact ⟨u, by simpa using h1, h2⟩
theorem Reps.append : ∀ {vs ws : List V} {ds es : List D}, Reps K H vs ds → Reps K H ws es → Reps K H (vs ++ ws) (ds ++ es)
  | _, _, _, _, .nil, s => s
  | _, _, _, _, .cons r t, s => .cons r (Reps.append t s)
theorem Reps.take : ∀ {vs : List V} {ds : List D} (n : Nat), Reps K H vs ds → Reps K H (vs.take n) (ds.take n)
  | _, _, 0, _ => .nil
  | _, _, _ + 1, .nil => .nil
  | _, _, n + 1, .cons r t => .cons r (Reps.take n t)
theorem Reps.drop : ∀ {vs : List V} {ds : List D} (n : Nat), Reps K H vs ds → Reps K H (vs.drop n) (ds.drop n)
  | _, _, 0, r => r
  | _, _, _ + 1, .nil => .nil
  | _, _, n + 1, .cons _ t => Reps.drop n t
theorem Reps.reverse : ∀ {vs : List V} {ds : List D}, Reps K H vs ds → Reps K H vs.reverse ds.reverse
  | _, _, .nil => .nil
  | _, _, .cons r t => by
    rw [List.reverse_cons, List.reverse_cons]
    exact (Reps.reverse t).append (.cons r .nil)
theorem Reps.set {v : V} {d : D} (r : Rep K H v d) : ∀ {vs : List V} {ds : List D} (i : Nat), Reps K H vs ds → Reps K H (vs.set i v) (ds.set i d)
  | _, _, _, .nil => .nil
  | _, _, 0, .cons _ t => .cons r t
  | _, _, i + 1, .cons q t => .cons q (Reps.set r i t)
theorem Reps.dropLast : ∀ {vs : List V} {ds : List D}, Reps K H vs ds → Reps K H vs.dropLast ds.dropLast
  | _, _, .nil => .nil
  | _, _, .cons _ .nil => .nil
  | _, _, .cons r (.cons q t) => .cons r (Reps.dropLast (.cons q t))
end

/-! ## constants of the context -/
structure Cn where
  P : Program
  w : World
  K : PySem.W.Frag
  CA : String → Addr
abbrev cn (X : Cx) (CA : String → Addr) : Cn := ⟨X.prog, X.w, X.K, CA⟩

/-! ## what stands at an address -/
mutual
/-- a key of nested tuples -/
def nkD : D → NestedKey
  | .non => .none
  | .int i => .num i
  | .str x => .text x
  | .tup xs => .tup (nkDs xs)
  | _ => .none
def nkDs : List D → List NestedKey
  | [] => []
  | x :: xs => nkD x :: nkDs xs
end
abbrev Ent := NestedKey × Addr × V
def NDict (c : Cn) (a : Addr) (es : List Ent) : HO := .ext fun h => es.length ≤ sizeLine ∧ (a == sysModules) = false ∧
  ∃ xs : List (NestedKey × Addr × Value), Paired (fun (p : Ent) (q : NestedKey × Addr × Value) => p.1 = q.1 ∧ p.2.1 = q.2.1 ∧ RelV p.2.2 q.2.2) es xs ∧
    (∃ o es ep, h.get? a = some o ∧ o.ExactDict ∧ o.data = .dict es ep ∧ es.toList = xs.map (entryOfKey (nestedKind c.P c.w))) ∧ (xs.map (·.1)).Nodup
abbrev PKV (K : PySem.W.Frag) (H : Hp) : List (L2.Key × V) → List (Key × D) → Prop := Paired fun p q => p.1 = q.1 ∧ Rep K H p.2 q.2
abbrev PFs (K : PySem.W.Frag) (H : Hp) : List (Str × V) → List (Str × D) → Prop := Paired fun p q => p.1 = q.1 ∧ Rep K H p.2 q.2
def RepO (c : Cn) (H : Hp) (a : Addr) : O → Prop
  | .lst xs => ∃ vs, H a = some (.lst vs) ∧ Reps c.K H vs xs
  | .dk kvs => ∃ vs : List (L2.Key × V), H a = some (.dK vs) ∧ PKV c.K H vs kvs
  | .dn kvs => ∃ es : List Ent, H a = some (NDict c a es) ∧ Paired (fun (p : Ent) (q : D × D) => p.1 = nkD q.1 ∧ nkOk q.1 = true ∧ Rep c.K H (.ref p.2.1) q.1 ∧ Rep c.K H p.2.2 q.2) es kvs
  | .ins C fs => ∃ (dx : Addr) (vs : List (Str × V)), H a = some (.ins (c.CA C) dx vs) ∧ PFs c.K H vs fs
def R (c : Cn) (M : Sto) (H : Hp) : Prop := ∀ a o, M a = some o → RepO c H a o
section
variable {c : Cn} {M : Sto} {H H' : Hp} {a p : Addr} {o : O} {ho : HO}
theorem paired_mono {α β : Type} {F G : α → β → Prop} {l : List α} {r : List β} (h : Paired F l r) (f : ∀ a b, F a b → G a b) : Paired G l r := Paired.mapP h f
theorem PFs.m {K : PySem.W.Frag} {H H' : Hp} {vs : List (Str × V)} {fs : List (Str × D)} (h : PFs K H vs fs) (t : Tups K H H') : PFs K H' vs fs := paired_mono h fun _ _ z => ⟨z.1, z.2.m t⟩
theorem RepO.mono (h : RepO c H a o) (t : Tups c.K H H') (e : H' a = H a) : RepO c H' a o := by
  cases o with
  | lst xs => obtain ⟨vs, h1, h2⟩ := h; exact ⟨vs, by rw [e]; exact h1, h2.m t⟩
  | dk kvs => obtain ⟨vs, h1, h2⟩ := h; exact ⟨vs, by rw [e]; exact h1, paired_mono h2 fun p q z => ⟨z.1, z.2.m t⟩⟩
  | dn kvs => obtain ⟨vs, h1, h2⟩ := h; exact ⟨vs, by rw [e]; exact h1, paired_mono h2 fun p q z => ⟨z.1, z.2.1, z.2.2.1.m t, z.2.2.2.m t⟩⟩
  | ins C fs => obtain ⟨dx, vs, h1, h2⟩ := h; exact ⟨dx, vs, by rw [e]; exact h1, h2.m t⟩
theorem ne_frz {u : HO} (h : match u with | .frz _ _ => False | _ => True) : ∀ o xs, u ≠ .frz o xs := by
  intro o xs z; subst z; exact h
theorem RepO.there (h : RepO c H a o) : ∃ u, H a = some u ∧ ∀ o xs, u ≠ .frz o xs := by
  cases o with
  | lst xs => obtain ⟨vs, h1, h2⟩ := h; exact ⟨_, h1, ne_frz trivial⟩
  | dk kvs => obtain ⟨vs, h1, h2⟩ := h; exact ⟨_, h1, ne_frz trivial⟩
  | dn kvs => obtain ⟨vs, h1, h2⟩ := h; exact ⟨_, h1, ne_frz trivial⟩
  | ins C fs => obtain ⟨dx, vs, h1, h2⟩ := h; exact ⟨_, h1, ne_frz trivial⟩
theorem tups_at {K : PySem.W.Frag} (n : ∀ o xs, H p ≠ some (.frz o xs)) : Tups K H (upd H p ho) := by
  refine ⟨fun a vs h => ?_, fun a vs h => ?_⟩
  · rcases h with ⟨u, h⟩ | h
    · exact .inl ⟨u, by rw [upd_ne (fun z => n _ _ (by rw [← z]; exact h))]; exact h⟩
    · exact .inr h
  · rcases h with ⟨u, h⟩ | h
    · exact .inl ⟨u, by rw [upd_ne (fun z => n u _ (by rw [← z]; exact h))]; exact h⟩
    · exact .inr h
theorem Tups.new {K : PySem.W.Frag} (hp : H p = none) : Tups K H (upd H p ho) := tups_at fun _ _ => by rw [hp]; exact nofun
/-- what may be written is no tuple -/
theorem Tups.wr {K : PySem.W.Frag} {u : HO} (hp : H p = some u) (nf : ∀ o xs, u ≠ .frz o xs) : Tups K H (upd H p ho) := tups_at
  fun o xs => by rw [hp]; exact fun z => nf o xs (Option.some.inj z)
theorem RepO.wr {K : PySem.W.Frag} (h : RepO c H a o) : Tups K H (upd H a ho) := let ⟨_, e, f⟩ := h.there; Tups.wr e f
theorem R.fresh (r : R c M H) (h : H p = none) : M p = none := by
  cases e : M p with
  | none => rfl
  | some o =>
    obtain ⟨u, q, _⟩ := (r p o e).there
    rw [h] at q; cases q
/-- one address is written (or new), all else stands -/
theorem R.at (r : R c M H) (t : Tups c.K H (upd H a ho)) (n : RepO c (upd H a ho) a o) : R c (M.set a o) (upd H a ho) := fun b u e => by
  by_cases hb : b = a
  · subst hb; rw [set_same] at e; cases e; exact n
  · rw [set_ne hb] at e; exact (r b u e).mono t (upd_ne hb)
theorem R.keep (r : R c M H) (h : H p = none) : R c M (upd H p ho) := fun b u e => by
  refine (r b u e).mono (Tups.new h) (upd_ne ?_)
  rintro rfl
  rw [r.fresh h] at e; cases e
end

/-! ## names -/
inductive RelEnv (K : PySem.W.Frag) (H : Hp) : L2.St → Ev → Prop
  | nil : RelEnv K H [] []
  | cons {ov : Option V} {od : Option D} {σ : L2.St} {env : Ev} : (∀ d, od = some d → ∃ v, ov = some v ∧ Rep K H v d) → RelEnv K H σ env → RelEnv K H (ov :: σ) (od :: env)
section
variable {K : PySem.W.Frag} {H H' : Hp}
theorem RelEnv.mono (t : Tups K H H') : ∀ {σ : L2.St} {env : Ev}, RelEnv K H σ env → RelEnv K H' σ env
  | _, _, .nil => .nil
  | _, _, .cons h r => .cons (fun d e => let ⟨v, a, b⟩ := h d e; ⟨v, a, b.m t⟩) (RelEnv.mono t r)
theorem RelEnv.get : ∀ {σ : L2.St} {env : Ev} {i : Nat} {d : D}, RelEnv K H σ env → gt env i = some d → ∃ v, σ[i]? = some (some v) ∧ Rep K H v d
  | _, _, _, _, .nil, e => by simp [gt] at e
  | _, _, 0, d, .cons h _, e => by
    obtain ⟨v, a, b⟩ := h d e
    exact ⟨v, by simp [a], b⟩
  | _, _, i + 1, d, .cons _ r, e => by
    obtain ⟨v, a, b⟩ := RelEnv.get (i := i) r e
    exact ⟨v, by simpa using a, b⟩
theorem RelEnv.put {v : V} {d : D} (q : Rep K H v d) : ∀ {σ : L2.St} {env : Ev} (i : Nat), RelEnv K H σ env → RelEnv K H (σ.set i (some v)) (put env i d)
  | _, _, _, .nil => .nil
  | _, _, 0, .cons _ r => .cons (fun d' e => ⟨v, rfl, by cases e; exact q⟩) r
  | _, _, i + 1, .cons h r => .cons h (RelEnv.put q i r)
theorem RelEnv.clear : ∀ {σ : L2.St} {env : Ev} (i : Nat), RelEnv K H σ env → RelEnv K H (σ.set i none) (env.set i none)
  | _, _, _, .nil => .nil
  | _, _, 0, .cons _ r => .cons (nofun) r
  | _, _, i + 1, .cons h r => .cons h (RelEnv.clear i r)
theorem RelEnv.nones : ∀ (n : Nat), RelEnv K H (List.replicate n none) (List.replicate n none)
  | 0 => .nil
  | n + 1 => .cons nofun (RelEnv.nones n)
theorem RelEnv.app : ∀ {vs : List V} {ds : List D} {σ : L2.St} {env : Ev}, Reps K H vs ds → RelEnv K H σ env → RelEnv K H (vs.map some ++ σ) (ds.map some ++ env)
  | _, _, _, _, .nil, r => r
  | _, _, _, _, .cons q s, r => .cons (fun d e => ⟨_, rfl, by cases e; exact q⟩) (RelEnv.app s r)
theorem RelEnv.start {N : List Str} {vs : List V} {ds : List D} (r : Reps K H vs ds) : RelEnv K H (L2.start N vs) (start N.length ds) := by
  unfold L2.start DL.start
  rw [← r.length]
  exact RelEnv.app r (RelEnv.nones _)
end
end DL

set_option Elab.async false
set_option linter.all false
set_option maxRecDepth 100000
set_option maxHeartbeats 4000000
/-! DT: tuples, known to the object: made by a display, +, a slice, tuple(..), [::-1] -/
namespace DL
open PySem PySem.Spec PyProof.Rows L2
section
variable {X : Cx} {e : Expr} {es : List Expr} {te : TE} {t : TA} {pos : Pos} {pins : List (Addr × Obj)} {σ : L2.St} {H : Hp} {s : Shared}
theorem layT {xs : List V} {its : List Value} {h' : Heap} (I : Inv X pins σ H s) (k : ∀ b o, s.heap.get? b = some o → h'.get? b = some o) (r : Vals xs its) (z : xs.length ≤ sizeLine) {Q : VK} (hs : s.heap.objs.size ≤ h'.objs.size)
    (q : ∀ p its, H p = none → Q (.ref p) (upd H p (.frz (TupO its) (.tup xs)))) : EP X pins σ Q (.ref h'.objs.size) { s with heap := h'.push (TupO its) } := by
  have I1 : Inv X pins σ H { s with heap := h' } := I.kept (t' := s.toks) k
  refine ⟨.ref h'.objs.size, upd H h'.objs.size (.frz (TupO its) (.tup xs)), I1.laid (t' := s.toks) (fun b o e => Heap.get?_push_of_some _ e) (Nat.le_refl _) ?_, rfl, q _ _ (I1.hok.fresh (Nat.le_refl _))⟩
  exact ⟨Heap.get?_push_size _ rfl, z, its, r, _, Heap.get?_push_size _ rfl, rfl, _, rfl⟩
def tTupF (t : TA) : TE := fun σ H Q => t σ H fun xs H1 => xs.length ≤ sizeLine ∧ ∀ p its, H1 p = none → Q (.ref p) (upd H1 p (.frz (TupO its) (.tup xs)))
theorem pe_tupF {x1} (h : PA X es t) : PE X (.Tuple es x1 pos) (tTupF t) := by
  refine ⟨fun pins s σ H Q I hq => ?_⟩
  refine wpAny_Tuple_spliced (thn (h.run pos pins s σ H _ I hq) fun us s1 ⟨xs, H1, I1, r, z, q⟩ => ⟨by rw [← r.length]; exact z, ?_⟩)
  exact layT I1 (fun _ _ e => e) r z (Nat.le_refl _) q
def rCatF (K : PySem.W.Frag) : R2 := fun x y H Q => ∃ a b xs ys, x = .ref a ∧ y = .ref b ∧ SqT K H a xs ∧ SqT K H b ys ∧ xs.length + ys.length ≤ sizeLine ∧
  (xs = [] → Q (.ref b) H) ∧ (xs ≠ [] → ys = [] → Q (.ref a) H) ∧ (xs ≠ [] → ys ≠ [] → ∀ p its, H p = none → Q (.ref p) (upd H p (.frz (TupO its) (.tup (xs ++ ys)))))
theorem op_catF : OpR X (binaryOp .Add) (rCatF X.K) := by
  intro pins s σ H x y v u Q I rx ry h
  obtain ⟨a, b, xs, ys, rfl, rfl, ha, hb, hz, q0, q1, q2⟩ := h
  cases rx
  cases ry
  obtain ⟨its, r1, p1, _⟩ := I.tuple ha
  obtain ⟨its2, r2, p2, _⟩ := I.tuple hb
  by_cases hx : xs = []
  · subst hx
    cases r1
    exact cat_tup0 p1 p2 ⟨.ref b, H, I, rfl, q0 rfl⟩
  · refine HT.cat_tup p1 p2 (fun z => hx (r1.nil_iff.mp z)) (fun z => ⟨.ref a, H, I, rfl, q1 hx (r2.nil_iff.mp z)⟩) (fun z => ?_) (by rw [← r1.length, ← r2.length]; exact hz)
    exact layT I (fun _ _ e => e) (r1.append r2) (by rw [List.length_append]; exact hz) (Nat.le_refl _) (q2 hx fun w => z (r2.nil_iff.mpr w))
def rSlF (K : PySem.W.Frag) : V → Option Int → Option Int → Hp → VK → Prop := fun x lo hi H Q => ∃ a xs, x = .ref a ∧ SqT K H a xs ∧
  (HT.sIx xs.length 0 lo = 0 ∧ HT.sIx xs.length xs.length hi = xs.length → Q (.ref a) H) ∧ (¬ (HT.sIx xs.length 0 lo = 0 ∧ HT.sIx xs.length xs.length hi = xs.length) → ∀ p its, H p = none → Q (.ref p) (upd H p (.frz (TupO its) (.tup (cutV xs lo hi)))))
theorem sl_tupF : SlR X (rSlF X.K) := by
  intro pins s σ H x v vl vu lo hi sl Q I rx hs pl pu h
  obtain ⟨a, xs, rfl, hx, q1, q2⟩ := h
  cases rx
  obtain ⟨its, r, ht, hz⟩ := I.tuple hx
  have hlen : its.toArray.size = xs.length := by rw [List.size_toArray]; exact r.length.symm
  refine ⟨"tuple", _, PyProof.Rows.slot_tuple_getitem.lookup, ht.typeIs, ?_⟩
  by_cases hw : HT.sIx xs.length 0 lo = 0 ∧ HT.sIx xs.length xs.length hi = xs.length
  · exact getItem_tuple_whole ht hs pl pu (by rw [hlen]; exact hw) ⟨.ref a, H, I, rfl, q1 hw⟩
  · refine HT.getItem_tuple_cut ht hs pl pu (by rw [hlen]; exact hw) ?_ (by rw [hlen]; exact hz)
    rw [hlen]
    exact layT I (fun _ _ e => e) ((r.drop (HT.sIx xs.length 0 lo)).take (HT.sIx xs.length xs.length hi - HT.sIx xs.length 0 lo)) (Nat.le_trans (cutV_length xs lo hi) hz) (Nat.le_refl _) (q2 hw)
theorem call_tupleF : CallR X (.type "tuple") (fun xs H Q => ∃ p ys, xs = [.ref p] ∧ ((SqL X.K H p ys ∧ ∀ l its, H l = none → Q (.ref l) (upd H l (.frz (TupO its) (.tup ys)))) ∨ (SqT X.K H p ys ∧ Q (.ref p) H))) := by
  intro pins s σ H xs us Q I r h
  obtain ⟨p, ys, rfl, h⟩ := h
  obtain ⟨u, rfl, rx⟩ := vals1 r
  cases rx
  rcases h with ⟨hq, q⟩ | ⟨hq, q⟩
  · obtain ⟨its, r', pl, hz⟩ := I.list hq
    have hlen := r'.length
    refine call_tuple_list pl.isList (fun h' kp => ?_) (by simp only [List.size_toArray] <;> omega)
    have I1 : Inv X pins σ H { s with heap := h' } := I.kept (t' := s.toks) kp
    exact layT (s := { s with heap := h' }) I1 (fun _ _ e => e) r' hz (Nat.le_refl _) q
  · obtain ⟨its, r', pl, hz⟩ := I.tuple hq
    exact call_tuple_same pl ⟨.ref p, H, I, rfl, q⟩
end
section
variable {prog : Program} {w : World} {A : Around} {E : Value → Shared → Prop} {s : Shared}
theorem sliceApplied_rev {sl : Addr} {vl vu vs : Value} {n : Nat} {Q : Int × Int × Nat → Shared → Prop} (hs : s.heap.IsSliceOf sl vl vu vs) (pl : IsPart vl none) (pu : IsPart vu none) (ps : IsPart vs (some (-1)))
    (h : Q ((n : Int) - 1, -1, n) s) : wpAny (model prog w) A (Builtin.Slice.sliceApplied (.ref sl) (pure (n : Int))) Q E s := by
  obtain ⟨os, hos, hcs, hds⟩ := id hs
  unfold Builtin.Slice.sliceApplied Builtin.Slice.sliceFields
  refine wpAny_bind (wpAny_bind (wpAny_field hos hds (x := vl) rfl (wpAny_bind (wpAny_field hos hds (x := vu) rfl (wpAny_bind (wpAny_field hos hds (x := vs) rfl (wpAny_pure ?_)))))))
  refine wpAny_bind (HT.slicePart_ ps ?_)
  show wpAny _ _ (if ((-1 : Int) == 0) = true then _ else _) _ _ s
  rw [if_neg (by decide)]
  refine wpAny_bind (HT.slicePart_ pl (wpAny_bind (HT.slicePart_ pu (wpAny_bind (wpAny_pure ?_)))))
  show wpAny _ _ (match Builtin.Slice.sliceAdjust none none (-1) (n : Int) with | (lo, hi) => pure (lo, (-1 : Int), Builtin.Slice.slicePlaces lo hi (-1))) _ _ s
  have e : Builtin.Slice.sliceAdjust none none (-1) (n : Int) = ((n : Int) - 1, -1) := by
    unfold Builtin.Slice.sliceAdjust
    rfl
  rw [e]
  show wpAny _ _ (pure ((n : Int) - 1, (-1 : Int), Builtin.Slice.slicePlaces ((n : Int) - 1) (-1) (-1))) _ _ s
  have e2 : Builtin.Slice.slicePlaces ((n : Int) - 1) (-1) (-1) = n := by
    unfold Builtin.Slice.slicePlaces
    have h1 : ¬ ((-1 : Int) > 0) := by decide
    simp only [h1, if_false]
    split
    · rw [show (- -1 : Int) = 1 by decide, Int.ediv_one]; omega
    · omega
  rw [e2]
  exact wpAny_pure h
theorem pick_rev (xs : Array Value) : ((List.range xs.size).filterMap fun (k : Nat) => xs[((xs.size : Int) - 1 + (k : Int) * (-1)).toNat]?).toArray = xs.toList.reverse.toArray := by
  have e : (List.range xs.size).filterMap (fun (k : Nat) => xs[((xs.size : Int) - 1 + (k : Int) * (-1)).toNat]?) = ((List.range xs.size).map fun k => xs.size - 1 - k).filterMap (xs[·]?) := by
    rw [List.filterMap_map]
    have key : ∀ (l : List Nat), (∀ k ∈ l, k < xs.size) → l.filterMap (fun (k : Nat) => xs[((xs.size : Int) - 1 + (k : Int) * (-1)).toNat]?) = l.filterMap ((fun x => xs[x]?) ∘ fun k => xs.size - 1 - k) := by
      intro l
      induction l with
      | nil => intro _; rfl
      | cons k r ih =>
        intro hl
        have h1 := hl k List.mem_cons_self
        have h2 : ((xs.size : Int) - 1 + (k : Int) * (-1)).toNat = xs.size - 1 - k := by omega
        rw [List.filterMap_cons, List.filterMap_cons, ih fun j hj => hl j (List.mem_cons_of_mem _ hj), h2]
        rfl
    exact key _ fun k hk => List.mem_range.mp hk
  rw [e, PySem.W.krv_range, List.filterMap_reverse, PySem.W.krv_all]
theorem getItem_tuple_rev {t sl : Addr} {items : Array Value} {vl vu vs : Value} {Q : Value → Shared → Prop} (ht : IsTup s.heap t items) (hs : s.heap.IsSliceOf sl vl vu vs) (pl : IsPart vl none) (pu : IsPart vu none) (ps : IsPart vs (some (-1)))
    (h : Q (.ref s.heap.objs.size) { s with heap := s.heap.push { cls := .type "tuple", data := .seq items.toList.reverse.toArray } })
    (hsz : items.size ≤ sizeLine) : wpAny (model prog w) A (getItem (.ref t) (.ref sl)) Q E s := by
  have htake : sizeOk (.seq items.toList.reverse.toArray) := by
    show items.toList.reverse.toArray.size ≤ sizeLine
    rw [List.size_toArray, List.length_reverse, Array.length_toList]
    exact hsz
  obtain ⟨os, hos, hcs, hds⟩ := id hs
  have hTs : s.TypeIs (.ref sl) "slice" := ⟨os, hos, hcs⟩
  unfold getItem
  try with_reducible refine wpAny_holding ?_
  first | refine wpAny_bind (wpAny_pure ?_) | skip
  refine wpAny_bind (wpAny_sequenceKey ht.typeIs (by decide) ?_)
  refine wpAny_bind (wpAny_callSpecial?_slot (name := Str.ofString "__getitem__") ht.typeIs PyProof.Rows.slot_tuple_getitem
    (wpAny_call_entry PyProof.Rows.slot_tuple_getitem ht.typeIs entry_tuple_getitem ?_ (args_tuple_getitem _ _)))
  show wpAny _ _ (Builtin.Tuple.tupleItemsOf (.ref t) >>= _) _ _ s
  refine wpAny_bind (tupleItemsOf_ ht ?_)
  refine wpAny_bind (wpAny_typeOf hTs ?_)
  rw [if_pos (by decide)]
  refine wpAny_bind (sliceApplied_rev hs pl pu ps ?_)
  have hno : ¬ ((((items.size : Int) - 1) == 0 && (-1 : Int) == 1 && items.size == items.size) = true) := by
    intro q
    rw [Bool.and_eq_true, Bool.and_eq_true] at q
    exact absurd q.1.2 (by decide)
  show wpAny _ _ (if (((items.size : Int) - 1) == 0 && (-1 : Int) == 1 && items.size == items.size) = true then _ else _) _ _ s
  rw [if_neg hno, pick_rev]
  first
    | exact wpAny_bind (m := Builtin.Tuple.tupleExact _) (wpAny_newObj_type (wpAny_pure ⟨_, rfl, wpAny_pure h⟩) htake)
    | exact wpAny_bind (m := Builtin.Tuple.tupleExact _) (wpAny_newObj_type (wpAny_bind (wpAny_pure (wpAny_pure ⟨_, rfl, wpAny_pure h⟩))) htake)
end
section
variable {X : Cx} {e : Expr} {te : TE} {pos : Pos}
/-- x[::-1] of a tuple or a list -/
def tRevF (K : PySem.W.Frag) (te : TE) : TE := fun σ H Q => te σ H fun x H1 => ∃ a xs, x = .ref a ∧ ((SqT K H1 a xs ∧ ∀ p its, H1 p = none → Q (.ref p) (upd H1 p (.frz (TupO its) (.tup xs.reverse)))) ∨ (SqL K H1 a xs ∧ ∀ p, H1 p = none → Q (.ref p) (upd H1 p (.lst xs.reverse))))
theorem pe_revF {k : Nat} {p1 p2 p3 : Pos} (he : PE X e te) : PE X (.Subscript e (.Slice none none (some (.UnaryOp .USub (.Constant (.int 1) k p1) p2)) p3) pos) (tRevF X.K te) := by
  refine ⟨fun pins s σ H Q I h => ?_⟩
  refine Subscript_ (thn (he.run pins s σ H _ I h) fun v s1 ⟨x, H1, I1, r1, q1⟩ => ?_)
  obtain ⟨a, xs, ex, q1⟩ := q1
  subst ex
  cases r1
  have hst : PO X (some (.UnaryOp .USub (.Constant (.int 1) k p1) p2)) (tPart (tUn (rU fun i => .int (-i)) (tC (.int 1)))) := po_some (pe_un un_neg pe_int)
  refine wpAny_Slice (thn (po_none.run pins s1 σ H1 (fun o H2 => o = none ∧ H2 = H1) I1 ⟨rfl, rfl⟩) fun vl s2 ⟨l, H2, I2, pl, el, e2⟩ => ?_)
  subst el e2
  refine thn (po_none.run pins s2 σ H2 (fun o H3 => o = none ∧ H3 = H2) I2 ⟨rfl, rfl⟩) fun vu s3 ⟨u, H3, I3, pu, eu, e3⟩ => ?_
  subst eu e3
  refine thn (hst.run pins s3 σ H3 (fun o H4 => o = some (-1) ∧ H4 = H3) I3 ⟨1, rfl, -1, rfl, rfl, rfl⟩) fun vs s4 ⟨o, H4, I4, ps, eo, e4⟩ => ?_
  subst eo e4
  have I5 : Inv X pins σ H4 { s4 with heap := s4.heap.push { cls := .type "slice", data := .fields #[vl, vu, vs] } } := I4.kept (t' := s4.toks) fun b ob q => Heap.get?_push_of_some _ q
  show wpAny (model X.prog X.w) X.A (subscriptTail e (.Slice none none (some (.UnaryOp .USub (.Constant (.int 1) k p1) p2)) p3) (.ref a) (.ref s4.heap.objs.size)) (EP X pins σ Q) X.xe { s4 with heap := s4.heap.push { cls := .type "slice", data := .fields #[vl, vu, vs] } }
  rcases q1 with ⟨hx, q⟩ | ⟨hx, q⟩
  · obtain ⟨its, r, ht, hz⟩ := I5.tuple hx
    have hlen := r.length
    refine tail_any (ops := [.ref a, .ref s4.heap.objs.size]) ht.typeIs (PyProof.Rows.slot_tuple_getitem.lookup) ?_ (by with_unfolding_all rfl)
    refine getItem_tuple_rev ht (Heap.IsSliceOf.new _ vl vu vs) pl pu ps ?_ (by rw [List.size_toArray]; omega)
    exact layT I5 (fun _ _ e => e) r.reverse (by rw [List.length_reverse]; exact hz) (Nat.le_refl _) q
  · obtain ⟨its, r, ht, hz⟩ := I5.list hx
    have hlen := r.length
    refine tail_any (ops := [.ref a, .ref s4.heap.objs.size]) ht.isList.typeIs (PySem.slot_list_getitem.lookup) ?_ (by with_unfolding_all rfl)
    refine wpAny_getItem_list_slice ht.isList (Heap.IsSliceOf.new _ vl vu vs) pl pu ps (by decide) ?_ (by rw [List.size_toArray]; omega)
    rw [PySem.W.krv_pick]
    refine ⟨.ref _, _, I5.laid (t' := s4.toks) (o := .lst xs.reverse) (fun b ob q => Heap.get?_push_of_some _ q) (Nat.le_refl _) ?_, rfl, q _ (I5.hok.fresh (Nat.le_refl _))⟩
    exact ⟨by rw [List.length_reverse]; exact hz, _, 0, r.reverse, Heap.get?_push_size _ rfl⟩
end
end DL

set_option Elab.async false
set_option linter.all false
set_option maxRecDepth 100000
set_option maxHeartbeats 4000000
/-! DE: judgements; expressions -/
namespace DL
open PySem PySem.Spec PyProof.Rows L2
/-! ## the judgements -/
def KQ (c : Cn) (H : Hp) (Qd : KD) (Q : VK) : Prop := ∀ d M' v H', Qd d M' → Rep c.K H' v d → R c M' H' → Tups c.K H H' → Q v H'
def RepX (c : Cn) (H : Hp) (oa : Option Addr) (fs : List (Str × D)) : Prop := (oa = none ∧ fs = []) ∨ ∃ d vs, oa = some d ∧ H d = some (.xd vs) ∧ PFs c.K H vs fs
def KX (c : Cn) (H : Hp) (Ed : XW) (XE : XK) : Prop := ∀ C fs M' oa H', Ed C fs M' → RepX c H' oa fs → R c M' H' → Tups c.K H H' → XE (.ref (c.CA C)) oa H'
theorem KX.mono {c : Cn} {H H' : Hp} {Ed : XW} {XE : XK} (k : KX c H Ed XE) (t : Tups c.K H H') : KX c H' Ed XE := fun C fs M' oa H2 e x r t2 => k C fs M' oa H2 e x r (t.trans t2)
theorem KX.no {c : Cn} {H : Hp} {XE : XK} : KX c H X0 XE := fun _ _ _ _ _ e => e.elim
structure Pre (c : Cn) (XE : XK) (σ : L2.St) (H : Hp) (env : Ev) (M : Sto) (Ed : XW) : Prop where
  e : RelEnv c.K H σ env
  r : R c M H
  x : KX c H Ed XE
theorem Pre.to {c : Cn} {XE : XK} {σ : L2.St} {H H' : Hp} {env : Ev} {M M' : Sto} {Ed : XW} (p : Pre c XE σ H env M Ed) (t : Tups c.K H H') (r : R c M' H') : Pre c XE σ H' env M' Ed := ⟨p.e.mono t, r, p.x.mono t⟩
def tOf (c : Cn) (XE : XK) (f : WE) : TE := fun σ H Q => ∃ env M Ed Qd, Pre c XE σ H env M Ed ∧ f Ed env M Qd ∧ KQ c H Qd Q
def SE (X : Cx) (CA : String → Addr) (XE : XK) (e : Expr) (f : WE) : Prop := PE X e (tOf (cn X CA) XE f)
def tOfT (c : Cn) (XE : XK) (f : WT) : TT := fun σ H Q => ∃ env M Ed Qd, Pre c XE σ H env M Ed ∧ f Ed env M Qd ∧ ∀ b M' H', Qd b M' → R c M' H' → Tups c.K H H' → Q b H'
def ST (X : Cx) (CA : String → Addr) (XE : XK) (e : Expr) (f : WT) : Prop := PT X e (tOfT (cn X CA) XE f)
def SW (X : Cx) (CA : String → Addr) (XE : XK) (e : Expr) (f : WT) : Prop := PW X e (tOfT (cn X CA) XE f)
def tOfA (c : Cn) (XE : XK) (fs : List WE) : TA := fun σ H Q => ∃ env M Ed Qd, Pre c XE σ H env M Ed ∧ argsW fs Ed env M Qd ∧ ∀ ds M' vs H', Qd ds M' → Reps c.K H' vs ds → R c M' H' → Tups c.K H H' → vs.length = fs.length → Q vs H'
section
variable {X : Cx} {e : Expr} {es : List Expr}
theorem PE_weak {t t' : TE} (h : PE X e t) (w : ∀ σ H Q, t' σ H Q → t σ H Q) : PE X e t' := ⟨fun pins s σ H Q I q => h.run pins s σ H Q I (w σ H Q q)⟩
theorem PT_weak {t t' : TT} (h : PT X e t) (w : ∀ σ H Q, t' σ H Q → t σ H Q) : PT X e t' := ⟨fun pins s σ H Q I q => h.run pins s σ H Q I (w σ H Q q)⟩
theorem PW_weak {t t' : TT} (h : PW X e t) (w : ∀ σ H Q, t' σ H Q → t σ H Q) : PW X e t' := ⟨fun wh pins s σ H Q I q => h.run wh pins s σ H Q I (w σ H Q q)⟩
theorem PA_weak {t t' : TA} (h : PA X es t) (w : ∀ σ H Q, t' σ H Q → t σ H Q) : PA X es t' := ⟨fun pos pins s σ H Q I q => h.run pos pins s σ H Q I (w σ H Q q)⟩
end
section
variable {X : Cx} {CA : String → Addr} {XE : XK} {a b e : Expr} {es : List Expr} {f g h : WE} {fs : List WE} {pos : Pos}
/-! ## names and constants -/
theorem d_var (i : Nat) {x : Str} (hN : X.N[i]? = some x := by rfl) (hv : Vis X.env.scope x := by first | exact Or.inl rfl | exact Or.inr (Or.inl rfl) | exact Or.inr (Or.inr rfl)) (hd : (x == ("__debug__" : Str)) = false := by decide)
    (hcd : (x == ("__classdict__" : Str)) = false := by decide) : SE X CA XE (.Name x pos) (eVar i) :=
  PE_weak (pe_var hN hv hd hcd) fun σ H Q ⟨env, M, Ed, Qd, p, q, k⟩ => by
    unfold eVar at q
    split at q
    · rename_i d e
      obtain ⟨v, e1, r1⟩ := p.e.get e
      exact ⟨v, e1, k _ _ _ _ q r1 p.r .refl⟩
    · exact q.elim
theorem d_of {v : V} {d : D} (h : PE X e (tC v)) (r : ∀ H, Rep X.K H v d) : SE X CA XE e (eC d) :=
  PE_weak h fun σ H Q ⟨env, M, Ed, Qd, p, q, k⟩ => k _ _ _ _ q (r H) p.r .refl
theorem d_int {i j} : SE X CA XE (.Constant (.int i) j pos) (eC (.int i)) := d_of pe_int fun _ => .int i
theorem d_bl {b j} : SE X CA XE (.Constant (.bool b) j pos) (eC (.bl b)) := d_of pe_bl fun _ => .bl b
theorem d_non {j} : SE X CA XE (.Constant .none j pos) (eC .non) := d_of pe_non fun _ => .non
theorem d_str {x j} : SE X CA XE (.Constant (.str x) j pos) (eC (.str x)) := d_of pe_str fun _ => .str x
/-- a constant of the module -/
structure GRep (K : PySem.W.Frag) (mg : Str → Option Value) (x : Str) (d : D) : Prop where
  h : ∃ u v, mg x = some u ∧ RelV v u ∧ ∀ H, Rep K H v d
theorem d_glob {x : Str} {d : D} (G : GRep X.K X.mg x d) (hg : Gl X x := by rfl) (hd : (x == ("__debug__" : Str)) = false := by decide) : SE X CA XE (.Name x pos) (eC d) :=
  let ⟨_, _, hm, r, k⟩ := G.h
  d_of (pe_glob hg hm r hd) k
/-! ## argument lists, displays -/
inductive SAs (X : Cx) (CA : String → Addr) (XE : XK) : List Expr → List WE → Prop
  | nil : SAs X CA XE [] []
  | cons {e : Expr} {es : List Expr} {f : WE} {fs : List WE} (h : SE X CA XE e f) (r : SAs X CA XE es fs) (hs : starEach (e :: es) X.env = (false, eval e X.env) :: starEach es X.env) : SAs X CA XE (e :: es) (f :: fs)
theorem a_cons (h : SE X CA XE e f) (r : SAs X CA XE es fs) (hs : starEach (e :: es) X.env = (false, eval e X.env) :: starEach es X.env := by rfl) : SAs X CA XE (e :: es) (f :: fs) := .cons h r hs
theorem SAs.pa : ∀ {es : List Expr} {fs : List WE}, SAs X CA XE es fs → PA X es (tOfA (cn X CA) XE fs)
  | _, _, .nil => PA_weak pa_nil fun σ H Q ⟨env, M, Ed, Qd, p, q, k⟩ => k _ _ _ _ q .nil p.r .refl rfl
  | _, _, .cons h r hs => PA_weak (pa_cons h (SAs.pa r) hs) fun σ H Q ⟨env, M, Ed, Qd, p, q, k⟩ =>
    ⟨env, M, Ed, _, p, q, fun d1 M1 v1 H1 q1 r1 R1 T1 => ⟨env, M1, Ed, _, p.to T1 R1, q1, fun ds M2 vs H2 q2 r2 R2 T2 hl => k _ _ _ _ q2 (.cons (r1.m T2) r2) R2 (T1.trans T2) (by rw [List.length_cons, List.length_cons, hl])⟩⟩
theorem argsW_len : ∀ {fs : List WE} {E : XW} {env : Ev} {M : Sto} {Q : List D → Sto → Prop}, (∀ f ∈ fs, ∀ E env M Q Q', (∀ d M, Q d M → Q' d M) → f E env M Q → f E env M Q') → argsW fs E env M Q → argsW fs E env M fun ds M' => ds.length = fs.length ∧ Q ds M'
  | [], _, _, _, _, _, h => ⟨rfl, h⟩
  | f :: fs, E, env, M, Q, m, h => m f List.mem_cons_self _ _ _ _ _ (fun d M1 q => by
      have ih := argsW_len (fun f hf => m f (List.mem_cons_of_mem _ hf)) q
      simpa using ih) h
theorem lay_tup {c : Cn} {M : Sto} {H : Hp} {p : Addr} {xs : List V} {its : List Value} {ds : List D} (hp : H p = none) (r : Reps c.K H xs ds) (hR : R c M H) : Rep c.K (upd H p (.frz (TupO its) (.tup xs))) (.ref p) (.tup ds) ∧ R c M (upd H p (.frz (TupO its) (.tup xs))) ∧ Tups c.K H (upd H p (.frz (TupO its) (.tup xs))) :=
  ⟨.tup (.inl ⟨its, upd_same⟩) (r.m (Tups.new hp)), hR.keep hp, Tups.new hp⟩
theorem lay_lst {c : Cn} {M : Sto} {H : Hp} {p : Addr} {xs : List V} {ds : List D} (hp : H p = none) (r : Reps c.K H xs ds) (hR : R c M H) : R c (M.set p (.lst ds)) (upd H p (.lst xs)) ∧ Tups c.K H (upd H p (.lst xs)) :=
  ⟨hR.at (Tups.new hp) ⟨xs, upd_same, r.m (Tups.new hp)⟩, Tups.new hp⟩
theorem few {n : Nat} (h : n ≤ 1000) : n ≤ sizeLine := Nat.le_of_lt (small1000 h)
theorem d_tup {k : Nat} (h : SAs X CA XE es fs) (hl : fs.length ≤ 1000 := by exact Nat.le_of_ble_eq_true rfl) : SE X CA XE (.Tuple es k pos) (eTup fs) :=
  PE_weak (pe_tupF h.pa) fun σ H Q ⟨env, M, Ed, Qd, p, q, k⟩ => ⟨env, M, Ed, _, p, q, fun ds M1 vs H1 q1 r1 R1 T1 hn => ⟨by rw [hn]; exact few hl, fun a its ha => by
    obtain ⟨x, y, z⟩ := lay_tup ha r1 R1
    exact k _ _ _ _ q1 x y (T1.trans z)⟩⟩
theorem d_lst (h : SAs X CA XE es fs) (hl : fs.length ≤ 1000 := by exact Nat.le_of_ble_eq_true rfl) : SE X CA XE (.List es pos) (eLst fs) :=
  PE_weak (pe_lst h.pa) fun σ H Q ⟨env, M, Ed, Qd, p, q, k⟩ => ⟨env, M, Ed, _, p, q, fun ds M1 vs H1 q1 r1 R1 T1 hn => ⟨by rw [hn]; exact few hl, fun a ha => by
    obtain ⟨x, y⟩ := lay_lst ha r1 R1
    exact k _ _ _ _ (q1 a (R1.fresh ha)) (.ref a) x (T1.trans y)⟩⟩
/-! ## operators -/
def OpS (c : Cn) (op : B2) (r : R2) : Prop := ∀ v1 v2 d1 d2 M H Qd Q, Rep c.K H v1 d1 → Rep c.K H v2 d2 → R c M H → op d1 d2 M Qd → KQ c H Qd Q → r v1 v2 H Q
theorem KQ.mono {c : Cn} {H H' : Hp} {Qd : KD} {Q : VK} (k : KQ c H Qd Q) (t : Tups c.K H H') : KQ c H' Qd Q := fun d M v H2 q r R T => k d M v H2 q r R (t.trans T)
theorem d_bin {op : Operator} {r : R2} {b2 : B2} (ho : OpR X (binaryOp op) r) (hs : OpS (cn X CA) b2 r) (ha : SE X CA XE a f) (hb : SE X CA XE b g) : SE X CA XE (.BinOp a op b pos) (eBin b2 f g) :=
  PE_weak (pe_op ho ha hb) fun σ H Q ⟨env, M, Ed, Qd, p, q, k⟩ => ⟨env, M, Ed, _, p, q, fun d1 M1 v1 H1 q1 r1 R1 T1 => ⟨env, M1, Ed, _, p.to T1 R1, q1, fun d2 M2 v2 H2 q2 r2 R2 T2 => hs _ _ _ _ _ _ _ _ (r1.m T2) r2 R2 q2 (k.mono (T1.trans T2))⟩⟩
def rAddA (K : PySem.W.Frag) : R2 := fun x y H Q => rI0 (fun i j => .int (i + j)) x y H Q ∨ ((∃ i j, x = .str i ∧ y = .str j ∧ i.length + j.length ≤ sizeLine ∧ Q (.str (i ++ j)) H) ∨ (rCatF K x y H Q ∨ rCat x y H Q))
theorem op_addA : OpR X (binaryOp .Add) (rAddA X.K) := op_add.or (op_add_str.or (op_catF.or op_cat))
theorem addS {c : Cn} : OpS c opAdd (rAddA c.K) := by
  intro v1 v2 d1 d2 M H Qd Q r1 r2 hR h k
  unfold opAdd at h
  split at h
  · cases r1; cases r2
    exact .inl ⟨_, _, rfl, rfl, k _ _ _ _ h (.int _) hR .refl⟩
  · cases r1; cases r2
    exact .inr (.inl ⟨_, _, rfl, rfl, h.1, k _ _ _ _ h.2 (.str _) hR .refl⟩)
  · cases r1 with
    | @tup a1 vs1 _ s1 p1 =>
      cases r2 with
      | @tup a2 vs2 _ s2 p2 =>
        refine .inr (.inr (.inl ⟨_, _, _, _, rfl, rfl, s1.s, s2.s, by rw [p1.length, p2.length]; exact h.1, fun e => ?_, fun e1 e2 => ?_, fun e1 e2 p its hp => ?_⟩))
        · subst e
          cases p1
          exact k _ _ _ _ h.2 (.tup s2 p2) hR .refl
        · subst e2
          cases p2
          exact k _ _ _ _ h.2 (by rw [List.append_nil]; exact .tup s1 p1) hR .refl
        · obtain ⟨x, y, z⟩ := lay_tup hp (p1.append p2) hR
          exact k _ _ _ _ h.2 x y z
  · split at h
    · rename_i xs ys e1 e2
      cases r1; cases r2
      obtain ⟨vs, h1, p1⟩ := hR _ _ e1
      obtain ⟨ws, h2, p2⟩ := hR _ _ e2
      refine .inr (.inr (.inr ⟨_, _, _, _, rfl, rfl, h1, h2, by rw [p1.length, p2.length]; exact h.1, fun p hp => ?_⟩))
      obtain ⟨x, y⟩ := lay_lst hp (p1.append p2) hR
      exact k _ _ _ _ (h.2 p (hR.fresh hp)) (.ref p) x y
    · exact h.elim
  · exact h.elim
theorem d_add (ha : SE X CA XE a f) (hb : SE X CA XE b g) : SE X CA XE (.BinOp a .Add b pos) (eBin opAdd f g) := d_bin op_addA addS ha hb
theorem subS {c : Cn} : OpS c opSub (rI0 fun i j => .int (i - j)) := by
  intro v1 v2 d1 d2 M H Qd Q r1 r2 hR h k
  unfold opSub at h
  split at h
  · cases r1; cases r2
    exact ⟨_, _, rfl, rfl, k _ _ _ _ h (.int _) hR .refl⟩
  · exact h.elim
theorem d_sub (ha : SE X CA XE a f) (hb : SE X CA XE b g) : SE X CA XE (.BinOp a .Sub b pos) (eBin opSub f g) := d_bin op_sub subS ha hb
theorem op_mulX : OpR X (binaryOp .Mult) (rI IntMulOk fun i j => .int (i * j)) := opI fun _ _ _ _ _ _ _ hc q => mul_int q hc
theorem mulS {c : Cn} : OpS c opMul (rI IntMulOk fun i j => .int (i * j)) := by
  intro v1 v2 d1 d2 M H Qd Q r1 r2 hR h k
  unfold opMul at h
  split at h
  · cases r1; cases r2
    exact ⟨_, _, rfl, rfl, h.1, k _ _ _ _ h.2 (.int _) hR .refl⟩
  · exact h.elim
theorem d_mul (ha : SE X CA XE a f) (hb : SE X CA XE b g) : SE X CA XE (.BinOp a .Mult b pos) (eBin opMul f g) := d_bin op_mulX mulS ha hb
def CDivX (i j : Int) : Prop := j ≠ 0 ∧ Builtin.divisionGoesByPylong i j = false
theorem op_divX : OpR X (binaryOp .FloorDiv) (rI CDivX fun i j => .int (i.fdiv j)) := opI fun _ _ _ _ _ _ _ hc q => floordiv_int hc.1 q (.inl hc.2)
theorem divS {c : Cn} : OpS c opDiv (rI CDivX fun i j => .int (i.fdiv j)) := by
  intro v1 v2 d1 d2 M H Qd Q r1 r2 hR h k
  unfold opDiv at h
  split at h
  · cases r1; cases r2
    exact ⟨_, _, rfl, rfl, ⟨h.1, h.2.1⟩, k _ _ _ _ h.2.2 (.int _) hR .refl⟩
  · exact h.elim
theorem d_div (ha : SE X CA XE a f) (hb : SE X CA XE b g) : SE X CA XE (.BinOp a .FloorDiv b pos) (eBin opDiv f g) := d_bin op_divX divS ha hb
theorem modS {c : Cn} : OpS c opMod (rI (fun _ j => j ≠ 0) fun i j => .int (i.fmod j)) := by
  intro v1 v2 d1 d2 M H Qd Q r1 r2 hR h k
  unfold opMod at h
  split at h
  · cases r1; cases r2
    exact ⟨_, _, rfl, rfl, h.1, k _ _ _ _ h.2 (.int _) hR .refl⟩
  · exact h.elim
theorem d_mod (ha : SE X CA XE a f) (hb : SE X CA XE b g) : SE X CA XE (.BinOp a .Mod b pos) (eBin opMod f g) := d_bin op_modN modS ha hb
theorem powS {c : Cn} : OpS c opPow (rI CPow fun i j => .int (i ^ j.toNat)) := by
  intro v1 v2 d1 d2 M H Qd Q r1 r2 hR h k
  unfold opPow at h
  split at h
  · cases r1; cases r2
    exact ⟨_, _, rfl, rfl, ⟨h.1, h.2.1, h.2.2.1⟩, k _ _ _ _ h.2.2.2 (.int _) hR .refl⟩
  · exact h.elim
theorem d_pow (ha : SE X CA XE a f) (hb : SE X CA XE b g) : SE X CA XE (.BinOp a .Pow b pos) (eBin opPow f g) := d_bin op_pow powS ha hb
theorem d_neg (ha : SE X CA XE a f) : SE X CA XE (.UnaryOp .USub a pos) (eNeg f) :=
  PE_weak (pe_un un_neg ha) fun σ H Q ⟨env, M, Ed, Qd, p, q, k⟩ => ⟨env, M, Ed, _, p, q, fun d1 M1 v1 H1 q1 r1 R1 T1 => by
    split at q1
    · cases r1
      exact ⟨_, rfl, k _ _ _ _ q1 (.int _) R1 T1⟩
    · exact q1.elim⟩
/-! ## comparisons -/
def CmpS (c : Cn) (op : C2) (r : R2) : Prop := ∀ v1 v2 d1 d2 M H (kd : Bool → Prop) Q, Rep c.K H v1 d1 → Rep c.K H v2 d2 → R c M H → op d1 d2 M kd → (∀ b, kd b → Q (.bl b) H) → r v1 v2 H Q
theorem d_cmp {op : CmpOp} {r : R2} {c2 : C2} (ho : OpR X (compareOp op) r) (hs : CmpS (cn X CA) c2 r) (ha : SE X CA XE a f) (hb : SE X CA XE b g) (hm : behindInMarks op b = false) : SE X CA XE (.Compare a [op] [b] pos) (eCmp c2 f g) :=
  PE_weak (pe_cmpR ho ha hb hm) fun σ H Q ⟨env, M, Ed, Qd, p, q, k⟩ => ⟨env, M, Ed, _, p, q, fun d1 M1 v1 H1 q1 r1 R1 T1 => ⟨env, M1, Ed, _, p.to T1 R1, q1, fun d2 M2 v2 H2 q2 r2 R2 T2 =>
    hs _ _ _ _ _ _ _ _ (r1.m T2) r2 R2 q2 fun b q3 => k _ _ _ _ q3 (.bl b) R2 (T1.trans T2)⟩⟩
theorem t_cmp {op : CmpOp} {r : R2} {c2 : C2} (ho : OpR X (compareOp op) r) (hs : CmpS (cn X CA) c2 r) (ha : SE X CA XE a f) (hb : SE X CA XE b g) (hm : behindInMarks op b = false) : ST X CA XE (.Compare a [op] [b] pos) (tCmp c2 f g) :=
  PT_weak (pt_cmpR ho ha hb hm) fun σ H Q ⟨env, M, Ed, Qd, p, q, k⟩ => ⟨env, M, Ed, _, p, q, fun d1 M1 v1 H1 q1 r1 R1 T1 => ⟨env, M1, Ed, _, p.to T1 R1, q1, fun d2 M2 v2 H2 q2 r2 R2 T2 =>
    hs _ _ _ _ _ _ _ _ (r1.m T2) r2 R2 q2 fun b q3 => ⟨b, rfl, k _ _ _ q3 R2 (T1.trans T2)⟩⟩⟩
mutual
theorem Rep.dp {K : PySem.W.Frag} {H : Hp} : ∀ (d : D) {v : V}, Rep K H v d → SeqAt.shaped d.py = true → Dp K H v d.py
  | .non, _, h, _ => by cases h; exact .non
  | .bl b, _, h, _ => by cases h; exact .bl b
  | .int b, _, h, _ => by cases h; exact .int b
  | .str b, _, h, _ => by cases h; exact .str b
  | .ref b, _, h, z => by simp [D.py, SeqAt.shaped, PyData.canLay0] at z
  | .ty b, _, h, z => by simp [D.py, SeqAt.shaped, PyData.canLay0] at z
  | .lro b, _, h, z => by simp [D.py, SeqAt.shaped, PyData.canLay0] at z
  | .tup ds, _, h, z => by
    cases h with
    | tup s r =>
      refine .tup s.s (Reps.dp ds r ?_)
      simp only [D.py, SeqAt.shaped, PyData.canLay0, Bool.and_eq_true, decide_eq_true_eq, PyData.depth] at z
      exact ⟨z.1, by omega⟩
theorem Reps.dp {K : PySem.W.Frag} {H : Hp} : ∀ (ds : List D) {vs : List V}, Reps K H vs ds → PyData.canLayAll0 (D.pys ds) = true ∧ PyData.depthAll (D.pys ds) ≤ 64 → DpAll K H vs (D.pys ds)
  | [], _, h, _ => by cases h; exact .nil
  | d :: ds, _, h, z => by
    cases h with
    | cons a b =>
      simp only [D.pys, PyData.canLayAll0, PyData.depthAll, Bool.and_eq_true] at z
      exact .cons (Rep.dp d a (by simp only [SeqAt.shaped, Bool.and_eq_true, decide_eq_true_eq]; exact ⟨z.1.1, by omega⟩)) (Reps.dp ds b ⟨z.1.2, by omega⟩)
end
def rEqA (K : PySem.W.Frag) : R2 := fun x y H Q => rEq x y H Q ∨ rEqD K x y H Q
def rNeA (K : PySem.W.Frag) : R2 := fun x y H Q => rNe x y H Q ∨ rNeD K x y H Q
theorem eqS {c : Cn} : CmpS c cEq (rEqA c.K) := by
  intro v1 v2 d1 d2 M H kd Q r1 r2 hR h k
  unfold cEq at h
  split at h
  · cases r1; cases r2
    exact .inl ⟨rfl, by rw [dec_int, Bool.beq_eq_decide_eq]; exact k _ h⟩
  · cases r1; cases r2
    exact .inl ⟨rfl, by rw [dec_str, Bool.beq_eq_decide_eq]; exact k _ h⟩
  · cases r1; cases r2
    exact .inl ⟨rfl, by rw [dec_bl]; exact k _ h⟩
  · exact .inr ⟨_, _, r1.dp _ h.1, r2.dp _ h.2.1, h.1, h.2.1, k _ h.2.2⟩
theorem neS {c : Cn} : CmpS c cNe (rNeA c.K) := by
  intro v1 v2 d1 d2 M H kd Q r1 r2 hR h k
  unfold cNe cEq at h
  split at h
  · cases r1; cases r2
    exact .inl ⟨rfl, by rw [dec_int, Bool.beq_eq_decide_eq]; exact k _ h⟩
  · cases r1; cases r2
    exact .inl ⟨rfl, by rw [dec_str, Bool.beq_eq_decide_eq]; exact k _ h⟩
  · cases r1; cases r2
    exact .inl ⟨rfl, by rw [dec_bl]; exact k _ h⟩
  · exact .inr ⟨_, _, r1.dp _ h.1, r2.dp _ h.2.1, h.1, h.2.1, k _ h.2.2⟩
theorem op_eqA {k : Nat} (hr : Room k X.A) : OpR X (compareOp .Eq) (rEqA X.K) := op_eq.or (op_eqD hr.units)
theorem op_neA {k : Nat} (hr : Room k X.A) : OpR X (compareOp .NotEq) (rNeA X.K) := op_ne.or (op_neD hr.units)
theorem intCmp {c : Cn} {p : Int → Int → Bool} {c2 : C2} (h : ∀ x y M k, c2 x y M k → ∃ i j, x = .int i ∧ y = .int j ∧ k (p i j)) : CmpS c c2 (rI0 fun i j => .bl (p i j)) := by
  intro v1 v2 d1 d2 M H kd Q r1 r2 hR q k
  obtain ⟨i, j, rfl, rfl, q'⟩ := h _ _ _ _ q
  cases r1; cases r2
  exact ⟨_, _, rfl, rfl, k _ q'⟩
theorem ltS {c : Cn} : CmpS c cLt (rI0 fun i j => .bl (decide (i < j))) := intCmp fun x y M k h => by
  unfold cLt at h; split at h
  · exact ⟨_, _, rfl, rfl, h⟩
  · exact h.elim
theorem leS {c : Cn} : CmpS c cLe (rI0 fun i j => .bl (decide (i ≤ j))) := intCmp fun x y M k h => by
  unfold cLe at h; split at h
  · exact ⟨_, _, rfl, rfl, h⟩
  · exact h.elim
theorem gtS {c : Cn} : CmpS c cGt (rI0 fun i j => .bl (decide (j < i))) := intCmp fun x y M k h => by
  unfold cGt at h; split at h
  · exact ⟨_, _, rfl, rfl, h⟩
  · exact h.elim
theorem geS {c : Cn} : CmpS c cGe (rI0 fun i j => .bl (decide (j ≤ i))) := intCmp fun x y M k h => by
  unfold cGe at h; split at h
  · exact ⟨_, _, rfl, rfl, h⟩
  · exact h.elim
theorem Rep.isNon {K : PySem.W.Frag} {H : Hp} {v : V} {d : D} (r : Rep K H v d) : decide (v = .non) = decide (d = .non) := by
  cases r <;> simp
theorem isNS {c : Cn} : CmpS c cIsN (fun x y H Q => y = .non ∧ Q (.bl (decide (x = .non))) H) := by
  intro v1 v2 d1 d2 M H kd Q r1 r2 hR h k
  unfold cIsN at h
  split at h
  · cases r2
    exact ⟨rfl, by rw [r1.isNon]; exact k _ h⟩
  · exact h.elim
theorem notNS {c : Cn} : CmpS c cNotN (fun x y H Q => y = .non ∧ Q (.bl (!decide (x = .non))) H) := by
  intro v1 v2 d1 d2 M H kd Q r1 r2 hR h k
  unfold cNotN at h
  split at h
  · cases r2
    exact ⟨rfl, by rw [r1.isNon]; exact k _ h⟩
  · exact h.elim
end
end DL

set_option Elab.async false
set_option linter.all false
set_option maxRecDepth 100000
set_option maxHeartbeats 4000000
/-! DE2: truth, subscripts, calls of built-ins, dicts -/
namespace DL
open PySem PySem.Spec PyProof.Rows L2
section
variable {X : Cx} {CA : String → Addr} {XE : XK} {a b e : Expr} {es : List Expr} {f g h : WE} {fs : List WE} {pos : Pos}
/-! ## membership -/
theorem Rep.flat {K : PySem.W.Frag} {H : Hp} {v : V} {d : D} (r : Rep K H v d) (h : flat d = true) : flatV v = true := by
  cases r <;> first | rfl | (simp [DL.flat] at h)
theorem Reps.flat {K : PySem.W.Frag} {H : Hp} : ∀ {vs : List V} {ds : List D}, Reps K H vs ds → ds.all DL.flat = true → vs.all flatV = true
  | _, _, .nil, _ => rfl
  | _, _, .cons r t, h => by
    simp only [List.all_cons, Bool.and_eq_true] at h ⊢
    exact ⟨r.flat h.1, Reps.flat t h.2⟩
theorem Rep.eqF {K : PySem.W.Frag} {H : Hp} {v w : V} {d e : D} (r : Rep K H v d) (q : Rep K H w e) (h1 : DL.flat d = true) (h2 : DL.flat e = true) : eqV v w = eqF d e := by
  cases r <;> first | (simp [DL.flat] at h1; done) | (cases q <;> first | (simp [DL.flat] at h2; done) | (simp [eqV, DL.eqF]; done) | (simp [eqV, DL.eqF, Bool.beq_eq_decide_eq]; done))
theorem Reps.inV {K : PySem.W.Frag} {H : Hp} {v : V} {d : D} (r : Rep K H v d) (h1 : DL.flat d = true) : ∀ {vs : List V} {ds : List D}, Reps K H vs ds → ds.all DL.flat = true → L2.inV v vs = ds.any fun z => DL.eqF z d
  | _, _, .nil, _ => rfl
  | _, _, .cons q t, h => by
    simp only [List.all_cons, Bool.and_eq_true] at h
    have ih := Reps.inV r h1 t h.2
    unfold L2.inV at ih ⊢
    rw [List.any_cons, List.any_cons, ih, q.eqF r h.1 h1]
theorem Rep.key {K : PySem.W.Frag} {H : Hp} {v : V} {d : D} {κ : Key} (r : Rep K H v d) (h : keyD d = some κ) : v = kV κ := by
  cases r <;> simp [keyD] at h <;> subst h <;> rfl
theorem lk_val {K : PySem.W.Frag} {H : Hp} : ∀ {vs : List (L2.Key × V)} {kvs : List (Key × D)} (κ : Key), PKV K H vs kvs → (∀ d, lk kvs κ = some d → ∃ v, valV vs κ = some v ∧ Rep K H v d) ∧ (lk kvs κ = none → valV vs κ = none)
  | _, _, κ, .nil => ⟨fun _ e => by simp [lk] at e, fun _ => rfl⟩
  | _, _, κ, .cons (a := p) (b := q) r t => by
    have ih := lk_val κ t
    unfold lk
    by_cases e : q.1 = κ
    · rw [if_pos e, valV_pos (by rw [r.1]; exact e)]
      exact ⟨fun d z => ⟨_, rfl, by cases z; exact r.2⟩, nofun⟩
    · rw [if_neg e, valV_neg (by rw [r.1]; exact e)]
      exact ih
def rInDK : R2 := fun x y H Q => ∃ a kvs k, y = .ref a ∧ H a = some (.dK kvs) ∧ x = kV k ∧ Q (.bl (valV kvs k).isSome) H
def rNotInDK : R2 := fun x y H Q => ∃ a kvs k, y = .ref a ∧ H a = some (.dK kvs) ∧ x = kV k ∧ Q (.bl (!(valV kvs k).isSome)) H
theorem op_inDK (hu : X.A.units + 1 < cLine) : OpR X (compareOp .In) rInDK := by
  intro pins s σ H x y v u Q I rx ry h
  obtain ⟨a, kvs, k, rfl, e, rfl, q⟩ := h
  cases ry
  exact d_in hu I (DGet.k e) rx fun s' I' => ⟨.bl _, H, I', rfl, q⟩
theorem op_notInDK (hu : X.A.units + 1 < cLine) : OpR X (compareOp .NotIn) rNotInDK := by
  intro pins s σ H x y v u Q I rx ry h
  obtain ⟨a, kvs, k, rfl, e, rfl, q⟩ := h
  cases ry
  exact d_notIn hu I (DGet.k e) rx fun s' I' => ⟨.bl _, H, I', rfl, q⟩
/-! nested keys -/
section
variable {K : PySem.W.Frag}
mutual
theorem nk_depth : ∀ (d : D) (n : Nat), nest d = some n → (nkD d).depth = n
  | .non, n, h => by simp [nest] at h; subst h; rfl
  | .int _, n, h => by simp [nest] at h; subst h; rfl
  | .str _, n, h => by simp [nest] at h; subst h; rfl
  | .tup xs, n, h => by
    simp only [nest, Option.map_eq_some_iff] at h
    obtain ⟨m, e, rfl⟩ := h
    rw [nkD, NestedKey.depth, nks_depth xs m e]
  | .bl _, n, h => by simp [nest] at h
  | .ref _, n, h => by simp [nest] at h
  | .ty _, n, h => by simp [nest] at h
  | .lro _, n, h => by simp [nest] at h
theorem nks_depth : ∀ (ds : List D) (n : Nat), nests ds = some n → NestedKey.depthAll (nkDs ds) = n
  | [], n, h => by simp [nests] at h; subst h; rfl
  | d :: ds, n, h => by
    unfold nests at h
    split at h
    · rename_i x y e1 e2
      cases h
      rw [nkDs, NestedKey.depthAll, nk_depth d _ e1, nks_depth ds _ e2]
    · cases h
end
mutual
theorem nk_is {pins : List (Addr × Obj)} {σ : L2.St} {H : Hp} {s : Shared} (I : Inv X pins σ H s) : ∀ (d : D) {v : V} {u : Value} {n : Nat}, Rep X.K H v d → RelV v u → nest d = some n → NestedIs s.heap (nkD d) u
  | .non, _, _, _, r, q, _ => by cases r; cases q; exact .none
  | .int i, _, _, _, r, q, _ => by cases r; obtain ⟨t, rfl⟩ := q; exact .int i t
  | .str x, _, _, _, r, q, _ => by cases r; obtain ⟨t, rfl⟩ := q; exact .text x t
  | .tup ds, _, _, _, r, q, h => by
    cases r with
    | tup s1 r1 =>
      cases q
      obtain ⟨its, rv, ⟨o, ho, hc, n, hd⟩, _⟩ := I.tuple s1.s
      simp only [nest, Option.map_eq_some_iff] at h
      obtain ⟨m, e, _⟩ := h
      exact .tup ho hc hd (nks_is I ds r1 rv e)
  | .bl _, _, _, _, _, _, h => by simp [nest] at h
  | .ref _, _, _, _, _, _, h => by simp [nest] at h
  | .ty _, _, _, _, _, _, h => by simp [nest] at h
  | .lro _, _, _, _, _, _, h => by simp [nest] at h
theorem nks_is {pins : List (Addr × Obj)} {σ : L2.St} {H : Hp} {s : Shared} (I : Inv X pins σ H s) : ∀ (ds : List D) {vs : List V} {us : List Value} {n : Nat}, Reps X.K H vs ds → Vals vs us → nests ds = some n → NestedAll s.heap (nkDs ds) us
  | [], _, _, _, r, q, _ => by cases r; cases q; exact .nil
  | d :: ds, _, _, _, r, q, h => by
    cases r with
    | cons r1 r2 =>
      cases q with
      | cons q1 q2 =>
        unfold nests at h
        split at h
        · rename_i x y e1 e2
          exact .cons (nk_is I d r1 q1 e1) (nks_is I ds r2 q2 e2)
        · cases h
end
mutual
theorem nkD_inj : ∀ (d e : D) (m n : Nat), nest d = some m → nest e = some n → nkD d = nkD e → d = e
  | .non, e, _, _, _, h2, h => by cases e <;> simp [nkD, nest] at h h2 ⊢
  | .int _, e, _, _, _, h2, h => by cases e <;> simp [nkD, nest] at h h2 ⊢; exact h
  | .str _, e, _, _, _, h2, h => by cases e <;> simp [nkD, nest] at h h2 ⊢; exact h
  | .tup xs, e, _, _, h1, h2, h => by
    cases e <;> simp [nkD] at h
    rename_i ys
    simp only [nest, Option.map_eq_some_iff] at h1 h2
    obtain ⟨m, e1, _⟩ := h1
    obtain ⟨n, e2, _⟩ := h2
    rw [nkDs_inj xs ys m n e1 e2 h]
  | .bl _, _, _, _, h, _, _ => by simp [nest] at h
  | .ref _, _, _, _, h, _, _ => by simp [nest] at h
  | .ty _, _, _, _, h, _, _ => by simp [nest] at h
  | .lro _, _, _, _, h, _, _ => by simp [nest] at h
theorem nkDs_inj : ∀ (ds es : List D) (m n : Nat), nests ds = some m → nests es = some n → nkDs ds = nkDs es → ds = es
  | [], es, _, _, _, _, h => by cases es <;> simp [nkDs] at h ⊢
  | d :: ds, es, _, _, h1, h2, h => by
    cases es with
    | nil => simp [nkDs] at h
    | cons e es =>
      simp only [nkDs, List.cons.injEq] at h
      unfold nests at h1 h2
      split at h1
      · rename_i x y e1 e2
        split at h2
        · rename_i x' y' e1' e2'
          rw [nkD_inj d e _ _ e1 e1' h.1, nkDs_inj ds es _ _ e2 e2' h.2]
        · cases h2
      · cases h1
end
theorem nkOk_nest {d : D} (h : nkOk d = true) : ∃ xs n, d = .tup xs ∧ nest d = some n ∧ n ≤ 8 := by
  unfold nkOk at h
  split at h
  · split at h
    · rename_i n e
      exact ⟨_, n, rfl, e, of_decide_eq_true h⟩
    · cases h
  · cases h
end
/-- a key in hand, as the library wants it -/
theorem nk_at {pins : List (Addr × Obj)} {σ : L2.St} {H : Hp} {s : Shared} (I : Inv X pins σ H s) {d : D} {a : Addr} (r : Rep X.K H (.ref a) d) (h : nkOk d = true) : (nestedKind X.prog X.w).is s.heap (nkD d) a := by
  obtain ⟨xs, n, rfl, e, hn⟩ := nkOk_nest h
  exact ⟨nk_is I _ r rfl e, by rw [nk_depth _ _ e]; exact hn⟩
abbrev PDn (c : Cn) (H : Hp) : List Ent → List (D × D) → Prop := Paired fun p q => p.1 = nkD q.1 ∧ nkOk q.1 = true ∧ Rep c.K H (.ref p.2.1) q.1 ∧ Rep c.K H p.2.2 q.2
/-- the dict in hand, as the library wants it -/
theorem nd_of {pins : List (Addr × Obj)} {σ : L2.St} {H : Hp} {s : Shared} (I : Inv X pins σ H s) {a : Addr} {es : List Ent} {kvs : List (D × D)} (e : H a = some (NDict (cn X CA) a es)) (p : PDn (cn X CA) H es kvs) :
    es.length ≤ sizeLine ∧ (a == sysModules) = false ∧ ∃ xs : List (NestedKey × Addr × Value), Paired (fun (p : Ent) (q : NestedKey × Addr × Value) => p.1 = q.1 ∧ p.2.1 = q.2.1 ∧ RelV p.2.2 q.2.2) es xs ∧ s.heap.DictOfH (nestedKind X.prog X.w) a xs := by
  obtain ⟨⟨z, hd, xs, pr, ⟨o, es', ep, ho, ex, hdat, hent⟩, nd⟩, _⟩ := I.hok a _ e
  refine ⟨z, hd, xs, pr, o, es', ep, ho, ex, hdat, hent, ?_, nd⟩
  have key : ∀ {es : List Ent} {xs : List (NestedKey × Addr × Value)} {kvs : List (D × D)}, Paired (fun (p : Ent) (q : NestedKey × Addr × Value) => p.1 = q.1 ∧ p.2.1 = q.2.1 ∧ RelV p.2.2 q.2.2) es xs → PDn (cn X CA) H es kvs → ∀ x ∈ xs, (nestedKind X.prog X.w).is s.heap x.1 x.2.1 := by
    intro es xs kvs h1
    induction h1 generalizing kvs with
    | nil => intro _ x hx; cases hx
    | cons a1 t ih =>
      intro h2 x hx
      cases h2 with
      | cons b1 t2 =>
        rcases List.mem_cons.mp hx with rfl | hx
        · rw [← a1.1, ← a1.2.1, b1.1]
          exact nk_at I b1.2.2.1 b1.2.1
        · exact ih t2 x hx
  exact key pr p
end
end DL

set_option Elab.async false
set_option linter.all false
set_option maxRecDepth 100000
set_option maxHeartbeats 4000000
/-! DE3: dicts by values; membership; subscripts; slices -/
namespace DL
open PySem PySem.Spec PyProof.Rows L2
section
variable {X : Cx} {CA : String → Addr} {XE : XK} {a b e : Expr} {es : List Expr} {f g h : WE} {fs : List WE} {pos : Pos}
abbrev PEx : List Ent → List (NestedKey × Addr × Value) → Prop := Paired fun (p : Ent) (q : NestedKey × Addr × Value) => p.1 = q.1 ∧ p.2.1 = q.2.1 ∧ RelV p.2.2 q.2.2
/-- what stands at a key -/
theorem nd_at {c : Cn} {H : Hp} {k : D} (hk : nkOk k = true) : ∀ {es : List Ent} {xs : List (NestedKey × Addr × Value)} {kvs : List (D × D)}, PEx es xs → PDn c H es kvs →
    (∀ d, lk kvs k = some d → ∃ b v u, atKey xs (nkD k) = some (b, u) ∧ RelV v u ∧ Rep c.K H v d) ∧ (lk kvs k = none → atKey xs (nkD k) = none)
  | _, _, _, .nil, .nil => ⟨fun _ e => by simp [lk] at e, fun _ => rfl⟩
  | _, _, _, .cons (a := p) (b := x) h1 t1, .cons (b := q) h2 t2 => by
    have ih := nd_at hk t1 t2
    obtain ⟨_, m, _, em, _⟩ := nkOk_nest hk
    obtain ⟨_, n, _, en, _⟩ := nkOk_nest h2.2.1
    have hx : x.1 = nkD q.1 := by rw [← h1.1, h2.1]
    unfold lk
    by_cases e : q.1 = k
    · rw [if_pos e]
      have e' : x.1 = nkD k := by rw [hx, e]
      refine ⟨fun d z => ⟨x.2.1, p.2.2, x.2.2, ?_, h1.2.2, ?_⟩, nofun⟩
      · simp [atKey, e']
      · cases z; exact h2.2.2.2
    · rw [if_neg e]
      have e' : ¬ x.1 = nkD k := fun z => e (nkD_inj q.1 k _ _ en em (by rw [← hx, z]))
      have e2 : ∀ r, atKey (x :: r) (nkD k) = atKey r (nkD k) := fun r => by simp [atKey, e']
      rw [e2]
      exact ih
/-- a nested dict is asked -/
def rInDN (c : Cn) : R2 := fun x y H Q => ∃ a b es kvs k, y = .ref a ∧ x = .ref b ∧ H a = some (NDict c a es) ∧ PDn c H es kvs ∧ Rep c.K H (.ref b) k ∧ nkOk k = true ∧ Q (.bl (lk kvs k).isSome) H
def rNotInDN (c : Cn) : R2 := fun x y H Q => ∃ a b es kvs k, y = .ref a ∧ x = .ref b ∧ H a = some (NDict c a es) ∧ PDn c H es kvs ∧ Rep c.K H (.ref b) k ∧ nkOk k = true ∧ Q (.bl (!(lk kvs k).isSome)) H
theorem room_n {A : Around} {k : Nat} (hr : Room k A) : (nestedKind X.prog X.w).room A.in1 := by
  show A.units + 1 + 8 < cLine
  have := hr.units
  omega
theorem isSome_nd {c : Cn} {H : Hp} {k : D} {es : List Ent} {xs : List (NestedKey × Addr × Value)} {kvs : List (D × D)} (hk : nkOk k = true) (h1 : PEx es xs) (h2 : PDn c H es kvs) : (atKey xs (nkD k)).isSome = (lk kvs k).isSome := by
  have q := nd_at hk h1 h2
  cases e : lk kvs k with
  | none => rw [q.2 e]; rfl
  | some d => obtain ⟨_, _, _, z, _⟩ := q.1 d e; rw [z]; rfl
theorem op_inDN {k : Nat} (hr : Room k X.A) : OpR X (compareOp .In) (rInDN (cn X CA)) := by
  intro pins s σ H x y v u Q I rx ry h
  obtain ⟨a, b, es, kvs, k, rfl, rfl, e, p, r, hk, q⟩ := h
  cases ry; cases rx
  obtain ⟨z, hd, xs, pr, dd⟩ := nd_of I e p
  refine wpAny_in_heap (room_n hr) (nk_at I r hk) hd dd ?_
  rw [isSome_nd hk pr p]
  exact ⟨.bl _, H, I.tok _, rfl, q⟩
theorem op_notInDN {k : Nat} (hr : Room k X.A) : OpR X (compareOp .NotIn) (rNotInDN (cn X CA)) := by
  intro pins s σ H x y v u Q I rx ry h
  obtain ⟨a, b, es, kvs, k, rfl, rfl, e, p, r, hk, q⟩ := h
  cases ry; cases rx
  obtain ⟨z, hd, xs, pr, dd⟩ := nd_of I e p
  refine PySem.notIn_keyed (kvs := pairsH xs) (room_n hr) (nk_at I r hk) hd ⟨xs, dd, rfl⟩ ?_
  rw [valueAt_pairsH, Option.isSome_map, isSome_nd hk pr p]
  exact ⟨.bl _, H, I.tok _, rfl, q⟩
def rInA (c : Cn) : R2 := fun x y H Q => rIn c.K false x y H Q ∨ ((∃ i j, x = .str i ∧ y = .str j ∧ Q (.bl (!(Builtin.Str.occurrences j i 0 j.length 1).isEmpty)) H) ∨ (rInDK x y H Q ∨ rInDN c x y H Q))
def rNotInA (c : Cn) : R2 := fun x y H Q => rIn c.K true x y H Q ∨ ((∃ i j, x = .str i ∧ y = .str j ∧ Q (.bl (!(!(Builtin.Str.occurrences j i 0 j.length 1).isEmpty))) H) ∨ (rNotInDK x y H Q ∨ rNotInDN c x y H Q))
theorem op_inA {k : Nat} (hr : Room k X.A) : OpR X (compareOp .In) (rInA (cn X CA)) := op_in_seq.or (op_in_str.or ((op_inDK (hu_of hr)).or (op_inDN hr)))
theorem op_notInA {k : Nat} (hr : Room k X.A) : OpR X (compareOp .NotIn) (rNotInA (cn X CA)) := op_notIn_seq.or (L2.op_notIn_str.or ((op_notInDK (hu_of hr)).or (op_notInDN hr)))
theorem inS0 {c : Cn} {v1 v2 : V} {d1 d2 : D} {M : Sto} {H : Hp} {kd : Bool → Prop} {Q1 Q2 Q3 Q4 : Bool → Prop} (r1 : Rep c.K H v1 d1) (r2 : Rep c.K H v2 d2) (hR : R c M H) (h : cIn d1 d2 M kd) :
    (∃ p xs, v2 = .ref p ∧ (SqL c.K H p xs ∨ SqT c.K H p xs) ∧ flatV v1 = true ∧ xs.all flatV = true ∧ kd (L2.inV v1 xs)) ∨
    (∃ i j, v1 = .str i ∧ v2 = .str j ∧ kd (!(Builtin.Str.occurrences j i 0 j.length 1).isEmpty)) ∨
    (∃ a kvs k, v2 = .ref a ∧ H a = some (.dK kvs) ∧ v1 = kV k ∧ kd (valV kvs k).isSome) ∨
    (∃ a b es kvs k, v2 = .ref a ∧ v1 = .ref b ∧ H a = some (NDict c a es) ∧ PDn c H es kvs ∧ Rep c.K H (.ref b) k ∧ nkOk k = true ∧ kd (lk kvs k).isSome) := by
  unfold cIn at h
  split at h
  · cases r2 with
    | tup s2 p2 => exact .inl ⟨_, _, rfl, .inr s2.s, r1.flat h.1, p2.flat h.2.1, by rw [p2.inV r1 h.1 h.2.1]; exact h.2.2⟩
  · split at h
    · cases r1; cases r2
      exact .inr (.inl ⟨_, _, rfl, rfl, h⟩)
    · exact h.elim
  · cases r2
    split at h
    · rename_i xs e
      obtain ⟨vs, h1, p1⟩ := hR _ _ e
      exact .inl ⟨_, _, rfl, .inl (SqL.of h1), r1.flat h.1, p1.flat h.2.1, by rw [p1.inV r1 h.1 h.2.1]; exact h.2.2⟩
    · rename_i o e _
      unfold dLk at h
      split at h
      · split at h
        · rename_i κ ek
          obtain ⟨vs, h1, p1⟩ := hR _ _ (by assumption)
          refine .inr (.inr (.inl ⟨_, vs, κ, rfl, h1, r1.key ek, ?_⟩))
          have q := lk_val κ p1
          cases el : lk _ κ with
          | none => rw [q.2 el]; rw [el] at h; exact h
          | some d => obtain ⟨v, ev, _⟩ := q.1 d el; rw [ev]; rw [el] at h; exact h
        · exact h.elim
      · obtain ⟨es, h1, p1⟩ := hR _ _ (by assumption)
        obtain ⟨hk, h⟩ := h
        obtain ⟨xs, n, rfl, _, _⟩ := nkOk_nest hk
        cases r1 with
        | tup s1 q1 => exact .inr (.inr (.inr ⟨_, _, es, _, _, rfl, rfl, h1, p1, .tup s1 q1, hk, h⟩))
      · exact h.elim
    · exact h.elim
  · exact h.elim
theorem inS {c : Cn} : CmpS c cIn (rInA c) := by
  intro v1 v2 d1 d2 M H kd Q r1 r2 hR h k
  rcases inS0 (Q1 := fun _ => True) (Q2 := fun _ => True) (Q3 := fun _ => True) (Q4 := fun _ => True) r1 r2 hR h with ⟨p, xs, e, s, x, y, z⟩ | ⟨i, j, e1, e2, z⟩ | ⟨a, kvs, k', e1, e2, e3, z⟩ | ⟨a, b, es, kvs, k', e1, e2, e3, e4, e5, e6, z⟩
  · exact .inl ⟨p, xs, e, s, x, y, k _ z⟩
  · exact .inr (.inl ⟨i, j, e1, e2, k _ z⟩)
  · exact .inr (.inr (.inl ⟨a, kvs, k', e1, e2, e3, k _ z⟩))
  · exact .inr (.inr (.inr ⟨a, b, es, kvs, k', e1, e2, e3, e4, e5, e6, k _ z⟩))
theorem notInS {c : Cn} : CmpS c cNotIn (rNotInA c) := by
  intro v1 v2 d1 d2 M H kd Q r1 r2 hR h k
  rcases inS0 (Q1 := fun _ => True) (Q2 := fun _ => True) (Q3 := fun _ => True) (Q4 := fun _ => True) r1 r2 hR (show cIn d1 d2 M fun b => kd (!b) from h) with ⟨p, xs, e, s, x, y, z⟩ | ⟨i, j, e1, e2, z⟩ | ⟨a, kvs, k', e1, e2, e3, z⟩ | ⟨a, b, es, kvs, k', e1, e2, e3, e4, e5, e6, z⟩
  · exact .inl ⟨p, xs, e, s, x, y, k _ z⟩
  · exact .inr (.inl ⟨i, j, e1, e2, k _ z⟩)
  · exact .inr (.inr (.inl ⟨a, kvs, k', e1, e2, e3, k _ z⟩))
  · exact .inr (.inr (.inr ⟨a, b, es, kvs, k', e1, e2, e3, e4, e5, e6, k _ z⟩))
/-! ## subscripts -/
theorem atI_rep {K : PySem.W.Frag} {H : Hp} {vs : List V} {ds : List D} {i : Int} {d : D} (r : Reps K H vs ds) (h : atI ds i = some d) : ∃ v, atI vs i = some v ∧ Rep K H v d := by
  unfold atI at h ⊢
  rw [r.length]
  cases e : ixN ds.length i with
  | none => rw [e] at h; cases h
  | some j =>
    rw [e] at h
    obtain ⟨v, e1, r1⟩ := r.get (show ds[j]? = some d from h)
    exact ⟨v, e1, r1⟩
theorem ix_dk (hu : X.A.units + 1 < cLine) : IxR X (fun x y H Q => ∃ a kvs k v, x = .ref a ∧ y = kV k ∧ H a = some (.dK kvs) ∧ valV kvs k = some v ∧ Q v H) := by
  intro value slice pins s σ H x y v u Q I rx ry h hs
  obtain ⟨a, kvs, k, z, rfl, rfl, e, el, q⟩ := h
  cases rx
  refine tail_any (dict_typeIs I (DGet.k (k := k) e)) PySem.slot_dict_getitem.lookup (d_getItem hu I (by rw [← el]; exact DGet.k e) ry fun w' s' I' rw' => ⟨z, H, I', rw', q⟩) hs
theorem ix_dn {k : Nat} (hr : Room k X.A) : IxR X (fun x y H Q => ∃ a b es kvs k, x = .ref a ∧ y = .ref b ∧ H a = some (NDict (cn X CA) a es) ∧ PDn (cn X CA) H es kvs ∧ Rep X.K H (.ref b) k ∧ nkOk k = true ∧ ∃ d, lk kvs k = some d ∧ ∀ v, Rep X.K H v d → Q v H) := by
  intro value slice pins s σ H x y v u Q I rx ry h hs
  obtain ⟨a, b, es, kvs, k, rfl, rfl, e, p, r, hk, d, el, q⟩ := h
  cases rx; cases ry
  obtain ⟨z, hd, xs, pr, dd⟩ := nd_of I e p
  obtain ⟨b', v', u', e1, rv, rd⟩ := (nd_at hk pr p).1 d el
  refine tail_any dd.typeIs PySem.slot_dict_getitem.lookup (PySem.getItem_keyed (kvs := pairsH xs) (room_n hr) (nk_at I r hk) ⟨xs, dd, rfl⟩ (v := u') (by rw [valueAt_pairsH, e1]; rfl) ?_) hs
  exact ⟨v', H, I.tok _, rv, q v' rd⟩
theorem IxR.or {r r' : R2} (h : IxR X r) (h' : IxR X r') : IxR X fun x y H Q => r x y H Q ∨ r' x y H Q := by
  intro value slice pins s σ H x y v u Q I rx ry q hs
  rcases q with q | q
  · exact h value slice pins s σ H x y v u Q I rx ry q hs
  · exact h' value slice pins s σ H x y v u Q I rx ry q hs
def rSubA (c : Cn) : R2 := fun x y H Q => rIx c.K x y H Q ∨ ((∃ a kvs k v, x = .ref a ∧ y = kV k ∧ H a = some (.dK kvs) ∧ valV kvs k = some v ∧ Q v H) ∨
  ∃ a b es kvs k, x = .ref a ∧ y = .ref b ∧ H a = some (NDict c a es) ∧ PDn c H es kvs ∧ Rep c.K H (.ref b) k ∧ nkOk k = true ∧ ∃ d, lk kvs k = some d ∧ ∀ v, Rep c.K H v d → Q v H)
theorem ix_A {k : Nat} (hr : Room k X.A) : IxR X (rSubA (cn X CA)) := IxR.or ix_seq (IxR.or (ix_dk (hu_of hr)) (ix_dn hr))
theorem subDS {c : Cn} {v1 v2 : V} {d1 d2 : D} {M : Sto} {H : Hp} {kd : D → Prop} {Q : VK} (r1 : Rep c.K H v1 d1) (r2 : Rep c.K H v2 d2) (hR : R c M H) (h : subD d1 d2 M kd) (k : ∀ d v, kd d → Rep c.K H v d → Q v H) : rSubA c v1 v2 H Q := by
  unfold subD at h
  split at h
  · split at h
    · unfold at' at h
      split at h
      · rename_i xs i d e
        cases r2
        cases r1 with
        | tup s1 p1 =>
          obtain ⟨v, e1, rv⟩ := atI_rep p1 e
          exact .inl (.inr (.inl ⟨_, _, _, v, rfl, rfl, s1.s, e1, k d v h rv⟩))
      · exact h.elim
    · exact h.elim
  · split at h
    · unfold at' at h
      split at h
      · rename_i xs i d e
        cases r2
        cases r1 with
        | lro s1 p1 =>
          obtain ⟨v, e1, rv⟩ := atI_rep p1 e
          exact .inl (.inl ⟨_, _, _, v, rfl, rfl, s1.l, e1, k d v h rv⟩)
      · exact h.elim
    · exact h.elim
  · split at h
    · obtain ⟨hz, h⟩ := h
      split at h
      · cases r1; cases r2
        exact .inl (.inr (.inr ⟨_, _, _, rfl, rfl, hz, by assumption, k _ _ h (.str _)⟩))
      · exact h.elim
    · exact h.elim
  · split at h
    · rename_i xs e
      split at h
      · unfold at' at h
        split at h
        · rename_i i d el
          cases r1; cases r2
          obtain ⟨vs, h1, p1⟩ := hR _ _ e
          obtain ⟨v, e1, rv⟩ := atI_rep p1 el
          exact .inl (.inl ⟨_, _, _, v, rfl, rfl, SqL.of h1, e1, k d v h rv⟩)
        · exact h.elim
      · exact h.elim
    · rename_i o e _
      unfold dLk at h
      split at h
      · split at h
        · rename_i κ ek
          split at h
          · rename_i d el
            obtain ⟨vs, h1, p1⟩ := hR _ _ (by assumption)
            obtain ⟨v, ev, rv⟩ := (lk_val κ p1).1 d el
            cases r1
            exact .inr (.inl ⟨_, vs, κ, v, rfl, r2.key ek, h1, ev, k d v h rv⟩)
          · exact h.elim
        · exact h.elim
      · obtain ⟨hk, h⟩ := h
        split at h
        · rename_i d el
          obtain ⟨es, h1, p1⟩ := hR _ _ (by assumption)
          obtain ⟨xs, n, rfl, _, _⟩ := nkOk_nest hk
          cases r1
          cases r2 with
          | tup s1 q1 => exact .inr (.inr ⟨_, _, es, _, _, rfl, rfl, h1, p1, .tup s1 q1, hk, d, el, fun v rv => k d v h rv⟩)
        · exact h.elim
      · exact h.elim
    · exact h.elim
  · exact h.elim
theorem d_sub_ {k : Nat} (hr : Room k X.A) (ha : SE X CA XE a f) (hb : SE X CA XE b g) (hs : PlainIx b := by exact fun _ _ => rfl) : SE X CA XE (.Subscript a b pos) (eSub f g) :=
  PE_weak (pe_ix (ix_A hr) ha hb hs) fun σ H Q ⟨env, M, Ed, Qd, p, q, kq⟩ => ⟨env, M, Ed, _, p, q, fun d1 M1 v1 H1 q1 r1 R1 T1 => ⟨env, M1, Ed, _, p.to T1 R1, q1, fun d2 M2 v2 H2 q2 r2 R2 T2 =>
    subDS (r1.m T2) r2 R2 q2 fun d v q3 r3 => kq _ _ _ _ q3 r3 R2 (T1.trans T2)⟩⟩
end
end DL

set_option Elab.async false
set_option linter.all false
set_option maxRecDepth 100000
set_option maxHeartbeats 4000000
/-! DE4: tests; slices; built-ins; lists; dicts -/
namespace DL
open PySem PySem.Spec PyProof.Rows L2
section
variable {X : Cx} {CA : String → Addr} {XE : XK} {a b e : Expr} {es rest : List Expr} {f g h : WE} {fs : List WE} {pos p : Pos} {t u : WT} {x : Str}
/-! ## tests -/
theorem truS {c : Cn} {v : V} {d : D} {M : Sto} {H : Hp} {kd : Bool → Prop} {Q : Bool → Hp → Prop} (r : Rep c.K H v d) (hR : R c M H) (h : truD d M kd) (k : ∀ b, kd b → Q b H) : ∃ b, TruV c.K v H b ∧ Q b H := by
  unfold truD at h
  split at h
  · cases r; exact ⟨_, rfl, k _ h⟩
  · cases r; exact ⟨_, rfl, k _ h⟩
  · cases r; exact ⟨_, rfl, k _ h⟩
  · cases r; exact ⟨_, ⟨h.1, rfl⟩, k _ h.2⟩
  · cases r with
    | tup s q => exact ⟨_, .inr (.inl ⟨_, s.s, by cases q <;> rfl⟩), k _ h⟩
  · cases r with
    | lro s q => exact ⟨_, .inl ⟨_, s.l, by cases q <;> rfl⟩, k _ h⟩
  · cases r
    split at h
    · obtain ⟨vs, h1, q⟩ := hR _ _ (by assumption)
      exact ⟨_, .inl ⟨_, SqL.of h1, by cases q <;> rfl⟩, k _ h⟩
    · obtain ⟨vs, h1, q⟩ := hR _ _ (by assumption)
      exact ⟨_, .inr (.inr ⟨_, h1, by cases q <;> rfl⟩), k _ h⟩
    · exact h.elim
  · exact h.elim
theorem t_tru (ha : SE X CA XE a f) (he : ∀ whole, isTrue a X.env whole = (do let v ← whole; standAt a.pos; holding [v] (truthy v)) := by intro _; rfl) : ST X CA XE a (tTru f) :=
  PT_weak (pt_truth ha he) fun σ H Q ⟨env, M, Ed, Qd, p, q, k⟩ => ⟨env, M, Ed, _, p, q, fun d M1 v H1 q1 r1 R1 T1 => truS (c := cn X CA) r1 R1 q1 fun b q2 => k _ _ _ q2 R1 T1⟩
theorem t_w (h : SW X CA XE a t) : ST X CA XE a t := ⟨h.run _⟩
theorem w_and1 (ha : ST X CA XE a t) : SW X CA XE (.BoolOp .And [a] pos) t := pw_and1 ha
theorem w_or1 (ha : ST X CA XE a t) : SW X CA XE (.BoolOp .Or [a] pos) t := pw_or1 ha
theorem w_and (ha : ST X CA XE a t) (hb : SW X CA XE (.BoolOp .And (b :: rest) pos) u) : SW X CA XE (.BoolOp .And (a :: b :: rest) pos) (tAnd t u) :=
  PW_weak (pw_and ha hb) fun σ H Q ⟨env, M, Ed, Qd, p, q, k⟩ => ⟨env, M, Ed, _, p, q, fun c M1 H1 q1 R1 T1 => by
    cases c with
    | true => exact ⟨env, M1, Ed, _, p.to T1 R1, q1, fun b M2 H2 q2 R2 T2 => k _ _ _ q2 R2 (T1.trans T2)⟩
    | false => exact k _ _ _ q1 R1 T1⟩
theorem w_or (ha : ST X CA XE a t) (hb : SW X CA XE (.BoolOp .Or (b :: rest) pos) u) : SW X CA XE (.BoolOp .Or (a :: b :: rest) pos) (tOr t u) :=
  PW_weak (pw_or ha hb) fun σ H Q ⟨env, M, Ed, Qd, p, q, k⟩ => ⟨env, M, Ed, _, p, q, fun c M1 H1 q1 R1 T1 => by
    cases c with
    | false => exact ⟨env, M1, Ed, _, p.to T1 R1, q1, fun b M2 H2 q2 R2 T2 => k _ _ _ q2 R2 (T1.trans T2)⟩
    | true => exact k _ _ _ q1 R1 T1⟩
theorem t_not (ha : ST X CA XE a t) : ST X CA XE (.UnaryOp .Not a pos) (tNot t) :=
  PT_weak (pt_not ha) fun σ H Q ⟨env, M, Ed, Qd, p, q, k⟩ => ⟨env, M, Ed, _, p, q, fun c M1 H1 q1 R1 T1 => k _ _ _ q1 R1 T1⟩
theorem t_chain {op op' : CmpOp} {r r' : R2} {c2 c2' : C2} {c : Expr} (ho : OpR X (compareOp op) r) (hs : CmpS (cn X CA) c2 r) (ho' : OpR X (compareOp op') r') (hs' : CmpS (cn X CA) c2' r') (ha : SE X CA XE a f) (hb : SE X CA XE b g) (hc : SE X CA XE c h)
    (hm : lastMarks [op, op'] [b, c] = false := by rfl) : ST X CA XE (.Compare a [op, op'] [b, c] pos) (tChain c2 c2' f g h) :=
  PT_weak (pt_chain ho ho' ha hb hc hm) fun σ H Q ⟨env, M, Ed, Qd, p, q, k⟩ => ⟨env, M, Ed, _, p, q, fun d1 M1 v1 H1 q1 r1 R1 T1 => ⟨env, M1, Ed, _, p.to T1 R1, q1, fun d2 M2 v2 H2 q2 r2 R2 T2 =>
    hs _ _ _ _ _ _ _ _ (r1.m T2) r2 R2 q2 fun b q3 => ⟨b, rfl, by
      cases b with
      | true => exact ⟨env, M2, Ed, _, p.to (T1.trans T2) R2, q3, fun d3 M3 v3 H3 q4 r3 R3 T3 => hs' _ _ _ _ _ _ _ _ (r2.m T3) r3 R3 q4 fun b' q5 => ⟨b', rfl, k _ _ _ q5 R3 (T1.trans (T2.trans T3))⟩⟩
      | false => exact ⟨false, rfl, k _ _ _ q3 R2 (T1.trans T2)⟩⟩⟩⟩
/-! as values -/
theorem d_one {op} (h : SE X CA XE a f) : SE X CA XE (.BoolOp op [a] pos) f := pe_one h
theorem d_and (ha : SE X CA XE a f) (hb : SE X CA XE (.BoolOp .And (b :: rest) pos) g) : SE X CA XE (.BoolOp .And (a :: b :: rest) pos) (eAnd f g) :=
  PE_weak (pe_and ha hb) fun σ H Q ⟨env, M, Ed, Qd, p, q, k⟩ => ⟨env, M, Ed, _, p, q, fun d M1 v H1 q1 r1 R1 T1 => by
    split at q1
    · rename_i c
      cases r1
      refine ⟨c, rfl, ?_⟩
      cases c with
      | true => exact ⟨env, M1, Ed, _, p.to T1 R1, q1, k.mono T1⟩
      | false => exact k _ _ _ _ q1 (.bl _) R1 T1
    · exact q1.elim⟩
theorem d_or (ha : SE X CA XE a f) (hb : SE X CA XE (.BoolOp .Or (b :: rest) pos) g) : SE X CA XE (.BoolOp .Or (a :: b :: rest) pos) (eOr f g) :=
  PE_weak (pe_or ha hb) fun σ H Q ⟨env, M, Ed, Qd, p, q, k⟩ => ⟨env, M, Ed, _, p, q, fun d M1 v H1 q1 r1 R1 T1 => by
    split at q1
    · rename_i c
      cases r1
      refine ⟨c, rfl, ?_⟩
      cases c with
      | false => exact ⟨env, M1, Ed, _, p.to T1 R1, q1, k.mono T1⟩
      | true => exact k _ _ _ _ q1 (.bl _) R1 T1
    · exact q1.elim⟩
/-- and, or of truths as a value: a value that is a bool -/
theorem d_notB (ha : SE X CA XE a f) : SE X CA XE (.UnaryOp .Not a pos) (eNotB f) :=
  PE_weak (pe_not ha) fun σ H Q ⟨env, M, Ed, Qd, p, q, k⟩ => ⟨env, M, Ed, _, p, q, fun d M1 v H1 q1 r1 R1 T1 => by
    split at q1
    · cases r1
      exact ⟨_, rfl, k _ _ _ _ q1 (.bl _) R1 T1⟩
    · exact q1.elim⟩
theorem d_ifE {c : Expr} (hc : ST X CA XE c t) (ha : SE X CA XE a f) (hb : SE X CA XE b g) : SE X CA XE (.IfExp c a b pos) (eIf t f g) :=
  PE_weak (pe_ifExp hc ha hb) fun σ H Q ⟨env, M, Ed, Qd, p, q, k⟩ => ⟨env, M, Ed, _, p, q, fun d M1 H1 q1 R1 T1 => by
    cases d with
    | true => exact ⟨env, M1, Ed, _, p.to T1 R1, q1, k.mono T1⟩
    | false => exact ⟨env, M1, Ed, _, p.to T1 R1, q1, k.mono T1⟩⟩
/-! ## slices -/
def tOfO (c : Cn) (XE : XK) (o : Option WE) : TO := fun σ H Q => ∃ env M Ed Qd, Pre c XE σ H env M Ed ∧ optW o Ed env M Qd ∧ ∀ i M' H', Qd i M' → R c M' H' → Tups c.K H H' → Q i H'
def SO (X : Cx) (CA : String → Addr) (XE : XK) (e : Option Expr) (o : Option WE) : Prop := PO X e (tOfO (cn X CA) XE o)
theorem PO_weak {o : Option Expr} {t t' : TO} (h : PO X o t) (w : ∀ σ H Q, t' σ H Q → t σ H Q) : PO X o t' := ⟨fun pins s σ H Q I q => h.run pins s σ H Q I (w σ H Q q)⟩
theorem o_none : SO X CA XE none none := PO_weak po_none fun σ H Q ⟨env, M, Ed, Qd, p, q, k⟩ => k _ _ _ q p.r .refl
theorem o_some (ha : SE X CA XE a f) : SO X CA XE (some a) (some f) :=
  PO_weak (po_some ha) fun σ H Q ⟨env, M, Ed, Qd, p, q, k⟩ => ⟨env, M, Ed, _, p, q, fun d M1 v H1 q1 r1 R1 T1 => by
    split at q1
    · cases r1
      exact ⟨_, rfl, k _ _ _ q1 R1 T1⟩
    · exact q1.elim⟩
def rSlAll (K : PySem.W.Frag) : V → Option Int → Option Int → Hp → VK → Prop := fun x lo hi H Q => rSlL K x lo hi H Q ∨ rSlF K x lo hi H Q
theorem sl_all : SlR X (rSlAll X.K) := SlR.or sl_list sl_tupF
theorem cut_reps {K : PySem.W.Frag} {H : Hp} {vs : List V} {ds : List D} (r : Reps K H vs ds) (lo hi : Option Int) : Reps K H (cutV vs lo hi) (cut ds lo hi) := by
  unfold cutV cut
  rw [r.length]
  exact (r.drop _).take _
theorem slS {c : Cn} {v : V} {d : D} {M : Sto} {H : Hp} {lo hi : Option Int} {Qd : KD} {Q : VK} (r : Rep c.K H v d) (hR : R c M H) (h : slD d lo hi M Qd) (k : KQ c H Qd Q) : rSlAll c.K v lo hi H Q := by
  unfold slD at h
  split at h
  · rename_i ds
    cases r with
    | @tup a vs _ s q =>
      refine .inr ⟨_, _, rfl, s.s, fun hw => ?_, fun hw p its hp => ?_⟩
      · have e : cut ds lo hi = ds := by
          unfold cut
          rw [← q.length, hw.1, hw.2, List.drop_zero, Nat.sub_zero, q.length, List.take_length]
        rw [e] at h
        exact k _ _ _ _ h (.tup s q) hR .refl
      · obtain ⟨x, y, z⟩ := lay_tup hp (cut_reps q lo hi) hR
        exact k _ _ _ _ h x y z
  · cases r with
    | lro s q =>
      refine .inl ⟨_, _, rfl, s.l, fun p hp => ?_⟩
      obtain ⟨x, y⟩ := lay_lst hp (cut_reps q lo hi) hR
      exact k _ _ _ _ (h p (hR.fresh hp)) (.ref p) x y
  · cases r
    split at h
    · obtain ⟨vs, h1, q⟩ := hR _ _ (by assumption)
      refine .inl ⟨_, _, rfl, SqL.of h1, fun p hp => ?_⟩
      obtain ⟨x, y⟩ := lay_lst hp (cut_reps q lo hi) hR
      exact k _ _ _ _ (h p (hR.fresh hp)) (.ref p) x y
    · exact h.elim
  · exact h.elim
theorem d_slice {lo hi : Option Expr} {l u : Option WE} {p2 : Pos} (ha : SE X CA XE a f) (hl : SO X CA XE lo l) (hu : SO X CA XE hi u) : SE X CA XE (.Subscript a (.Slice lo hi none p2) pos) (eSl f l u) :=
  PE_weak (pe_slice sl_all ha hl hu) fun σ H Q ⟨env, M, Ed, Qd, p, q, k⟩ => ⟨env, M, Ed, _, p, q, fun d M1 v H1 q1 r1 R1 T1 => ⟨env, M1, Ed, _, p.to T1 R1, q1, fun i M2 H2 q2 R2 T2 =>
    ⟨env, M2, Ed, _, p.to (T1.trans T2) R2, q2, fun j M3 H3 q3 R3 T3 => slS (c := cn X CA) (r1.m (T2.trans T3)) R3 q3 (k.mono (T1.trans (T2.trans T3)))⟩⟩⟩
theorem d_rev {k : Nat} {p1 p2 p3 : Pos} (ha : SE X CA XE a f) : SE X CA XE (.Subscript a (.Slice none none (some (.UnaryOp .USub (.Constant (.int 1) k p1) p2)) p3) pos) (eRev f) :=
  PE_weak (pe_revF ha) fun σ H Q ⟨env, M, Ed, Qd, p, q, k⟩ => ⟨env, M, Ed, _, p, q, fun d M1 v H1 q1 r1 R1 T1 => by
    unfold revD at q1
    split at q1
    · cases r1 with
      | tup s r =>
        refine ⟨_, _, rfl, .inl ⟨s.s, fun p its hp => ?_⟩⟩
        obtain ⟨x, y, z⟩ := lay_tup hp r.reverse R1
        exact k _ _ _ _ q1 x y (T1.trans z)
    · cases r1
      split at q1
      · obtain ⟨vs, h1, r⟩ := R1 _ _ (by assumption)
        refine ⟨_, _, rfl, .inr ⟨SqL.of h1, fun p hp => ?_⟩⟩
        obtain ⟨x, y⟩ := lay_lst hp r.reverse R1
        exact k _ _ _ _ (q1 p (R1.fresh hp)) (.ref p) x (T1.trans y)
      · exact q1.elim
    · exact q1.elim⟩
/-! ## calls of built-ins by one argument -/
theorem d_b1 {G : D → Sto → KD → Prop} {id : String} {r : List V → Hp → VK → Prop} (hc : CallR X (.builtin id) r) (hs : ∀ v d M H Qd Q, Rep X.K H v d → R (cn X CA) M H → G d M Qd → KQ (cn X CA) H Qd Q → r [v] H Q)
    (hg : Gl X x) (hm : X.mg x = none) (hv : bootBuiltins x = some (.builtin id)) (ha : SE X CA XE a f) (hn : x ≠ "__name__" := by decide) (hdb : (x == ("__debug__" : Str)) = false := by decide)
    (he : starEach [a] X.env = (false, eval a X.env) :: starEach [] X.env := by rfl) (hpl : (backTo pos (starEach [] X.env)).any (·.1) = false := by rfl) :
    SE X CA XE (.Call (.Name x p) [a] [] pos) (fun E env M Q => f E env M fun d M1 => G d M1 Q) :=
  PE_weak (pe_callB hc hg hm hv (pa_cons ha pa_nil he) hn hdb he hpl) fun σ H Q ⟨env, M, Ed, Qd, p, q, k⟩ => ⟨env, M, Ed, _, p, q, fun d M1 v H1 q1 r1 R1 T1 => hs _ _ _ _ _ _ r1 R1 q1 (k.mono T1)⟩
theorem d_ty1 {G : D → Sto → KD → Prop} {id : String} {r : List V → Hp → VK → Prop} (hc : CallR X (.type id) r) (hs : ∀ v d M H Qd Q, Rep X.K H v d → R (cn X CA) M H → G d M Qd → KQ (cn X CA) H Qd Q → r [v] H Q)
    (hg : Gl X x) (hm : X.mg x = none) (hv : bootBuiltins x = some (.type id)) (ha : SE X CA XE a f) (hn : x ≠ "__name__" := by decide) (hdb : (x == ("__debug__" : Str)) = false := by decide)
    (he : starEach [a] X.env = (false, eval a X.env) :: starEach [] X.env := by rfl) (hpl : (backTo pos (starEach [] X.env)).any (·.1) = false := by rfl) :
    SE X CA XE (.Call (.Name x p) [a] [] pos) (fun E env M Q => f E env M fun d M1 => G d M1 Q) :=
  PE_weak (pe_callTy hc hg hm hv (pa_cons ha pa_nil he) hn hdb he hpl) fun σ H Q ⟨env, M, Ed, Qd, p, q, k⟩ => ⟨env, M, Ed, _, p, q, fun d M1 v H1 q1 r1 R1 T1 => hs _ _ _ _ _ _ r1 R1 q1 (k.mono T1)⟩
theorem d_len (hm : X.mg "len" = none) (ha : SE X CA XE a f) (hg : Gl X "len" := by rfl) (he : starEach [a] X.env = (false, eval a X.env) :: starEach [] X.env := by rfl) (hpl : (backTo pos (starEach [] X.env)).any (·.1) = false := by rfl) : SE X CA XE (.Call (.Name "len" p) [a] [] pos) (eLen f) :=
  d_b1 (G := fun d M Q => lenD d M fun n => Q (.int n) M) call_len (fun v d M H Qd Q r1 hR h k => by
    unfold lenD at h
    split at h
    · cases r1; exact ⟨_, _, rfl, ⟨h.1, rfl⟩, k _ _ _ _ h.2 (.int _) hR .refl⟩
    · cases r1 with
      | tup s q => exact ⟨_, _, rfl, .inr ⟨_, s.s, rfl⟩, k _ _ _ _ (by rw [q.length]; exact h) (.int _) hR .refl⟩
    · cases r1 with
      | lro s q => exact ⟨_, _, rfl, .inl ⟨_, s.l, rfl⟩, k _ _ _ _ (by rw [q.length]; exact h) (.int _) hR .refl⟩
    · cases r1
      split at h
      · obtain ⟨vs, h1, q⟩ := hR _ _ (by assumption)
        exact ⟨_, _, rfl, .inl ⟨_, SqL.of h1, rfl⟩, k _ _ _ _ (by rw [q.length]; exact h) (.int _) hR .refl⟩
      · exact h.elim
    · exact h.elim) hg hm PySem.boot_len ha (he := he) (hpl := hpl)
theorem d_abs (hm : X.mg "abs" = none) (ha : SE X CA XE a f) (hg : Gl X "abs" := by rfl) (he : starEach [a] X.env = (false, eval a X.env) :: starEach [] X.env := by rfl) (hpl : (backTo pos (starEach [] X.env)).any (·.1) = false := by rfl) : SE X CA XE (.Call (.Name "abs" p) [a] [] pos) (eAbs f) :=
  d_b1 (G := fun d M Q => match d with | .int i => Q (.int (if i < 0 then -i else i)) M | _ => False) call_abs (fun v d M H Qd Q r1 hR h k => by
    split at h
    · cases r1; exact ⟨_, rfl, k _ _ _ _ h (.int _) hR .refl⟩
    · exact h.elim) hg hm (by decide +kernel) ha (he := he) (hpl := hpl)
theorem d_intC (hm : X.mg "int" = none) (ha : SE X CA XE a f) (hg : Gl X "int" := by rfl) (he : starEach [a] X.env = (false, eval a X.env) :: starEach [] X.env := by rfl) (hpl : (backTo pos (starEach [] X.env)).any (·.1) = false := by rfl) : SE X CA XE (.Call (.Name "int" p) [a] [] pos) (eInt f) :=
  d_ty1 (G := fun d M Q => match d with | .int i => Q (.int i) M | .bl b => Q (.int (if b then 1 else 0)) M | _ => False) call_int1 (fun v d M H Qd Q r1 hR h k => by
    split at h
    · cases r1; exact .inl ⟨_, rfl, k _ _ _ _ h (.int _) hR .refl⟩
    · cases r1; exact .inr ⟨_, rfl, k _ _ _ _ h (.int _) hR .refl⟩
    · exact h.elim) hg hm (by decide +kernel) ha (he := he) (hpl := hpl)
theorem d_tupOf (hm : X.mg "tuple" = none) (ha : SE X CA XE a f) (hg : Gl X "tuple" := by rfl) (he : starEach [a] X.env = (false, eval a X.env) :: starEach [] X.env := by rfl) (hpl : (backTo pos (starEach [] X.env)).any (·.1) = false := by rfl) : SE X CA XE (.Call (.Name "tuple" p) [a] [] pos) (eTupOf f) :=
  d_ty1 (G := fun d M Q => match d with
    | .tup xs => Q (.tup xs) M
    | .ref a => match M a with
      | some (.lst xs) => Q (.tup xs) M
      | _ => False
    | _ => False) call_tupleF (fun v d M H Qd Q r1 hR h k => by
    split at h
    · cases r1 with
      | tup s q => exact ⟨_, _, rfl, .inr ⟨s.s, k _ _ _ _ h (.tup s q) hR .refl⟩⟩
    · cases r1
      split at h
      · obtain ⟨vs, h1, q⟩ := hR _ _ (by assumption)
        refine ⟨_, _, rfl, .inl ⟨SqL.of h1, fun l its hl => ?_⟩⟩
        obtain ⟨x, y, z⟩ := lay_tup hl q hR
        exact k _ _ _ _ h x y z
      · exact h.elim
    · exact h.elim) hg hm (by decide +kernel) ha (he := he) (hpl := hpl)
theorem CallR.or {v : Value} {r r' : List V → Hp → VK → Prop} (h : CallR X v r) (h' : CallR X v r') : CallR X v fun xs H Q => r xs H Q ∨ r' xs H Q := by
  intro pins s σ H xs us Q I rv q
  rcases q with q | q
  · exact h pins s σ H xs us Q I rv q
  · exact h' pins s σ H xs us Q I rv q
theorem keys_reps {K : PySem.W.Frag} {H : Hp} : ∀ {vs : List (L2.Key × V)} {kvs : List (Key × D)}, PKV K H vs kvs → Reps K H (vs.map fun kv => kV kv.1) (kvs.map fun kv => dKey kv.1)
  | _, _, .nil => .nil
  | _, _, .cons (a := p) (b := q) r t => by
    rw [List.map_cons, List.map_cons, r.1]
    refine .cons ?_ (keys_reps t)
    cases q.1 with
    | inl i => exact .int i
    | inr y => exact .str y
theorem d_lstOf (hc : X.calm = true) (hm : X.mg "list" = none) (ha : SE X CA XE a f) (hg : Gl X "list" := by rfl) (he : starEach [a] X.env = (false, eval a X.env) :: starEach [] X.env := by rfl) (hpl : (backTo pos (starEach [] X.env)).any (·.1) = false := by rfl) : SE X CA XE (.Call (.Name "list" p) [a] [] pos) (eLstOf f) :=
  d_ty1 (G := fun d M Q => match d with
    | .tup xs => ∀ p, M p = none → Q (.ref p) (M.set p (.lst xs))
    | .ref a => match M a with
      | some (.lst xs) => ∀ p, M p = none → Q (.ref p) (M.set p (.lst xs))
      | some (.dk kvs) => ∀ p, M p = none → Q (.ref p) (M.set p (.lst (kvs.map fun kv => dKey kv.1)))
      | _ => False
    | _ => False) (CallR.or call_list_of (call_list_dK hc)) (fun v d M H Qd Q r1 hR h k => by
    split at h
    · cases r1 with
      | tup s q =>
        refine .inl ⟨_, _, rfl, .inr s.s, fun l hl => ?_⟩
        obtain ⟨x, y⟩ := lay_lst hl q hR
        exact k _ _ _ _ (h l (hR.fresh hl)) (.ref l) x y
    · cases r1
      split at h
      · obtain ⟨vs, h1, q⟩ := hR _ _ (by assumption)
        refine .inl ⟨_, _, rfl, .inl (SqL.of h1), fun l hl => ?_⟩
        obtain ⟨x, y⟩ := lay_lst hl q hR
        exact k _ _ _ _ (h l (hR.fresh hl)) (.ref l) x y
      · obtain ⟨vs, h1, q⟩ := hR _ _ (by assumption)
        refine .inr ⟨_, _, rfl, h1, fun l hl => ?_⟩
        obtain ⟨x, y⟩ := lay_lst hl (keys_reps q) hR
        exact k _ _ _ _ (h l (hR.fresh hl)) (.ref l) x y
      · exact h.elim
    · exact h.elim) hg hm (by decide +kernel) ha (he := he) (hpl := hpl)
theorem bools_rep {K : PySem.W.Frag} {H : Hp} : ∀ {vs : List V} {ds : List D} {bs : List Bool}, Reps K H vs ds → asBools ds = some bs → vs = bs.map V.bl
  | _, _, _, .nil, h => by simp [asBools] at h; subst h; rfl
  | _, _, _, .cons (d := d) r t, h => by
    cases r <;> simp only [asBools] at h <;> first | (cases h; done) | skip
    rename_i b
    rw [Option.map_eq_some_iff] at h
    obtain ⟨bs, e, rfl⟩ := h
    rw [List.map_cons, bools_rep t e]
theorem ints_rep {K : PySem.W.Frag} {H : Hp} : ∀ {vs : List V} {ds : List D} {bs : List Int}, Reps K H vs ds → asInts ds = some bs → vs = bs.map V.int
  | _, _, _, .nil, h => by simp [asInts] at h; subst h; rfl
  | _, _, _, .cons (d := d) r t, h => by
    cases r <;> simp only [asInts] at h <;> first | (cases h; done) | skip
    rename_i b
    rw [Option.map_eq_some_iff] at h
    obtain ⟨bs, e, rfl⟩ := h
    rw [List.map_cons, ints_rep t e]
theorem d_all (hc : X.calm = true) (hm : X.mg "all" = none) (ha : SE X CA XE a f) (hg : Gl X "all" := by rfl) (he : starEach [a] X.env = (false, eval a X.env) :: starEach [] X.env := by rfl) (hpl : (backTo pos (starEach [] X.env)).any (·.1) = false := by rfl) : SE X CA XE (.Call (.Name "all" p) [a] [] pos) (eAll f) :=
  d_b1 (G := fun d M Q => match d with
    | .ref a => match M a with
      | some (.lst xs) => match asBools xs with
        | some bs => Q (.bl (bs.all id)) M
        | none => False
      | _ => False
    | _ => False) (cr_all hc) (fun v d M H Qd Q r1 hR h k => by
    split at h
    · cases r1
      split at h
      · split at h
        · obtain ⟨vs, h1, q⟩ := hR _ _ (by assumption)
          have e := bools_rep q (by assumption)
          subst e
          exact ⟨_, _, rfl, SqL.of h1, k _ _ _ _ h (.bl _) hR .refl⟩
        · exact h.elim
      · exact h.elim
    · exact h.elim) hg hm (by decide +kernel) ha (he := he) (hpl := hpl)
theorem d_any (hc : X.calm = true) (hm : X.mg "any" = none) (ha : SE X CA XE a f) (hg : Gl X "any" := by rfl) (he : starEach [a] X.env = (false, eval a X.env) :: starEach [] X.env := by rfl) (hpl : (backTo pos (starEach [] X.env)).any (·.1) = false := by rfl) : SE X CA XE (.Call (.Name "any" p) [a] [] pos) (eAny f) :=
  d_b1 (G := fun d M Q => match d with
    | .ref a => match M a with
      | some (.lst xs) => match asBools xs with
        | some bs => Q (.bl (bs.any id)) M
        | none => False
      | _ => False
    | _ => False) (cr_any hc) (fun v d M H Qd Q r1 hR h k => by
    split at h
    · cases r1
      split at h
      · split at h
        · obtain ⟨vs, h1, q⟩ := hR _ _ (by assumption)
          have e := bools_rep q (by assumption)
          subst e
          exact ⟨_, _, rfl, SqL.of h1, k _ _ _ _ h (.bl _) hR .refl⟩
        · exact h.elim
      · exact h.elim
    · exact h.elim) hg hm (by decide +kernel) ha (he := he) (hpl := hpl)
theorem d_sum (hc : X.calm = true) (hm : X.mg "sum" = none) (ha : SE X CA XE a f) (hg : Gl X "sum" := by rfl) (he : starEach [a] X.env = (false, eval a X.env) :: starEach [] X.env := by rfl) (hpl : (backTo pos (starEach [] X.env)).any (·.1) = false := by rfl) : SE X CA XE (.Call (.Name "sum" p) [a] [] pos) (eSum f) :=
  d_b1 (G := fun d M Q => match d with
    | .ref a => match M a with
      | some (.lst xs) => match asInts xs with
        | some bs => Q (.int bs.sum) M
        | none => False
      | _ => False
    | _ => False) (cr_sum hc) (fun v d M H Qd Q r1 hR h k => by
    split at h
    · cases r1
      split at h
      · split at h
        · obtain ⟨vs, h1, q⟩ := hR _ _ (by assumption)
          have e := ints_rep q (by assumption)
          subst e
          exact ⟨_, _, rfl, SqL.of h1, k _ _ _ _ h (.int _) hR .refl⟩
        · exact h.elim
      · exact h.elim
    · exact h.elim) hg hm (by decide +kernel) ha (he := he) (hpl := hpl)
/-! ## isinstance -/
theorem ty_of {c : Cn} {v : V} {d : D} {M : Sto} {H : Hp} {k : String → Prop} (r : Rep c.K H v d) (hR : R c M H) (h : tyD d M k) : ∃ t ∈ ["NoneType", "bool", "int", "str", "tuple", "list", "dict"], TyX c.K H v (.type t) ∧ k t := by
  unfold tyD at h
  split at h
  · cases r; exact ⟨_, by simp, .base .non, h⟩
  · cases r; exact ⟨_, by simp, .base (.bl _), h⟩
  · cases r; exact ⟨_, by simp, .base (.int _), h⟩
  · cases r; exact ⟨_, by simp, .base (.str _), h⟩
  · cases r with
    | tup s q =>
      refine ⟨"tuple", by simp, ?_, h⟩
      rcases s with ⟨its, s⟩ | ⟨o, its, n, e, cl, _⟩
      · exact .fTuple s
      · exact .kTuple e cl
  · cases r
    split at h
    · obtain ⟨vs, h1, q⟩ := hR _ _ (by assumption)
      exact ⟨"list", by simp, .base (.lst h1), h⟩
    · obtain ⟨vs, h1, q⟩ := hR _ _ (by assumption)
      exact ⟨"dict", by simp, .base (.dK h1), h⟩
    · exact h.elim
  · cases r with
    | lro s q =>
      refine ⟨"list", by simp, ?_, h⟩
      rcases s with ⟨o, s⟩ | ⟨o, its, n, e, cl, _⟩
      · exact .base (.frz s)
      · exact .kList e cl
  · exact h.elim
theorem kit_all : (["NoneType", "bool", "int", "str", "tuple", "list", "dict"].all fun t => ["int", "str", "bool", "tuple", "list", "dict"].all fun c => kitB t c == some (isTy t c)) = true := by decide +kernel
theorem kit_at {K : PySem.W.Frag} {t c : String} (ht : t ∈ ["NoneType", "bool", "int", "str", "tuple", "list", "dict"]) (hc : c ∈ ["int", "str", "bool", "tuple", "list", "dict"]) : PySem.W.kitOne K (.type t) (.type c) = some (isTy t c) :=
  kit_ty (beq_iff_eq.mp (List.all_eq_true.mp (List.all_eq_true.mp kit_all t ht) c hc))
theorem d_isi1 {c : String} {y : Str} {py : Pos} (hm : X.mg "isinstance" = none) (hmy : X.mg y = none) (hvy : bootBuiltins y = some (.type c)) (hc : c ∈ ["int", "str", "bool", "tuple", "list", "dict"]) (ha : SE X CA XE a f) (hg : Gl X "isinstance" := by rfl) (hgy : Gl X y := by rfl)
    (hny : y ≠ "__name__" := by decide) (hdy : (y == ("__debug__" : Str)) = false := by decide)
    (he : starEach [a, .Name y py] X.env = (false, eval a X.env) :: starEach [.Name y py] X.env := by rfl) (he2 : starEach [.Name y py] X.env = (false, eval (.Name y py) X.env) :: starEach [] X.env := by rfl) (hpl : (backTo pos (starEach [.Name y py] X.env)).any (·.1) = false := by rfl) :
    SE X CA XE (.Call (.Name "isinstance" p) [a, .Name y py] [] pos) (eIsi f [c]) :=
  PE_weak (pe_callB call_isi hg hm (by decide +kernel) (pa_cons ha (pa_cons (pe_bltn (v := .ty c) hgy hmy hvy rfl hny hdy) pa_nil he2) he) (by decide) (by decide) he hpl) fun σ H Q ⟨env, M, Ed, Qd, p, q, k⟩ => ⟨env, M, Ed, _, p, q, fun d M1 v H1 q1 r1 R1 T1 => by
    obtain ⟨t, ht, ty, q2⟩ := ty_of (c := cn X CA) r1 R1 q1
    exact ⟨_, _, _, _, _, rfl, .ty c, ty, kit_at ht hc, k _ _ _ _ (by simpa using q2) (.bl _) R1 T1⟩⟩
theorem d_isi2 {c c' : String} {y y' : Str} {py py' pt : Pos} {kt : Nat} (hm : X.mg "isinstance" = none) (hmy : X.mg y = none) (hvy : bootBuiltins y = some (.type c)) (hc : c ∈ ["int", "str", "bool", "tuple", "list", "dict"])
    (hmy' : X.mg y' = none) (hvy' : bootBuiltins y' = some (.type c')) (hc' : c' ∈ ["int", "str", "bool", "tuple", "list", "dict"]) (ha : SE X CA XE a f) (hg : Gl X "isinstance" := by rfl) (hgy : Gl X y := by rfl) (hgy' : Gl X y' := by rfl)
    (hny : y ≠ "__name__" := by decide) (hdy : (y == ("__debug__" : Str)) = false := by decide) (hny' : y' ≠ "__name__" := by decide) (hdy' : (y' == ("__debug__" : Str)) = false := by decide)
    (he : starEach [a, .Tuple [.Name y py, .Name y' py'] kt pt] X.env = (false, eval a X.env) :: starEach [.Tuple [.Name y py, .Name y' py'] kt pt] X.env := by rfl) (he2 : starEach [.Tuple [.Name y py, .Name y' py'] kt pt] X.env = (false, eval (.Tuple [.Name y py, .Name y' py'] kt pt) X.env) :: starEach [] X.env := by rfl)
    (he3 : starEach [.Name y py, .Name y' py'] X.env = (false, eval (.Name y py) X.env) :: starEach [.Name y' py'] X.env := by rfl) (he4 : starEach [.Name y' py'] X.env = (false, eval (.Name y' py') X.env) :: starEach [] X.env := by rfl)
    (hpl : (backTo pos (starEach [.Tuple [.Name y py, .Name y' py'] kt pt] X.env)).any (·.1) = false := by rfl) :
    SE X CA XE (.Call (.Name "isinstance" p) [a, .Tuple [.Name y py, .Name y' py'] kt pt] [] pos) (eIsi f [c, c']) :=
  PE_weak (pe_callB call_isiT hg hm (by decide +kernel) (pa_cons ha (pa_cons (pe_tup (pa_cons (pe_bltn (v := .ty c) hgy hmy hvy rfl hny hdy) (pa_cons (pe_bltn (v := .ty c') hgy' hmy' hvy' rfl hny' hdy') pa_nil he4) he3)) pa_nil he2) he) (by decide) (by decide) he hpl) fun σ H Q ⟨env, M, Ed, Qd, p, q, k⟩ => ⟨env, M, Ed, _, p, q, fun d M1 v H1 q1 r1 R1 T1 => by
    refine ⟨by show 2 ≤ sizeLine; decide, fun l hl => ?_⟩
    obtain ⟨t, ht, ty, q2⟩ := ty_of (c := cn X CA) (r1.m (Tups.new (ho := .tup [.ty c, .ty c']) hl)) (R1.keep (ho := .tup [.ty c, .ty c']) hl) q1
    refine ⟨_, l, _, _, [.type c, .type c'], isTy t c || isTy t c', rfl, upd_same, .cons (.ty c) (.cons (.ty c') .nil), ty, ?_, k _ _ _ _ (by simpa using q2) (.bl _) (R1.keep hl) (T1.trans (Tups.new hl))⟩
    refine kitAny_cons (kit_at ht hc) (fun e => ?_) (fun e => by rw [e]; rfl)
    rw [e, Bool.false_or]
    refine kitAny_cons (kit_at ht hc') (fun e => ?_) (fun e => e)
    rw [e]
    rfl⟩
end
end DL

set_option Elab.async false
set_option linter.all false
set_option maxRecDepth 100000
set_option maxHeartbeats 4000000
/-! DE5: dicts and lists that are made and changed -/
namespace DL
open PySem PySem.Spec PyProof.Rows L2
section
variable {X : Cx} {CA : String → Addr} {XE : XK} {a b e : Expr} {es rest : List Expr} {f g h : WE} {fs : List WE} {pos p apos cpos : Pos} {t u : WT} {x : Str}
theorem d_dk : SE X CA XE (.Dict [] [] pos) eDk :=
  PE_weak pe_dnewK fun σ H Q ⟨env, M, Ed, Qd, p, q, k⟩ l hl => k _ _ _ _ (q l (p.r.fresh hl)) (.ref l) (p.r.at (Tups.new hl) ⟨[], upd_same, .nil⟩) (Tups.new hl)
def tDNewN (c : Cn) : TE := fun _ H Q => ∀ p, H p = none → Q (.ref p) (upd H p (NDict c p []))
theorem pe_dnewN : PE X (.Dict [] [] pos) (tDNewN (cn X CA)) := ⟨fun pins s σ H Q I h =>
  wpAny_Dict_empty ⟨.ref s.heap.objs.size, _, I.laid (a := s.heap.objs.size) (o := NDict (cn X CA) s.heap.objs.size []) (t' := s.toks) (fun _ _ q => Heap.get?_push_of_some _ q) (Nat.le_refl _)
    ⟨⟨Nat.zero_le _, beq_eq_false_iff_ne.mpr (Ne.symm (Nat.ne_of_lt I.big)), [], .nil, ⟨_, #[], 0, Heap.get?_push_size _ rfl, ⟨rfl, rfl, rfl⟩, rfl, rfl⟩, List.nodup_nil⟩, ⟨_, Heap.get?_push_size _ rfl⟩,
      fun h1 h2 ⟨a, b, xs, c, ⟨o, es, ep, d, e⟩, f⟩ k => ⟨a, b, xs, c, ⟨o, es, ep, k _ d, e⟩, f⟩⟩, rfl, h _ (I.hok.fresh (Nat.le_refl _))⟩⟩
theorem d_dn : SE X CA XE (.Dict [] [] pos) eDn :=
  PE_weak (pe_dnewN (CA := CA)) fun σ H Q ⟨env, M, Ed, Qd, p, q, k⟩ l hl => k _ _ _ _ (q l (p.r.fresh hl)) (.ref l) (p.r.at (Tups.new hl) ⟨[], upd_same, .nil⟩) (Tups.new hl)
/-! ## d.get -/
def IsDA (c : Cn) (H : Hp) (a : Addr) : Prop := (∃ kvs, H a = some (.dK kvs)) ∨ ∃ es, H a = some (NDict c a es)
theorem isDA_at {pins : List (Addr × Obj)} {σ : L2.St} {H : Hp} {s : Shared} {a : Addr} (I : Inv X pins σ H s) (d : IsDA (cn X CA) H a) :
    s.TypeIs (.ref a) "dict" ∧ (∀ b, Value.ref a = .ref b → ∃ ob, s.heap.get? b = some ob ∧ ob.dict = none) := by
  rcases d with ⟨kvs, e⟩ | ⟨es, e⟩
  · obtain ⟨x, y, _⟩ := isD_at I (.inl ⟨kvs, .inl e⟩)
    exact ⟨x, y⟩
  · obtain ⟨⟨_, _, _, _, ⟨o, es', ep, h1, h2, _⟩, _⟩, _⟩ := I.hok a _ e
    refine ⟨⟨o, h1, h2.1⟩, fun b q => ?_⟩
    cases q
    exact ⟨o, h1, h2.2.1⟩
/-- what d.get(y, z) hands on -/
def GetA (c : Cn) (a : Addr) (y z : V) (H : Hp) (Q : VK) : Prop := (∃ o, DGet H a y o ∧ Q (o.getD z) H) ∨
  ∃ b es kvs k, y = .ref b ∧ H a = some (NDict c a es) ∧ PDn c H es kvs ∧ Rep c.K H (.ref b) k ∧ nkOk k = true ∧ (∀ d v, lk kvs k = some d → Rep c.K H v d → Q v H) ∧ (lk kvs k = none → Q z H)
def tGet1A (c : Cn) (td ty : TE) : TE := fun σ H Q => td σ H fun x H1 => ∃ a, x = .ref a ∧ IsDA c H1 a ∧ ty σ H1 fun y H2 => GetA c a y .non H2 Q
def tGet2A (c : Cn) (td ty tz : TE) : TE := fun σ H Q => td σ H fun x H1 => ∃ a, x = .ref a ∧ IsDA c H1 a ∧ ty σ H1 fun y H2 => tz σ H2 fun z H3 => GetA c a y z H3 Q
theorem pe_get1A {k : Nat} {td ty : TE} (hr : Room k X.A) (ho : PE X a td) (he : PE X b ty) (m : M1 X a "get" apos b cpos) : PE X (.Call (.Attribute a "get" apos) [b] [] cpos) (tGet1A (cn X CA) td ty) := by
  refine ⟨fun pins s σ H Q I h => ?_⟩
  refine wpAny_Call_method m.base m.few m.line PySem.F.plainAttrs_dict PySem.F.slot_dict_get PySem.F.type_dict_get (thn (ho.run pins s σ H _ I h) fun u s1 ⟨x, H1, I1, rx, a, ex, d, q1⟩ => ?_)
  subst ex
  obtain rfl : u = Value.ref a := rx
  obtain ⟨t1, t2⟩ := isDA_at I1 d
  refine ⟨t1, t2, ?_⟩
  rw [m.trees]
  refine Calls.callWith_builtin rfl (Calls.evalArgs_plain (Calls.spliced_cons (thn (he.run pins s1 σ H1 _ I1 q1) fun iv s2 ⟨y, H2, I2, ry, q2⟩ => Calls.spliced_nil ?_)))
  rcases q2 with ⟨ov, g, q2⟩ | ⟨bb, es, kvs, k', ey, e, p, r, hk, h1, h2⟩
  · exact d_get1 (hu_of hr) I2 g ry fun w' s3 I3 rw' => ⟨_, H2, I3, rw', q2⟩
  · subst ey
    cases ry
    obtain ⟨z, hd, xs, pr, dd⟩ := nd_of I2 e p
    refine PySem.get_keyed (kvs := pairsH xs) (room_n hr) (nk_at I2 r hk) hd ⟨xs, dd, rfl⟩ ?_
    rw [valueAt_pairsH]
    have q := nd_at hk pr p
    cases el : lk kvs k' with
    | none => rw [q.2 el]; exact ⟨.non, H2, I2.tok _, rfl, h2 el⟩
    | some d => obtain ⟨b', v', u', e1, rv, rd⟩ := q.1 d el; rw [e1]; exact ⟨v', H2, I2.tok _, rv, h1 d v' el rd⟩
theorem pe_get2A {k : Nat} {td ty tz : TE} (hr : Room k X.A) (ho : PE X a td) (he : PE X b ty) (hf : PE X e tz) (m : M2 X a "get" apos b e cpos) : PE X (.Call (.Attribute a "get" apos) [b, e] [] cpos) (tGet2A (cn X CA) td ty tz) := by
  refine ⟨fun pins s σ H Q I h => ?_⟩
  refine wpAny_Call_method m.base m.few m.line PySem.F.plainAttrs_dict PySem.F.slot_dict_get PySem.F.type_dict_get (thn (ho.run pins s σ H _ I h) fun u s1 ⟨x, H1, I1, rx, a, ex, d, q1⟩ => ?_)
  subst ex
  obtain rfl : u = Value.ref a := rx
  obtain ⟨t1, t2⟩ := isDA_at I1 d
  refine ⟨t1, t2, ?_⟩
  rw [m.trees]
  refine Calls.callWith_builtin rfl (Calls.evalArgs_plain (Calls.spliced_cons (thn (he.run pins s1 σ H1 _ I1 q1) fun iv s2 ⟨y, H2, I2, ry, q2⟩ =>
    Calls.spliced_cons (thn (hf.run pins s2 σ H2 _ I2 q2) fun zv s3 ⟨z, H3, I3, rz, q3⟩ => Calls.spliced_nil ?_))))
  rcases q3 with ⟨ov, g, q2⟩ | ⟨bb, es, kvs, k', ey, e, p, r, hk, h1, h2⟩
  · exact d_get2 (hu_of hr) I3 g ry rz fun w' s4 I4 rw' => ⟨_, H3, I4, rw', q2⟩
  · subst ey
    cases ry
    obtain ⟨z', hd, xs, pr, dd⟩ := nd_of I3 e p
    refine PySem.getOr_keyed (kvs := pairsH xs) (room_n hr) (nk_at I3 r hk) hd ⟨xs, dd, rfl⟩ ?_
    rw [valueAt_pairsH]
    have q := nd_at hk pr p
    cases el : lk kvs k' with
    | none => rw [q.2 el]; exact ⟨z, H3, I3.tok _, rz, h2 el⟩
    | some d => obtain ⟨b', v', u', e1, rv, rd⟩ := q.1 d el; rw [e1]; exact ⟨v', H3, I3.tok _, rv, h1 d v' el rd⟩
theorem isDA_of {c : Cn} {v : V} {d : D} {M : Sto} {H : Hp} {k : Prop} (r : Rep c.K H v d) (hR : R c M H) (h : isDct d M k) : ∃ a, v = .ref a ∧ d = .ref a ∧ IsDA c H a ∧ k := by
  unfold isDct at h
  split at h
  · cases r
    split at h
    · obtain ⟨vs, h1, _⟩ := hR _ _ (by assumption)
      exact ⟨_, rfl, rfl, .inl ⟨_, h1⟩, h⟩
    · obtain ⟨vs, h1, _⟩ := hR _ _ (by assumption)
      exact ⟨_, rfl, rfl, .inr ⟨_, h1⟩, h⟩
    · exact h.elim
  · exact h.elim
theorem getA_of {c : Cn} {a : Addr} {y z : V} {dy : D} {M : Sto} {H : Hp} {Q : VK} {k : Option D → Prop} (ry : Rep c.K H y dy) (hR : R c M H) (h : refD (.ref a) M fun o => dLk o dy k) (h1 : ∀ d v, k (some d) → Rep c.K H v d → Q v H) (h2 : k none → Q z H) : GetA c a y z H Q := by
  unfold refD at h
  simp only at h
  split at h
  · rename_i o e
    unfold dLk at h
    split at h
    · split at h
      · rename_i κ ek
        obtain ⟨vs, e1, p1⟩ := hR _ _ e
        have q := lk_val κ p1
        refine .inl ⟨valV vs κ, by rw [ry.key ek]; exact DGet.k e1, ?_⟩
        cases el : lk _ κ with
        | none => rw [q.2 el]; rw [el] at h; exact h2 h
        | some d => obtain ⟨v, ev, rv⟩ := q.1 d el; rw [ev]; rw [el] at h; exact h1 d v h rv
      · exact h.elim
    · obtain ⟨es, e1, p1⟩ := hR _ _ e
      obtain ⟨hk, h⟩ := h
      obtain ⟨xs, n, rfl, _, _⟩ := nkOk_nest hk
      cases ry with
      | tup s1 q1 => exact .inr ⟨_, es, _, _, rfl, e1, p1, .tup s1 q1, hk, fun d v el rv => h1 d v (by rw [el] at h; exact h) rv, fun el => h2 (by rw [el] at h; exact h)⟩
    · exact h.elim
  · exact h.elim
theorem d_get1 {k : Nat} (hr : Room k X.A) (ha : SE X CA XE a f) (hb : SE X CA XE b g) (m : M1 X a "get" apos b cpos := by exact ⟨rfl, rfl, rfl, rfl⟩) : SE X CA XE (.Call (.Attribute a "get" apos) [b] [] cpos) (eGet1 f g) :=
  PE_weak (pe_get1A (CA := CA) hr ha hb m) fun σ H Q ⟨env, M, Ed, Qd, p, q, k⟩ => ⟨env, M, Ed, _, p, q, fun d1 M1 v1 H1 q1 r1 R1 T1 => by
    obtain ⟨a', e1, e2, i, q1⟩ := isDA_of (c := cn X CA) r1 R1 q1
    subst e2
    exact ⟨a', e1, i, env, M1, Ed, _, p.to T1 R1, q1, fun d2 M2 v2 H2 q2 r2 R2 T2 => getA_of (c := cn X CA) r2 R2 q2 (fun d v q rv => k _ _ _ _ q rv R2 (T1.trans T2)) fun q => k _ _ _ _ q .non R2 (T1.trans T2)⟩⟩
theorem d_get2 {k : Nat} (hr : Room k X.A) (ha : SE X CA XE a f) (hb : SE X CA XE b g) (he : SE X CA XE e h) (m : M2 X a "get" apos b e cpos := by exact ⟨rfl, rfl, rfl, rfl⟩) : SE X CA XE (.Call (.Attribute a "get" apos) [b, e] [] cpos) (eGet2 f g h) :=
  PE_weak (pe_get2A (CA := CA) hr ha hb he m) fun σ H Q ⟨env, M, Ed, Qd, p, q, k⟩ => ⟨env, M, Ed, _, p, q, fun d1 M1 v1 H1 q1 r1 R1 T1 => by
    obtain ⟨a', e1, e2, i, q1⟩ := isDA_of (c := cn X CA) r1 R1 q1
    subst e2
    exact ⟨a', e1, i, env, M1, Ed, _, p.to T1 R1, q1, fun d2 M2 v2 H2 q2 r2 R2 T2 => ⟨env, M2, Ed, _, p.to (T1.trans T2) R2, q2, fun d3 M3 v3 H3 q3 r3 R3 T3 =>
      getA_of (c := cn X CA) (r2.m T3) R3 q3 (fun d v q rv => k _ _ _ _ q rv R3 (T1.trans (T2.trans T3))) fun q => k _ _ _ _ q r3 R3 (T1.trans (T2.trans T3))⟩⟩⟩
/-! ## d[k] = v -/
theorem ins_len {κ : Type} [DecidableEq κ] (kvs : List (κ × D)) (k : κ) (d : D) : (ins kvs k d).length ≤ kvs.length + 1 := by
  unfold ins
  split
  · rw [List.length_map]; omega
  · rw [List.length_append, List.length_singleton]; omega
theorem valV_none_notin {κ : Type} [DecidableEq κ] {vs : List (κ × V)} {k : κ} (h : valV vs k = none) : ∀ p ∈ vs, ¬ p.1 = k := fun p hp e => by
  have := (valV_any k vs)
  rw [h] at this
  have h2 : (vs.any fun kv => decide (kv.1 = k)) = true := List.any_eq_true.mpr ⟨p, hp, by simp [e]⟩
  rw [h2] at this; cases this
theorem paired_map {α β γ δ : Type} {F : α → β → Prop} {G : γ → δ → Prop} {f : α → γ} {g : β → δ} {l : List α} {r : List β} (h : Paired F l r) (k : ∀ a b, F a b → G (f a) (g b)) : Paired G (l.map f) (r.map g) := by
  induction h with
  | nil => exact .nil
  | cons r t ih => exact .cons (k _ _ r) ih
theorem paired_app {α β : Type} {F : α → β → Prop} {l l' : List α} {r r' : List β} (h : Paired F l r) (h' : Paired F l' r') : Paired F (l ++ l') (r ++ r') := by
  induction h with
  | nil => exact h'
  | cons r t ih => exact .cons r ih
theorem paired_any {α β : Type} {F : α → β → Prop} {l : List α} {r : List β} {f : α → Bool} {g : β → Bool} (h : Paired F l r) (k : ∀ a b, F a b → f a = g b) : l.any f = r.any g := by
  induction h with
  | nil => rfl
  | cons r t ih => rw [List.any_cons, List.any_cons, ih, k _ _ r]
theorem put_ins {K : PySem.W.Frag} {H : Hp} {κ : Key} {v : V} {d : D} (rv : Rep K H v d) {vs : List (L2.Key × V)} {kvs : List (Key × D)} (h : PKV K H vs kvs) : PKV K H (putK vs κ v) (ins kvs κ d) := by
  unfold putK ins
  rw [paired_any (g := fun kv => decide (kv.1 = κ)) h fun a b r => by rw [r.1]]
  split
  · refine paired_map h fun a b r => ?_
    by_cases e : b.1 = κ
    · rw [if_pos (by rw [r.1]; exact e), if_pos e]; exact ⟨r.1, rv⟩
    · rw [if_neg (by rw [r.1]; exact e), if_neg e]; exact r
  · exact paired_app h (.cons ⟨rfl, rv⟩ .nil)
/-- the nested one -/
def putN (es : List Ent) (k : NestedKey) (b : Addr) (v : V) : List Ent := if (es.any fun x => decide (x.1 = k)) = true then es.map fun x => if x.1 = k then (x.1, x.2.1, v) else x else es ++ [(k, b, v)]
theorem putN_x {es : List Ent} {xs : List (NestedKey × Addr × Value)} {k : NestedKey} {b : Addr} {v : V} {u : Value} (rv : RelV v u) (h : PEx es xs) : PEx (putN es k b v) (storedH xs k b u) := by
  have e1 : (atKey xs k).isSome = (es.any fun x => decide (x.1 = k)) := by
    induction h with
    | nil => rfl
    | @cons p q es xs r t ih =>
      rw [List.any_cons, ← ih, r.1]
      by_cases e : q.1 = k
      · simp [atKey, e]
      · simp [atKey, e]
  unfold putN storedH
  rw [e1]
  split
  · refine paired_map h fun a c r => ?_
    unfold putAt
    by_cases e : c.1 = k
    · rw [if_pos (by rw [r.1]; exact e), if_pos e]; exact ⟨r.1, r.2.1, rv⟩
    · rw [if_neg (by rw [r.1]; exact e), if_neg e]; exact r
  · exact paired_app h (.cons ⟨rfl, rfl, rv⟩ .nil)
theorem putN_d {c : Cn} {H : Hp} {es : List Ent} {kvs : List (D × D)} {k : D} {b : Addr} {v : V} {d : D} (hk : nkOk k = true) (rk : Rep c.K H (.ref b) k) (rv : Rep c.K H v d) (h : PDn c H es kvs) : PDn c H (putN es (nkD k) b v) (ins kvs k d) := by
  obtain ⟨_, m, _, em, _⟩ := nkOk_nest hk
  have key : ∀ (p : Ent) (q : D × D), (p.1 = nkD q.1 ∧ nkOk q.1 = true ∧ Rep c.K H (.ref p.2.1) q.1 ∧ Rep c.K H p.2.2 q.2) → (p.1 = nkD k ↔ q.1 = k) := fun p q r => by
    obtain ⟨_, n, _, en, _⟩ := nkOk_nest r.2.1
    exact ⟨fun z => nkD_inj q.1 k _ _ en em (by rw [← r.1, z]), fun z => by rw [r.1, z]⟩
  unfold putN ins
  rw [paired_any (g := fun kv => decide (kv.1 = k)) h fun a b r => by rw [decide_eq_decide]; exact key a b r]
  split
  · refine paired_map h fun a q r => ?_
    by_cases e : q.1 = k
    · rw [if_pos ((key a q r).mpr e), if_pos e]; exact ⟨r.1, r.2.1, r.2.2.1, rv⟩
    · rw [if_neg (fun z => e ((key a q r).mp z)), if_neg e]; exact r
  · exact paired_app h (.cons ⟨rfl, hk, rk, rv⟩ .nil)
theorem putN_len (es : List Ent) (k : NestedKey) (b : Addr) (v : V) : (putN es k b v).length ≤ es.length + 1 := by
  unfold putN
  split
  · rw [List.length_map]; omega
  · rw [List.length_append, List.length_singleton]; omega
/-- o[i] = v, by values: a list, a dict of either kind -/
def rSetA (c : Cn) : TSet := fun o i v H Q => rSetL o i v H Q ∨ ((∃ a kvs k, o = .ref a ∧ i = kV k ∧ H a = some (.dK kvs) ∧ kvs.length < sizeLine ∧ Q (upd H a (.dK (putK kvs k v)))) ∨
  ∃ a b es kvs k, o = .ref a ∧ i = .ref b ∧ H a = some (NDict c a es) ∧ PDn c H es kvs ∧ Rep c.K H (.ref b) k ∧ nkOk k = true ∧ es.length < sizeLine ∧ Q (upd H a (NDict c a (putN es (nkD k) b v))))
theorem set_A {k : Nat} (hr : Room k X.A) : PSet X (rSetA (cn X CA)) := by
  intro pins s σ H o i v ov iv u Q I ro ri rv h
  rcases h with h | ⟨a, kvs, k, rfl, rfl, e, hz, q⟩ | ⟨a, b, es, kvs, k, rfl, rfl, e, p, r, hk, hz, q⟩
  · exact set_list pins s σ H o i v ov iv u Q I ro ri rv h
  · cases ro
    exact d_setItem (hu_of hr) I (DPut.k e hz) ri rv fun s' I' => ⟨_, I', q⟩
  · cases ro; cases ri
    obtain ⟨z, hd, xs, pr, dd⟩ := nd_of I e p
    have hl : es.length = xs.length := Paired.length pr
    refine wpAny_setItem_heap (knd := nestedKind X.prog X.w) (room_n hr) (nk_at I r hk) dd (fun h' hm' hs => ?_) (hsz := by rw [← hl]; exact z)
    obtain ⟨o', es', ep, h1, h2, h3, h4, _, h6⟩ := hm'
    refine ⟨_, d_write I (by rw [e]; exact trivial) hs ⟨o', h1⟩ ?_, q⟩
    refine ⟨⟨Nat.le_trans (putN_len _ _ _ _) hz, hd, _, putN_x rv pr, ⟨o', es', ep, h1, h2, h3, h4⟩, h6⟩, ⟨o', h1⟩, fun h1 h2 ⟨a, b, xs, c, ⟨o, es, ep, d, e⟩, f⟩ k => ⟨a, b, xs, c, ⟨o, es, ep, k _ d, e⟩, f⟩⟩
end
end DL

set_option Elab.async false
set_option linter.all false
set_option maxRecDepth 100000
set_option maxHeartbeats 4000000
/-! DE6: methods of lists, dict(pairs), calls of the text's defs -/
namespace DL
open PySem PySem.Spec PyProof.Rows L2
section
variable {X : Cx} {CA : String → Addr} {XE : XK} {a b e o : Expr} {es rest : List Expr} {f g h : WE} {fs : List WE} {pos p apos cpos : Pos} {t u : WT} {x m : Str}
theorem lstAt_of {c : Cn} {v : V} {d : D} {M : Sto} {H : Hp} {k : Addr → List D → Prop} (r : Rep c.K H v d) (hR : R c M H) (h : lstAt d M k) : ∃ a xs vs, v = .ref a ∧ d = .ref a ∧ M a = some (.lst xs) ∧ H a = some (.lst vs) ∧ Reps c.K H vs xs ∧ k a xs := by
  unfold lstAt at h
  split at h
  · cases r
    split at h
    · rename_i xs e
      obtain ⟨vs, h1, q⟩ := hR _ _ e
      exact ⟨_, xs, vs, rfl, rfl, e, h1, q, h⟩
    · exact h.elim
  · exact h.elim
theorem wr_lst {c : Cn} {M : Sto} {H : Hp} {a : Addr} {xs ys : List D} {vs ws : List V} (hR : R c M H) (hM : M a = some (.lst xs)) (h1 : H a = some (.lst vs)) (r : Reps c.K H ws ys) : R c (M.set a (.lst ys)) (upd H a (.lst ws)) ∧ Tups c.K H (upd H a (.lst ws)) := by
  have T : Tups c.K H (upd H a (.lst ws)) := Tups.wr h1 (ne_frz trivial)
  exact ⟨hR.at T ⟨ws, upd_same, r.m T⟩, T⟩
theorem d_append (ha : SE X CA XE a f) (hb : SE X CA XE b g) (hbase : attributeBase a "append" X.env (eval a X.env) = eval a X.env := by rfl)
    (hfew : ((backTo cpos (starEach [b] X.env)).all (fun x => !x.1) && (backToKw cpos (keywordEach [] X.env)).all (fun x => x.1.isSome) && decide ([b].length + ([] : List Keyword).length + (if ([] : List Keyword).isEmpty then 0 else 1) < 30)) = true := by rfl)
    (hline : (apos.endLine == cpos.line) = true := by rfl) (hs : starEach [b] X.env = (false, eval b X.env) :: starEach [] X.env := by rfl) (hplain : (backTo cpos (starEach [] X.env)).any (·.1) = false := by rfl) :
    SE X CA XE (.Call (.Attribute a "append" apos) [b] [] cpos) (eAppend f g) :=
  PE_weak (pe_bm PySem.F.plainAttrs_list PySem.F.slot_list_append PySem.F.type_list_append mt_append ha (pa_cons hb pa_nil hs) hbase hfew hline hs hplain) fun σ H Q ⟨env, M, Ed, Qd, p, q, k⟩ => ⟨env, M, Ed, _, p, q, fun d1 M1 v1 H1 q1 r1 R1 T1 => by
    obtain ⟨l, xs, vs, e1, e2, _, h1, _, q1⟩ := lstAt_of (c := cn X CA) r1 R1 q1
    subst e1 e2
    refine ⟨.inl ⟨rfl, _, SqL.of h1⟩, env, M1, Ed, _, p.to T1 R1, q1, fun d2 M2 v2 H2 q2 r2 R2 T2 => ?_⟩
    obtain ⟨l', ys, ws, e3, e4, hM, h2, rr, hz, q2⟩ := lstAt_of (c := cn X CA) (.ref l) R2 q2
    cases e3
    obtain ⟨x, y⟩ := wr_lst R2 hM h2 (rr.append (.cons r2 .nil))
    exact ⟨l, ws, v2, rfl, rfl, h2, by rw [rr.length]; exact hz, k _ _ _ _ q2 .non x (T1.trans (T2.trans y))⟩⟩
theorem d_extend (ha : SE X CA XE a f) (hb : SE X CA XE b g) (hbase : attributeBase a "extend" X.env (eval a X.env) = eval a X.env := by rfl)
    (hfew : ((backTo cpos (starEach [b] X.env)).all (fun x => !x.1) && (backToKw cpos (keywordEach [] X.env)).all (fun x => x.1.isSome) && decide ([b].length + ([] : List Keyword).length + (if ([] : List Keyword).isEmpty then 0 else 1) < 30)) = true := by rfl)
    (hline : (apos.endLine == cpos.line) = true := by rfl) (hs : starEach [b] X.env = (false, eval b X.env) :: starEach [] X.env := by rfl) (hplain : (backTo cpos (starEach [] X.env)).any (·.1) = false := by rfl) :
    SE X CA XE (.Call (.Attribute a "extend" apos) [b] [] cpos) (eExtend f g) :=
  PE_weak (pe_bm PySem.F.plainAttrs_list PySem.F.slot_list_extend PySem.F.type_list_extend mt_extend ha (pa_cons hb pa_nil hs) hbase hfew hline hs hplain) fun σ H Q ⟨env, M, Ed, Qd, p, q, k⟩ => ⟨env, M, Ed, _, p, q, fun d1 M1 v1 H1 q1 r1 R1 T1 => by
    obtain ⟨l, xs, vs, e1, e2, _, h1, _, q1⟩ := lstAt_of (c := cn X CA) r1 R1 q1
    subst e1 e2
    refine ⟨.inl ⟨rfl, _, SqL.of h1⟩, env, M1, Ed, _, p.to T1 R1, q1, fun d2 M2 v2 H2 q2 r2 R2 T2 => ?_⟩
    obtain ⟨l', ys, ws, e3, e4, hM, h2, rr, q2⟩ := lstAt_of (c := cn X CA) (.ref l) R2 q2
    cases e3
    obtain ⟨b', zs, us, e5, e6, hM3, h3, rr3, hz, q3⟩ := lstAt_of (c := cn X CA) r2 R2 q2
    subst e5
    obtain ⟨x, y⟩ := wr_lst R2 hM h2 (rr.append rr3)
    exact ⟨l, b', ws, us, rfl, rfl, h2, h3, by rw [rr.length, rr3.length]; exact hz, k _ _ _ _ q3 .non x (T1.trans (T2.trans y))⟩⟩
theorem last_get {α : Type} (xs : List α) : xs.getLast? = xs[xs.length - 1]? := List.getLast?_eq_getElem?
theorem d_pop (ha : SE X CA XE a f) (hbase : attributeBase a "pop" X.env (eval a X.env) = eval a X.env := by rfl) (hline : (apos.endLine == cpos.line) = true := by rfl) :
    SE X CA XE (.Call (.Attribute a "pop" apos) [] [] cpos) (ePop f) :=
  PE_weak (pe_bm0 PySem.F.plainAttrs_list PySem.F.slot_list_pop PySem.F.type_list_pop mt_pop ha hbase hline) fun σ H Q ⟨env, M, Ed, Qd, p, q, k⟩ => ⟨env, M, Ed, _, p, q, fun d1 M1 v1 H1 q1 r1 R1 T1 => by
    obtain ⟨l, xs, vs, e1, e2, hM, h1, rr, q2⟩ := lstAt_of (c := cn X CA) r1 R1 q1
    clear q1
    subst e1 e2
    split at q2
    · rename_i d e
      obtain ⟨v, ev, rv⟩ := rr.get (i := vs.length - 1) (by rw [rr.length, ← last_get]; exact e)
      obtain ⟨x, y⟩ := wr_lst R1 hM h1 rr.dropLast
      exact ⟨.inl ⟨rfl, _, SqL.of h1⟩, l, vs, v, rfl, rfl, h1, ev, k _ _ _ _ q2 (rv.m y) x (T1.trans y)⟩
    · exact q2.elim⟩
/-! ## dict(pairs) -/
theorem pairsK_at {pins : List (Addr × Obj)} {σ : L2.St} {H : Hp} {s : Shared} (I : Inv X pins σ H s) : ∀ {vs : List V} {us : List Value} {ds : List D} {kvs : List (Key × D)}, Reps X.K H vs ds → Vals vs us → pairsK ds = some kvs →
    ∃ (Ts : List Addr) (prs : List (Value × Value)) (vk : List (Key × Value)) (vkv : List (L2.Key × V)), us = Ts.map Value.ref ∧ Ts.length = prs.length ∧ prs.length = kvs.length ∧ vk.length = kvs.length ∧ KV vkv vk ∧ PKV X.K H vkv kvs ∧
      (∀ (j : Nat) (k v : Value), prs[j]? = some (k, v) → ∃ T : Addr, Ts[j]? = some T ∧ PairAt s.heap T k v) ∧ (∀ (j : Nat) (k v : Value), prs[j]? = some (k, v) → ∃ κ : L2.Key, vk[j]? = some (κ, v) ∧ keyIs κ k = true)
  | _, _, _, _, .nil, .nil, h => by
    simp [pairsK] at h; subst h
    exact ⟨[], [], [], [], rfl, rfl, rfl, rfl, .nil, .nil, fun j k v e => by simp at e, fun j k v e => by simp at e⟩
  | _, _, _, kvs, .cons (d := d) r t, .cons rv tv, h => by
    unfold pairsK at h
    split at h
    · rename_i e
      cases e
    · rename_i k v r' e
      cases e
      split at h
      · rename_i κ s' ek es
        cases h
        obtain ⟨Ts, prs, vk, vkv, e1, e2, e3, e4, e5, e6, e7, e8⟩ := pairsK_at I t tv es
        cases r with
        | @tup a vs _ s1 p1 =>
          cases rv
          obtain ⟨its, rr, ht, hz⟩ := I.tuple s1.s
          cases p1 with
          | @cons v1 _ _ _ q1 p2 =>
            cases p2 with
            | @cons v2 _ _ _ q2 p3 =>
              cases p3
              obtain ⟨u1, u2, rfl, w1, w2⟩ := vals2 rr
              refine ⟨a :: Ts, (u1, u2) :: prs, (κ, u2) :: vk, (κ, v2) :: vkv, by rw [e1]; rfl, by simp [e2], by simp [e3], by simp [e4], .cons ⟨rfl, w2⟩ e5, .cons ⟨rfl, q2⟩ e6, ?_, ?_⟩
              · intro j k' v' e
                cases j with
                | zero =>
                  simp at e
                  obtain ⟨rfl, rfl⟩ := e
                  exact ⟨a, rfl, .inl ht⟩
                | succ j => exact e7 j k' v' (by simpa using e)
              · intro j k' v' e
                cases j with
                | zero =>
                  simp at e
                  obtain ⟨rfl, rfl⟩ := e
                  refine ⟨κ, rfl, ?_⟩
                  have := q1.key ek
                  subst this
                  exact kV_is (P := X.prog) (w := X.w) w1
                | succ j => exact e8 j k' v' (by simpa using e)
      · cases h
    · cases h
theorem merge_ins {K : PySem.W.Frag} {H : Hp} : ∀ {vs : List (L2.Key × V)} {kvs : List (Key × D)} {as : List (L2.Key × V)} {bs : List (Key × D)}, PKV K H vs kvs → PKV K H as bs → PKV K H (mergeK as vs) (insAll bs kvs)
  | _, _, _, _, .nil, h => h
  | _, _, _, _, .cons (a := p) (b := q) r t, h => by
    unfold mergeK insAll
    rw [List.foldl_cons, List.foldl_cons, r.1]
    exact merge_ins t (put_ins r.2 h)
def rDictA (K : PySem.W.Frag) : List V → Hp → VK → Prop := fun xs H Q => ∃ a vs ds kvs, xs = [.ref a] ∧ (SqD K H a vs ∨ H a = some (.lst vs)) ∧ Reps K H vs ds ∧ pairsK ds = some kvs ∧ ∀ p vkv, H p = none → PKV K H vkv kvs → Q (.ref p) (upd H p (.dK (mergeK [] vkv)))
theorem call_dictA (hcalm : X.calm = true) : CallR X (.type "dict") (rDictA X.K) := by
  intro pins s σ H xs us Q I r q
  obtain ⟨a, vs, ds, kvs, rfl, hs, rp, hp, q⟩ := q
  obtain ⟨u, rfl, rx⟩ := vals1 r
  cases rx
  have fin : ∀ (T : String) (its : List Value), (T = "tuple" ∨ T = "list") → Vals vs its → vs.length ≤ sizeLine → (∃ o n, s.heap.get? a = some o ∧ o.cls = .type T ∧ o.dict = none ∧ o.data = .seq its.toArray n) →
      wpAny (model X.prog X.w) X.A (call (.type "dict") [.ref a]) (EP X pins σ Q) X.xe s := by
    intro T its hT rv hz hpl
    obtain ⟨Ts, prs, vk, vkv, e1, e2, e3, e4, e5, e6, e7, e8⟩ := pairsK_at I rp rv hp
    have hlen : its.length = prs.length := by rw [e1, List.length_map, e2]
    have ok : PlainSeq T s.heap a its.toArray ∧ PairItems s.heap its.toArray (fun j => Ts.getD j 0) prs := by
      refine ⟨hpl, by rw [List.size_toArray]; exact hlen, fun j k v e => ?_⟩
      obtain ⟨T', h1, h2⟩ := e7 j k v e
      have h3 : Ts.getD j 0 = T' := by rw [List.getD_eq_getElem?_getD, h1]; rfl
      refine ⟨?_, by show PairAt s.heap (Ts.getD j 0) k v; rw [h3]; exact h2⟩
      show its.toArray[j]? = some (Value.ref (Ts.getD j 0))
      rw [List.getElem?_toArray, e1, List.getElem?_map, h1, h3]
      rfl
    have hv : PairsHave (mixKind X.prog X.w) prs.length (PairRel prs) vk := ⟨by rw [e4, e3], fun j k v e => e8 j k v e⟩
    have hz' : prs.length ≤ sizeLine := by rw [← hlen, ← rv.length]; exact hz
    have last : ∀ (h' : Heap) (tk : Nat), h'.DictOf (mixKind X.prog X.w) s.heap.objs.size (merged [] vk) → (∀ (b : Addr) (o : Obj), ¬b ∈ ([] : List Addr) → s.heap.get? b = some o → h'.get? b = some o) → EP X pins σ Q (.ref s.heap.objs.size) { s with heap := h', toks := tk } := by
      intro h' tk hd' k
      have hm : (s.heap.objs.size == sysModules) = false := beq_eq_false_iff_ne.mpr (Nat.ne_of_gt I.big)
      have hl2 : (mergeK [] vkv).length ≤ sizeLine := by
        refine Nat.le_trans (length_mergeK vkv []) ?_
        rw [List.length_nil, Nat.zero_add, Paired.length e6, ← e3]
        exact hz'
      exact ⟨.ref s.heap.objs.size, upd H s.heap.objs.size (.dK (mergeK [] vkv)), I.laid (t' := tk) (fun b o e => k b o (by simp) e) (Nat.le_refl _) (show ObjOk X.prog X.w _ _ _ (.dK (mergeK [] vkv)) from ⟨hl2, hm, merged [] vk, KV.merge e5 .nil, hd'⟩), rfl, q _ _ (I.hok.fresh (Nat.le_refl _)) e6⟩
    rcases hT with rfl | rfl
    · exact PySem.call_dict_pairs (PairArg.tuple a its.toArray (fun j => Ts.getD j 0) prs) (I.ok.hd hcalm) ok hv hz' last
    · exact PySem.call_dict_pairs (PairArg.list a its.toArray (fun j => Ts.getD j 0) prs) (I.ok.hd hcalm) ok hv hz' last
  rcases hs with (⟨its, h1⟩ | ⟨o, its, n, h1, h2, h3, h4, h5, h6⟩) | h1
  · obtain ⟨e, z, its', rv, o', e', c, n, d⟩ := (show ObjOk X.prog X.w H s.heap a (.frz (TupO its) (.tup vs)) from I.hok a _ h1)
    rw [e] at e'
    cases e'
    have ee : its = its' := by
      have d' : Data.seq its.toArray _ = Data.seq its'.toArray n := d
      injection d' with d1 _
      simpa using congrArg Array.toList d1
    subst ee
    exact fin "tuple" its (.inl rfl) rv z ⟨_, _, e, rfl, rfl, rfl⟩
  · have el := h6.length
    exact fin "tuple" its.toList (.inl rfl) h6 (by rw [el, Array.length_toList]; exact h5) ⟨o, n, I.kIn a o h1, h2, h3, by rw [h4, Array.toArray_toList]⟩
  · obtain ⟨z, its, n, rv, e⟩ := (show ObjOk X.prog X.w H s.heap a (.lst vs) from I.hok a _ h1)
    exact fin "list" its (.inr rfl) rv z ⟨_, n, e, rfl, rfl, rfl⟩
theorem d_dict (hc : X.calm = true) (hm : X.mg "dict" = none) (ha : SE X CA XE a f) (hg : Gl X "dict" := by rfl) (he : starEach [a] X.env = (false, eval a X.env) :: starEach [] X.env := by rfl) (hpl : (backTo pos (starEach [] X.env)).any (·.1) = false := by rfl) : SE X CA XE (.Call (.Name "dict" p) [a] [] pos) (eDict f) :=
  d_ty1 (G := fun d M Q => itemsD d M fun xs => match pairsK xs with
    | some kvs => ∀ p, M p = none → Q (.ref p) (M.set p (.dk (insAll [] kvs)))
    | none => False) (call_dictA hc) (fun v d M H Qd Q r1 hR h k => by
    unfold itemsD at h
    split at h
    · split at h
      · cases r1 with
        | tup s q =>
          refine ⟨_, _, _, _, rfl, .inl s, q, by assumption, fun p vkv hp hv => ?_⟩
          exact k _ _ _ _ (h p (hR.fresh hp)) (.ref p) (hR.at (Tups.new hp) ⟨_, upd_same, paired_mono (merge_ins hv .nil) fun _ _ z => ⟨z.1, z.2.m (Tups.new hp)⟩⟩) (Tups.new hp)
      · exact h.elim
    · cases r1
      split at h
      · split at h
        · obtain ⟨vs, h1, q⟩ := hR _ _ (by assumption)
          refine ⟨_, _, _, _, rfl, .inr h1, q, by assumption, fun p vkv hp hv => ?_⟩
          exact k _ _ _ _ (h p (hR.fresh hp)) (.ref p) (hR.at (Tups.new hp) ⟨_, upd_same, paired_mono (merge_ins hv .nil) fun _ _ z => ⟨z.1, z.2.m (Tups.new hp)⟩⟩) (Tups.new hp)
        · exact h.elim
      · exact h.elim
    · exact h.elim) hg hm (by decide +kernel) ha (he := he) (hpl := hpl)
end
end DL

set_option Elab.async false
set_option linter.all false
set_option maxRecDepth 100000
set_option maxHeartbeats 4000000
/-! DSt: statements, targets, loops, comprehensions, defs -/
namespace DL
open PySem PySem.Spec PyProof.Rows L2
structure KE (c : Cn) (H : Hp) (Dd : DL.Ends) (D : L2.Ends) : Prop where
  nx : ∀ env' M' σ' H', Dd.nx env' M' → RelEnv c.K H' σ' env' → R c M' H' → Tups c.K H H' → D.nx σ' H'
  rt : KQ c H Dd.rt D.rt
  bk : ∀ env' M' σ' H', Dd.bk env' M' → RelEnv c.K H' σ' env' → R c M' H' → Tups c.K H H' → D.bk σ' H'
  ct : ∀ env' M' σ' H', Dd.ct env' M' → RelEnv c.K H' σ' env' → R c M' H' → Tups c.K H H' → D.ct σ' H'
theorem KE.mono {c : Cn} {H H' : Hp} {Dd : DL.Ends} {D : L2.Ends} (k : KE c H Dd D) (t : Tups c.K H H') : KE c H' Dd D :=
  ⟨fun e m σ h q r a b => k.nx e m σ h q r a (t.trans b), k.rt.mono t, fun e m σ h q r a b => k.bk e m σ h q r a (t.trans b), fun e m σ h q r a b => k.ct e m σ h q r a (t.trans b)⟩
def tOfS (c : Cn) (XE : XK) (g : WS) : TS := fun D σ H => ∃ env M Ed Dd, Pre c XE σ H env M Ed ∧ g Ed Dd env M ∧ KE c H Dd D
def SS (X : Cx) (CA : String → Addr) (XE : XK) (st : Stmt) (g : WS) : Prop := PS X st (tOfS (cn X CA) XE g)
def SSs (X : Cx) (CA : String → Addr) (XE : XK) (st : List Stmt) (g : WS) : Prop := PSs X st (tOfS (cn X CA) XE g)
def OwnW (vs : List Nat) (σ σ1 : L2.St) : Prop := σ1.length = σ.length ∧ ∀ j, j ∉ vs → σ1[j]? = σ[j]?
theorem OwnW.refl {vs : List Nat} {σ : L2.St} : OwnW vs σ σ := ⟨rfl, fun _ _ => rfl⟩
theorem OwnW.trans {vs : List Nat} {σ σ1 σ2 : L2.St} (a : OwnW vs σ σ1) (b : OwnW vs σ1 σ2) : OwnW vs σ σ2 := ⟨b.1.trans a.1, fun j h => (b.2 j h).trans (a.2 j h)⟩
theorem wipe_get {σ : L2.St} {i : Nat} : ∀ {vs : List Nat}, i ∈ vs → i < σ.length → (L2.wipe σ vs)[i]? = some none
  | v :: vs, h, hl => by
    unfold L2.wipe
    by_cases e : i = v
    · subst e
      rw [List.getElem?_set_self (by rw [wipe_length]; exact hl)]
    · rw [List.getElem?_set_ne (Ne.symm e)]
      exact wipe_get ((List.mem_cons.mp h).resolve_left e) hl
theorem OwnW.wipe {vs : List Nat} {σ σ1 : L2.St} (a : OwnW vs (L2.wipe σ vs) σ1) : L2.wipe σ1 vs = L2.wipe σ vs := by
  have hl : σ1.length = σ.length := by rw [a.1, wipe_length]
  apply List.ext_getElem?
  intro i
  by_cases hi : i ∈ vs
  · by_cases hlt : i < σ.length
    · rw [wipe_get hi (by rw [hl]; exact hlt), wipe_get hi hlt]
    · rw [List.getElem?_eq_none (by rw [wipe_length, hl]; omega), List.getElem?_eq_none (by rw [wipe_length]; omega)]
  · rw [L2.wipe_out hi, a.2 i hi]
theorem RelEnv.wipe {K : PySem.W.Frag} {H : Hp} {σ : L2.St} {env : Ev} (r : RelEnv K H σ env) : ∀ vs : List Nat, RelEnv K H (L2.wipe σ vs) (DL.wipe env vs)
  | [] => r
  | v :: vs => by unfold L2.wipe DL.wipe; exact (RelEnv.wipe r vs).clear v
/-- a yielded pair may be a tuple that is no more than read -/
inductive RepY (K : PySem.W.Frag) (H : Hp) : V → D → Prop
  | rep {v : V} {d : D} : Rep K H v d → RepY K H v d
  | pair {a : Addr} {vs : List V} {ds : List D} : SqT K H a vs → Reps K H vs ds → RepY K H (.ref a) (.tup ds)
def RepB (y : Bool) (K : PySem.W.Frag) (H : Hp) (v : V) (d : D) : Prop := if y = true then RepY K H v d else Rep K H v d
theorem RepB.y {y : Bool} {K : PySem.W.Frag} {H : Hp} {v : V} {d : D} (r : RepB y K H v d) : RepY K H v d := by
  cases y with
  | true => exact r
  | false => exact .rep r
theorem Rep.b {y : Bool} {K : PySem.W.Frag} {H : Hp} {v : V} {d : D} (r : Rep K H v d) : RepB y K H v d := by
  cases y with
  | true => exact RepY.rep r
  | false => exact r
def tOfG (y : Bool) (c : Cn) (XE : XK) (vs : List Nat) (g : WG) : TG := fun v σ H Q => ∃ d env M Ed Qd, RepB y c.K H v d ∧ Pre c XE σ H env M Ed ∧ g d Ed env M Qd ∧
  ∀ env1 M1 σ1 H1, Qd env1 M1 → RelEnv c.K H1 σ1 env1 → R c M1 H1 → Tups c.K H H1 → OwnW vs σ σ1 → Q σ1 H1
def SG (y : Bool) (X : Cx) (CA : String → Addr) (XE : XK) (vs : List Nat) (tg : Expr) (g : WG) : Prop := PG X tg (tOfG y (cn X CA) XE vs g)
def tOfGs (c : Cn) (XE : XK) (vs : List Nat) (gs : List WG) : TGs := fun ws σ H Q => ∃ ds env M Ed Qd, Reps c.K H ws ds ∧ Pre c XE σ H env M Ed ∧ gAll gs ds Ed env M Qd ∧
  ∀ env1 M1 σ1 H1, Qd env1 M1 → RelEnv c.K H1 σ1 env1 → R c M1 H1 → Tups c.K H H1 → OwnW vs σ σ1 → Q σ1 H1
def SGs (X : Cx) (CA : String → Addr) (XE : XK) (vs : List Nat) (ts : List Expr) (gs : List WG) : Prop := PGs X ts (tOfGs (cn X CA) XE vs gs)
structure ItR (c : Cn) (y : Bool) (H1 : Hp) (J : It) (chk : Sto → Prop) (xs : List D) : Prop where
  go : ∀ i H M, Tups c.K H1 H → R c M H → chk M → i < xs.length → J.go i H
  stop : ∀ H M, Tups c.K H1 H → R c M H → chk M → J.stop xs.length H
  yld : ∀ i H x H' M, Tups c.K H1 H → R c M H → chk M → J.yld i H x H' → ∀ d, xs[i]? = some d → RepB y c.K H' x d ∧ R c M H' ∧ Tups c.K H H'
def tOfI (y : Bool) (c : Cn) (XE : XK) (src : WI) : TI := fun σ H Rk => ∃ env M Ed kd, Pre c XE σ H env M Ed ∧ src Ed env M kd ∧ ∀ chk xs M1 H1 J, kd chk xs M1 → R c M1 H1 → Tups c.K H H1 → ItR c y H1 J chk xs → Rk J H1
def SI (y : Bool) (X : Cx) (CA : String → Addr) (XE : XK) (tg iter : Expr) (src : WI) : Prop := PI X tg iter (tOfI y (cn X CA) XE src)
section
variable {X : Cx} {st : Stmt} {sts : List Stmt} {tg iter : Expr} {ts : List Expr}
theorem PS_weak {t t' : TS} (h : PS X st t) (w : ∀ D σ H, t' D σ H → t D σ H) : PS X st t' := ⟨fun pins s σ H D I q => h.run pins s σ H D I (w D σ H q)⟩
theorem PSs_weak {t t' : TS} (h : PSs X sts t) (w : ∀ D σ H, t' D σ H → t D σ H) : PSs X sts t' := ⟨fun pins s σ H D I q => h.run pins s σ H D I (w D σ H q)⟩
theorem PG_weak {t t' : TG} (h : PG X tg t) (w : ∀ v σ H Q, t' v σ H Q → t v σ H Q) : PG X tg t' := ⟨fun pins s σ H v u Q I r q => h.run pins s σ H v u Q I r (w v σ H Q q)⟩
theorem PGs_weak {t t' : TGs} (h : PGs X ts t) (w : ∀ v σ H Q, t' v σ H Q → t v σ H Q) : PGs X ts t' := ⟨fun pins s σ H v u Q I r q => h.run pins s σ H v u Q I r (w v σ H Q q)⟩
theorem PI_weak {t t' : TI} (h : PI X tg iter t) (w : ∀ σ H Q, t' σ H Q → t σ H Q) : PI X tg iter t' := ⟨fun pins s σ H Q I q => h.run pins s σ H Q I (w σ H Q q)⟩
end
section
variable {X : Cx} {CA : String → Addr} {XE : XK} {a b e o : Expr} {es : List Expr} {f g h : WE} {gt gs' : WG} {fs : List WE} {pos : Pos} {t u : WT} {x m : Str} {st : Stmt} {sts sts' : List Stmt} {s s' : WS} {y : Bool} {vs : List Nat} {tg iter : Expr} {ts : List Expr} {gs : List WG} {src : WI}
/-! ## targets -/
theorem g_name (i : Nat) {x : Str} (hN : X.N.Nodup) (hv : i ∈ vs) (hi : X.N[i]? = some x := by rfl) (hx : Loc X.env.scope x := by first | exact Or.inl rfl | exact Or.inr rfl) (hf : X.fn x = true ∨ X.env.scope.names.lookup x = some .local := by first | exact .inl rfl | exact .inr rfl | assumption) : SG false X CA XE vs (.Name x pos) (gName i) :=
  PG_weak (pg_name hN hi hx hf) fun v σ H Q ⟨d, env, M, Ed, Qd, r, p, q, k⟩ => k _ _ _ _ q (p.e.put r i) p.r .refl ⟨List.length_set, fun j hj => List.getElem?_set_ne (fun z => hj (by rw [← z]; exact hv))⟩
theorem gs_nil : SGs X CA XE vs [] [] := PGs_weak pgs_nil fun v σ H Q ⟨ds, env, M, Ed, Qd, r, p, q, k⟩ => by
  cases r with
  | nil => exact ⟨rfl, k _ _ _ _ q p.e p.r .refl .refl⟩
  | cons _ _ => exact q.elim
theorem gs_cons (h1 : SG false X CA XE vs e gt) (h2 : SGs X CA XE vs es gs) (hs : (assignEach (e :: es) X.env).map (·.2) = assign e X.env :: (assignEach es X.env).map (·.2) := by rfl) : SGs X CA XE vs (e :: es) (gt :: gs) :=
  PGs_weak (pgs_cons h1 h2 hs) fun v σ H Q ⟨ds, env, M, Ed, Qd, r, p, q, k⟩ => by
    cases r with
    | nil => exact q.elim
    | @cons v d vs' ds' r1 r2 =>
      exact ⟨v, vs', rfl, d, env, M, Ed, _, r1, p, q, fun env1 M1 σ1 H1 q1 e1 R1 T1 O1 => ⟨ds', env1, M1, Ed, Qd, r2.m T1, ⟨e1, R1, p.x.mono T1⟩, q1, fun env2 M2 σ2 H2 q2 e2 R2 T2 O2 => k _ _ _ _ q2 e2 R2 (T1.trans T2) (O1.trans O2)⟩⟩
theorem g_tup {k n : Nat} (hc : X.calm = true) (h : SGs X CA XE vs es gs) (hl : gs.length = n := by rfl)
    (hn : (assignEach es X.env).length = n := by rfl) (hst : (assignEach es X.env).findIdx? (·.1) = none := by rfl) : SG y X CA XE vs (.Tuple es k pos) (gTup gs) :=
  PG_weak (pg_tup hc h hn hst) fun v σ H Q ⟨d, env, M, Ed, Qd, r, p, q, k⟩ => by
    have r := r.y
    unfold DL.gTup at q
    split at q
    · obtain ⟨hd, q⟩ := q
      cases r with
      | rep r =>
        cases r with
        | tup s r1 => exact ⟨_, _, rfl, s.s, by rw [r1.length, hd, hl], _, env, M, Ed, Qd, r1, p, q, k⟩
      | pair s r1 => exact ⟨_, _, rfl, s, by rw [r1.length, hd, hl], _, env, M, Ed, Qd, r1, p, q, k⟩
    · exact q.elim
theorem g_sub {k : Nat} (hr : Room k X.A) (ha : SE X CA XE a f) (hb : SE X CA XE b g)
    (hq : ∀ v, assign (.Subscript a b pos) X.env v = (do
      let ov ← holding [v] (eval a X.env)
      let iv ← holding [v, ov] (eval b X.env)
      standAt pos
      holding [v, ov, iv] (setItem ov iv v)
      release [v, ov, iv] []) := by intro _; rfl) : SG false X CA XE vs (.Subscript a b pos) (gSub f g) :=
  PG_weak (pg_sub ha hb (set_A (CA := CA) hr) hq) fun v σ H Q ⟨d, env, M, Ed, Qd, r, p, q, k⟩ => by
    refine ⟨env, M, Ed, _, p, q, fun d1 M1 v1 H1 q1 r1 R1 T1 => ⟨env, M1, Ed, _, p.to T1 R1, q1, fun d2 M2 v2 H2 q2 r2 R2 T2 => ?_⟩⟩
    have r0 : Rep (cn X CA).K H2 v d := Rep.m r (T1.trans T2)
    have r1 := r1.m T2
    have T := T1.trans T2
    unfold setD at q2
    split at q2
    · cases r1
      split at q2
      · split at q2
        · split at q2
          · rename_i j ej
            cases r2
            obtain ⟨ws, h1, rr⟩ := R2 _ _ (by assumption)
            have T3 : Tups (cn X CA).K H2 (upd H2 _ (.lst (ws.set j v))) := Tups.wr h1 (ne_frz trivial)
            exact .inl ⟨_, ws, _, j, rfl, rfl, h1, by rw [rr.length]; exact ej, k _ _ _ _ q2 (p.e.mono (T.trans T3)) (R2.at T3 ⟨_, upd_same, (rr.set r0 j).m T3⟩) (T.trans T3) .refl⟩
          · exact q2.elim
        · exact q2.elim
      · split at q2
        · rename_i κ ek
          obtain ⟨ws, h1, rr⟩ := R2 _ _ (by assumption)
          have T3 : Tups (cn X CA).K H2 (upd H2 _ (.dK (putK ws κ v))) := Tups.wr h1 (ne_frz trivial)
          exact .inr (.inl ⟨_, ws, κ, rfl, r2.key ek, h1, by rw [Paired.length rr]; exact q2.1, k _ _ _ _ q2.2 (p.e.mono (T.trans T3)) (R2.at T3 ⟨_, upd_same, paired_mono (put_ins r0 rr) fun _ _ z => ⟨z.1, z.2.m T3⟩⟩) (T.trans T3) .refl⟩)
        · exact q2.elim
      · rename_i aa _ kvs eM
        obtain ⟨ws, h1, rr⟩ := R2 _ _ eM
        obtain ⟨hk, hz, q2⟩ := q2
        obtain ⟨xs, n, rfl, _, _⟩ := nkOk_nest hk
        cases r2 with
        | @tup bb _ _ s1 p1 =>
          have T3 : Tups (cn X CA).K H2 (upd H2 aa (NDict (cn X CA) aa (putN ws (nkD (.tup xs)) bb v))) := Tups.wr h1 (ne_frz trivial)
          exact .inr (.inr ⟨_, bb, ws, _, .tup xs, rfl, rfl, h1, rr, .tup s1 p1, hk, by rw [Paired.length rr]; exact hz, k _ _ _ _ q2 (p.e.mono (T.trans T3)) (R2.at T3 ⟨_, upd_same, paired_mono (putN_d hk (.tup s1 p1) r0 rr) fun _ _ z => ⟨z.1, z.2.1, z.2.2.1.m T3, z.2.2.2.m T3⟩⟩) (T.trans T3) .refl⟩)
      · exact q2.elim
    · exact q2.elim
/-! ## statements -/
theorem ss_nil : SSs X CA XE [] sNil := PSs_weak pss_nil fun D σ H ⟨env, M, Ed, Dd, p, q, k⟩ => k.nx _ _ _ _ q p.e p.r .refl
theorem ss_cons (h1 : SS X CA XE st s) (h2 : SSs X CA XE sts s') : SSs X CA XE (st :: sts) (sSeq s s') :=
  PSs_weak (pss_cons h1 h2) fun D σ H ⟨env, M, Ed, Dd, p, q, k⟩ => ⟨env, M, Ed, _, p, q, ⟨fun e' M' σ' H' q' r' R' T' => ⟨e', M', Ed, Dd, ⟨r', R', p.x.mono T'⟩, q', k.mono T'⟩, k.rt, k.bk, k.ct⟩⟩
theorem ss_one (h1 : SS X CA XE st s) : SSs X CA XE [st] s := pss_one h1
theorem s_asg (ha : SE X CA XE a f) (hg : SG false X CA XE vs tg gt) (hs : swapsWithSole [tg] a pos.line X.env = pure false := by rfl) (hw : swappedStores [tg] a X.env = pure none := by rfl)
    (h1 : (assignEach [tg] X.env).map (·.2) = [assign tg X.env] := by rfl) : SS X CA XE (.Assign [tg] a pos) (sAsg f gt) :=
  PS_weak (ps_asg ha hg hs hw h1) fun D σ H ⟨env, M, Ed, Dd, p, q, k⟩ => ⟨env, M, Ed, _, p, q, fun d M1 v H1 q1 r1 R1 T1 => ⟨d, env, M1, Ed, _, r1, p.to T1 R1, q1, fun e' M' σ' H' q' r' R' T' _ => k.nx _ _ _ _ q' r' R' (T1.trans T')⟩⟩
theorem s_set (i : Nat) {x : Str} {pos' : Pos} (hN : X.N.Nodup) (ha : SE X CA XE a f) (hi : X.N[i]? = some x := by rfl) (hx : Loc X.env.scope x := by first | exact Or.inl rfl | exact Or.inr rfl) (hs : swapsWith a (some (.Name x pos')) pos.line X.env = pure false := by rfl)
    (hf : X.fn x = true ∨ X.env.scope.names.lookup x = some .local := by first | exact .inl rfl | exact .inr rfl | assumption) : SS X CA XE (.Assign [.Name x pos'] a pos) (sAsg f (gName i)) :=
  PS_weak (ps_set hN hi hx ha hs hf) fun D σ H ⟨env, M, Ed, Dd, p, q, k⟩ => ⟨env, M, Ed, _, p, q, fun d M1 v H1 q1 r1 R1 T1 => k.nx _ _ _ _ q1 ((p.e.mono T1).put r1 i) R1 T1⟩
/-- a, b = x, y of local names -/
theorem s_par (i j : Nat) {x y : Str} {px py pt : Pos} {kt k2 pt2} (hc : X.calm = true) (hN : X.N.Nodup) (hij : i ≠ j) (ha : SE X CA XE a f) (hb : SE X CA XE b g)
    (hw : swappedStores [.Tuple [.Name x px, .Name y py] kt pt] (.Tuple [a, b] k2 pt2) X.env = pure (some [x, y])) (hi : X.N[i]? = some x := by rfl) (hj : X.N[j]? = some y := by rfl)
    (hx : X.env.scope.names.lookup x = some .local := by rfl) (hy : X.env.scope.names.lookup y = some .local := by rfl) (he : starEach [a, b] X.env = (false, eval a X.env) :: starEach [b] X.env := by rfl) (he2 : starEach [b] X.env = (false, eval b X.env) :: starEach [] X.env := by rfl)
    (hs : swapsWithSole [.Tuple [.Name x px, .Name y py] kt pt] (.Tuple [a, b] k2 pt2) pos.line X.env = pure false := by rfl) :
    SS X CA XE (.Assign [.Tuple [.Name x px, .Name y py] kt pt] (.Tuple [a, b] k2 pt2) pos) (sAsg (eTup [f, g]) (gTup [gName i, gName j])) :=
  PS_weak (ps_par hc hN hi hj hij hx hy (pa_cons ha (pa_cons hb pa_nil he2) he) hw hs) fun D σ H ⟨env, M, Ed, Dd, p, q, k⟩ => ⟨env, M, Ed, _, p, q, fun d1 M1 v1 H1 q1 r1 R1 T1 => ⟨env, M1, Ed, _, p.to T1 R1, q1, fun d2 M2 v2 H2 q2 r2 R2 T2 =>
    ⟨v1, v2, rfl, k.nx _ _ _ _ q2.2 ((((p.e.mono (T1.trans T2)).put (r1.m T2) i)).put r2 j) R2 (T1.trans T2)⟩⟩⟩
theorem s_par3 (i j l : Nat) {c : Expr} {x y z : Str} {px py pz pt : Pos} {kt k2 pt2} (hc : X.calm = true) (hN : X.N.Nodup) (hij : i ≠ j) (hil : i ≠ l) (hjl : j ≠ l) (ha : SE X CA XE a f) (hb : SE X CA XE b g) (hcc : SE X CA XE c h)
    (hw : swappedStores [.Tuple [.Name x px, .Name y py, .Name z pz] kt pt] (.Tuple [a, b, c] k2 pt2) X.env = pure (some [x, y, z])) (hi : X.N[i]? = some x := by rfl) (hj : X.N[j]? = some y := by rfl) (hl : X.N[l]? = some z := by rfl)
    (hx : X.env.scope.names.lookup x = some .local := by rfl) (hy : X.env.scope.names.lookup y = some .local := by rfl) (hz : X.env.scope.names.lookup z = some .local := by rfl) (he : starEach [a, b, c] X.env = (false, eval a X.env) :: starEach [b, c] X.env := by rfl) (he2 : starEach [b, c] X.env = (false, eval b X.env) :: starEach [c] X.env := by rfl) (he3 : starEach [c] X.env = (false, eval c X.env) :: starEach [] X.env := by rfl)
    (hs : swapsWithSole [.Tuple [.Name x px, .Name y py, .Name z pz] kt pt] (.Tuple [a, b, c] k2 pt2) pos.line X.env = pure false := by rfl) :
    SS X CA XE (.Assign [.Tuple [.Name x px, .Name y py, .Name z pz] kt pt] (.Tuple [a, b, c] k2 pt2) pos) (sAsg (eTup [f, g, h]) (gTup [gName i, gName j, gName l])) :=
  PS_weak (ps_par3 hc hN hi hj hl hij hil hjl hx hy hz (pa_cons ha (pa_cons hb (pa_cons hcc pa_nil he3) he2) he) hw hs) fun D σ H ⟨env, M, Ed, Dd, p, q, k⟩ => ⟨env, M, Ed, _, p, q, fun d1 M1 v1 H1 q1 r1 R1 T1 => ⟨env, M1, Ed, _, p.to T1 R1, q1, fun d2 M2 v2 H2 q2 r2 R2 T2 =>
    ⟨env, M2, Ed, _, p.to (T1.trans T2) R2, q2, fun d3 M3 v3 H3 q3 r3 R3 T3 => ⟨v1, v2, v3, rfl, k.nx _ _ _ _ q3.2 (((((p.e.mono (T1.trans (T2.trans T3))).put (r1.m (T2.trans T3)) i)).put (r2.m T3) j).put r3 l) R3 (T1.trans (T2.trans T3))⟩⟩⟩⟩
theorem s_expr (ha : SE X CA XE a f) (hs : swapsWith a none pos.line X.env = pure false := by rfl) : SS X CA XE (.Expr a pos) (sExpr f) :=
  PS_weak (ps_expr ha hs) fun D σ H ⟨env, M, Ed, Dd, p, q, k⟩ => ⟨env, M, Ed, _, p, q, fun d M1 v H1 q1 r1 R1 T1 => k.nx _ _ _ _ q1 (p.e.mono T1) R1 T1⟩
theorem s_ret (ha : SE X CA XE a f) : SS X CA XE (.Return (some a) pos) (sRet f) :=
  PS_weak (ps_ret ha) fun D σ H ⟨env, M, Ed, Dd, p, q, k⟩ => ⟨env, M, Ed, _, p, q, k.rt⟩
theorem s_retN : SS X CA XE (.Return none pos) sRetN := PS_weak ps_retN fun D σ H ⟨env, M, Ed, Dd, p, q, k⟩ => k.rt _ _ _ _ q .non p.r .refl
theorem s_pass : SS X CA XE (.Pass pos) sNil := PS_weak ps_pass fun D σ H ⟨env, M, Ed, Dd, p, q, k⟩ => k.nx _ _ _ _ q p.e p.r .refl
theorem s_break : SS X CA XE (.Break pos) sBreak := PS_weak ps_break fun D σ H ⟨env, M, Ed, Dd, p, q, k⟩ => k.bk _ _ _ _ q p.e p.r .refl
theorem s_cont : SS X CA XE (.Continue pos) sCont := PS_weak ps_continue fun D σ H ⟨env, M, Ed, Dd, p, q, k⟩ => k.ct _ _ _ _ q p.e p.r .refl
theorem s_never : SS X CA XE st sNever := PS_weak ps_never fun D σ H ⟨env, M, Ed, Dd, p, q, k⟩ => q
theorem s_if {c : Expr} (hc : ST X CA XE c t) (ha : SSs X CA XE sts s) (hb : SSs X CA XE sts' s') : SS X CA XE (.If c sts sts' pos) (sIf t s s') :=
  PS_weak (ps_if hc ha hb) fun D σ H ⟨env, M, Ed, Dd, p, q, k⟩ => ⟨env, M, Ed, _, p, q, fun c M1 H1 q1 R1 T1 => by
    cases c with
    | true => exact ⟨env, M1, Ed, Dd, p.to T1 R1, q1, k.mono T1⟩
    | false => exact ⟨env, M1, Ed, Dd, p.to T1 R1, q1, k.mono T1⟩⟩
theorem s_aug (i : Nat) {x : Str} {op : Operator} {b2 : B2} {ti : TIp} {pos' : Pos} (hN : X.N.Nodup) (ho : PIp X op ti) (hs : ∀ v1 v2 d1 d2 M H Qd Q, Rep X.K H v1 d1 → Rep X.K H v2 d2 → R (cn X CA) M H → b2 d1 d2 M Qd → KQ (cn X CA) H Qd Q → ti v1 v2 H Q) (ha : SE X CA XE a f)
    (hi : X.N[i]? = some x := by rfl) (hx : Loc X.env.scope x := by first | exact Or.inl rfl | exact Or.inr rfl) (hf : X.fn x = true ∨ X.env.scope.names.lookup x = some .local := by first | exact .inl rfl | exact .inr rfl | assumption) :
    SS X CA XE (.AugAssign (.Name x pos') op a pos) (sAug i b2 f) :=
  PS_weak (ps_aug hN hi hx ha ho hf) fun D σ H ⟨env, M, Ed, Dd, p, q, k⟩ => by
    unfold sAug at q
    split at q
    · rename_i d e
      obtain ⟨v, e1, r1⟩ := p.e.get e
      exact ⟨v, e1, env, M, Ed, _, p, q, fun d2 M1 v2 H1 q1 r2 R1 T1 => hs _ _ _ _ _ _ _ _ (r1.m T1) r2 R1 q1 fun d3 M2 v3 H2 q2 r3 R2 T2 => k.nx _ _ _ _ q2 ((p.e.mono (T1.trans T2)).put r3 i) R2 (T1.trans T2)⟩
    · exact q.elim
theorem s_augAdd (i : Nat) {x : Str} {pos' : Pos} (hN : X.N.Nodup) (ha : SE X CA XE a f)
    (hi : X.N[i]? = some x := by rfl) (hx : Loc X.env.scope x := by first | exact Or.inl rfl | exact Or.inr rfl) (hf : X.fn x = true ∨ X.env.scope.names.lookup x = some .local := by first | exact .inl rfl | exact .inr rfl | assumption) :
    SS X CA XE (.AugAssign (.Name x pos') .Add a pos) (sAug i ipAdd f) :=
  s_aug i hN ip_add (fun v1 v2 d1 d2 M H Qd Q r1 r2 hR h k => by
    unfold ipAdd at h
    split at h
    · cases r1; cases r2; exact ⟨_, _, rfl, rfl, k _ _ _ _ h (.int _) hR .refl⟩
    · exact h.elim) ha hi hx hf
theorem s_augSub (i : Nat) {x : Str} {pos' : Pos} (hN : X.N.Nodup) (ha : SE X CA XE a f)
    (hi : X.N[i]? = some x := by rfl) (hx : Loc X.env.scope x := by first | exact Or.inl rfl | exact Or.inr rfl) (hf : X.fn x = true ∨ X.env.scope.names.lookup x = some .local := by first | exact .inl rfl | exact .inr rfl | assumption) :
    SS X CA XE (.AugAssign (.Name x pos') .Sub a pos) (sAug i opSub f) :=
  s_aug i hN ip_sub (fun v1 v2 d1 d2 M H Qd Q r1 r2 hR h k => by
    unfold opSub at h
    split at h
    · cases r1; cases r2; exact ⟨_, _, rfl, rfl, k _ _ _ _ h (.int _) hR .refl⟩
    · exact h.elim) ha hi hx hf
/-! ## loops -/
section
variable {pins : List (Addr × Obj)} {σ : L2.St} {H : Hp} {s1 : Shared} {l : Addr} {xs : List V} {Rk : It → Hp → Prop}
theorem it_list (I1 : Inv X pins σ H s1) (hq : SqL X.K H l xs) (q : Rk (Itl X.K l) H) : wpAny (model X.prog X.w) X.A (pyIter (.ref l)) (PIE X pins σ tg Rk) X.xe s1 := by
  obtain ⟨its, rv, p, hz⟩ := I1.list hq
  refine wpAny_pyIter_list p.isList ?_
  refine ⟨s1.heap.objs.size, [s1.heap.objs.size], _, _, H, rfl, I1.kept (t' := s1.toks) fun b o e => Heap.get?_push_of_some _ e, turn_list l _, ⟨_, Heap.get?_push_size _ rfl, rfl, rfl⟩, fun b hb => ?_, q⟩
  have e : b = s1.heap.objs.size := by simpa using hb
  subst e
  exact I1.fpOk (Nat.le_refl _) (I1.hok.fresh (Nat.le_refl _))
theorem it_tup (I1 : Inv X pins σ H s1) (hq : SqT X.K H l xs) (q : Rk (Itt X.K l) H) : wpAny (model X.prog X.w) X.A (pyIter (.ref l)) (PIE X pins σ tg Rk) X.xe s1 := by
  obtain ⟨its, rv, p, hz⟩ := I1.tuple hq
  refine wpAny_pyIter_tuple (show s1.heap.IsTuple l its.toArray from p) ?_
  refine ⟨s1.heap.objs.size, [s1.heap.objs.size], _, _, H, rfl, I1.kept (t' := s1.toks) fun b o e => Heap.get?_push_of_some _ e, turn_tuple l _, ⟨_, Heap.get?_push_size _ rfl, rfl, rfl⟩, fun b hb => ?_, q⟩
  have e : b = s1.heap.objs.size := by simpa using hb
  subst e
  exact I1.fpOk (Nat.le_refl _) (I1.hok.fresh (Nat.le_refl _))
end
theorem itR_tup {c : Cn} {H1 : Hp} {l : Addr} {ws : List V} {ds : List D} (s : SqD c.K H1 l ws) (r : Reps c.K H1 ws ds) : ItR c false H1 (Itt c.K l) (fun _ => True) ds where
  go := fun i H M T R _ hi => ⟨ws, _, (T.t _ _ s).s, List.getElem?_eq_getElem (by rw [r.length]; exact hi)⟩
  stop := fun H M T R _ => ⟨ws, (T.t _ _ s).s, by rw [r.length]; exact Nat.le_refl _⟩
  yld := fun i H x H' M T R _ h d e => by
    obtain ⟨rfl, h⟩ := h
    obtain ⟨v, e1, rv⟩ := r.get e
    have := h ws (T.t _ _ s).s
    rw [e1] at this
    cases this
    exact ⟨Rep.m rv T, R, .refl⟩
theorem itR_lro {c : Cn} {H1 : Hp} {l : Addr} {ws : List V} {ds : List D} (s : SqF c.K H1 l ws) (r : Reps c.K H1 ws ds) : ItR c false H1 (Itl c.K l) (fun _ => True) ds where
  go := fun i H M T R _ hi => ⟨ws, _, (T.f _ _ s).l, List.getElem?_eq_getElem (by rw [r.length]; exact hi)⟩
  stop := fun H M T R _ => ⟨ws, (T.f _ _ s).l, by rw [r.length]; exact Nat.le_refl _⟩
  yld := fun i H x H' M T R _ h d e => by
    obtain ⟨rfl, h⟩ := h
    obtain ⟨v, e1, rv⟩ := r.get e
    have := h ws (T.f _ _ s).l
    rw [e1] at this
    cases this
    exact ⟨Rep.m rv T, R, .refl⟩
theorem itR_lst {c : Cn} {H1 : Hp} {l : Addr} {ds : List D} : ItR c false H1 (Itl c.K l) (fun M => M l = some (.lst ds)) ds where
  go := fun i H M T hR e hi => by
    obtain ⟨ws, h1, r⟩ := hR _ _ e
    exact ⟨ws, _, SqL.of h1, List.getElem?_eq_getElem (by rw [r.length]; exact hi)⟩
  stop := fun H M T hR e => by
    obtain ⟨ws, h1, r⟩ := hR _ _ e
    exact ⟨ws, SqL.of h1, by rw [r.length]; exact Nat.le_refl _⟩
  yld := fun i H x H' M T hR em h d e => by
    obtain ⟨rfl, h⟩ := h
    obtain ⟨ws, h1, r⟩ := hR _ _ em
    obtain ⟨v, e1, rv⟩ := r.get e
    have := h ws (SqL.of h1)
    rw [e1] at this
    cases this
    exact ⟨rv, hR, .refl⟩
theorem i_val (ha : SE X CA XE a f) : SI false X CA XE tg a (iVal f) := by
  refine ⟨fun pins s σ H Rk I ⟨env, M, Ed, kd, p, q, k⟩ => ?_⟩
  refine thn (ha.run pins s σ H (fun v H1 => ∃ d M1, (match d with
    | .tup xs => kd (fun _ => True) xs M1
    | .lro xs => kd (fun _ => True) xs M1
    | .ref a => match M1 a with
      | some (.lst xs) => kd (fun M' => M' a = some (.lst xs)) xs M1
      | _ => False
    | _ => False) ∧ Rep X.K H1 v d ∧ R (cn X CA) M1 H1 ∧ Tups X.K H H1) I ⟨env, M, Ed, _, p, q, fun d M1 v H1 q1 r1 R1 T1 => ⟨d, M1, q1, r1, R1, T1⟩⟩) fun v s1 ⟨x, H1, I1, rx, d, M1, q1, r1, R1, T1⟩ => ?_
  split at q1
  · cases r1 with
    | tup s1 p1 =>
      cases rx
      exact it_tup I1 s1.s (k _ _ _ _ _ q1 R1 T1 (itR_tup s1 p1))
  · cases r1 with
    | lro s1 p1 =>
      cases rx
      exact it_list I1 s1.l (k _ _ _ _ _ q1 R1 T1 (itR_lro s1 p1))
  · cases r1
    cases rx
    split at q1
    · obtain ⟨ws, h1, r⟩ := R1 _ _ (by assumption)
      exact it_list I1 (SqL.of h1) (k _ _ _ _ _ q1 R1 T1 itR_lst)
    · exact q1.elim
  · exact q1.elim
theorem rangeL_get {lo hi : Int} {i : Nat} {d : D} (h : (rangeL lo hi)[i]? = some d) : d = .int (lo + i) ∧ i < (hi - lo).toNat := by
  unfold rangeL at h
  rw [List.getElem?_map] at h
  by_cases hi' : i < (hi - lo).toNat
  · rw [List.getElem?_range hi'] at h
    cases h
    exact ⟨rfl, hi'⟩
  · rw [List.getElem?_eq_none (by rw [List.length_range]; omega)] at h
    cases h
theorem rangeL_length (lo hi : Int) : (rangeL lo hi).length = (hi - lo).toNat := by unfold rangeL; rw [List.length_map, List.length_range]
theorem itR_range {c : Cn} {H1 : Hp} {lo hi : Int} : ItR c false H1 (Itr lo (hi - lo).toNat) (fun _ => True) (rangeL lo hi) where
  go := fun i H M T hR e h => by rw [rangeL_length] at h; exact h
  stop := fun H M T hR e => by rw [rangeL_length]; exact Nat.le_refl _
  yld := fun i H x H' M T hR em h d e => by
    obtain ⟨rfl, rfl⟩ := h
    obtain ⟨rfl, _⟩ := rangeL_get e
    exact ⟨.int _, hR, .refl⟩
theorem i_range1 {p : Pos} (hm : X.mg "range" = none) (ha : SE X CA XE a f) (hg : Gl X "range" := by rfl) (he : starEach [a] X.env = (false, eval a X.env) :: starEach [] X.env := by rfl) (hs : starEach [a] X.env = [(false, eval a X.env)] := by rfl) : SI false X CA XE tg (.Call (.Name "range" p) [a] [] pos) (iRange1 f) :=
  PI_weak (pi_range1 hg hm (pa_cons ha pa_nil he) hs) fun σ H Rk ⟨env, M, Ed, kd, p, q, k⟩ => ⟨env, M, Ed, _, p, q, fun d M1 v H1 q1 r1 R1 T1 => by
    split at q1
    · rename_i j
      cases r1
      refine ⟨_, rfl, q1.1, q1.2.1, ?_⟩
      have := k _ _ _ _ _ q1.2.2 R1 T1 (itR_range (lo := 0) (hi := j))
      rw [Int.sub_zero] at this
      exact this
    · exact q1.elim⟩
theorem i_range2 {p : Pos} (hm : X.mg "range" = none) (ha : SE X CA XE a f) (hb : SE X CA XE b g) (hg : Gl X "range" := by rfl) (he : starEach [a, b] X.env = (false, eval a X.env) :: starEach [b] X.env := by rfl) (he2 : starEach [b] X.env = (false, eval b X.env) :: starEach [] X.env := by rfl) (hs : starEach [a, b] X.env = [(false, eval a X.env), (false, eval b X.env)] := by rfl) (hs2 : starEach [b] X.env = [(false, eval b X.env)] := by rfl) : SI false X CA XE tg (.Call (.Name "range" p) [a, b] [] pos) (iRange2 f g) :=
  PI_weak (pi_range2 hg hm (pa_cons ha (pa_cons hb pa_nil he2) he) hs hs2) fun σ H Rk ⟨env, M, Ed, kd, p, q, k⟩ => ⟨env, M, Ed, _, p, q, fun d M1 v H1 q1 r1 R1 T1 => ⟨env, M1, Ed, _, p.to T1 R1, q1, fun d2 M2 v2 H2 q2 r2 R2 T2 => by
    split at q2
    · cases r1; cases r2
      exact ⟨_, _, rfl, q2.1, k _ _ _ _ _ q2.2 R2 (T1.trans T2) itR_range⟩
    · exact q2.elim⟩⟩
theorem drop_get {α : Type} {xs : List α} {i : Nat} (h : i < xs.length) : xs.drop i = xs[i] :: xs.drop (i + 1) := List.drop_eq_getElem_cons h
theorem s_for (hp : PassesOwn (model X.prog X.w) X.A X.env X.xe) (hc : X.calm = true) (hi : SI y X CA XE tg iter src) (hg : SG y X CA XE vs tg gt) (hb : SSs X CA XE sts s) (hs : ∀ x, foldedSetIterable iter X.env x = pure x := by intro _; rfl) : SS X CA XE (.For tg iter sts [] pos) (sFor src gt s) :=
  PS_weak (ps_for hp hc hi hg hb hs) fun D σ H ⟨env, M, Ed, Dd, p, q, k⟩ => by
    refine ⟨env, M, Ed, _, p, q, fun chk xs M1 H1 J q1 R1 T1 it => ?_⟩
    refine ⟨fun i m σ' H' => m = xs.length - i ∧ i ≤ xs.length ∧ ∃ env' M', RelEnv X.K H' σ' env' ∧ R (cn X CA) M' H' ∧ Tups X.K H1 H' ∧ forL gt s chk (xs.drop i) Ed Dd env' M', ⟨xs.length, by simp, Nat.zero_le _, env, M1, p.e.mono T1, R1, .refl, by rw [List.drop_zero]; exact q1⟩, ?_⟩
    rintro i m σ' H' ⟨rfl, hi, env', M', e', R', T', q'⟩
    by_cases hlt : i < xs.length
    · rw [drop_get hlt] at q'
      obtain ⟨hck, q'⟩ := q'
      refine .inr ⟨it.go i H' M' T' R' hck hlt, fun σ2 H2 => (xs.length - (i + 1)) = xs.length - (i + 1) ∧ i + 1 ≤ xs.length ∧ ∃ env' M', RelEnv X.K H2 σ2 env' ∧ R (cn X CA) M' H2 ∧ Tups X.K H1 H2 ∧ forL gt s chk (xs.drop (i + 1)) Ed Dd env' M', fun σ2 H2 h2 => ⟨xs.length - (i + 1), by omega, h2⟩, fun x H2 yl => ?_⟩
      obtain ⟨rx, R2, T2⟩ := it.yld i H' x H2 M' T' R' hck yl xs[i] (List.getElem?_eq_getElem hlt)
      refine ⟨xs[i], env', M', Ed, _, rx, ⟨e'.mono T2, R2, p.x.mono (T1.trans (T'.trans T2))⟩, q', fun env3 M3 σ3 H3 q3 e3 R3 T3 _ => ?_⟩
      have T4 : Tups X.K H1 H3 := T'.trans (T2.trans T3)
      refine ⟨env3, M3, Ed, _, ⟨e3, R3, p.x.mono (T1.trans T4)⟩, q3, ⟨?_, k.rt.mono (T1.trans T4), (k.mono (T1.trans T4)).nx, ?_⟩⟩
      · exact fun e5 M5 σ5 H5 q5 r5 R5 T5 => ⟨rfl, hlt, e5, M5, r5, R5, T4.trans T5, q5⟩
      · exact fun e5 M5 σ5 H5 q5 r5 R5 T5 => ⟨rfl, hlt, e5, M5, r5, R5, T4.trans T5, q5⟩
    · have e : i = xs.length := by omega
      subst e
      rw [List.drop_length] at q'
      exact .inl ⟨it.stop H' M' T' R' q'.1, k.nx _ _ _ _ q'.2 e' R' (T1.trans T')⟩
theorem s_while {c : Expr} (hp : PassesOwn (model X.prog X.w) X.A X.env X.xe) (hc : ST X CA XE c t) (hb : SSs X CA XE sts s) : SS X CA XE (.While c sts [] pos) (sWhile t s) :=
  PS_weak (ps_while hp hc hb) fun D σ H ⟨env, M, Ed, Dd, p, q, k⟩ => by
    obtain ⟨W, ⟨m0, w0⟩, turn⟩ := q
    refine ⟨fun m σ' H' => ∃ env' M', RelEnv X.K H' σ' env' ∧ R (cn X CA) M' H' ∧ Tups X.K H H' ∧ W m env' M', ⟨m0, env, M, p.e, p.r, .refl, w0⟩, ?_⟩
    rintro m σ' H' ⟨env', M', e', R', T', w'⟩
    refine ⟨env', M', Ed, _, ⟨e', R', p.x.mono T'⟩, turn m env' M' w', fun b M2 H2 q2 R2 T2 => ?_⟩
    cases b with
    | true =>
      refine ⟨fun σ3 H3 => ∃ m', m' < m ∧ ∃ env' M', RelEnv X.K H3 σ3 env' ∧ R (cn X CA) M' H3 ∧ Tups X.K H H3 ∧ W m' env' M', fun σ3 H3 h => h, ?_⟩
      have T4 : Tups X.K H H2 := T'.trans T2
      refine ⟨env', M2, Ed, _, ⟨e'.mono T2, R2, p.x.mono T4⟩, q2, ⟨?_, k.rt.mono T4, (k.mono T4).nx, ?_⟩⟩
      · exact fun e5 M5 σ5 H5 ⟨m', hm, q5⟩ r5 R5 T5 => ⟨m', hm, e5, M5, r5, R5, T4.trans T5, q5⟩
      · exact fun e5 M5 σ5 H5 ⟨m', hm, q5⟩ r5 R5 T5 => ⟨m', hm, e5, M5, r5, R5, T4.trans T5, q5⟩
    | false => exact k.nx _ _ _ _ q2 (e'.mono T2) R2 (T'.trans T2)
/-! ## comprehensions -/
def STs (X : Cx) (CA : String → Addr) (XE : XK) (es : List Expr) (t : WT) : Prop := PTs X es (tOfT (cn X CA) XE t)
theorem PTs_weak {t t' : TT} (h : PTs X es t) (w : ∀ σ H Q, t' σ H Q → t σ H Q) : PTs X es t' := ⟨fun pins s σ H Q I q => h.run pins s σ H Q I (w σ H Q q)⟩
theorem ts_nil : STs X CA XE [] tYes := PTs_weak pts_nil fun σ H Q ⟨env, M, Ed, Qd, p, q, k⟩ => k _ _ _ q p.r .refl
theorem ts_one {c : Expr} (h : ST X CA XE c t) : STs X CA XE [c] t := pts_one h
theorem comp_of {own : List Nat} {t : WT} {f : WE} {src : WI} {gt : WG} {σ : L2.St} {H : Hp} {Q : VK} {env : Ev} {M : Sto} {Ed : XW} {Qd : KD} (p : Pre (cn X CA) XE σ H env M Ed) (q : eComp src own gt t f Ed env M Qd) (k : KQ (cn X CA) H Qd Q) :
    tLc (tOfI y (cn X CA) XE src) (tOfG y (cn X CA) E0 own gt) (tOfT (cn X CA) E0 t) (tOf (cn X CA) E0 f) own σ H Q := by
  refine ⟨env, M, Ed, _, p, q, fun chk xs M1 H1 J q1 R1 T1 it => fun D hD => ?_⟩
  obtain ⟨Rl, Tl⟩ := lay_lst (c := cn X CA) hD .nil R1
  have q1 := q1 D (R1.fresh hD)
  refine ⟨fun i m H' => m = xs.length - i ∧ i ≤ xs.length ∧ ∃ M', R (cn X CA) M' H' ∧ Tups X.K H1 H' ∧ compL D own gt t f env chk (xs.drop i) M' fun M2 => Qd (.ref D) M2, ⟨xs.length, by simp, Nat.zero_le _, _, Rl, Tl, by rw [List.drop_zero]; exact q1⟩, ?_⟩
  rintro i m H' ⟨rfl, hi, M', R', T', q'⟩
  by_cases hlt : i < xs.length
  · rw [drop_get hlt] at q'
    obtain ⟨hck, q'⟩ := q'
    refine .inr ⟨it.go i H' M' T' R' hck hlt, fun H2 => (xs.length - (i + 1)) = xs.length - (i + 1) ∧ i + 1 ≤ xs.length ∧ ∃ M', R (cn X CA) M' H2 ∧ Tups X.K H1 H2 ∧ compL D own gt t f env chk (xs.drop (i + 1)) M' fun M2 => Qd (.ref D) M2, fun H2 h2 => ⟨xs.length - (i + 1), by omega, h2⟩, fun x H2 yl => ?_⟩
    obtain ⟨rx, R2, T2⟩ := it.yld i H' x H2 M' T' R' hck yl xs[i] (List.getElem?_eq_getElem hlt)
    refine ⟨xs[i], DL.wipe env own, M', X0, _, rx, ⟨(p.e.wipe own).mono (T1.trans (T'.trans T2)), R2, KX.no⟩, q', fun env3 M3 σ3 H3 q3 e3 R3 T3 O3 => ⟨O3.wipe, ?_⟩⟩
    refine ⟨env3, M3, X0, _, ⟨e3, R3, KX.no⟩, q3, fun b M4 H4 q4 R4 T4 => ?_⟩
    have T5 : Tups X.K H1 H4 := T'.trans (T2.trans (T3.trans T4))
    cases b with
    | false => exact ⟨rfl, hlt, M4, R4, T5, q4⟩
    | true =>
      refine ⟨env3, M4, X0, _, ⟨e3.mono T4, R4, KX.no⟩, q4, fun d M6 v H6 q6 r6 R6 T6 => ?_⟩
      split at q6
      · obtain ⟨ws, h1, rr⟩ := R6 _ _ (by assumption)
        obtain ⟨a1, a2⟩ := wr_lst (c := cn X CA) R6 (by assumption) h1 (rr.append (.cons r6 .nil))
        exact ⟨ws, h1, by rw [rr.length]; exact q6.1, rfl, hlt, _, a1, T5.trans (T6.trans a2), q6.2⟩
      · exact q6.elim
  · have e : i = xs.length := by omega
    subst e
    rw [List.drop_length] at q'
    exact .inl ⟨it.stop H' M' T' R' q'.1, k _ _ _ _ q'.2 (.ref D) R' (T1.trans T')⟩
theorem d_comp {elt : Expr} {ifs : List Expr} {scope : Scope} {own : List (Str × Nat)} (hc : X.calm = true) (hN : X.N.Nodup) (hi : SI y X CA XE tg iter src) (ok : BlkOk X.N X.env.scope scope own)
    (hg : ∀ (s : Shared) (H : Hp) (C : Addr) (cl : List (Str × Addr)) (fp : List Addr), SG y (X.blk s H scope (compEnvC scope cl C X.env) fp) CA E0 (own.map (·.2)) tg gt)
    (ht : ∀ (s : Shared) (H : Hp) (C : Addr) (cl : List (Str × Addr)) (fp : List Addr), STs (X.blk s H scope (compEnvC scope cl C X.env) fp) CA E0 ifs t)
    (he : ∀ (s : Shared) (H : Hp) (C : Addr) (cl : List (Str × Addr)) (fp : List Addr), SE (X.blk s H scope (compEnvC scope cl C X.env) fp) CA E0 elt f) (hs : ∀ x, foldedSetIterable iter X.env x = pure x := by intro _; rfl) :
    SE X CA XE (.ListComp elt [⟨tg, iter, ifs, 0⟩] scope pos) (eComp src (own.map (·.2)) gt t f) :=
  PE_weak (pe_lc (g := tOfG y (cn X CA) E0 (own.map fun z : Str × Nat => z.2) gt) (tt := tOfT (cn X CA) E0 t) (te := tOf (cn X CA) E0 f) hc hN hi ok hg ht he hs) fun σ H Q ⟨env, M, Ed, Qd, p, q, k⟩ => comp_of p q k
theorem s_setComp (i : Nat) {v : Str} {py : Pos} {elt : Expr} {ifs : List Expr} {scope : Scope} {own : List (Str × Nat)} {lpos : Pos} (hc : X.calm = true) (hN : X.N.Nodup) (hsw : swapsWith (.ListComp elt [⟨tg, iter, ifs, 0⟩] scope lpos) (some (.Name v py)) pos.line X.env = pure true) (hi : SI y X CA XE tg iter src) (ok : BlkOk X.N X.env.scope scope own)
    (hg : ∀ (s : Shared) (H : Hp) (C : Addr) (cl : List (Str × Addr)) (fp : List Addr), SG y (X.blk s H scope (compEnvC scope cl C X.env) fp) CA E0 (own.map (·.2)) tg gt)
    (ht : ∀ (s : Shared) (H : Hp) (C : Addr) (cl : List (Str × Addr)) (fp : List Addr), STs (X.blk s H scope (compEnvC scope cl C X.env) fp) CA E0 ifs t)
    (he : ∀ (s : Shared) (H : Hp) (C : Addr) (cl : List (Str × Addr)) (fp : List Addr), SE (X.blk s H scope (compEnvC scope cl C X.env) fp) CA E0 elt f)
    (hy : X.N[i]? = some v := by rfl) (hyl : X.env.scope.names.lookup v = some .local := by rfl) (hs : ∀ x, foldedSetIterable iter X.env x = pure x := by intro _; rfl) :
    SS X CA XE (.Assign [.Name v py] (.ListComp elt [⟨tg, iter, ifs, 0⟩] scope lpos) pos) (sAsg (eComp src (own.map (·.2)) gt t f) (gName i)) :=
  PS_weak (ps_setLc (g := tOfG y (cn X CA) E0 (own.map fun z : Str × Nat => z.2) gt) (tt := tOfT (cn X CA) E0 t) (te := tOf (cn X CA) E0 f) hc hN hy hyl hsw hi ok hg ht he hs) fun D σ H ⟨env, M, Ed, Dd, p, q, k⟩ =>
    comp_of (Q := fun x H1 => L2.gName i x σ H1 D.nx) p q fun d M1 v H1 q1 r1 R1 T1 => k.nx _ _ _ _ q1 ((p.e.mono T1).put r1 i) R1 T1
end
end DL

set_option Elab.async false
set_option linter.all false
set_option maxRecDepth 100000
set_option maxHeartbeats 4000000
/-! DU: more rules: texts that are walked, is True -/
namespace DL
open PySem PySem.Spec PyProof.Rows L2
section
variable {X : Cx} {CA : String → Addr} {XE : XK} {a : Expr} {tg : Expr} {f : WE}
theorem itR_str {c : Cn} {H1 : Hp} {x : Str} : ItR c false H1 (Its x) (fun _ => True) (charsOf x) where
  go := fun i H M T hR e h => by show i < x.cps.size; simpa [charsOf] using h
  stop := fun H M T hR e => by show x.cps.size ≤ _; simp [charsOf]
  yld := fun i H v H' M T hR em h d e => by
    obtain ⟨rfl, c, hc, rfl⟩ := h
    have : d = .str ⟨#[c]⟩ := by
      unfold charsOf at e
      rw [List.getElem?_map, Array.getElem?_toList, hc] at e
      exact (Option.some.inj e).symm
    subst this
    exact ⟨.str _, hR, .refl⟩
theorem i_str (ha : SE X CA XE a f) : SI false X CA XE tg a (iChars f) :=
  PI_weak (pi_str ha) fun σ H Rk ⟨env, M, Ed, kd, p, q, k⟩ => ⟨env, M, Ed, _, p, q, fun d M1 v H1 q1 r1 R1 T1 => by
    split at q1
    · cases r1
      exact ⟨_, rfl, k _ _ _ _ _ q1 R1 T1 itR_str⟩
    · exact q1.elim⟩
theorem op_isB : OpR X (compareOp .Is) (fun x y H Q => ∃ a b, x = .bl a ∧ y = .bl b ∧ Q (.bl (a == b)) H) := by
  intro pins s σ H x y v u Q I rx ry h
  obtain ⟨a, b, rfl, rfl, q⟩ := h
  cases rx; cases ry
  show wpAny _ _ ((isSame (Value.bool a) (Value.bool b)) >>= fun z => pure (Value.bool z)) _ _ s
  exact wpAny_bind (wpAny_isSame_plain rfl (wpAny_pure (fin_bl I q (by cases a <;> cases b <;> rfl))))
theorem op_notB : OpR X (compareOp .IsNot) (fun x y H Q => ∃ a b, x = .bl a ∧ y = .bl b ∧ Q (.bl (!(a == b))) H) := by
  intro pins s σ H x y v u Q I rx ry h
  obtain ⟨a, b, rfl, rfl, q⟩ := h
  cases rx; cases ry
  show wpAny _ _ ((isSame (Value.bool a) (Value.bool b)) >>= fun z => pure (Value.bool (!z))) _ _ s
  exact wpAny_bind (wpAny_isSame_plain rfl (wpAny_pure (fin_bl I q (by cases a <;> cases b <;> rfl))))
theorem isBS {c : Cn} : CmpS c cIsB (fun x y H Q => ∃ a b, x = .bl a ∧ y = .bl b ∧ Q (.bl (a == b)) H) := by
  intro v1 v2 d1 d2 M H kd Q r1 r2 hR h k
  unfold cIsB at h
  split at h
  · cases r1; cases r2
    exact ⟨_, _, rfl, rfl, k _ h⟩
  · exact h.elim
theorem notBS {c : Cn} : CmpS c cNotB (fun x y H Q => ∃ a b, x = .bl a ∧ y = .bl b ∧ Q (.bl (!(a == b))) H) := by
  intro v1 v2 d1 d2 M H kd Q r1 r2 hR h k
  unfold cNotB at h
  split at h
  · cases r1; cases r2
    exact ⟨_, _, rfl, rfl, k _ h⟩
  · exact h.elim
end
end DL

set_option Elab.async false
set_option linter.all false
set_option maxRecDepth 100000
/-! DX: what proofs over the clean level lean on -/
namespace DL
open PySem
/-- of a smaller store: what lies in it lies in the other, too -/
def Le (M M' : Sto) : Prop := ∀ x o, M x = some o → M' x = some o
/-- what a def leaves behind beside what was asked may be forgotten -/
def endsL (Q : KD) : Ends := endsOf fun d M' => ∃ M0, Le M0 M' ∧ Q d M0
/-! ## the steps, one at a time -/
/-- what comes after a statement: simp stops here -/
def K (f : Ev → Sto → Prop) : Ev → Sto → Prop := f
theorem go {f : Ev → Sto → Prop} {e : Ev} {m : Sto} (h : f e m) : K f e m := h
def onS (x : Option D) (k : D → Prop) : Prop := match x with
  | some d => k d
  | none => False
@[simp] theorem onS_some {d : D} {k : D → Prop} : onS (some d) k = k d := id rfl
@[simp] theorem onS_none {k : D → Prop} : onS none k = False := id rfl
def subO (o : Option O) (y : D) (k : D → Prop) : Prop := match o with
  | some (.lst xs) => match y with
    | .int i => at' xs i k
    | _ => False
  | some o => dLk o y fun r => match r with
      | some d => k d
      | none => False
  | none => False
def lenO (o : Option O) (k : Nat → Prop) : Prop := match o with
  | some (.lst xs) => k xs.length
  | _ => False
def truO (o : Option O) (k : Bool → Prop) : Prop := match o with
  | some (.lst xs) => k (!xs.isEmpty)
  | some (.dk kvs) => k (!kvs.isEmpty)
  | _ => False
def lstO (o : Option O) (k : List D → Prop) : Prop := match o with
  | some (.lst xs) => k xs
  | _ => False
@[simp] theorem lstO_lst {xs : List D} {k : List D → Prop} : lstO (some (.lst xs)) k = k xs := id rfl
@[simp] theorem lenO_lst {xs : List D} {k : Nat → Prop} : lenO (some (.lst xs)) k = k xs.length := id rfl
@[simp] theorem truO_lst {xs : List D} {k : Bool → Prop} : truO (some (.lst xs)) k = k (!xs.isEmpty) := id rfl
@[simp] theorem truO_dk {xs : List (Key × D)} {k : Bool → Prop} : truO (some (.dk xs)) k = k (!xs.isEmpty) := id rfl
section
variable {E : XW} {env : Ev} {M : Sto} {Q : KD} {f g h : WE} {fs : List WE} {d e : D} {ds : List D} {D' : Ends} {s t : WS} {i j : Int} {n : Nat} {a b : Addr} {k : D → Prop} {xs ys : List D} {u v : WT} {T : Bool → Sto → Prop} {G H : WG} {B : Bool → Prop}
@[simp] theorem eVar_s : eVar n E env M Q = onS (gt env n) fun d => Q d M := id rfl
@[simp] theorem eC_s : eC d E env M Q = Q d M := id rfl
@[simp] theorem argsW_nil {Q : List D → Sto → Prop} : argsW [] E env M Q = Q [] M := id rfl
@[simp] theorem argsW_cons {Q : List D → Sto → Prop} : argsW (f :: fs) E env M Q = f E env M fun d M1 => argsW fs E env M1 fun ds M2 => Q (d :: ds) M2 := id rfl
@[simp] theorem eTup_s : eTup fs E env M Q = argsW fs E env M fun ds M1 => Q (.tup ds) M1 := id rfl
@[simp] theorem eLst_s : eLst fs E env M Q = argsW fs E env M fun ds M1 => ∀ p, M1 p = none → Q (.ref p) (M1.set p (.lst ds)) := id rfl
@[simp] theorem eBin_s {op : B2} : eBin op f g E env M Q = f E env M fun x M1 => g E env M1 fun y M2 => op x y M2 Q := id rfl
def negD (x : D) (k : Int → Prop) : Prop := match x with
  | .int i => k (-i)
  | _ => False
@[simp] theorem negD_int {k : Int → Prop} : negD (.int i) k = k (-i) := id rfl
@[simp] theorem eNeg_s : eNeg f E env M Q = f E env M fun x M1 => negD x fun i => Q (.int i) M1 := id rfl
@[simp] theorem eCmp_s {c : C2} : eCmp c f g E env M Q = f E env M fun x M1 => g E env M1 fun y M2 => c x y M2 fun b => Q (.bl b) M2 := id rfl
@[simp] theorem tCmp_s {c : C2} : tCmp c f g E env M T = f E env M fun x M1 => g E env M1 fun y M2 => c x y M2 fun b => T b M2 := id rfl
@[simp] theorem tChain_s {c c' : C2} : tChain c c' f g h E env M T = f E env M fun x M1 => g E env M1 fun y M2 => c x y M2 fun b =>
  if b = true then h E env M2 fun z M3 => c' y z M3 fun b' => T b' M3 else T false M2 := id rfl
@[simp] theorem tTru_s : tTru f E env M T = f E env M fun x M1 => truD x M1 fun b => T b M1 := id rfl
@[simp] theorem tAnd_s : tAnd u v E env M T = u E env M fun b M1 => if b = true then v E env M1 T else T false M1 := id rfl
@[simp] theorem tOr_s : tOr u v E env M T = u E env M fun b M1 => if b = true then T true M1 else v E env M1 T := id rfl
@[simp] theorem tNot_s : tNot u E env M T = u E env M fun b M1 => T (!b) M1 := id rfl
@[simp] theorem tYes_s : tYes E env M T = T true M := id rfl
def blD (x : D) (k : Bool → Prop) : Prop := match x with
  | .bl b => k b
  | _ => False
@[simp] theorem blD_bl {b : Bool} : blD (.bl b) B = B b := id rfl
@[simp] theorem eAnd_s : eAnd f g E env M Q = f E env M fun x M1 => blD x fun b => if b = true then g E env M1 Q else Q (.bl false) M1 := id rfl
@[simp] theorem eOr_s : eOr f g E env M Q = f E env M fun x M1 => blD x fun b => if b = true then Q (.bl true) M1 else g E env M1 Q := id rfl
@[simp] theorem eNotB_s : eNotB f E env M Q = f E env M fun x M1 => blD x fun b => Q (.bl (!b)) M1 := id rfl
@[simp] theorem eIf_s : eIf u f g E env M Q = u E env M fun b M1 => if b = true then f E env M1 Q else g E env M1 Q := id rfl
@[simp] theorem eSub_s : eSub f g E env M Q = f E env M fun x M1 => g E env M1 fun y M2 => subD x y M2 fun d => Q d M2 := id rfl
@[simp] theorem optW_none {Q : Option Int → Sto → Prop} : optW none E env M Q = Q none M := id rfl
def intD (x : D) (k : Int → Prop) : Prop := match x with
  | .int i => k i
  | _ => False
@[simp] theorem intD_int {k : Int → Prop} : intD (.int i) k = k i := id rfl
@[simp] theorem optW_some {Q : Option Int → Sto → Prop} : optW (some f) E env M Q = f E env M fun x M1 => intD x fun i => Q (some i) M1 := id rfl
@[simp] theorem eSl_s {lo hi : Option WE} : eSl f lo hi E env M Q = f E env M fun x M1 => optW lo E env M1 fun l M2 => optW hi E env M2 fun h M3 => slD x l h M3 Q := id rfl
@[simp] theorem eRev_s : eRev f E env M Q = f E env M fun x M1 => revD x M1 Q := id rfl
@[simp] theorem eCall_s {S : FD} : eCall S fs E env M Q = argsW fs E env M fun ds M1 => S E ds M1 Q := id rfl
@[simp] theorem eLen_s : eLen f E env M Q = f E env M fun x M1 => lenD x M1 fun n => Q (.int n) M1 := id rfl
@[simp] theorem eAbs_s : eAbs f E env M Q = f E env M fun x M1 => intD x fun i => Q (.int (if i < 0 then -i else i)) M1 := id rfl
def int1D (x : D) (k : Int → Prop) : Prop := match x with
  | .int i => k i
  | .bl b => k (if b then 1 else 0)
  | _ => False
@[simp] theorem int1D_int {k : Int → Prop} : int1D (.int i) k = k i := id rfl
@[simp] theorem int1D_bl {b : Bool} {k : Int → Prop} : int1D (.bl b) k = k (if b then 1 else 0) := id rfl
@[simp] theorem eInt_s : eInt f E env M Q = f E env M fun x M1 => int1D x fun i => Q (.int i) M1 := by
  unfold eInt int1D
  first | rfl | (congr 1; done) | (congr 1; funext x M1; cases x <;> rfl)
def itD (x : D) (M : Sto) (k : List D → Prop) : Prop := match x with
  | .tup xs => k xs
  | .ref a => lstO (M a) k
  | _ => False
@[simp] theorem itD_tup {k : List D → Prop} : itD (.tup xs) M k = k xs := id rfl
@[simp] theorem itD_ref {k : List D → Prop} : itD (.ref a) M k = lstO (M a) k := id rfl
@[simp] theorem eTupOf_s : eTupOf f E env M Q = f E env M fun x M1 => itD x M1 fun xs => Q (.tup xs) M1 := by
  unfold eTupOf itD lstO
  first | rfl | (congr 1; done) | (congr 1; funext x M1; cases x <;> rfl)
@[simp] theorem subD_tup : subD (.tup xs) (.int i) M k = at' xs i k := id rfl
@[simp] theorem subD_lro : subD (.lro xs) (.int i) M k = at' xs i k := id rfl
@[simp] theorem subD_ref : subD (.ref a) d M k = subO (M a) d k := id rfl
@[simp] theorem subO_lst : subO (some (.lst xs)) (.int i) k = at' xs i k := id rfl
@[simp] theorem subO_dkS {kvs : List (Key × D)} {z : Str} : subO (some (.dk kvs)) (.str z) k = onS (lk kvs (.inr z)) k := id rfl
@[simp] theorem subO_dkI {kvs : List (Key × D)} {z : Int} : subO (some (.dk kvs)) (.int z) k = onS (lk kvs (.inl z)) k := id rfl
@[simp] theorem at_s : at' xs i k = onS (L2.atI xs i) k := id rfl
@[simp] theorem lenD_tup {k : Nat → Prop} : lenD (.tup xs) M k = k xs.length := id rfl
@[simp] theorem lenD_lro {k : Nat → Prop} : lenD (.lro xs) M k = k xs.length := id rfl
@[simp] theorem lenD_str {z : Str} {k : Nat → Prop} : lenD (.str z) M k = (z.length ≤ sizeLine ∧ k z.length) := id rfl
@[simp] theorem lenD_ref {k : Nat → Prop} : lenD (.ref a) M k = lenO (M a) k := id rfl
@[simp] theorem truD_non : truD .non M B = B false := id rfl
@[simp] theorem truD_bl {b : Bool} : truD (.bl b) M B = B b := id rfl
@[simp] theorem truD_int : truD (.int i) M B = B (i != 0) := id rfl
@[simp] theorem truD_tup : truD (.tup xs) M B = B (!xs.isEmpty) := id rfl
@[simp] theorem truD_ref : truD (.ref a) M B = truO (M a) B := id rfl
@[simp] theorem opAdd_int : opAdd (.int i) (.int j) M Q = Q (.int (i + j)) M := id rfl
@[simp] theorem opAdd_str {a b : Str} : opAdd (.str a) (.str b) M Q = (a.length + b.length ≤ sizeLine ∧ Q (.str (a ++ b)) M) := id rfl
@[simp] theorem opAdd_tup : opAdd (.tup xs) (.tup ys) M Q = (xs.length + ys.length ≤ sizeLine ∧ Q (.tup (xs ++ ys)) M) := id rfl
@[simp] theorem opAdd_ref : opAdd (.ref a) (.ref b) M Q = (lstO (M a) fun xs => lstO (M b) fun ys => xs.length + ys.length ≤ sizeLine ∧ ∀ p, M p = none → Q (.ref p) (M.set p (.lst (xs ++ ys)))) := by
  unfold opAdd lstO
  dsimp only
  generalize M a = x
  generalize M b = y
  rcases x with _ | o <;> rcases y with _ | o' <;> first | rfl | (cases o <;> first | rfl | (cases o' <;> rfl))
@[simp] theorem ipAdd_int : ipAdd (.int i) (.int j) M Q = Q (.int (i + j)) M := id rfl
@[simp] theorem opSub_int : opSub (.int i) (.int j) M Q = Q (.int (i - j)) M := id rfl
@[simp] theorem opMul_int : opMul (.int i) (.int j) M Q = (IntMulOk i j ∧ Q (.int (i * j)) M) := id rfl
@[simp] theorem opDiv_int : opDiv (.int i) (.int j) M Q = (j ≠ 0 ∧ Builtin.divisionGoesByPylong i j = false ∧ Q (.int (i.fdiv j)) M) := id rfl
@[simp] theorem opMod_int : opMod (.int i) (.int j) M Q = (j ≠ 0 ∧ Q (.int (i.fmod j)) M) := id rfl
@[simp] theorem opPow_int : opPow (.int i) (.int j) M Q = (0 ≤ j ∧ j ≤ 1000000 ∧ i.natAbs < 2 ^ 64 ∧ Q (.int (i ^ j.toNat)) M) := id rfl
@[simp] theorem cEq_int : cEq (.int i) (.int j) M B = B (decide (i = j)) := id rfl
@[simp] theorem cEq_str {a b : Str} : cEq (.str a) (.str b) M B = B (decide (a = b)) := id rfl
@[simp] theorem cEq_bl {a b : Bool} : cEq (.bl a) (.bl b) M B = B (a == b) := id rfl
@[simp] theorem cNe_s : cNe d e M B = cEq d e M fun b => B (!b) := id rfl
@[simp] theorem cLt_int : cLt (.int i) (.int j) M B = B (decide (i < j)) := id rfl
@[simp] theorem cLe_int : cLe (.int i) (.int j) M B = B (decide (i ≤ j)) := id rfl
@[simp] theorem cGt_int : cGt (.int i) (.int j) M B = B (decide (j < i)) := id rfl
@[simp] theorem cGe_int : cGe (.int i) (.int j) M B = B (decide (j ≤ i)) := id rfl
@[simp] theorem cIsN_s : cIsN d .non M B = B (decide (d = .non)) := id rfl
@[simp] theorem cNotN_s : cNotN d .non M B = B (!decide (d = .non)) := id rfl
@[simp] theorem cNotIn_s : cNotIn d e M B = cIn d e M fun b => B (!b) := id rfl
@[simp] theorem slD_tup {lo hi : Option Int} : slD (.tup xs) lo hi M Q = Q (.tup (cut xs lo hi)) M := id rfl
@[simp] theorem slD_lro {lo hi : Option Int} : slD (.lro xs) lo hi M Q = ∀ p, M p = none → Q (.ref p) (M.set p (.lst (cut xs lo hi))) := id rfl
@[simp] theorem slD_ref {lo hi : Option Int} : slD (.ref a) lo hi M Q = lstO (M a) fun xs => ∀ p, M p = none → Q (.ref p) (M.set p (.lst (cut xs lo hi))) := id rfl
@[simp] theorem lstAt_s {k : Addr → List D → Prop} : lstAt (.ref a) M k = lstO (M a) fun xs => k a xs := id rfl
@[simp] theorem eAppend_s : eAppend f g E env M Q = f E env M fun x M1 => lstAt x M1 fun _ _ => g E env M1 fun y M2 => lstAt x M2 fun a xs => xs.length < sizeLine ∧ Q .non (M2.set a (.lst (xs ++ [y]))) := id rfl
@[simp] theorem ePop_s : ePop f E env M Q = f E env M fun x M1 => lstAt x M1 fun a xs => onS xs.getLast? fun y => Q y (M1.set a (.lst xs.dropLast)) := id rfl
@[simp] theorem eExtend_s : eExtend f g E env M Q = f E env M fun x M1 => lstAt x M1 fun _ _ => g E env M1 fun y M2 => lstAt x M2 fun a xs => lstAt y M2 fun _ ys => xs.length + ys.length ≤ sizeLine ∧ Q .non (M2.set a (.lst (xs ++ ys))) := id rfl
/-! what is walked -/
@[simp] theorem iRange1_s {k : (Sto → Prop) → List D → Sto → Prop} : iRange1 f E env M k = f E env M fun x M1 => intD x fun j => -(2 ^ 62) ≤ j ∧ j < 2 ^ 62 ∧ k (fun _ => True) (rangeL 0 j) M1 := id rfl
def valI (x : D) (M : Sto) (k : (Sto → Prop) → List D → Sto → Prop) : Prop := match x with
  | .tup xs => k (fun _ => True) xs M
  | .lro xs => k (fun _ => True) xs M
  | .ref a => lstO (M a) fun xs => k (fun M' => M' a = some (.lst xs)) xs M
  | _ => False
@[simp] theorem valI_tup {k : (Sto → Prop) → List D → Sto → Prop} : valI (.tup xs) M k = k (fun _ => True) xs M := id rfl
@[simp] theorem valI_lro {k : (Sto → Prop) → List D → Sto → Prop} : valI (.lro xs) M k = k (fun _ => True) xs M := id rfl
@[simp] theorem valI_ref {k : (Sto → Prop) → List D → Sto → Prop} : valI (.ref a) M k = lstO (M a) fun xs => k (fun M' => M' a = some (.lst xs)) xs M := id rfl
@[simp] theorem iVal_s {k : (Sto → Prop) → List D → Sto → Prop} : iVal f E env M k = f E env M fun x M1 => valI x M1 k := by
  unfold iVal valI lstO
  first | rfl | (congr 1; done) | (congr 1; funext x M1; cases x <;> rfl)
/-! targets, statements -/
@[simp] theorem gName_s {P : Ev → Sto → Prop} : gName n d E env M P = P (put env n d) M := id rfl
@[simp] theorem gAll_nil {P : Ev → Sto → Prop} : gAll [] [] E env M P = P env M := id rfl
@[simp] theorem gAll_cons {P : Ev → Sto → Prop} {gs : List WG} : gAll (G :: gs) (d :: ds) E env M P = G d E env M fun env1 M1 => gAll gs ds E env1 M1 P := id rfl
@[simp] theorem gTup_s {P : Ev → Sto → Prop} {gs : List WG} : gTup gs (.tup ds) E env M P = (ds.length = gs.length ∧ gAll gs ds E env M P) := id rfl
@[simp] theorem gSub_s {P : Ev → Sto → Prop} : gSub f g d E env M P = f E env M fun o M1 => g E env M1 fun i M2 => setD o i d M2 fun M3 => P env M3 := id rfl
def onN (x : Option Nat) (k : Nat → Prop) : Prop := match x with
  | some d => k d
  | none => False
@[simp] theorem onN_some {k : Nat → Prop} : onN (some n) k = k n := id rfl
def setO (o : Option O) (i d : D) (Q : O → Prop) : Prop := match o with
    | some (.lst xs) => match i with
      | .int k => onN (L2.ixN xs.length k) fun j => Q (.lst (xs.set j d))
      | _ => False
    | some (.dk kvs) => match keyD i with
      | some κ => kvs.length < sizeLine ∧ Q (.dk (ins kvs κ d))
      | none => False
    | some (.dn kvs) => nkOk i = true ∧ kvs.length < sizeLine ∧ Q (.dn (ins kvs i d))
    | _ => False
@[simp] theorem setD_ref {P : Sto → Prop} {y : D} : setD (.ref a) y d M P = setO (M a) y d fun o => P (M.set a o) := by
  unfold setD setO
  dsimp only
  generalize M a = x
  rcases x with _ | o
  · rfl
  · cases o with
    | lst xs => cases y <;> first | rfl | (dsimp only; split <;> simp_all [onN])
    | dk _ => first | (dsimp only; done) | (dsimp only; cases keyD y <;> rfl)
    | dn _ => rfl
    | ins _ _ => rfl
@[simp] theorem setO_lst {P : O → Prop} : setO (some (.lst xs)) (.int i) d P = onN (L2.ixN xs.length i) fun j => P (.lst (xs.set j d)) := id rfl
@[simp] theorem setO_dkS {P : O → Prop} {kvs : List (Key × D)} {z : Str} : setO (some (.dk kvs)) (.str z) d P = (kvs.length < sizeLine ∧ P (.dk (ins kvs (.inr z) d))) := id rfl
@[simp] theorem setO_dkI {P : O → Prop} {kvs : List (Key × D)} {z : Int} : setO (some (.dk kvs)) (.int z) d P = (kvs.length < sizeLine ∧ P (.dk (ins kvs (.inl z) d))) := id rfl
@[simp] theorem setO_dn {P : O → Prop} {kvs : List (D × D)} : setO (some (.dn kvs)) e d P = (nkOk e = true ∧ kvs.length < sizeLine ∧ P (.dn (ins kvs e d))) := by
  cases e <;> rfl
@[simp] theorem sNil_s : sNil E D' env M = D'.nx env M := id rfl
@[simp] theorem sSeq_s : sSeq s t E D' env M = s E { D' with nx := K (t E D') } env M := id rfl
@[simp] theorem sAsg_s : sAsg f G E D' env M = f E env M fun d M1 => G d E env M1 D'.nx := id rfl
@[simp] theorem sAug_s {op : B2} : sAug n op f E D' env M = onS (gt env n) fun x => f E env M fun y M1 => op x y M1 fun z M2 => D'.nx (put env n z) M2 := id rfl
@[simp] theorem sExpr_s : sExpr f E D' env M = f E env M fun _ M1 => D'.nx env M1 := id rfl
@[simp] theorem sRet_s : sRet f E D' env M = f E env M D'.rt := id rfl
@[simp] theorem sRetN_s : sRetN E D' env M = D'.rt .non M := id rfl
@[simp] theorem sIf_s : sIf u s t E D' env M = u E env M fun c M1 => if c = true then s E D' env M1 else t E D' env M1 := id rfl
@[simp] theorem sBreak_s : sBreak E D' env M = D'.bk env M := id rfl
@[simp] theorem sCont_s : sCont E D' env M = D'.ct env M := id rfl
@[simp] theorem sFor_s {src : WI} : sFor src G s E D' env M = src E env M fun chk xs M1 => forL G s chk xs E D' env M1 := id rfl
@[simp] theorem eComp_s {src : WI} {vs : List Nat} : eComp src vs G u f E env M Q = src E env M fun chk xs M1 => ∀ p, M1 p = none →
  compL p vs G u f env chk xs (M1.set p (.lst [])) fun M2 => Q (.ref p) M2 := id rfl
/-! loops -/
theorem forL_nil {chk : Sto → Prop} : forL G s chk [] E D' env M = (chk M ∧ D'.nx env M) := id rfl
theorem forL_cons {chk : Sto → Prop} {x : D} : forL G s chk (x :: xs) E D' env M = (chk M ∧ G x E env M fun env1 M1 => s E { D' with nx := K (forL G s chk xs E D'), ct := K (forL G s chk xs E D'), bk := D'.nx } env1 M1) := id rfl
theorem compL_nil {p : Addr} {vs : List Nat} {chk : Sto → Prop} {P : Sto → Prop} : compL p vs G u f env chk [] M P = (chk M ∧ P M) := id rfl
theorem compL_cons {p : Addr} {vs : List Nat} {chk : Sto → Prop} {P : Sto → Prop} {x : D} : compL p vs G u f env chk (x :: xs) M P = (chk M ∧ G x X0 (wipe env vs) M fun env1 M1 => u X0 env1 M1 fun b M2 =>
    if b = true then f X0 env1 M2 fun d M3 => lstO (M3 p) fun acc => acc.length < sizeLine ∧ compL p vs G u f env chk xs (M3.set p (.lst (acc ++ [d]))) P
    else compL p vs G u f env chk xs M2 P) := id rfl
end
theorem Le.refl {M : Sto} : Le M M := fun _ _ h => h
theorem Le.trans {M M' M'' : Sto} (h : Le M M') (h' : Le M' M'') : Le M M'' := fun x o e => h' x o (h x o e)
theorem Le.fresh {M M' : Sto} {p : Addr} {o : O} (h : Le M M') (hp : M p = none) : Le M (M'.set p o) := fun x u e => by
  have : x ≠ p := fun he => by subst he; rw [hp] at e; cases e
  rw [set_ne this]; exact h x u e
theorem Le.set {M M' : Sto} {p : Addr} {o : O} (h : Le M M') : Le (M.set p o) (M'.set p o) := fun x u e => by
  by_cases hx : x = p
  · subst hx; rw [set_same] at e ⊢; exact e
  · rw [set_ne hx] at e ⊢; exact h x u e
/-- beside one place -/
def LeX (a : Addr) (M M' : Sto) : Prop := ∀ x o, x ≠ a → M x = some o → M' x = some o
theorem LeX.refl {a : Addr} {M : Sto} : LeX a M M := fun _ _ _ h => h
theorem LeX.fresh {a : Addr} {M M' : Sto} {p : Addr} {o : O} (h : LeX a M M') (hp : M p = none) : LeX a M (M'.set p o) := fun x u n e => by
  have : x ≠ p := fun he => by subst he; rw [hp] at e; cases e
  rw [set_ne this]; exact h x u n e
theorem LeX.at {a : Addr} {M M' : Sto} {o : O} (h : LeX a M M') : LeX a M (M'.set a o) := fun x u n e => by
  rw [set_ne n]; exact h x u n e
theorem LeX.trans {a : Addr} {M M' M'' : Sto} (h : LeX a M M') (h' : LeX a M' M'') : LeX a M M'' := fun x o n e => h' x o n (h x o n e)
theorem LeX.le {a : Addr} {M M' : Sto} {o : O} (h : LeX a M M') (e : M' a = some o) : Le (M.set a o) M' := fun x u ex => by
  by_cases hx : x = a
  · subst hx; rw [set_same] at ex; rw [e]; exact ex
  · rw [set_ne hx] at ex; exact h x u hx ex
theorem set_none {M : Sto} {a p : Addr} {o : O} : M.set a o p = none ↔ p ≠ a ∧ M p = none := by
  by_cases h : p = a
  · subst h; rw [set_same]; simp
  · rw [set_ne h]; simp [h]
theorem fdiv_pos {a b : Int} (h : 0 < b) : a.fdiv b = a / b := Int.fdiv_eq_ediv_of_nonneg a (Int.le_of_lt h)
theorem fmod_pos {a b : Int} (h : 0 < b) : a.fmod b = a % b := Int.fmod_eq_emod_of_nonneg a (Int.le_of_lt h)
theorem mulOk_small {a b : Int} (h : b.natAbs < 2 ^ 63) : IntMulOk a b := IntMulOk.of_right (intBits_le_64 (by omega) (by omega))
theorem mulOk_small' {a b : Int} (h : a.natAbs < 2 ^ 63) : IntMulOk a b := IntMulOk.of_left (intBits_le_64 (by omega) (by omega))
theorem getElem_map {α : Type} {xs : List α} {f : α → D} {i : Nat} : (xs.map f)[i]? = xs[i]?.map f := by simp
@[simp] theorem atI_s {α : Type} (xs : List α) (i : Int) : L2.atI xs i = (L2.ixN xs.length i).bind fun j => xs[j]? := id rfl
@[simp] theorem ixN_s (n : Nat) (i : Int) : L2.ixN n i = if 0 ≤ i then (if i < n then some i.toNat else none) else if -(n : Int) ≤ i then some (i + n).toNat else none := id rfl
/-! ## how big a number is -/
structure Sm (m : Nat) (x : Int) : Prop where
  h : x.natAbs < 2 ^ m
theorem Sm.bits {m : Nat} {x : Int} (h : Sm m x) : Builtin.Int.intBits x ≤ m := intBits_le_iff.mpr h.h
theorem Sm.of_bits {m : Nat} {x : Int} (h : Builtin.Int.intBits x ≤ m) : Sm m x := ⟨intBits_le_iff.mp h⟩
theorem Sm.mono {m n : Nat} {x : Int} (h : Sm m x) (hl : m ≤ n) : Sm n x := ⟨Nat.lt_of_lt_of_le h.h (Nat.pow_le_pow_right (by decide) hl)⟩
theorem Sm.mul {m n : Nat} {x y : Int} (hx : Sm m x) (hy : Sm n y) : Sm (m + n) (x * y) := .of_bits (intBits_mul_le hx.bits hy.bits)
theorem Sm.add {m n : Nat} {x y : Int} (hx : Sm m x) (hy : Sm n y) : Sm (max m n + 1) (x + y) := .of_bits (intBits_add_le hx.bits hy.bits)
theorem Sm.of_le {m : Nat} {x y : Int} (h : x.natAbs ≤ y.natAbs) (hy : Sm m y) : Sm m x := ⟨Nat.lt_of_le_of_lt h hy.h⟩
theorem Sm.neg {m : Nat} {x : Int} (hx : Sm m x) : Sm m (-x) := hx.of_le (by omega)
theorem Sm.lit {m : Nat} {x : Int} (h : x.natAbs < 2 ^ 60) (hm : 60 ≤ m) : Sm m x := Sm.mono (m := 60) ⟨h⟩ hm
theorem Sm.mulOk {m n : Nat} {x y : Int} (hx : Sm m x) (hy : Sm n y) (h : m + n ≤ 134217728) : IntMulOk x y := IntMulOk.of_le hx.bits hy.bits h
theorem Sm.np {m : Nat} {x y : Int} (h : Sm m y) (hm : m < 9000) : Builtin.divisionGoesByPylong x y = false := by
  refine PyProof.noPylong_of_log2 ?_
  by_cases h0 : y.natAbs = 0
  · rw [h0, Nat.log2_zero]; omega
  · exact Nat.lt_of_lt_of_le ((Nat.log2_lt h0).mpr h.h) (Nat.le_of_lt hm)
theorem np_small {x y : Int} (h : y.natAbs < 1073741824) : Builtin.divisionGoesByPylong x y = false := PyProof.noPylong_small h
theorem fn1_e {g : D → XW → Sto → KD → Prop} {E : XW} {ds : List D} {M : Sto} {Q : KD} (h : fn1 g E ds M Q) : ∃ x, ds = [x] ∧ g x E M Q := by
  unfold fn1 at h; split at h
  · exact ⟨_, rfl, h⟩
  · exact h.elim
theorem fn2_e {g : D → D → XW → Sto → KD → Prop} {E : XW} {ds : List D} {M : Sto} {Q : KD} (h : fn2 g E ds M Q) : ∃ x y, ds = [x, y] ∧ g x y E M Q := by
  unfold fn2 at h; split at h
  · exact ⟨_, _, rfl, h⟩
  · exact h.elim
theorem fn3_e {g : D → D → D → XW → Sto → KD → Prop} {E : XW} {ds : List D} {M : Sto} {Q : KD} (h : fn3 g E ds M Q) : ∃ x y z, ds = [x, y, z] ∧ g x y z E M Q := by
  unfold fn3 at h; split at h
  · exact ⟨_, _, _, rfl, h⟩
  · exact h.elim
theorem fn4_e {g : D → D → D → D → XW → Sto → KD → Prop} {E : XW} {ds : List D} {M : Sto} {Q : KD} (h : fn4 g E ds M Q) : ∃ x y z u, ds = [x, y, z, u] ∧ g x y z u E M Q := by
  unfold fn4 at h; split at h
  · exact ⟨_, _, _, _, rfl, h⟩
  · exact h.elim
theorem fn5_e {g : D → D → D → D → D → XW → Sto → KD → Prop} {E : XW} {ds : List D} {M : Sto} {Q : KD} (h : fn5 g E ds M Q) : ∃ x y z u v, ds = [x, y, z, u, v] ∧ g x y z u v E M Q := by
  unfold fn5 at h; split at h
  · exact ⟨_, _, _, _, _, rfl, h⟩
  · exact h.elim
theorem rt_endsL {Q : KD} {d : D} {M0 M : Sto} (l : Le M0 M) (q : Q d M0) : (endsL Q).rt d M := ⟨M0, l, q⟩
@[simp] theorem endsL_rt {Q : KD} {d : D} {M : Sto} : (endsL Q).rt d M ↔ ∃ M0, Le M0 M ∧ Q d M0 := Iff.rfl
@[simp] theorem endsL_nx {Q : KD} {e : Ev} {M : Sto} : (endsL Q).nx e M ↔ ∃ M0, Le M0 M ∧ Q .non M0 := Iff.rfl
/-! ## loops and comprehensions by what stays -/
section
variable {E : XW} {env : Ev} {M : Sto} {f : WE} {D' : Ends} {s : WS} {G : WG} {p : Addr} {vs : List Nat} {chk : Sto → Prop} {P : Sto → Prop}
theorem for_ind (I : List D → Ev → Sto → Prop)
    (step : ∀ x xs e m, I (x :: xs) e m → chk m ∧ ∀ N : Ev → Sto → Prop, (∀ e' m', I xs e' m' → N e' m') → G x E e m fun e1 m1 => s E { D' with nx := N, ct := N, bk := D'.nx } e1 m1)
    (last : ∀ e m, I [] e m → chk m ∧ D'.nx e m) : ∀ xs e m, I xs e m → forL G s chk xs E D' e m
  | [], e, m, h => by rw [forL_nil]; exact last e m h
  | x :: xs, e, m, h => by
    rw [forL_cons]
    have h' := step x xs e m h
    exact ⟨h'.1, h'.2 _ fun e' m' hi => for_ind I step last xs e' m' hi⟩
theorem comp_ind (I : List D → List D → Sto → Prop)
    (step : ∀ x xs acc m, I acc (x :: xs) m → chk m ∧ acc.length < sizeLine ∧ ∀ T : KD, (∀ d m', m' p = some (.lst acc) → I (acc ++ [d]) xs (m'.set p (.lst (acc ++ [d]))) → T d m') →
      G x X0 (wipe env vs) m fun e1 m1 => f X0 e1 m1 T)
    (last : ∀ acc m, I acc [] m → chk m ∧ P m) : ∀ xs acc m, I acc xs m → compL p vs G tYes f env chk xs m P
  | [], acc, m, h => by rw [compL_nil]; exact last acc m h
  | x :: xs, acc, m, h => by
    rw [compL_cons]
    have h' := step x xs acc m h
    refine ⟨h'.1, ?_⟩
    simp only [tYes_s, if_pos]
    exact h'.2.2 _ fun d m' e hi => by
      rw [e, lstO_lst]; exact ⟨h'.2.1, comp_ind I step last xs _ _ hi⟩
theorem comp_map (val : D → D) (R : Sto → Prop) (hR : ∀ m o, R m → R (m.set p o)) (hc : ∀ m, R m → chk m) : ∀ (xs acc : List D) (M : Sto),
    (∀ x ∈ xs, ∀ m (T : KD), R m → T (val x) m → G x X0 (wipe env vs) m fun e1 m1 => f X0 e1 m1 T) → acc.length + xs.length ≤ sizeLine → M p = some (.lst acc) → R M → P (M.set p (.lst (acc ++ xs.map val))) →
    compL p vs G tYes f env chk xs M P
  | [], acc, M, _, _, e, r, h => by
    rw [compL_nil]; refine ⟨hc M r, ?_⟩
    simp only [List.map_nil, List.append_nil] at h
    rw [set_self e] at h; exact h
  | x :: xs, acc, M, hb, hl, e, r, h => by
    rw [compL_cons]; refine ⟨hc M r, ?_⟩
    simp only [tYes_s, if_pos]
    refine hb x (.head _) M _ r ?_
    rw [e, lstO_lst]
    simp only [List.length_cons] at hl
    refine ⟨by omega, comp_map val R hR hc xs _ _ (fun y hy => hb y (.tail _ hy)) (by simp; omega) set_same (hR _ _ r) ?_⟩
    rw [set_set]
    simpa using h
end
theorem sizeLine_ge : 100000 ≤ sizeLine := by decide
@[simp] theorem ofString_inj {a b : String} : Str.ofString a = Str.ofString b ↔ a = b := by
  refine ⟨fun h => ?_, fun h => by rw [h]⟩
  rw [Str.ofString_eq_toList, Str.ofString_eq_toList] at h
  injection h with h
  have h := Array.toList_inj.mpr h
  simp only at h
  have h2 := (List.map_inj_right (fun x y e => Char.toNat_inj.mp e)).mp h
  exact String.toList_inj.mp h2
def chrI (x : D) (M : Sto) (k : (Sto → Prop) → List D → Sto → Prop) : Prop := match x with
  | .str s => k (fun _ => True) (charsOf s) M
  | _ => False
@[simp] theorem chrI_str {s : Str} {M : Sto} {k : (Sto → Prop) → List D → Sto → Prop} : chrI (.str s) M k = k (fun _ => True) (charsOf s) M := id rfl
@[simp] theorem iChars_s {f : WE} {E : XW} {env : Ev} {M : Sto} {k : (Sto → Prop) → List D → Sto → Prop} : iChars f E env M k = f E env M fun x M1 => chrI x M1 k := id rfl
@[simp] theorem cIsB_bl {a b : Bool} {M : Sto} {k : Bool → Prop} : cIsB (.bl a) (.bl b) M k = k (a == b) := id rfl
@[simp] theorem cNotB_bl {a b : Bool} {M : Sto} {k : Bool → Prop} : cNotB (.bl a) (.bl b) M k = k (!(a == b)) := id rfl
/-! in -/
def inO (o : Option O) (x : D) (k : Bool → Prop) : Prop := match o with
    | some (.lst xs) => flat x = true ∧ xs.all flat = true ∧ k (xs.any fun z => eqF z x)
    | some o => dLk o x fun r => k r.isSome
    | none => False
@[simp] theorem cIn_str {s t : Str} {M : Sto} {k : Bool → Prop} : cIn (.str t) (.str s) M k = k (!(Builtin.Str.occurrences s t 0 s.length 1).isEmpty) := id rfl
@[simp] theorem cIn_tup {x : D} {xs : List D} {M : Sto} {k : Bool → Prop} : cIn x (.tup xs) M k = (flat x = true ∧ xs.all flat = true ∧ k (xs.any fun z => eqF z x)) := id rfl
@[simp] theorem cIn_ref {x : D} {a : Addr} {M : Sto} {k : Bool → Prop} : cIn x (.ref a) M k = inO (M a) x k := id rfl
@[simp] theorem inO_lst {x : D} {xs : List D} {k : Bool → Prop} : inO (some (.lst xs)) x k = (flat x = true ∧ xs.all flat = true ∧ k (xs.any fun z => eqF z x)) := id rfl
@[simp] theorem inO_dkS {z : Str} {kvs : List (Key × D)} {k : Bool → Prop} : inO (some (.dk kvs)) (.str z) k = k (lk kvs (.inr z)).isSome := id rfl
@[simp] theorem inO_dn {z : D} {kvs : List (D × D)} {k : Bool → Prop} : inO (some (.dn kvs)) z k = (nkOk z = true ∧ k (lk kvs z).isSome) := by
  cases z <;> exact rfl
@[simp] theorem revD_tup {xs : List D} {M : Sto} {Q : KD} : revD (.tup xs) M Q = Q (.tup xs.reverse) M := id rfl
@[simp] theorem revD_ref {a : Addr} {M : Sto} {Q : KD} : revD (.ref a) M Q = lstO (M a) fun xs => ∀ p, M p = none → Q (.ref p) (M.set p (.lst xs.reverse)) := id rfl
@[simp] theorem subD_str {s : Str} {i : Int} {M : Sto} {k : D → Prop} : subD (.str s) (.int i) M k = (s.length ≤ sizeLine ∧ onN (L2.atI s.cps.toList i) fun c => k (.str ⟨#[c]⟩)) := id rfl
/-! more steps -/
section
variable {E : XW} {env : Ev} {M : Sto} {Q : KD} {f g h : WE} {d : D} {a : Addr} {xs : List D} {i : Int}
def tyO (o : Option O) (k : String → Prop) : Prop := match o with
    | some (.lst _) => k "list"
    | some (.dk _) => k "dict"
    | _ => False
@[simp] theorem eIsi_s {cs : List String} : eIsi f cs E env M Q = f E env M fun x M1 => tyD x M1 fun t => Q (.bl (cs.any (isTy t))) M1 := id rfl
@[simp] theorem tyD_int {k : String → Prop} : tyD (.int i) M k = k "int" := id rfl
@[simp] theorem tyD_bl {b : Bool} {k : String → Prop} : tyD (.bl b) M k = k "bool" := id rfl
@[simp] theorem tyD_str {b : Str} {k : String → Prop} : tyD (.str b) M k = k "str" := id rfl
@[simp] theorem tyD_tup {k : String → Prop} : tyD (.tup xs) M k = k "tuple" := id rfl
@[simp] theorem tyD_lro {k : String → Prop} : tyD (.lro xs) M k = k "list" := id rfl
@[simp] theorem tyD_non {k : String → Prop} : tyD .non M k = k "NoneType" := id rfl
@[simp] theorem tyD_ref {k : String → Prop} : tyD (.ref a) M k = tyO (M a) k := id rfl
@[simp] theorem tyO_lst {k : String → Prop} : tyO (some (.lst xs)) k = k "list" := id rfl
@[simp] theorem tyO_dk {kvs : List (Key × D)} {k : String → Prop} : tyO (some (.dk kvs)) k = k "dict" := id rfl
def onBs (x : Option (List Bool)) (k : List Bool → Prop) : Prop := match x with
  | some d => k d
  | none => False
@[simp] theorem onBs_some {bs : List Bool} {k : List Bool → Prop} : onBs (some bs) k = k bs := id rfl
def onIs (x : Option (List Int)) (k : List Int → Prop) : Prop := match x with
  | some d => k d
  | none => False
@[simp] theorem onIs_some {bs : List Int} {k : List Int → Prop} : onIs (some bs) k = k bs := id rfl
def lstD (x : D) (M : Sto) (k : List D → Prop) : Prop := match x with
  | .ref a => lstO (M a) k
  | _ => False
@[simp] theorem lstD_ref {k : List D → Prop} : lstD (.ref a) M k = lstO (M a) k := id rfl
@[simp] theorem eAll_s : eAll f E env M Q = f E env M fun x M1 => lstD x M1 fun xs => onBs (asBools xs) fun bs => Q (.bl (bs.all id)) M1 := by
  unfold eAll lstD lstO onBs
  first | rfl | (congr 1; done) | (congr 1; funext x M1; cases x <;> rfl)
@[simp] theorem eAny_s : eAny f E env M Q = f E env M fun x M1 => lstD x M1 fun xs => onBs (asBools xs) fun bs => Q (.bl (bs.any id)) M1 := by
  unfold eAny lstD lstO onBs
  first | rfl | (congr 1; done) | (congr 1; funext x M1; cases x <;> rfl)
@[simp] theorem eSum_s : eSum f E env M Q = f E env M fun x M1 => lstD x M1 fun xs => onIs (asInts xs) fun bs => Q (.int bs.sum) M1 := by
  unfold eSum lstD lstO onIs
  first | rfl | (congr 1; done) | (congr 1; funext x M1; cases x <;> rfl)
def lstOfO (o : Option O) (k : List D → Prop) : Prop := match o with
    | some (.lst xs) => k xs
    | some (.dk kvs) => k (kvs.map fun kv => dKey kv.1)
    | _ => False
def lstOfD (x : D) (M : Sto) (k : List D → Prop) : Prop := match x with
  | .tup xs => k xs
  | .ref a => lstOfO (M a) k
  | _ => False
@[simp] theorem lstOfD_tup {k : List D → Prop} : lstOfD (.tup xs) M k = k xs := id rfl
@[simp] theorem lstOfD_ref {k : List D → Prop} : lstOfD (.ref a) M k = lstOfO (M a) k := id rfl
@[simp] theorem lstOfO_lst {k : List D → Prop} : lstOfO (some (.lst xs)) k = k xs := id rfl
@[simp] theorem lstOfO_dk {kvs : List (Key × D)} {k : List D → Prop} : lstOfO (some (.dk kvs)) k = k (kvs.map fun kv => dKey kv.1) := id rfl
@[simp] theorem eLstOf_s : eLstOf f E env M Q = f E env M fun x M1 => lstOfD x M1 fun xs => ∀ p, M1 p = none → Q (.ref p) (M1.set p (.lst xs)) := by
  unfold eLstOf lstOfD lstOfO
  first | rfl | (congr 1; done) | (congr 1; funext x M1; cases x <;> rfl)
def onK (x : Option (List (Key × D))) (k : List (Key × D) → Prop) : Prop := match x with
  | some d => k d
  | none => False
@[simp] theorem onK_some {d : List (Key × D)} {k : List (Key × D) → Prop} : onK (some d) k = k d := id rfl
@[simp] theorem eDict_s : eDict f E env M Q = f E env M fun x M1 => itD x M1 fun xs => onK (pairsK xs) fun kvs => ∀ p, M1 p = none → Q (.ref p) (M1.set p (.dk (insAll [] kvs))) := by
  unfold eDict itemsD itD lstO onK
  first | rfl | (congr 1; done) | (congr 1; funext x M1; cases x <;> rfl)
@[simp] theorem eDk_s : eDk E env M Q = ∀ p, M p = none → Q (.ref p) (M.set p (.dk [])) := id rfl
@[simp] theorem eDn_s : eDn E env M Q = ∀ p, M p = none → Q (.ref p) (M.set p (.dn [])) := id rfl
end
theorem mem_rangeL {i j : Int} {x : D} (h : x ∈ rangeL i j) : ∃ k : Int, i ≤ k ∧ k < j ∧ x = .int k := by
  unfold rangeL at h
  obtain ⟨k, hk, rfl⟩ := List.mem_map.mp h
  exact ⟨i + k, by omega, by have := List.mem_range.mp hk; omega, rfl⟩
theorem asBools_map {α : Type} (xs : List α) (f : α → Bool) : asBools (xs.map fun x => .bl (f x)) = some (xs.map f) := by
  induction xs with
  | nil => rfl
  | cons x xs ih => show (asBools (xs.map _)).map _ = _; rw [ih]; rfl
theorem asInts_map {α : Type} (xs : List α) (f : α → Int) : asInts (xs.map fun x => .int (f x)) = some (xs.map f) := by
  induction xs with
  | nil => rfl
  | cons x xs ih => show (asInts (xs.map _)).map _ = _; rw [ih]; rfl
/-! dict(pairs) of keys all different -/
theorem ins_new {κ : Type} [DecidableEq κ] (kvs : List (κ × D)) (k : κ) (v : D) (h : k ∉ kvs.map Prod.fst) : ins kvs k v = kvs ++ [(k, v)] := by
  unfold ins
  rw [if_neg]
  simp only [List.any_eq_true, decide_eq_true_eq, not_exists, not_and]
  rintro ⟨a, b⟩ hm rfl
  exact h (List.mem_map.mpr ⟨_, hm, rfl⟩)
theorem insAll_nodup : ∀ (more kvs : List (Key × D)), ((kvs ++ more).map Prod.fst).Nodup → insAll kvs more = kvs ++ more
  | [], kvs, _ => by simp [insAll]
  | p :: more, kvs, h => by
    show insAll (ins kvs p.1 p.2) more = _
    rw [ins_new kvs p.1 p.2 ?_]
    · rw [insAll_nodup more _ (by simpa using h)]; simp
    · intro hm
      rw [List.map_append, List.nodup_append] at h
      exact h.2.2 _ hm _ (by simp) rfl
theorem pairsK_map {α : Type} (xs : List α) (k : α → Str) (v : α → D) : pairsK (xs.map fun x => .tup [.str (k x), v x]) = some (xs.map fun x => (.inr (k x), v x)) := by
  induction xs with
  | nil => rfl
  | cons x xs ih => simp only [List.map_cons, pairsK, ih, keyD]
theorem lk_mem {κ : Type} [DecidableEq κ] {kvs : List (κ × D)} {k : κ} (h : k ∈ kvs.map Prod.fst) : ∃ d, lk kvs k = some d ∧ (k, d) ∈ kvs := by
  induction kvs with
  | nil => simp at h
  | cons p r ih =>
    unfold lk
    split
    · rename_i e; exact ⟨p.2, rfl, by rw [← e]; exact .head _⟩
    · rename_i e
      have : k ∈ r.map Prod.fst := by
        rcases List.mem_cons.mp h with h | h
        · exact absurd h.symm e
        · exact h
      obtain ⟨d, h1, h2⟩ := ih this
      exact ⟨d, h1, .tail _ h2⟩
/-- what a law promises -/
def lawS : FD := fn1 fun x _ _ Q => (∃ ns : List Int, x = .lro (ns.map D.int) ∧ ns.length ≤ 63 ∧ ∀ z ∈ ns, Builtin.Int.intBits z ≤ 1048576) ∧ ∀ M', Q (.bl true) M'
end DL

set_option Elab.async false
set_option linter.all false
set_option maxRecDepth 100000
/-! DQ: == of plain data (none, ints, texts, tuples) -/
namespace DL
open PySem
mutual
/-- plain data -/
def plB : D → Bool
  | .non => true
  | .int _ => true
  | .str s => PyData.strOk s
  | .tup xs => plsB xs
  | _ => false
def plsB : List D → Bool
  | [] => true
  | x :: xs => plB x && plsB xs
end
mutual
def dpt : D → Nat
  | .tup xs => dpts xs + 1
  | _ => 0
def dpts : List D → Nat
  | [] => 0
  | x :: xs => max (dpt x) (dpts xs)
end
mutual
theorem py_can : ∀ x : D, plB x = true → x.py.canLay0 = true
  | .non, _ => by simp [D.py, PyData.canLay0]
  | .int _, _ => by simp [D.py, PyData.canLay0]
  | .str s, h => by simp only [plB] at h; simp [D.py, PyData.canLay0, h]
  | .tup xs, h => by simp only [plB] at h; simp only [D.py, PyData.canLay0]; exact py_cans xs h
  | .bl _, h => by simp [plB] at h
  | .ref _, h => by simp [plB] at h
  | .ty _, h => by simp [plB] at h
  | .lro _, h => by simp [plB] at h
theorem py_cans : ∀ xs : List D, plsB xs = true → PyData.canLayAll0 (D.pys xs) = true
  | [], _ => by simp [D.pys, PyData.canLayAll0]
  | x :: xs, h => by
    simp only [plsB, Bool.and_eq_true] at h
    simp only [D.pys, PyData.canLayAll0, Bool.and_eq_true]
    exact ⟨py_can x h.1, py_cans xs h.2⟩
end
mutual
theorem py_dpt : ∀ x : D, plB x = true → x.py.depth = dpt x
  | .non, _ => by simp [D.py, PyData.depth, dpt]
  | .int _, _ => by simp [D.py, PyData.depth, dpt]
  | .str s, h => by simp [D.py, PyData.depth, dpt]
  | .tup xs, h => by simp only [plB] at h; simp only [D.py, PyData.depth, dpt]; rw [py_dpts xs h]
  | .bl _, h => by simp [plB] at h
  | .ref _, h => by simp [plB] at h
  | .ty _, h => by simp [plB] at h
  | .lro _, h => by simp [plB] at h
theorem py_dpts : ∀ xs : List D, plsB xs = true → PyData.depthAll (D.pys xs) = dpts xs
  | [], _ => by simp [D.pys, PyData.depthAll, dpts]
  | x :: xs, h => by
    simp only [plsB, Bool.and_eq_true] at h
    simp only [D.pys, PyData.depthAll, dpts]
    rw [py_dpt x h.1, py_dpts xs h.2]
end
mutual
theorem py_eqv : ∀ x y : D, plB x = true → plB y = true → PyData.eqv x.py y.py = decide (x = y)
  | .non, y, _, h => by cases y <;> first | (simp [plB] at h; done) | (simp [D.py, PyData.eqv]; done) | (simp [D.py, PyData.eqv]; rfl)
  | .int i, y, _, h => by cases y <;> first | (simp [plB] at h; done) | (simp [D.py, PyData.eqv]; done) | (simp [D.py, PyData.eqv]; rfl)
  | .str s, y, _, h => by
    cases y <;> first | (simp [plB] at h; done) | (simp [D.py, PyData.eqv]; done) | (simp [D.py, PyData.eqv]; rfl)
  | .tup xs, y, h, h' => by
    cases y with
    | tup ys =>
      simp only [plB] at h h'
      simp only [D.py, PyData.eqv]
      rw [py_eqvs xs ys h h']
      simp
    | _ => first | (simp [plB] at h'; done) | (simp [D.py, PyData.eqv]; done) | (simp [D.py, PyData.eqv]; rfl)
  | .bl _, _, h, _ => by simp [plB] at h
  | .ref _, _, h, _ => by simp [plB] at h
  | .ty _, _, h, _ => by simp [plB] at h
  | .lro _, _, h, _ => by simp [plB] at h
theorem py_eqvs : ∀ xs ys : List D, plsB xs = true → plsB ys = true → PyData.eqvAll (D.pys xs) (D.pys ys) = decide (xs = ys)
  | [], [], _, _ => by simp [D.pys, PyData.eqvAll]
  | [], y :: ys, _, _ => by simp [D.pys, PyData.eqvAll]
  | x :: xs, [], _, _ => by simp [D.pys, PyData.eqvAll]
  | x :: xs, y :: ys, h, h' => by
    simp only [plsB, Bool.and_eq_true] at h h'
    simp only [D.pys, PyData.eqvAll]
    rw [py_eqv x y h.1 h'.1, py_eqvs xs ys h.2 h'.2]
    simp
end
theorem cEq_pl {x y : D} {M : Sto} {k : Bool → Prop} (hx : plB x = true) (hy : plB y = true) (dx : dpt x ≤ 64) (dy : dpt y ≤ 64) (h : k (decide (x = y))) : cEq x y M k := by
  have gen : SeqAt.shaped x.py = true ∧ SeqAt.shaped y.py = true ∧ k (PyData.eqv x.py y.py) := by
    refine ⟨?_, ?_, by rw [py_eqv x y hx hy]; exact h⟩
    · unfold SeqAt.shaped; rw [py_can x hx, py_dpt x hx]; simpa using dx
    · unfold SeqAt.shaped; rw [py_can y hy, py_dpt y hy]; simpa using dy
  unfold cEq
  split
  · simpa using h
  · simpa using h
  · simp [plB] at hx
  · exact gen
end DL

set_option Elab.async false
set_option linter.all false
set_option maxRecDepth 100000
set_option maxHeartbeats 4000000
/-! DF: defs, calls, the law's end -/
namespace DL
open PySem PySem.Spec PyProof.Rows L2
def spOf (c : Cn) (g : FD) : Sp := fun vs H Q E => ∃ ds M Ed Qd, Reps c.K H vs ds ∧ R c M H ∧ g Ed ds M Qd ∧ KX c H Ed E ∧ KQ c H Qd Q
/-- a def of the text, by what it asks -/
structure FnD (c : Cn) (mg : Str → Option Value) (base : Heap) (CX : CXT) (k : Nat) (x : Str) (g : FD) : Prop where
  h : ∃ f fd ps, FnOk c.P c.w c.K mg base CX k f fd ps (spOf c g) ∧ mg x = some (.ref f) ∧ PySem.W.keepIn c.K (.ref f) = true ∧ Binds c.K fd ps []
section
variable {X : Cx} {CA : String → Addr} {XE : XK} {a b e o : Expr} {es : List Expr} {f g h : WE} {fs : List WE} {pos p : Pos} {x : Str} {G : FD} {CX : CXT} {k j : Nat}
theorem d_call (F : FnD (cn X CA) X.mg X.base CX k x G) (hr : Room j X.A) (hk : k ≤ j) (hx : Passes CX X XE) (ha : SAs X CA XE (e :: es) fs) (hg : Gl X x := by rfl) (hdb : (x == ("__debug__" : Str)) = false := by decide)
    (he : starEach (e :: es) X.env = (false, eval e X.env) :: starEach es X.env := by rfl) (hpl : (backTo pos (starEach es X.env)).any (·.1) = false := by rfl) : SE X CA XE (.Call (.Name x p) (e :: es) [] pos) (eCall G fs) := by
  obtain ⟨f, fd, ps, F, hm, hkp, hb⟩ := F.h
  exact PE_weak (pe_call F (hr.mono hk) hg hm hkp hb .nil hx ha.pa hdb he hpl) fun σ H Q ⟨env, M, Ed, Qd, p, q, kq⟩ => ⟨env, M, Ed, _, p, q, fun ds M1 vs H1 q1 r1 R1 T1 _ => by
    show spOf (cn X CA) G (vs ++ []) H1 Q XE
    rw [List.append_nil]
    exact ⟨ds, M1, Ed, Qd, r1, R1, q1, p.x.mono T1, kq.mono T1⟩⟩
theorem d_call0 (F : FnD (cn X CA) X.mg X.base CX k x G) (hr : Room j X.A) (hk : k ≤ j) (hx : Passes CX X XE) (hg : Gl X x := by rfl) (hdb : (x == ("__debug__" : Str)) = false := by decide) : SE X CA XE (.Call (.Name x p) [] [] pos) (eCall G []) := by
  obtain ⟨f, fd, ps, F, hm, hkp, hb⟩ := F.h
  exact PE_weak (pe_call0 F (hr.mono hk) hg hm hkp hb .nil hx hdb) fun σ H Q ⟨env, M, Ed, Qd, p, q, kq⟩ => ⟨[], M, Ed, Qd, .nil, p.r, q, p.x, kq⟩
end
theorem blk_by {N N' : List Str} {sc sc' scope : Scope} {own : List (Str × Nat)} (hN : N' = N) (hs : sc' = sc) (h : blkC N sc scope own = true) : BlkOk N' sc' scope own := by
  subst hN; subst hs; exact blkOk_by h
theorem passN {X : Cx} {E : XK} : Passes CX0 X E := fun _ _ _ _ _ _ _ h => h.elim
section
variable {P : Program} {w : World} {K : PySem.W.Frag} {mg : Str → Option Value} {base : Heap} {CA : String → Addr}
theorem fn_d {x qual : Str} {st : Stmt} {f : Addr} {fd : FuncData} {N ps : List Str} {k : Nat} {g : FD} {gb : WS} (F : Fun K x qual st f fd) (S : FnScope N ps (defScope st)) (hl : ∀ E ds M Q, g E ds M Q → ds.length = ps.length)
    (body : ∀ (cdv : Value) (A : Around) (outer : List Env) (s : Shared) (H : Hp) (E : XK), Room k (A.deeper (envOfC qual (defScope st) s.heap.objs.size f cdv)) →
      SSs (cxOf CX0 P w K mg base N qual (defScope st) f cdv A outer s H E).nox CA E (defBody st) gb)
    (ob : ∀ E ds M Q, g E ds M Q → gb E (endsOf Q) (DL.start N.length ds) M) : FnOk P w K mg base CX0 (k + 1) f fd ps (spOf ⟨P, w, K, CA⟩ g) := by
  refine F.ok S (fun vs H Q E ⟨ds, M, Ed, Qd, r, hR, hg, kx, kq⟩ => ?_) fun cdv A outer s H vs Q E hr ⟨ds, M, Ed, Qd, r, hR, hg, kx, kq⟩ => ?_
  · rw [Reps.length r]; exact hl _ _ _ _ hg
  · refine ⟨_, body cdv A outer s H E hr, DL.start N.length ds, M, Ed, endsOf Qd, ⟨RelEnv.start r, hR, kx⟩, ob _ _ _ _ hg, ⟨fun _ M' _ H' q _ r' t => kq _ _ _ _ q .non r' t, kq, fun _ _ _ _ q => q.elim, fun _ _ _ _ q => q.elim⟩⟩
theorem fn_l {x qual : Str} {st : Stmt} {f : Addr} {fd : FuncData} {N ps : List Str} {k : Nat} {g : FD} {gb : WS} (F : Fun K x qual st f fd) (S : FnScope N ps (defScope st)) (hl : ∀ E ds M Q, g E ds M Q → ds.length = ps.length)
    (body : ∀ (cdv : Value) (A : Around) (outer : List Env) (s : Shared) (H : Hp) (E : XK), Room k (A.deeper (envOfC qual (defScope st) s.heap.objs.size f cdv)) →
      SSs (cxOf CX0 P w K mg base N qual (defScope st) f cdv A outer s H E).nox CA E (defBody st) gb)
    (ob : ∀ E ds M Q, g E ds M Q → gb E (endsL Q) (DL.start N.length ds) M) : FnOk P w K mg base CX0 (k + 1) f fd ps (spOf ⟨P, w, K, CA⟩ g) := by
  refine F.ok S (fun vs H Q E ⟨ds, M, Ed, Qd, r, hR, hg, kx, kq⟩ => ?_) fun cdv A outer s H vs Q E hr ⟨ds, M, Ed, Qd, r, hR, hg, kx, kq⟩ => ?_
  · rw [Reps.length r]; exact hl _ _ _ _ hg
  · have kq' : KQ ⟨P, w, K, CA⟩ H (fun d M' => ∃ M0, Le M0 M' ∧ Qd d M0) Q := fun _ M' v H' ⟨M0, l, q⟩ r' hR' t => kq _ M0 _ _ q r' (fun a o e => hR' a o (l a o e)) t
    refine ⟨_, body cdv A outer s H E hr, DL.start N.length ds, M, Ed, endsL Qd, ⟨RelEnv.start r, hR, kx⟩, ob _ _ _ _ hg, ⟨fun _ M' _ H' q _ r' t => kq' _ _ _ _ q .non r' t, kq', fun _ _ _ _ q => q.elim, fun _ _ _ _ q => q.elim⟩⟩
theorem fn_none {f : Addr} {fd : FuncData} {ps : List Str} {k : Nat} {g : FD} (h : ∀ E ds M Q, ¬ g E ds M Q) : FnOk P w K mg base CX0 k f fd ps (spOf ⟨P, w, K, CA⟩ g) :=
  ⟨fun vs H Q E ⟨ds, M, Ed, Qd, _, _, hg, _⟩ => (h _ _ _ _ hg).elim, fun A outer s H args us vs Q E _ _ _ _ ⟨ds, M, Ed, Qd, _, _, hg, _⟩ => (h _ _ _ _ hg).elim⟩
theorem FnOk.d {x : Str} {f : Addr} {fd : FuncData} {ps : List Str} {k : Nat} {CX : CXT} {g : FD} (F : FnOk P w K mg base CX k f fd ps (spOf ⟨P, w, K, CA⟩ g)) (hm : mg x = some (.ref f)) (hk : PySem.W.keepIn K (.ref f) = true) (hb : Binds K fd ps []) : FnD ⟨P, w, K, CA⟩ mg base CX k x g :=
  ⟨f, fd, ps, F, hm, hk, hb⟩
end
theorem len1 {g : D → XW → Sto → KD → Prop} : ∀ E ds M Q, fn1 g E ds M Q → ds.length = 1 := fun E ds M Q h => by unfold fn1 at h; split at h; rfl; exact h.elim
theorem len2 {g : D → D → XW → Sto → KD → Prop} : ∀ E ds M Q, fn2 g E ds M Q → ds.length = 2 := fun E ds M Q h => by unfold fn2 at h; split at h; rfl; exact h.elim
theorem len3 {g : D → D → D → XW → Sto → KD → Prop} : ∀ E ds M Q, fn3 g E ds M Q → ds.length = 3 := fun E ds M Q h => by unfold fn3 at h; split at h; rfl; exact h.elim
theorem len4 {g : D → D → D → D → XW → Sto → KD → Prop} : ∀ E ds M Q, fn4 g E ds M Q → ds.length = 4 := fun E ds M Q h => by unfold fn4 at h; split at h; rfl; exact h.elim
theorem len5 {g : D → D → D → D → D → XW → Sto → KD → Prop} : ∀ E ds M Q, fn5 g E ds M Q → ds.length = 5 := fun E ds M Q h => by unfold fn5 at h; split at h; rfl; exact h.elim
/-! ## constants of the module -/
theorem reps_ints {K : PySem.W.Frag} {H : Hp} : ∀ ns : List Int, Reps K H (ns.map V.int) (ns.map D.int)
  | [] => .nil
  | n :: ns => .cons (.int n) (reps_ints ns)
theorem reps_strs {K : PySem.W.Frag} {H : Hp} : ∀ ns : List Str, Reps K H (ns.map V.str) (ns.map D.str)
  | [] => .nil
  | n :: ns => .cons (.str n) (reps_strs ns)
theorem grep_int {K : PySem.W.Frag} {mg : Str → Option Value} {x : Str} {i : Int} {t : Tok} (h : mg x = some (.int i t)) : GRep K mg x (.int i) := ⟨_, .int i, h, ⟨t, rfl⟩, fun _ => .int i⟩
theorem grep_str {K : PySem.W.Frag} {mg : Str → Option Value} {x : Str} {i : Str} {t : Tok} (h : mg x = some (.str i t)) : GRep K mg x (.str i) := ⟨_, .str i, h, ⟨t, rfl⟩, fun _ => .str i⟩
theorem grep_2 {K : PySem.W.Frag} {mg : Str → Option Value} {x : Str} {a : Addr} {i j : Int} {t u : Tok} {n : Nat} {sl : Array (Option Value)} (h : mg x = some (.ref a)) (l : K.lookup a = some ⟨.type "tuple", none, .seq #[.int i t, .int j u] n, sl⟩) : GRep K mg x (.tup [.int i, .int j]) :=
  ⟨_, .ref a, h, rfl, fun _ => .tup (vs := [.int i, .int j]) (.inr ⟨_, _, _, l, rfl, rfl, rfl, by show 2 ≤ sizeLine; decide, .cons ⟨t, rfl⟩ (.cons ⟨u, rfl⟩ .nil)⟩) (.cons (.int i) (.cons (.int j) .nil))⟩
/-! ## the law -/
theorem law_walk {l : PySem.W.OpenLaw} {k : Nat} {q : Program} {loose : List Str} {XP : (Str → Option Value) → Heap → Prop} {YP : World → Heap → Prop} {d : DefRec} {K : Params → PySem.W.Frag} (CAw : World → String → Addr)
    (hn : l.most = some 63) (hdf : d.params.defaults = []) (hr : Room k callerA)
    (hY : ∀ (w : World) (h : Heap), YP w h → (K w.params).In h)
    (F : ∀ (w : World) (mg : Str → Option Value) (fa : Addr) (h : Heap), (K w.params).In h → h.Ns mainGlobals mg → mg d.name = some (.ref fa) →
      ∃ fd : FuncData, (∀ (s : Shared) (u : Value), BindsTo s fd ⟨[u], []⟩ [("script", u)]) ∧ ∀ base : Heap, (K w.params).In base → base.Ns mainGlobals mg → FnOk l.prog w (K w.params) mg base CX0 k fa fd ["script"] (spOf ⟨l.prog, w, K w.params, CAw w⟩ lawS)) :
    PySem.W.WalkO q loose XP YP l.row.toRowW d [] (fun f vs => PySem.call f vs) :=
  L2.walk_ofB (n := 63) (k := k) (x := "script") (CX := fun _ => CX0) (sp := fun w => spOf ⟨l.prog, w, K w.params, CAw w⟩ lawS) hn (by decide) hdf hr hY F (fun w H a ns hl hb hO hS => by
    refine ⟨[.lro (ns.map D.int)], fun _ => none, X0, fun d _ => d = .bl true, .cons (.lro ?_ (reps_ints ns)) .nil, fun _ _ e => (nomatch e), ⟨⟨ns, rfl, hl, hb⟩, fun _ => rfl⟩, KX.no, fun d M' v H' e r _ _ => by subst e; cases r; rfl⟩
    rcases hS with (hS | hS) | hS
    · rcases hO a with z | ⟨o, xs, z⟩
      · rw [z] at hS; cases hS
      · rw [z] at hS; cases hS
    · exact .inl hS
    · exact .inr hS) fun _ _ _ _ _ z => z
end DL

set_option Elab.async false
set_option linter.all false
set_option maxRecDepth 100000
/-! G1: what the laws' makers of programs ask and tell -/
namespace DL
open PySem
/-- what a script's reader stands at -/
def cs (b : Addr) (i j k l : Int) : O := .lst [.ref b, .int i, .int j, .int k, .int l]
def CO (b : Addr) (o : O) : Prop := ∃ i j k l, 0 ≤ i ∧ o = cs b i j k l
structure CSt (M : Sto) (a b : Addr) : Prop where
  ne : a ≠ b
  xs : ∃ xs : List Int, M b = some (.lst (xs.map .int))
  o : ∃ o, M a = some o ∧ CO b o
/-- from M to M' nothing is changed but what stands at a -/
structure Fr (a b : Addr) (M M' : Sto) : Prop where
  l : LeX a M M'
  o : ∃ o, M' a = some o ∧ CO b o
section
variable {M M' : Sto} {a b p : Addr} {o : O}
theorem CSt.pa (h : CSt M a b) (hp : M p = none) : p ≠ a := by
  obtain ⟨o, e, _⟩ := h.o
  exact (ne_of e hp).symm
theorem CSt.pb (h : CSt M a b) (hp : M p = none) : p ≠ b := by
  obtain ⟨xs, e⟩ := h.xs
  exact (ne_of e hp).symm
theorem CSt.fresh (h : CSt M a b) (hp : M p = none) : CSt (M.set p o) a b :=
  ⟨h.ne, by obtain ⟨xs, e⟩ := h.xs; exact ⟨xs, by rw [set_ne (h.pb hp).symm]; exact e⟩, by obtain ⟨u, e, c⟩ := h.o; exact ⟨u, by rw [set_ne (h.pa hp).symm]; exact e, c⟩⟩
theorem CSt.set (h : CSt M a b) (c : CO b o) : CSt (M.set a o) a b :=
  ⟨h.ne, by obtain ⟨xs, e⟩ := h.xs; exact ⟨xs, by rw [set_ne h.ne.symm]; exact e⟩, ⟨o, set_same, c⟩⟩
theorem CSt.fr (h : CSt M a b) (f : Fr a b M M') : CSt M' a b := ⟨h.ne, by obtain ⟨xs, e⟩ := h.xs; exact ⟨xs, f.l _ _ h.ne.symm e⟩, f.o⟩
theorem CSt.refl (h : CSt M a b) : Fr a b M M := ⟨.refl, h.o⟩
theorem Fr.fresh (f : Fr a b M M') (hp : M' p = none) : Fr a b M (M'.set p o) := by
  have hpa : p ≠ a := by
    obtain ⟨o, e, _⟩ := f.o
    exact (ne_of e hp).symm
  refine ⟨fun x u hx e => ?_, by obtain ⟨u, e, c⟩ := f.o; exact ⟨u, by rw [set_ne hpa.symm]; exact e, c⟩⟩
  have e' := f.l x u hx e
  rw [set_ne (ne_of e' hp)]; exact e'
/-- also at a place that was not there before -/
theorem Fr.upd {u : O} (f : Fr a b M M') (hp : M p = none) (hpa : p ≠ a) : Fr a b M (M'.set p u) := by
  refine ⟨fun x w hx e => ?_, by obtain ⟨u, e, c⟩ := f.o; exact ⟨u, by rw [set_ne hpa.symm]; exact e, c⟩⟩
  rw [set_ne (ne_of e hp)]; exact f.l x w hx e
theorem Fr.set (f : Fr a b M M') (c : CO b o) : Fr a b M (M'.set a o) := ⟨f.l.at, ⟨o, set_same, c⟩⟩
theorem Fr.trans {M'' : Sto} (f : Fr a b M M') (g : Fr a b M' M'') : Fr a b M M'' := ⟨f.l.trans g.l, g.o⟩
theorem Fr.none (f : Fr a b M M') (hp : M' p = none) : p ≠ a ∧ M p = none := by
  have hpa : p ≠ a := by
    obtain ⟨o, e, _⟩ := f.o
    exact (ne_of e hp).symm
  refine ⟨hpa, ?_⟩
  cases hm : M p with
  | none => rfl
  | some u => rw [f.l p u hpa hm] at hp; cases hp
theorem Fr.le (f : Fr a b M M') : ∃ o, CO b o ∧ Le (M.set a o) M' := by
  obtain ⟨o, e, c⟩ := f.o
  exact ⟨o, c, f.l.le e⟩
theorem Fr.at (f : Fr a b M M') (hx : p ≠ a) (e : M p = some o) : M' p = some o := f.l _ _ hx e
end
def S_law_start : FD := fn1 fun x _ M Q => ∃ ns : List Int, x = .lro (ns.map .int) ∧ ns.length ≤ 63 ∧ ∀ a b, a ≠ b → M a = none → M b = none → Q (.ref a) ((M.set b (.lst (ns.map .int))).set a (cs b 0 0 0 20))
def S_law_fill : FD := fn1 fun c _ M Q => ∃ a b, c = .ref a ∧ CSt M a b ∧ ∀ v o, CO b o → Q (.int v) (M.set a o)
def S_law_take : FD := fn2 fun c m _ M Q => ∃ a b many, c = .ref a ∧ m = .int many ∧ 0 < many ∧ many < 1073741824 ∧ CSt M a b ∧ ∀ d o, 0 ≤ d → d < many → CO b o → Q (.int d) (M.set a o)
def S_law_divisor : FD := fn2 fun x y _ M Q => ∃ n d : Int, x = .int n ∧ y = .int d ∧ 0 < d ∧ Sm 8999 d ∧ Q (.int (Int.gcd n d)) M
/-- a fraction in lowest terms -/
def fr (n d : Int) : Int × Int := (n / (Int.gcd n d : Int), d / (Int.gcd n d : Int))
def dF (q : Int × Int) : D := .tup [.int q.1, .int q.2]
def S_law_fraction : FD := fn2 fun x y _ M Q => ∃ n d : Int, x = .int n ∧ y = .int d ∧ 0 < d ∧ Sm 8999 d ∧ Q (dF (fr n d)) M
def S_law_plus : FD := fn2 fun x y _ M Q => ∃ a b : Int × Int, x = dF a ∧ y = dF b ∧ 0 < a.2 ∧ 0 < b.2 ∧ Sm 4000 a.1 ∧ Sm 4000 a.2 ∧ Sm 4000 b.1 ∧ Sm 4000 b.2 ∧ Q (dF (fr (a.1 * b.2 + b.1 * a.2) (a.2 * b.2))) M
def S_law_times : FD := fn2 fun x y _ M Q => ∃ a b : Int × Int, x = dF a ∧ y = dF b ∧ 0 < a.2 ∧ 0 < b.2 ∧ Sm 4000 a.1 ∧ Sm 4000 a.2 ∧ Sm 4000 b.1 ∧ Sm 4000 b.2 ∧ Q (dF (fr (a.1 * b.1) (a.2 * b.2))) M
/-! the rows of chances that are drawn -/
def lcmR (rows : List (Int × Int)) : Int := rows.foldl (fun f r => f * r.2 / (Int.gcd f r.2 : Int)) 1
def menu : List (Int × Int) := [(1, 1), (1, 2), (1, 3), (2, 3), (1, 4), (3, 4), (1, 5), (2, 7), (1, 10)]
def cut2 (q : Int × Int) : List (Int × Int) := [q, fr (q.2 - q.1) q.2]
def cut3 (q u : Int × Int) : List (Int × Int) :=
  let rest := fr (q.2 - q.1) q.2
  let part := fr (rest.1 * u.1) (rest.2 * u.2)
  [q, part, fr (rest.1 * part.2 + (0 - part.1) * rest.2) (rest.2 * part.2)]
def cuts : List (List (Int × Int)) := [(1, 1)] :: ((menu.drop 1).map cut2 ++ ((menu.drop 1).map fun q => (menu.drop 1).map fun u => cut3 q u).flatten)
def S_law_cut : FD := fn1 fun c _ M Q => ∃ a b, c = .ref a ∧ CSt M a b ∧ ∀ rows o p, rows ∈ cuts → CO b o → p ≠ a → M p = none → Q (.ref p) ((M.set a o).set p (.lst (rows.map dF)))
/-! bodies -/
def dRow (r : (Int × Int) × D) : D := .tup [dF r.1, r.2]
abbrev dEnd : D := .tup [.str "end"]
abbrev dStop : D := .tup [.str "stop"]
def WB (ns ls : List Str) : Nat → D → Prop
  | 0, d => d = dEnd ∨ d = dStop
  | n + 1, d => d = dEnd ∨ d = dStop ∨ (∃ s b, s ∈ ls ∧ d = .tup [.str "tell", .str s, b] ∧ WB ns ls n b) ∨ (∃ s b, s ∈ ns ∧ d = .tup [.str "call", .str s, b] ∧ WB ns ls n b) ∨
    (∃ rs : List ((Int × Int) × D), rs.map Prod.fst ∈ cuts ∧ d = .tup [.str "draw", .tup (rs.map dRow)] ∧ ∀ r ∈ rs, WB ns ls n r.2)
theorem WB.succ {ns ls : List Str} : ∀ {n : Nat} {d : D}, WB ns ls n d → WB ns ls (n + 1) d
  | 0, d, h => by
    rcases h with h | h
    · exact .inl h
    · exact .inr (.inl h)
  | n + 1, d, h => by
    rcases h with h | h | ⟨s, b, h1, h2, h3⟩ | ⟨s, b, h1, h2, h3⟩ | ⟨rs, h1, h2, h3⟩
    · exact .inl h
    · exact .inr (.inl h)
    · exact .inr (.inr (.inl ⟨s, b, h1, h2, h3.succ⟩))
    · exact .inr (.inr (.inr (.inl ⟨s, b, h1, h2, h3.succ⟩)))
    · exact .inr (.inr (.inr (.inr ⟨rs, h1, h2, fun r hr => (h3 r hr).succ⟩)))
theorem WB.mono {ns ls : List Str} {m n : Nat} {d : D} (h : WB ns ls m d) (hl : m ≤ n) : WB ns ls n d := by
  induction hl with
  | refl => exact h
  | step _ ih => exact ih.succ
def S_law_body (n : Nat) : FD := fn4 fun c names letters deep _ M Q => ∃ a b pn pl, ∃ ns ls : List Str, ∃ k : Nat, c = .ref a ∧ CSt M a b ∧ names = .ref pn ∧ pn ≠ a ∧ M pn = some (.lst (ns.map .str)) ∧ ns ≠ [] ∧ ns.length ≤ 100 ∧
  letters = .ref pl ∧ pl ≠ a ∧ M pl = some (.lst (ls.map .str)) ∧ ls.length ≤ 100 ∧ deep = .int k ∧ k < n ∧ ∀ d o, WB ns ls k d → CO b o → Q d (M.set a o)
def N4 : List Str := ["p", "q", "r2", "s"]
def L3 : List Str := ["a", "b", "p"]
def rotN (i k : Nat) : List Str := (N4.take (1 + i)).drop k ++ (N4.take (1 + i)).take k
def allN : List (List Str) := [0, 1, 2, 3].flatMap fun i => (List.range (1 + i)).map (rotN i)
def allL : List (List Str) := [0, 1, 2, 3].map L3.take
def dProc (r : Str × D) : D := .tup [.str r.1, r.2]
/-- programs as they are drawn -/
def WP (rs : List (Str × D)) : Prop := rs.map Prod.fst ∈ allN ∧ ∃ ls ∈ allL, ∀ r ∈ rs, WB (rs.map Prod.fst) ls 5 r.2
def S_law_program : FD := fn1 fun c _ M Q => ∃ a b, c = .ref a ∧ CSt M a b ∧ ∀ rs o, WP rs → CO b o → Q (.tup (rs.map dProc)) (M.set a o)
end DL

set_option Elab.async false
set_option linter.all false
set_option maxRecDepth 100000
/-! mirrors of the text's defs (printed by gen.py) -/
namespace DL
open PySem
def CE_law_start_1 : WE :=
  (eInt (eVar 1))
def B_law_start : WS :=
  (sRet (eLst [(eComp (iVal (eSl (eVar 0) none (some (eC (.int 63))))) [1] (gName 1) tYes CE_law_start_1), (eC (.int 0)), (eC (.int 0)), (eC (.int 0)), (eC (.int 20))]))
def T_law_fill_1 : WS :=
  (sIf (tCmp cGe (eVar 1) (eBin opPow (eC (.int 10)) (eC (.int 18)))) (sRet (eVar 1)) sNil)
def T_law_fill_2 : WS :=
  (sSeq (sAsg (eBin opMod (eInt (eBin opAdd (eBin opMul (eVar 1) (eC (.int 48271))) (eBin opMul (eSub (eVar 0) (eC (.int 3))) (eC (.int 69621))))) (eC (.int 2147483647))) (gName 1)) (sRet (eBin opAdd (eBin opDiv (eInt (eBin opAdd (eBin opAdd (eBin opMul (eVar 1) (eVar 1)) (eBin opMul (eSub (eVar 0) (eC (.int 3))) (eC (.int 7919)))) (eC (.int 11)))) (eC (.int 64))) (eC (.int 36028797018963968)))))
def T_law_fill_3 : WS :=
  (sSeq (sIf (tAnd (tTru (eSub (eVar 0) (eC (.int 0)))) (tCmp cGe (eSub (eVar 0) (eC (.int 1))) (eLen (eSub (eVar 0) (eC (.int 0)))))) (sAsg (eBin opAdd (eVar 1) (eBin opMod (eInt (eSub (eSub (eVar 0) (eC (.int 0))) (eNeg (eC (.int 1))))) (eC (.int 1000003)))) (gName 1)) sNil) T_law_fill_2)
def B_law_fill : WS :=
  (sSeq (sAsg (eBin opAdd (eSub (eVar 0) (eC (.int 3))) (eC (.int 1))) (gSub (eVar 0) (eC (.int 3)))) (sSeq (sAsg (eBin opAdd (eBin opMul (eSub (eVar 0) (eC (.int 3))) (eC (.int 69621))) (eC (.int 12345))) (gName 1)) (sSeq (sIf (tCmp cLt (eSub (eVar 0) (eC (.int 1))) (eLen (eSub (eVar 0) (eC (.int 0))))) (sSeq (sAsg (eSub (eSub (eVar 0) (eC (.int 0))) (eSub (eVar 0) (eC (.int 1)))) (gName 1)) (sSeq (sAsg (eBin opAdd (eSub (eVar 0) (eC (.int 1))) (eC (.int 1))) (gSub (eVar 0) (eC (.int 1)))) (sSeq (sIf (tCmp cLt (eVar 1) (eC (.int 0))) (sAsg (eBin opSub (eBin opSub (eC (.int 0)) (eC (.int 1))) (eVar 1)) (gName 1)) sNil) T_law_fill_1))) sNil) T_law_fill_3)))
def T_law_take_1 : WS :=
  (sSeq (sAsg (eBin opMod (eInt (eSub (eVar 0) (eC (.int 2)))) (eVar 1)) (gName 2)) (sSeq (sAsg (eBin opDiv (eSub (eVar 0) (eC (.int 2))) (eVar 1)) (gSub (eVar 0) (eC (.int 2)))) (sRet (eVar 2))))
def B_law_take : WS :=
  (sSeq (sIf (tCmp cLt (eSub (eVar 0) (eC (.int 2))) (eVar 1)) (sAsg (eCall S_law_fill [(eVar 0)]) (gSub (eVar 0) (eC (.int 2)))) sNil) T_law_take_1)
def T_law_divisor_1 : WS :=
  (sAsg (eTup [(eVar 1), (eBin opMod (eVar 0) (eVar 1))]) (gTup [gName 0, gName 1]))
def FB_law_divisor_1 : WS :=
  (sSeq (sIf (tCmp cEq (eVar 1) (eC (.int 0))) (sRet (eAbs (eVar 0))) sNil) T_law_divisor_1)
def T_law_divisor_2 : WS :=
  (sRet (eC (.int 1)))
def B_law_divisor : WS :=
  (sSeq (sFor (iRange1 (eC (.int 20000))) (gName 2) FB_law_divisor_1) T_law_divisor_2)
def B_law_fraction : WS :=
  (sSeq (sAsg (eCall S_law_divisor [(eVar 0), (eVar 1)]) (gName 2)) (sSeq (sAsg (eIf (tCmp cGt (eVar 1) (eC (.int 0))) (eVar 2) (eBin opSub (eC (.int 0)) (eVar 2))) (gName 2)) (sRet (eTup [(eBin opDiv (eVar 0) (eVar 2)), (eBin opDiv (eVar 1) (eVar 2))]))))
def B_law_plus : WS :=
  (sRet (eCall S_law_fraction [(eBin opAdd (eBin opMul (eSub (eVar 0) (eC (.int 0))) (eSub (eVar 1) (eC (.int 1)))) (eBin opMul (eSub (eVar 1) (eC (.int 0))) (eSub (eVar 0) (eC (.int 1))))), (eBin opMul (eSub (eVar 0) (eC (.int 1))) (eSub (eVar 1) (eC (.int 1))))]))
def B_law_times : WS :=
  (sRet (eCall S_law_fraction [(eBin opMul (eSub (eVar 0) (eC (.int 0))) (eSub (eVar 1) (eC (.int 0)))), (eBin opMul (eSub (eVar 0) (eC (.int 1))) (eSub (eVar 1) (eC (.int 1))))]))
def T_law_cut_1 : WS :=
  (sRet (eBin opAdd (eVar 2) (eLst [(eVar 3)])))
def T_law_cut_2 : WS :=
  (sSeq (sAsg (eLst [(eTup [(eVar 4), (eVar 5)])]) (gName 2)) (sSeq (sAsg (eCall S_law_fraction [(eBin opSub (eVar 5) (eVar 4)), (eVar 5)]) (gName 3)) (sSeq (sIf (tCmp cEq (eCall S_law_take [(eVar 0), (eC (.int 3))]) (eC (.int 0))) (sSeq (sAsg (eSub (eVar 1) (eBin opAdd (eC (.int 1)) (eCall S_law_take [(eVar 0), (eC (.int 8))]))) (gTup [(gName 4), (gName 5)])) (sSeq (sAsg (eCall S_law_times [(eVar 3), (eTup [(eVar 4), (eVar 5)])]) (gName 6)) (sSeq (sExpr (eAppend (eVar 2) (eVar 6))) (sAsg (eCall S_law_plus [(eVar 3), (eTup [(eBin opSub (eC (.int 0)) (eSub (eVar 6) (eC (.int 0)))), (eSub (eVar 6) (eC (.int 1)))])]) (gName 3))))) sNil) T_law_cut_1)))
def B_law_cut : WS :=
  (sSeq (sAsg (eLst [(eTup [(eC (.int 1)), (eC (.int 1))]), (eTup [(eC (.int 1)), (eC (.int 2))]), (eTup [(eC (.int 1)), (eC (.int 3))]), (eTup [(eC (.int 2)), (eC (.int 3))]), (eTup [(eC (.int 1)), (eC (.int 4))]), (eTup [(eC (.int 3)), (eC (.int 4))]), (eTup [(eC (.int 1)), (eC (.int 5))]), (eTup [(eC (.int 2)), (eC (.int 7))]), (eTup [(eC (.int 1)), (eC (.int 10))])]) (gName 1)) (sSeq (sAsg (eSub (eVar 1) (eCall S_law_take [(eVar 0), (eC (.int 9))])) (gTup [(gName 4), (gName 5)])) (sSeq (sIf (tCmp cEq (eVar 5) (eC (.int 1))) (sRet (eLst [(eTup [(eC (.int 1)), (eC (.int 1))])])) sNil) T_law_cut_2)))
def CE_law_body_1 (n : Nat) : WE :=
  (eTup [(eVar 5), (eCall (S_law_body n) [(eVar 0), (eVar 1), (eVar 2), (eBin opSub (eVar 3) (eC (.int 1)))])])
def T_law_body_1 (n : Nat) : WS :=
  (sRet (eTup [(eC (.str "draw")), (eTupOf (eComp (iVal (eCall S_law_cut [(eVar 0)])) [5] (gName 5) tYes (CE_law_body_1 n)))]))
def T_law_body_2 (n : Nat) : WS :=
  (sSeq (sIf (tCmp cLt (eVar 4) (eC (.int 6))) (sRet (eTup [(eC (.str "call")), (eSub (eVar 1) (eCall S_law_take [(eVar 0), (eLen (eVar 1))])), (eCall (S_law_body n) [(eVar 0), (eVar 1), (eVar 2), (eBin opSub (eVar 3) (eC (.int 1)))])])) sNil) (T_law_body_1 n))
def T_law_body_3 (n : Nat) : WS :=
  (sSeq (sIf (tAnd (tCmp cLt (eVar 4) (eC (.int 3))) (tTru (eVar 2))) (sRet (eTup [(eC (.str "tell")), (eSub (eVar 2) (eCall S_law_take [(eVar 0), (eLen (eVar 2))])), (eCall (S_law_body n) [(eVar 0), (eVar 1), (eVar 2), (eBin opSub (eVar 3) (eC (.int 1)))])])) sNil) (T_law_body_2 n))
def B_law_body (n : Nat) : WS :=
  (sSeq (sAsg (eCall S_law_take [(eVar 0), (eC (.int 9))]) (gName 4)) (sSeq (sIf (tOr (tCmp cLt (eVar 3) (eC (.int 1))) (tCmp cEq (eVar 4) (eC (.int 0)))) (sRet (eSub (eLst [(eTup [(eC (.str "end"))]), (eTup [(eC (.str "end"))]), (eTup [(eC (.str "end"))]), (eTup [(eC (.str "end"))]), (eTup [(eC (.str "stop"))])]) (eCall S_law_take [(eVar 0), (eC (.int 5))]))) sNil) (T_law_body_3 n)))
def CE_law_program_1 : WE :=
  (eTup [(eVar 4), (eCall (S_law_body 8) [(eVar 0), (eVar 1), (eVar 3), (eBin opAdd (eC (.int 1)) (eCall S_law_take [(eVar 0), (eC (.int 5))]))])])
def B_law_program : WS :=
  (sSeq (sAsg (eSl (eLst [(eC (.str "p")), (eC (.str "q")), (eC (.str "r2")), (eC (.str "s"))]) none (some (eBin opAdd (eC (.int 1)) (eCall S_law_take [(eVar 0), (eC (.int 4))])))) (gName 1)) (sSeq (sAsg (eCall S_law_take [(eVar 0), (eLen (eVar 1))]) (gName 2)) (sSeq (sAsg (eBin opAdd (eSl (eVar 1) (some (eVar 2)) none) (eSl (eVar 1) none (some (eVar 2)))) (gName 1)) (sSeq (sAsg (eSl (eLst [(eC (.str "a")), (eC (.str "b")), (eC (.str "p"))]) none (some (eCall S_law_take [(eVar 0), (eC (.int 4))]))) (gName 3)) (sRet (eTupOf (eComp (iVal (eVar 1)) [4] (gName 4) tYes CE_law_program_1)))))))
end DL

set_option Elab.async false
set_option linter.all false
set_option maxRecDepth 100000
set_option maxHeartbeats 4000000
namespace DL
open PySem
theorem Str.ne_of {a b : Str} (h : (a == b) = false) : a ≠ b := by intro e; subst e; simp at h
theorem ob_law_start : ∀ E ds M Q, S_law_start E ds M Q → B_law_start E (endsL Q) (start 2 ds) M := by
  intro E ds M Q h
  obtain ⟨x, rfl, ns, rfl, hl, hq⟩ := fn1_e h
  simp [B_law_start]
  intro p hp q hq'
  have e : cut (ns.map D.int) none (some 63) = ns.map D.int := by
    unfold cut HT.sIx
    rw [List.length_map]
    simp
    exact List.take_of_length_le (by rw [List.length_map]; omega)
  rw [e]
  have hpq : q ≠ p := (set_none.mp hq').1
  have hq0 := (set_none.mp hq').2
  refine comp_map id (fun m => m p = some (.lst (ns.map D.int))) (fun m o h => by rw [set_ne hpq.symm]; exact h) (fun _ h => h) _ [] _ ?_ ?_ set_same ?_ ?_
  · intro x hx m T r ht
    obtain ⟨i, _, rfl⟩ := List.mem_map.mp hx
    simp [CE_law_start_1]; exact ht
  · have := sizeLine_ge; simp; omega
  · rw [set_ne hpq.symm, set_same]
  · intro a ha
    simp only [List.nil_append, List.map_id]
    rw [set_set] at ha ⊢
    have h1 := set_none.mp ha
    have h2 := set_none.mp h1.2
    exact ⟨_, (((Le.refl.fresh hp).set).set : Le ((M.set q _).set a _) _), hq a q h1.1 h2.2 hq0⟩
theorem ob_law_fill : ∀ E ds M Q, S_law_fill E ds M Q → B_law_fill E (endsL Q) (start 2 ds) M := by
  intro E ds M Q h
  obtain ⟨x, rfl, a, b, rfl, hc, hq⟩ := fn1_e h
  obtain ⟨h2, ⟨xs, h5⟩, ⟨_, h4, i, j, k, l, h3, rfl⟩⟩ := hc
  have e5 : ∀ o, M.set a o b = some (.lst (xs.map .int)) := fun o => by rw [set_ne (Ne.symm h2)]; exact h5
  have hq' : ∀ (v i' j' k' l' : Int), 0 ≤ i' → ∃ M0, Le M0 (M.set a (cs b i' j' k' l')) ∧ Q (.int v) M0 := fun v i' j' k' l' hi => ⟨_, Le.refl, hq _ _ ⟨i', j', k', l', hi, rfl⟩⟩
  have tail : ∀ (v i' j' k' l' : Int), 0 ≤ i' → T_law_fill_2 E (endsL Q) [some (.ref a), some (.int v)] (M.set a (cs b i' j' k' l')) := by
    intro v i' j' k' l' hi
    simp [T_law_fill_2, cs, K, mulOk_small, np_small]
    refine ⟨?_, hq' _ _ _ _ _ hi⟩
    refine mulOk_small ?_
    have e1 := Int.emod_nonneg (a := v * 48271 + k' * 69621) (b := 2147483647) (by decide)
    have e2 := Int.emod_lt_of_pos (v * 48271 + k' * 69621) (b := 2147483647) (by decide)
    rw [fmod_pos (by decide)]
    omega
  have tail3 : ∀ (v i' j' k' l' : Int), 0 ≤ i' → T_law_fill_3 E (endsL Q) [some (.ref a), some (.int v)] (M.set a (cs b i' j' k' l')) := by
    intro v i' j' k' l' hi
    simp [T_law_fill_3, cs, e5]
    split
    · exact go (tail v i' j' k' l' hi)
    · rename_i hx
      split
      · have : 1 ≤ xs.length := by
          have : xs.length ≠ 0 := by simpa using hx
          omega
        rw [if_pos (by omega), Option.bind_some, show (-1 + (xs.length : Int)).toNat = xs.length - 1 from by omega, List.getElem?_eq_getElem (by omega)]
        simp
        exact go (tail _ i' j' k' l' hi)
      · exact go (tail _ i' j' k' l' hi)
  simp [B_law_fill, h4, cs, K, mulOk_small, e5, h3]
  split
  · rename_i hi
    have hi' : i.toNat < xs.length := by omega
    have := tail3
    simp [cs] at this
    simp [List.getElem?_eq_getElem hi', set_set, T_law_fill_1, K]
    have := sizeLine_ge
    split <;> split <;> first | exact hq' _ _ _ _ _ (by omega) | exact tail3 _ _ _ _ _ (by omega)
  · exact tail3 _ _ _ _ _ h3
theorem ob_law_take : ∀ E ds M Q, S_law_take E ds M Q → B_law_take E (endsL Q) (start 3 ds) M := by
  intro E ds M Q h
  obtain ⟨x, y, rfl, a, b, many, rfl, rfl, h0, h1, hc, hq⟩ := fn2_e h
  have tail : ∀ o, CO b o → T_law_take_1 E (endsL Q) [some (.ref a), some (.int many), none] (M.set a o) := by
    intro o hc'
    obtain ⟨i, j, k, l, h2, rfl⟩ := hc'
    simp [T_law_take_1, cs, K, fdiv_pos h0, fmod_pos h0, set_set]
    exact ⟨by omega, np_small (by omega), _, Le.refl, hq _ _ (Int.emod_nonneg _ (by omega)) (Int.emod_lt_of_pos _ h0) ⟨i, _, k, l, h2, rfl⟩⟩
  obtain ⟨h2, ⟨xs, h5⟩, ⟨_, h4, i, j, k, l, h3, rfl⟩⟩ := id hc
  simp [B_law_take, h4, cs]
  split
  · refine ⟨a, b, rfl, hc, fun v o hc' => ?_⟩
    obtain ⟨i', j', k', l', h3', rfl⟩ := hc'
    simp [cs, set_set]
    exact go (tail _ ⟨i', v, k', l', h3', rfl⟩)
  · have : M = M.set a (cs b i j k l) := (set_self h4).symm
    rw [this]
    exact go (tail _ ⟨i, j, k, l, h3, rfl⟩)
/-! ## fractions -/
theorem gcd_mod {a b : Int} (hb : 0 < b) : Int.gcd b (a % b) = Int.gcd a b := by
  rw [Int.emod_def, Int.gcd_sub_mul_left_right, Int.gcd_comm]
theorem div_loop {Q : KD} (E : XW) (M : Sto) : ∀ (m : Nat) (xs : List D) (a b : Int) (t : Option D) , 0 ≤ a → 0 ≤ b → Sm m b → 2 * m + 1 ≤ xs.length → Q (.int (Int.gcd a b)) M →
    forL (gName 2) FB_law_divisor_1 (fun _ => True) xs E { nx := K (T_law_divisor_2 E (endsL Q)), rt := (endsL Q).rt, bk := (endsL Q).bk, ct := (endsL Q).ct } [some (.int a), some (.int b), t] M
  | m, [], a, b, t, _, _, _, hl, _ => by simp at hl
  | m, x :: xs, a, b, t, h0, h1, hs, hl, hq => by
    rw [forL_cons]
    simp [FB_law_divisor_1]
    split
    · subst b
      refine ⟨M, Le.refl, ?_⟩
      simp [show ¬ a < 0 by omega] at hq ⊢
      rw [show (a.natAbs : Int) = a by omega] at hq; exact hq
    · have hb : 0 < b := by omega
      have r0 := Int.emod_nonneg a (b := b) (by omega)
      have r1 := Int.emod_lt_of_pos a hb
      refine go ?_
      simp [T_law_divisor_1, fmod_pos hb]
      refine ⟨by omega, go ?_⟩
      match m, hs, hl with
      | 0, hs, hl => exact absurd hs.h (by simp; omega)
      | m + 1, hs, hl =>
        by_cases hc : Sm m (a % b)
        · exact div_loop E M m xs b (a % b) _ (by omega) r0 hc (by simp at hl; omega) (by rw [gcd_mod hb]; exact hq)
        · match xs, hl with
          | [], hl => simp at hl
          | y :: xs, hl =>
            rw [forL_cons]
            simp [FB_law_divisor_1]
            have hc' : 0 < a % b := by
              rcases Int.lt_or_eq_of_le r0 with h | h
              · exact h
              · exfalso; apply hc; rw [← h]; exact ⟨by simp; exact Nat.two_pow_pos m⟩
            rw [if_neg (by omega)]
            refine go ?_
            simp [T_law_divisor_1, fmod_pos hc']
            refine ⟨by omega, go ?_⟩
            have r2 := Int.emod_nonneg b (b := a % b) (by omega)
            have r3 := Int.emod_lt_of_pos b hc'
            refine div_loop E M m xs (a % b) (b % (a % b)) _ r0 r2 ?_ (by simp at hl; omega) (by rw [gcd_mod hc', gcd_mod hb]; exact hq)
            refine ⟨?_⟩
            replace hs := hs.h
            have hc := fun h => hc ⟨h⟩
            have e := Int.emod_add_mul_ediv b (a % b)
            have hq1 : 1 ≤ b / (a % b) := by
              rcases Int.lt_or_le 0 (b / (a % b)) with h | h
              · omega
              · exfalso
                have h2 : 0 ≤ b / (a % b) := Int.ediv_nonneg (by omega) r0
                have h3 : b / (a % b) = 0 := by omega
                rw [h3] at e; simp at e
                omega
            have : a % b ≤ (a % b) * (b / (a % b)) := by simpa using Int.mul_le_mul_of_nonneg_left hq1 r0
            rw [Nat.pow_succ] at hs
            omega
theorem rangeL_len (i j : Int) : (rangeL i j).length = (j - i).toNat := by simp [rangeL]
theorem ob_law_divisor : ∀ E ds M Q, S_law_divisor E ds M Q → B_law_divisor E (endsL Q) (start 3 ds) M := by
  intro E ds M Q h
  obtain ⟨x, y, rfl, n, d, rfl, rfl, h0, h1, hq⟩ := fn2_e h
  simp [B_law_divisor]
  have hl := rangeL_len 0 20000
  generalize rangeL 0 20000 = xs at hl ⊢
  match xs, hl with
  | [], hl => simp at hl
  | x :: xs, hl =>
    rw [forL_cons]
    simp [FB_law_divisor_1]
    rw [if_neg (by omega)]
    refine go ?_
    have r0 := Int.emod_nonneg n (b := d) (by omega)
    have r1 := Int.emod_lt_of_pos n h0
    simp [T_law_divisor_1, fmod_pos h0]
    refine ⟨by omega, go ?_⟩
    refine div_loop E M 8999 xs d (n % d) _ (by omega) r0 (Sm.of_le (by omega) h1) (by simp at hl; omega) (by rw [gcd_mod h0]; exact hq)
theorem gcd_pos' {n d : Int} (h : 0 < d) : 0 < (Int.gcd n d : Int) := by
  have := Int.gcd_pos_of_ne_zero_right n (b := d) (by omega); omega
theorem gcd_sm {n d : Int} {m : Nat} (h : 0 < d) (hs : Sm m d) : Sm m (Int.gcd n d : Int) := Sm.of_le (by have := Int.gcd_le_right n h; omega) hs
theorem ob_law_fraction : ∀ E ds M Q, S_law_fraction E ds M Q → B_law_fraction E (endsL Q) (start 3 ds) M := by
  intro E ds M Q h
  obtain ⟨x, y, rfl, n, d, rfl, rfl, h0, h1, hq⟩ := fn2_e h
  have g0 := gcd_pos' (n := n) h0
  have g1 := gcd_sm (n := n) h0 h1
  simp [B_law_fraction, K, S_law_divisor]
  refine ⟨h0, h1, ?_⟩
  rw [if_pos h0, fdiv_pos g0, fdiv_pos g0]
  exact ⟨by omega, g1.np (by decide), by omega, g1.np (by decide), M, Le.refl, hq⟩
theorem ob_law_plus : ∀ E ds M Q, S_law_plus E ds M Q → B_law_plus E (endsL Q) (start 2 ds) M := by
  intro E ds M Q h
  obtain ⟨x, y, rfl, a, b, rfl, rfl, ha, hb, h1, h2, h3, h4, hq⟩ := fn2_e h
  simp [B_law_plus, S_law_fraction, dF]
  refine ⟨h1.mulOk h4 (by omega), h3.mulOk h2 (by omega), h2.mulOk h4 (by omega), Int.mul_pos ha hb, (h2.mul h4).mono (by omega), M, Le.refl, hq⟩
theorem ob_law_times : ∀ E ds M Q, S_law_times E ds M Q → B_law_times E (endsL Q) (start 2 ds) M := by
  intro E ds M Q h
  obtain ⟨x, y, rfl, a, b, rfl, rfl, ha, hb, h1, h2, h3, h4, hq⟩ := fn2_e h
  simp [B_law_times, S_law_fraction, dF]
  refine ⟨h1.mulOk h3 (by omega), h2.mulOk h4 (by omega), Int.mul_pos ha hb, (h2.mul h4).mono (by omega), M, Le.refl, hq⟩
theorem take_i {E : XW} {M : Sto} {Q : KD} {a b : Addr} {many : Int} (h0 : 0 < many) (h1 : many < 1073741824) (hc : CSt M a b) (hq : ∀ d o, 0 ≤ d → d < many → CO b o → Q (.int d) (M.set a o)) :
    S_law_take E [.ref a, .int many] M Q := ⟨a, b, many, rfl, rfl, h0, h1, hc, hq⟩
theorem frac_i {E : XW} {M : Sto} {Q : KD} {n d : Int} (h0 : 0 < d) (h1 : Sm 8999 d) (hq : Q (dF (fr n d)) M) : S_law_fraction E [.int n, .int d] M Q := ⟨n, d, rfl, rfl, h0, h1, hq⟩
theorem times_i {E : XW} {M : Sto} {Q : KD} {a b c d : Int} (ha : 0 < b) (hb : 0 < d) (h1 : Sm 4000 a) (h2 : Sm 4000 b) (h3 : Sm 4000 c) (h4 : Sm 4000 d) (hq : Q (dF (fr (a * c) (b * d))) M) :
    S_law_times E [.tup [.int a, .int b], .tup [.int c, .int d]] M Q := ⟨(a, b), (c, d), rfl, rfl, ha, hb, h1, h2, h3, h4, hq⟩
theorem plus_i {E : XW} {M : Sto} {Q : KD} {a b c d : Int} (ha : 0 < b) (hb : 0 < d) (h1 : Sm 4000 a) (h2 : Sm 4000 b) (h3 : Sm 4000 c) (h4 : Sm 4000 d) (hq : Q (dF (fr (a * d + c * b) (b * d))) M) :
    S_law_plus E [.tup [.int a, .int b], .tup [.int c, .int d]] M Q := ⟨(a, b), (c, d), rfl, rfl, ha, hb, h1, h2, h3, h4, hq⟩
/-- small ones all -/
def litR (q : Int × Int) : Bool := decide (0 < q.2 ∧ q.1.natAbs < 2 ^ 30 ∧ q.2.natAbs < 2 ^ 30)
theorem menu_lit : ∀ q ∈ menu, ∀ u ∈ menu, litR q ∧ litR (fr (q.2 - q.1) q.2) ∧ litR (fr ((fr (q.2 - q.1) q.2).1 * u.1) ((fr (q.2 - q.1) q.2).2 * u.2)) ∧ (q.2 = 1 → q = (1, 1)) := by decide +kernel
theorem litR_sm {q : Int × Int} (h : litR q = true) : 0 < q.2 ∧ Sm 60 q.1 ∧ Sm 60 q.2 := by
  have := of_decide_eq_true h
  exact ⟨this.1, ⟨Nat.lt_of_lt_of_le this.2.1 (by decide)⟩, ⟨Nat.lt_of_lt_of_le this.2.2 (by decide)⟩⟩
theorem atI_map {α : Type} {xs : List α} {f : α → D} {d : Int} (h0 : 0 ≤ d) (h1 : d < xs.length) : ∃ q ∈ xs, L2.atI (xs.map f) d = some (f q) := by
  refine ⟨xs[d.toNat]'(by omega), List.getElem_mem _, ?_⟩
  simp [h0, h1, List.getElem?_eq_getElem (show d.toNat < xs.length by omega)]
theorem atI_mem {xs : List D} {d : Int} (h0 : 0 ≤ d) (h1 : d < xs.length) : ∃ q ∈ xs, L2.atI xs d = some q := by
  simpa using atI_map (f := id) h0 h1
theorem atI_map1 {α : Type} {x : α} {xs : List α} {f : α → D} {d : Int} (h0 : 0 ≤ d) (h1 : d < xs.length) : ∃ q ∈ xs, L2.atI ((x :: xs).map f) (1 + d) = some (f q) := by
  refine ⟨xs[d.toNat]'(by omega), List.getElem_mem _, ?_⟩
  have e : (1 + d).toNat = d.toNat + 1 := by omega
  simp [show 0 ≤ 1 + d by omega, show 1 + d < xs.length + 1 by omega, e, List.getElem?_eq_getElem (show d.toNat < xs.length by omega)]
theorem cut2_mem : ∀ q ∈ menu, q.2 ≠ 1 → cut2 q ∈ cuts := by decide +kernel
theorem cut3_mem : ∀ q ∈ menu, q.2 ≠ 1 → ∀ u ∈ menu.drop 1, cut3 q u ∈ cuts := by decide +kernel
theorem litR.s4 {x : Int} (h : Sm 60 x) : Sm 4000 x := h.mono (by omega)
theorem ob_law_cut : ∀ E ds M Q, S_law_cut E ds M Q → B_law_cut E (endsL Q) (start 7 ds) M := by
  intro E ds M Q h
  obtain ⟨x, rfl, a, b, rfl, hc, hq⟩ := fn1_e h
  simp [B_law_cut]
  intro p hp
  have hpa := hc.pa hp
  refine go ?_
  simp [-atI_s]
  refine take_i (by decide) (by decide) (hc.fresh hp) fun d o h0 h1 hc1 => ?_
  have el : ∀ o, (M.set p (.lst (menu.map dF))).set a o p = some (.lst (menu.map dF)) := fun o => by rw [set_ne hpa, set_same]
  obtain ⟨q, hqm, hqe⟩ := atI_map (xs := menu) (f := dF) h0 h1
  have em : menu.map dF = [D.tup [D.int 1, D.int 1], D.tup [D.int 1, D.int 2], D.tup [D.int 1, D.int 3], D.tup [D.int 2, D.int 3], D.tup [D.int 1, D.int 4], D.tup [D.int 3, D.int 4], D.tup [D.int 1, D.int 5], D.tup [D.int 2, D.int 7], D.tup [D.int 1, D.int 10]] := rfl
  rw [← em]
  have f1 : Fr a b M ((M.set p (.lst (menu.map dF))).set a o) := ((hc.refl.fresh hp).set hc1)
  have e1 : ((M.set p (.lst (menu.map dF))).set a o) p = some (.lst (menu.map dF)) := el o
  simp [-atI_s, e1, hqe, dF]
  generalize (M.set p (.lst (menu.map dF))).set a o = M1 at f1 e1 ⊢
  refine go ?_
  simp
  -- what may be forgotten
  have fin : ∀ (rows : List (Int × Int)) (M' : Sto), rows ∈ cuts → Fr a b M M' → ∀ r, M' r = none → ∃ M0, Le M0 (M'.set r (.lst (rows.map dF))) ∧ Q (.ref r) M0 := by
    intro rows M' hr f r hr'
    obtain ⟨o, c, l1⟩ := f.le
    have hn := f.none hr'
    exact ⟨_, l1.set, hq rows o r hr c hn.1 hn.2⟩
  split
  · have : q = (1, 1) := (menu_lit q hqm q hqm).2.2.2 (by assumption)
    subst this
    intro r hr
    exact fin [(1, 1)] _ (by decide) f1 r hr
  · rename_i hq1
    refine go ?_
    have L := menu_lit q hqm q hqm
    have L1 := litR_sm L.1
    have L2 := litR_sm L.2.1
    simp [T_law_cut_2, -atI_s]
    intro r hr
    have hra := (f1.none hr)
    refine go ?_
    simp [-atI_s]
    refine frac_i L1.1 (L1.2.2.mono (by omega)) ?_
    refine go ?_
    simp [-atI_s]
    have f2 : Fr a b M (M1.set r (.lst [dF q])) := f1.fresh hr
    have hrp : r ≠ p := fun e => by rw [e, e1] at hr; cases hr
    refine take_i (by decide) (by decide) ((hc.fr f1).fresh hr) fun d2 o2 g0 g1 hc2 => ?_
    have f3 := f2.set hc2
    have e3 : ((M1.set r (.lst [dF q])).set a o2) p = some (.lst (menu.map dF)) := by rw [set_ne hpa, set_ne hrp.symm, e1]
    have e4 : ((M1.set r (.lst [dF q])).set a o2) r = some (.lst [dF q]) := by rw [set_ne hra.1, set_same]
    have eq' : D.tup [D.int q.fst, D.int q.snd] = dF q := rfl
    rw [eq']
    generalize hM2 : ((M1.set r (.lst [dF q])).set a o2) = M2 at f3 e3 e4 ⊢
    -- the end
    have tail : ∀ (rows : List (Int × Int)) (rest : Int × Int) (x4 x5 x6 : Option D) (M' : Sto), rows ++ [rest] ∈ cuts → Fr a b M M' → M' r = some (.lst (rows.map dF)) →
        T_law_cut_1 E (endsL Q) [some (.ref a), some (.ref p), some (.ref r), some (dF rest), x4, x5, x6] M' := by
      intro rows rest x4 x5 x6 M' hm f e
      simp [T_law_cut_1, e]
      intro z hz
      have hzr : z ≠ r := fun h => by rw [h, e] at hz; cases hz
      rw [set_ne (Ne.symm hzr), e]
      simp
      have hl : rows.length + 1 ≤ 3 := by
        have : ∀ l ∈ cuts, l.length ≤ 3 := by decide +kernel
        simpa using this _ hm
      refine ⟨by have := sizeLine_ge; omega, fun w hw => ?_⟩
      have f' := f.fresh (o := .lst [dF rest]) hz
      have := fin _ _ hm f' w hw
      simpa using this
    simp only [cEq_int]
    split
    · refine take_i (by decide) (by decide) (hc.fr f3) fun d3 o3 k0 k1 hc3 => ?_
      have f4 := f3.set hc3
      have e5 : (M2.set a o3) p = some (.lst (menu.map dF)) := by rw [set_ne hpa, e3]
      have e6 : (M2.set a o3) r = some (.lst [dF q]) := by rw [set_ne hra.1, e4]
      generalize M2.set a o3 = M3 at f4 e5 e6 ⊢
      obtain ⟨u, hum, hue⟩ := atI_map1 (x := (1, 1)) (xs := menu.drop 1) (f := dF) k0 k1
      have hue' : _root_.L2.atI (List.map dF menu) (1 + d3) = some (dF u) := hue
      have hum' : u ∈ menu := List.mem_of_mem_drop hum
      have L3 := litR_sm (menu_lit u hum' u hum').1
      have L4 := litR_sm (menu_lit q hqm u hum').2.2.1
      simp [-atI_s, e5, hue', dF]
      refine go ?_
      simp
      refine times_i L2.1 L3.1 (litR.s4 L2.2.1) (litR.s4 L2.2.2) (litR.s4 L3.2.1) (litR.s4 L3.2.2) ?_
      refine go ?_
      simp [e6]
      refine ⟨by have := sizeLine_ge; omega, go ?_⟩
      simp [dF]
      refine plus_i L2.1 L4.1 (litR.s4 L2.2.1) (litR.s4 L2.2.2) (litR.s4 ?_) (litR.s4 L4.2.2) ?_
      · have := L4.2.1.neg
        simpa [dF] using this
      · refine go (tail [q, _] _ _ _ _ _ ?_ (f4.upd hra.2 hra.1) (by rw [set_same]; rfl))
        simp
        have := cut3_mem q hqm hq1 u hum
        simpa [cut3] using this
    · refine go (tail [q] _ _ _ _ _ ?_ f3 e4)
      have := cut2_mem q hqm hq1
      exact this
theorem body_i {n : Nat} {E : XW} {M : Sto} {Q : KD} {a b pn pl : Addr} {ns ls : List Str} {k : Nat} (hc : CSt M a b) (h1 : pn ≠ a) (h2 : M pn = some (.lst (ns.map .str))) (h3 : ns ≠ []) (h4 : ns.length ≤ 100)
    (h5 : pl ≠ a) (h6 : M pl = some (.lst (ls.map .str))) (h7 : ls.length ≤ 100) (h8 : k < n) (hq : ∀ d o, WB ns ls k d → CO b o → Q d (M.set a o)) : S_law_body n E [.ref a, .ref pn, .ref pl, .int k] M Q :=
  ⟨a, b, pn, pl, ns, ls, k, rfl, hc, rfl, h1, h2, h3, h4, rfl, h5, h6, h7, rfl, h8, hq⟩
theorem no_law_body : ∀ E ds M Q, ¬ S_law_body 0 E ds M Q := by
  intro E ds M Q h
  obtain ⟨x, y, z, u, rfl, a, b, pn, pl, ns, ls, k, rfl, hc, rfl, hpn, en, hn0, hn1, rfl, hpl, el, hl1, rfl, hk, hq⟩ := fn4_e h
  omega
theorem ob_law_body (n : Nat) : ∀ E ds M Q, S_law_body (n + 1) E ds M Q → B_law_body n E (endsL Q) (start 6 ds) M := by
  intro E ds M Q h
  obtain ⟨x, y, z, u, rfl, a, b, pn, pl, ns, ls, k, rfl, hc, rfl, hpn, en, hn0, hn1, rfl, hpl, el, hl1, rfl, hk, hq⟩ := fn4_e h
  have fin : ∀ d M', WB ns ls k d → Fr a b M M' → ∃ M0, Le M0 M' ∧ Q d M0 := by
    intro d M' hd f
    obtain ⟨o, c, l⟩ := f.le
    exact ⟨_, l, hq d o hd c⟩
  simp [B_law_body]
  refine take_i (by decide) (by decide) hc fun w o h0 h1 hc1 => ?_
  have f1 := hc.refl.set hc1
  generalize M.set a o = M1 at f1 ⊢
  refine go ?_
  simp [-atI_s]
  -- a leaf
  have leaf : ∀ p, M1 p = none → S_law_take E [D.ref a, D.int 5] (M1.set p (O.lst [dEnd, dEnd, dEnd, dEnd, dStop])) fun y M2 => subO (M2 p) y fun d => ∃ M0, Le M0 M2 ∧ Q d M0 := by
    intro p hp
    have hpa := f1.none hp
    refine take_i (by decide) (by decide) ((hc.fr f1).fresh hp) fun d o h0 h1 hc1 => ?_
    rw [set_ne hpa.1, set_same]
    obtain ⟨q, hm, hq⟩ := atI_mem (xs := [dEnd, dEnd, dEnd, dEnd, dStop]) h0 h1
    simp [-atI_s, hq]
    refine fin q _ ?_ ((f1.fresh hp).set hc1)
    have : q = dEnd ∨ q = dStop := by simpa using hm
    cases k with
    | zero => exact this
    | succ k => rcases this with h | h; exact .inl h; exact .inr (.inl h)
  have tail : 1 ≤ k → T_law_body_3 n E (endsL Q) [some (.ref a), some (.ref pn), some (.ref pl), some (.int k), some (.int w), none] M1 := by
    intro hk1
    obtain ⟨k, rfl⟩ : ∃ j, k = j + 1 := ⟨k - 1, by omega⟩
    have ek : ((k + 1 : Nat) : Int) - 1 = (k : Int) := by omega
    have tail2 : T_law_body_2 n E (endsL Q) [some (.ref a), some (.ref pn), some (.ref pl), some (.int (k + 1 : Nat)), some (.int w), none] M1 := by
      have tail1 : T_law_body_1 n E (endsL Q) [some (.ref a), some (.ref pn), some (.ref pl), some (.int (k + 1 : Nat)), some (.int w), none] M1 := by
        simp [T_law_body_1]
        refine ⟨a, b, rfl, hc.fr f1, fun rows o p hr hc2 hpa hp => ?_⟩
        have f2 : Fr a b M ((M1.set a o).set p (.lst (rows.map dF))) := (f1.set hc2).fresh (set_none.mpr ⟨hpa, hp⟩)
        have e2 : ((M1.set a o).set p (.lst (rows.map dF))) p = some (.lst (rows.map dF)) := set_same
        generalize (M1.set a o).set p (.lst (rows.map dF)) = M2 at f2 e2 ⊢
        simp [e2]
        intro z hz
        have hza := f2.none hz
        have hzp : z ≠ p := fun e => by rw [e, e2] at hz; cases hz
        have hlen : rows.length ≤ 3 := by
          have : ∀ l ∈ cuts, l.length ≤ 3 := by decide +kernel
          exact this _ hr
        refine comp_ind (fun acc xs m => ∃ (rs : List ((Int × Int) × D)) (qs : List (Int × Int)), acc = rs.map dRow ∧ xs = qs.map dF ∧ rs.map Prod.fst ++ qs = rows ∧ (∀ r ∈ rs, WB ns ls k r.2) ∧ Fr a b M m ∧ m p = some (.lst (rows.map dF)) ∧ m z = some (.lst acc)) ?_ ?_ _ [] _ ⟨[], rows, rfl, rfl, rfl, by simp, f2.fresh hz, by rw [set_ne (Ne.symm hzp)]; exact e2, set_same⟩
        · rintro x xs acc m ⟨rs, qs, rfl, hx, hrq, hw, f, e, ez⟩
          obtain ⟨q, qs, rfl⟩ : ∃ q qs', qs = q :: qs' := by cases qs with
            | nil => simp at hx
            | cons q qs => exact ⟨q, qs, rfl⟩
          simp at hx
          obtain ⟨rfl, rfl⟩ := hx
          have hl2 : rs.length + (qs.length + 1) = rows.length := by rw [← hrq]; simp
          refine ⟨e, by have := sizeLine_ge; simp; omega, fun T hT => ?_⟩
          simp [CE_law_body_1, ek]
          refine body_i (hc.fr f) hpn (f.at hpn en) hn0 hn1 hpl (f.at hpl el) hl1 (by omega) fun d o hd hc3 => ?_
          have f' := f.set hc3
          have e' : (m.set a o) p = some (.lst (rows.map dF)) := by rw [set_ne hpa]; exact e
          have ez' : (m.set a o) z = some (.lst (rs.map dRow)) := by rw [set_ne hza.1]; exact ez
          refine hT _ _ ez' ⟨rs ++ [(q, d)], qs, by simp [dRow], rfl, by simp [← hrq], ?_, f'.upd hza.2 hza.1, by rw [set_ne (Ne.symm hzp)]; exact e', set_same⟩
          intro r hr
          rcases List.mem_append.mp hr with hr | hr
          · exact hw r hr
          · simp at hr; subst hr; exact hd
        · rintro acc m ⟨rs, qs, rfl, hx, hrq, hw, f, e, ez⟩
          have : qs = [] := by simpa using hx.symm
          subst this
          refine ⟨e, ?_⟩
          simp [ez]
          refine fin _ _ ?_ f
          refine .inr (.inr (.inr (.inr ⟨rs, ?_, rfl, hw⟩)))
          simp at hrq; rw [hrq]; exact hr
      simp [T_law_body_2, -atI_s]
      split
      · rw [f1.at hpn en]
        simp [-atI_s]
        have : 0 < ns.length := by cases ns; exact absurd rfl hn0; simp
        refine take_i (by omega) (by omega) (hc.fr f1) fun d o h0 h1 hc2 => ?_
        have f2 := f1.set hc2
        rw [f2.at hpn en]
        obtain ⟨q, hm, hq⟩ := atI_map (xs := ns) (f := .str) h0 h1
        simp [-atI_s, hq, ek]
        refine body_i (hc.fr f2) hpn (f2.at hpn en) hn0 hn1 hpl (f2.at hpl el) hl1 (by omega) fun d o hd hc3 => ?_
        exact fin _ _ (.inr (.inr (.inr (.inl ⟨q, d, hm, rfl, hd⟩)))) (f2.set hc3)
      · exact go tail1
    simp [T_law_body_3, -atI_s]
    rw [f1.at hpl el]
    split
    · simp [-atI_s]
      split
      · exact go tail2
      · rename_i hls
        have : 0 < ls.length := by cases ls; exact absurd rfl hls; simp
        refine take_i (by omega) (by omega) (hc.fr f1) fun d o h0 h1 hc2 => ?_
        have f2 := f1.set hc2
        rw [f2.at hpl el]
        obtain ⟨q, hm, hq⟩ := atI_map (xs := ls) (f := .str) h0 h1
        simp [-atI_s, hq, ek]
        refine body_i (hc.fr f2) hpn (f2.at hpn en) hn0 hn1 hpl (f2.at hpl el) hl1 (by omega) fun d o hd hc3 => ?_
        exact fin _ _ (.inr (.inr (.inl ⟨q, d, hm, rfl, hd⟩))) (f2.set hc3)
    · exact go tail2
  split
  · exact leaf
  · split
    · exact leaf
    · exact go (tail (by omega))
theorem rotN_mem : ∀ i, i < 4 → ∀ k, k < 1 + i → rotN i k ∈ allN := by decide +kernel
theorem allN_ne : ∀ ns ∈ allN, ns ≠ [] ∧ ns.length ≤ 4 := by decide +kernel
theorem allL_le : ∀ ls ∈ allL, ls.length ≤ 3 := by decide +kernel
theorem cut_to {α : Type} (xs : List α) {i : Int} (h : 0 ≤ i) : cut xs none (some i) = xs.take i.toNat := by
  unfold cut HT.sIx
  simp [show ¬ i < 0 by omega]
theorem cut_from {α : Type} (xs : List α) {i : Int} (h : 0 ≤ i) : cut xs (some i) none = xs.drop i.toNat := by
  unfold cut HT.sIx
  simp [show ¬ i < 0 by omega]
  by_cases hl : i.toNat ≤ xs.length
  · rw [Nat.min_eq_left hl]; exact List.take_of_length_le (by simp)
  · rw [Nat.min_eq_right (by omega), List.drop_eq_nil_of_le (Nat.le_refl _), List.drop_eq_nil_of_le (by omega)]; simp
theorem ob_law_program : ∀ E ds M Q, S_law_program E ds M Q → B_law_program E (endsL Q) (start 5 ds) M := by
  intro E ds M Q h
  obtain ⟨x, rfl, a, b, rfl, hc, hq⟩ := fn1_e h
  simp [B_law_program]
  intro p hp
  have en : O.lst [D.str (Str.ofString "p"), D.str (Str.ofString "q"), D.str (Str.ofString "r2"), D.str (Str.ofString "s")] = .lst (N4.map .str) := rfl
  rw [en]
  refine take_i (by decide) (by decide) (hc.fresh hp) fun d o h0 h1 hc1 => ?_
  have f1 : Fr a b M _ := (hc.refl.fresh (o := .lst (N4.map .str)) hp).set hc1
  have e1 : ((M.set p (.lst (N4.map .str))).set a o) p = some (.lst (N4.map .str)) := by rw [set_ne (hc.pa hp), set_same]
  obtain ⟨i, rfl⟩ := Int.eq_ofNat_of_zero_le h0
  have ec : cut (N4.map D.str) none (some (1 + (i : Int))) = (N4.take (1 + i)).map .str := by rw [cut_to _ (by omega), List.map_take]; congr 1
  simp [e1, -List.map_take, ec]
  generalize (M.set p (.lst (N4.map .str))).set a o = M1 at f1 ⊢
  intro r hr
  have f2 := f1.fresh (o := .lst ((N4.take (1 + i)).map .str)) hr
  have hra := f1.none hr
  have e2 : (M1.set r (.lst ((N4.take (1 + i)).map .str))) r = some (.lst ((N4.take (1 + i)).map .str)) := set_same
  generalize (M1.set r (.lst ((N4.take (1 + i)).map .str))) = M2 at f2 e2 ⊢
  refine go ?_
  simp [e2, -List.map_take]
  have hl4 : N4.length = 4 := rfl
  refine take_i (by omega) (by omega) (hc.fr f2) fun k o2 k0 k1 hc2 => ?_
  rw [hl4] at k1
  obtain ⟨k, rfl⟩ := Int.eq_ofNat_of_zero_le k0
  have f3 := f2.set hc2
  have e3 : (M2.set a o2) r = some (.lst ((N4.take (1 + i)).map .str)) := by rw [set_ne hra.1, e2]
  generalize M2.set a o2 = M3 at f3 e3 ⊢
  refine go ?_
  have ec2 : cut ((N4.take (1 + i)).map D.str) (some (k : Int)) none = ((N4.take (1 + i)).drop k).map .str := by rw [cut_from _ (by omega), List.map_drop]; congr 1
  have ec3 : cut ((N4.take (1 + i)).map D.str) none (some (k : Int)) = ((N4.take (1 + i)).take k).map .str := by simp only [cut_to _ (Int.natCast_nonneg _), Int.toNat_natCast, List.map_take]
  simp [e3, -List.map_take, -List.map_drop, ec2]
  intro u hu
  have hur : u ≠ r := fun e => by rw [e, e3] at hu; cases hu
  rw [set_ne (Ne.symm hur), e3]
  simp [-List.map_take, -List.map_drop, ec3]
  intro v hv
  have huv : v ≠ u := fun e => by rw [e, set_same] at hv; cases hv
  rw [set_ne (Ne.symm huv), set_same]
  simp [-List.map_take, -List.map_drop]
  refine ⟨by have := sizeLine_ge; omega, fun t ht => ?_⟩
  have f4 := ((f3.fresh hu).fresh hv).fresh (o := .lst ((rotN i k).map .str)) ht
  have hmem := rotN_mem i (by omega) k (by omega)
  have e4 : (((M3.set u (.lst (((N4.take (1 + i)).drop k).map .str))).set v (.lst (((N4.take (1 + i)).take k).map .str))).set t (.lst ((rotN i k).map .str))) t = some (.lst ((rotN i k).map .str)) := set_same
  have hap : List.map D.str (List.drop k (List.take (1 + i) N4)) ++ List.map D.str (List.take k (List.take (1 + i) N4)) = (rotN i k).map .str := by rw [← List.map_append]; rfl
  rw [hap]
  have hta := (((f3.fresh hu).fresh hv).none ht)
  generalize (((M3.set u (O.lst (List.map D.str (List.drop k (List.take (1 + i) N4))))).set v (O.lst (List.map D.str (List.take k (List.take (1 + i) N4))))).set t (O.lst (List.map D.str (rotN i k)))) = M4 at f4 e4 ⊢
  generalize rotN i k = ns at hmem f4 e4 ⊢
  refine go ?_
  simp
  intro q hq1
  have f5 := f4.fresh (o := .lst (L3.map .str)) hq1
  have hqa := f4.none hq1
  have hqt : q ≠ t := fun e => by rw [e, e4] at hq1; cases hq1
  have eL : O.lst [D.str (Str.ofString "a"), D.str (Str.ofString "b"), D.str (Str.ofString "p")] = .lst (L3.map .str) := rfl
  rw [eL]
  have e5 : (M4.set q (.lst (L3.map .str))) q = some (.lst (L3.map .str)) := set_same
  have e5' : (M4.set q (.lst (L3.map .str))) t = some (.lst (ns.map .str)) := by rw [set_ne hqt.symm, e4]
  generalize (M4.set q (.lst (L3.map .str))) = M5 at f5 e5 e5' ⊢
  refine take_i (by decide) (by decide) (hc.fr f5) fun l o5 l0 l1 hc5 => ?_
  obtain ⟨l, rfl⟩ := Int.eq_ofNat_of_zero_le l0
  have f6 := f5.set hc5
  have e6 : (M5.set a o5) q = some (.lst (L3.map .str)) := by rw [set_ne hqa.1, e5]
  have e6' : (M5.set a o5) t = some (.lst (ns.map .str)) := by rw [set_ne hta.1, e5']
  generalize M5.set a o5 = M6 at f6 e6 e6' ⊢
  have ec6 : cut (L3.map D.str) none (some (l : Int)) = (L3.take l).map .str := by simp only [cut_to _ (Int.natCast_nonneg _), Int.toNat_natCast, List.map_take]
  simp [e6, -List.map_take, ec6]
  intro y hy
  have hya := f6.none hy
  have f7 := f6.fresh (o := .lst ((L3.take l).map .str)) hy
  have hyt : y ≠ t := fun e => by rw [e, e6'] at hy; cases hy
  have e7 : (M6.set y (.lst ((L3.take l).map .str))) y = some (.lst ((L3.take l).map .str)) := set_same
  have e7' : (M6.set y (.lst ((L3.take l).map .str))) t = some (.lst (ns.map .str)) := by rw [set_ne hyt.symm, e6']
  have hls : L3.take l ∈ allL := by
    have : ∀ l, l < 4 → L3.take l ∈ allL := by decide +kernel
    exact this l (by omega)
  generalize M6.set y (.lst ((L3.take l).map .str)) = M7 at f7 e7 e7' ⊢
  generalize L3.take l = ls at hls e7 ⊢
  refine go ?_
  simp [e7']
  intro z hz
  have hza := f7.none hz
  have hzt : z ≠ t := fun e => by rw [e, e7'] at hz; cases hz
  have hzy : z ≠ y := fun e => by rw [e, e7] at hz; cases hz
  have hn := allN_ne ns hmem
  have hlen := allL_le ls hls
  refine comp_ind (fun acc xs m => ∃ (rs : List (Str × D)) (qs : List Str), acc = rs.map dProc ∧ xs = qs.map .str ∧ rs.map Prod.fst ++ qs = ns ∧ (∀ r ∈ rs, WB ns ls 5 r.2) ∧ Fr a b M m ∧ m t = some (.lst (ns.map .str)) ∧ m y = some (.lst (ls.map .str)) ∧ m z = some (.lst acc)) ?_ ?_ _ [] _
    ⟨[], ns, rfl, rfl, rfl, by simp, f7.fresh hz, by rw [set_ne (Ne.symm hzt)]; exact e7', by rw [set_ne (Ne.symm hzy)]; exact e7, set_same⟩
  · rintro x xs acc m ⟨rs, qs, rfl, hx, hrq, hw, f, e, ey, ez⟩
    obtain ⟨q, qs, rfl⟩ : ∃ q qs', qs = q :: qs' := by cases qs with
      | nil => simp at hx
      | cons q qs => exact ⟨q, qs, rfl⟩
    simp at hx
    obtain ⟨rfl, rfl⟩ := hx
    have hl2 : rs.length + (qs.length + 1) = ns.length := by rw [← hrq]; simp
    refine ⟨e, by have := sizeLine_ge; simp; omega, fun T hT => ?_⟩
    simp [CE_law_program_1]
    refine take_i (by decide) (by decide) (hc.fr f) fun d o6 d0 d1 hc6 => ?_
    obtain ⟨d, rfl⟩ := Int.eq_ofNat_of_zero_le d0
    have f' := f.set hc6
    have e' : (m.set a o6) t = some (.lst (ns.map .str)) := by rw [set_ne hta.1]; exact e
    have ey' : (m.set a o6) y = some (.lst (ls.map .str)) := by rw [set_ne hya.1]; exact ey
    have ez' : (m.set a o6) z = some (.lst (rs.map dProc)) := by rw [set_ne hza.1]; exact ez
    generalize m.set a o6 = m6 at f' e' ey' ez' ⊢
    simp
    rw [show (1 : Int) + (d : Int) = ((1 + d : Nat) : Int) by omega]
    refine body_i (hc.fr f') hta.1 e' hn.1 (by omega) hya.1 ey' (by omega) (by omega) fun g o hd hc3 => ?_
    have f'' := f'.set hc3
    refine hT _ _ (by rw [set_ne hza.1]; exact ez') ⟨rs ++ [(q, g)], qs, by simp [dProc], rfl, by simp [← hrq], ?_, f''.upd hza.2 hza.1, ?_, ?_, set_same⟩
    · intro r hr
      rcases List.mem_append.mp hr with hr | hr
      · exact hw r hr
      · simp at hr; subst hr; exact hd.mono (by omega)
    · rw [set_ne (Ne.symm hzt), set_ne hta.1]; exact e'
    · rw [set_ne (Ne.symm hzy), set_ne hya.1]; exact ey'
  · rintro acc m ⟨rs, qs, rfl, hx, hrq, hw, f, e, ey, ez⟩
    have : qs = [] := by simpa using hx.symm
    subst this
    simp at hrq
    refine ⟨e, ?_⟩
    simp [ez]
    obtain ⟨o, c, l⟩ := f.le
    subst hrq
    exact ⟨_, l, hq rs o ⟨hmem, ls, hls, hw⟩ c⟩
/-- c's number below one of these -/
theorem pick_i {E : XW} {M : Sto} {Q : KD} {a b : Addr} {vals : List Int} (hv : ∀ v ∈ vals, 0 < v ∧ v < 1073741824) (h0 : vals ≠ []) (h1 : vals.length ≤ 100) (hc : CSt M a b) (hq : ∀ v d M', v ∈ vals → 0 ≤ d → d < v → Fr a b M M' → Q (.int d) M') :
    ∀ p, M p = none → S_law_take E [.ref a, .int vals.length] (M.set p (.lst (vals.map .int))) fun y M2 => subO (M2 p) y fun d => S_law_take E [.ref a, d] M2 Q := by
  intro p hp
  have hl : 0 < vals.length := by cases vals; exact absurd rfl h0; simp
  refine take_i (by omega) (by omega) (hc.fresh hp) fun d o d0 d1 hc1 => ?_
  have f1 := (hc.refl.fresh (o := .lst (vals.map .int)) hp).set hc1
  rw [set_ne (hc.pa hp), set_same]
  obtain ⟨v, hm, he⟩ := atI_map (xs := vals) (f := .int) d0 d1
  simp [-atI_s, he]
  have := hv v hm
  exact take_i this.1 this.2 (hc.fr f1) fun d' o' e0 e1 hc2 => hq v d' _ hm e0 e1 (f1.set hc2)
end DL

set_option Elab.async false
set_option linter.all false
set_option maxRecDepth 100000
/-! G2S: what the program's fractions and the law's comparing ask and tell -/
namespace DL
open PySem
def S_common_divisor : FD := fn2 fun x y _ M Q => ∃ n d : Int, x = .int n ∧ y = .int d ∧ Q (.int (Int.gcd n d)) M
def S_ratio : FD := fn2 fun x y _ M Q => ∃ n d : Int, x = .int n ∧ y = .int d ∧ 0 < d ∧ Sm 8999 d ∧ Q (dF (fr n d)) M
def S_plus : FD := fn2 fun x y _ M Q => ∃ a b : Int × Int, x = dF a ∧ y = dF b ∧ 0 < a.2 ∧ 0 < b.2 ∧ Sm 4000 a.1 ∧ Sm 4000 a.2 ∧ Sm 4000 b.1 ∧ Sm 4000 b.2 ∧ Q (dF (fr (a.1 * b.2 + b.1 * a.2) (a.2 * b.2))) M
def S_times : FD := fn2 fun x y _ M Q => ∃ a b : Int × Int, x = dF a ∧ y = dF b ∧ 0 < a.2 ∧ 0 < b.2 ∧ Sm 4000 a.1 ∧ Sm 4000 a.2 ∧ Sm 4000 b.1 ∧ Sm 4000 b.2 ∧ Q (dF (fr (a.1 * b.1) (a.2 * b.2))) M
/-- data of ints, texts and tuples -/
def alk : Nat → D → Prop
  | 0, _ => False
  | n + 1, d => (∃ i, d = .int i) ∨ (∃ s, d = .str s) ∨ (∃ xs, d = .tup xs ∧ xs.length ≤ 100000 ∧ ∀ x ∈ xs, alk n x)
def S_law_alike (n : Nat) : FD := fn2 fun x y _ M Q => x = y ∧ alk n x ∧ Q (.bl true) M
abbrev S_law : FD := lawS
end DL

set_option Elab.async false
set_option linter.all false
set_option maxRecDepth 100000
/-! mirrors of the text's defs (printed by gen.py) -/
namespace DL
open PySem
abbrev g_ZERO : D := (.tup [(.int 0), (.int 1)])
abbrev g_ONE : D := (.tup [(.int 1), (.int 1)])
def WC_common_divisor_1 : WT :=
  (tCmp cNe (eVar 1) (eC (.int 0)))
def WB_common_divisor_1 : WS :=
  (sAsg (eTup [(eVar 1), (eBin opMod (eVar 0) (eVar 1))]) (gTup [gName 0, gName 1]))
def T_common_divisor_1 : WS :=
  (sRet (eVar 0))
def B_common_divisor : WS :=
  (sSeq (sAsg (eTup [(eAbs (eVar 0)), (eAbs (eVar 1))]) (gTup [gName 0, gName 1])) (sSeq (sWhile WC_common_divisor_1 WB_common_divisor_1) T_common_divisor_1))
def T_ratio_1 : WS :=
  (sRet (eTup [(eVar 0), (eVar 1)]))
def T_ratio_2 : WS :=
  (sSeq (sIf (tCmp cNe (eVar 1) (eC (.int 1))) (sSeq (sAsg (eCall S_common_divisor [(eVar 0), (eVar 1)]) (gName 2)) (sAsg (eTup [(eBin opDiv (eVar 0) (eVar 2)), (eBin opDiv (eVar 1) (eVar 2))]) (gTup [gName 0, gName 1]))) sNil) T_ratio_1)
def B_ratio : WS :=
  (sSeq (sIf (tCmp cLt (eVar 1) (eC (.int 0))) (sAsg (eTup [(eNeg (eVar 0)), (eNeg (eVar 1))]) (gTup [gName 0, gName 1])) sNil) T_ratio_2)
def T_plus_1 : WS :=
  (sRet (eCall S_ratio [(eBin opAdd (eBin opMul (eSub (eVar 0) (eC (.int 0))) (eSub (eVar 1) (eC (.int 1)))) (eBin opMul (eSub (eVar 1) (eC (.int 0))) (eSub (eVar 0) (eC (.int 1))))), (eBin opMul (eSub (eVar 0) (eC (.int 1))) (eSub (eVar 1) (eC (.int 1))))]))
def B_plus : WS :=
  (sSeq (sIf (tChain cEq cEq (eSub (eVar 0) (eC (.int 1))) (eSub (eVar 1) (eC (.int 1))) (eC (.int 1))) (sRet (eTup [(eBin opAdd (eSub (eVar 0) (eC (.int 0))) (eSub (eVar 1) (eC (.int 0)))), (eC (.int 1))])) sNil) T_plus_1)
def B_times : WS :=
  (sRet (eCall S_ratio [(eBin opMul (eSub (eVar 0) (eC (.int 0))) (eSub (eVar 1) (eC (.int 0)))), (eBin opMul (eSub (eVar 0) (eC (.int 1))) (eSub (eVar 1) (eC (.int 1))))]))
def CE_law_alike_1 (n : Nat) : WE :=
  (eCall (S_law_alike n) [(eSub (eVar 0) (eVar 2)), (eSub (eVar 1) (eVar 2))])
def T_law_alike_1 (n : Nat) : WS :=
  (sRet (eAnd (eIsi (eVar 0) ["int", "str"]) (eCmp cEq (eVar 0) (eVar 1))))
def T_law_alike_2 (n : Nat) : WS :=
  (sSeq (sIf (tOr (tTru (eIsi (eVar 0) ["bool"])) (tCmp cNe (eIsi (eVar 0) ["str"]) (eIsi (eVar 1) ["str"]))) (sRet (eC (.bl false))) sNil) (T_law_alike_1 n))
def B_law_alike (n : Nat) : WS :=
  (sSeq (sIf (tTru (eIsi (eVar 1) ["tuple"])) (sRet (eAnd (eIsi (eVar 0) ["tuple"]) (eAnd (eCmp cEq (eLen (eVar 0)) (eLen (eVar 1))) (eAll (eComp (iRange1 (eLen (eVar 1))) [2] (gName 2) tYes (CE_law_alike_1 n)))))) sNil) (T_law_alike_2 n))
end DL

set_option Elab.async false
set_option linter.all false
set_option maxRecDepth 100000
set_option maxHeartbeats 4000000
namespace DL
open PySem
theorem gcd_fmod (a b : Int) : Int.gcd b (a.fmod b) = Int.gcd a b := by
  rw [Int.fmod_def, Int.gcd_sub_mul_left_right, Int.gcd_comm]
theorem ob_common_divisor : ∀ E ds M Q, S_common_divisor E ds M Q → B_common_divisor E (endsL Q) (start 2 ds) M := by
  intro E ds M Q h
  obtain ⟨x, y, rfl, n, d, rfl, rfl, hq⟩ := fn2_e h
  simp [B_common_divisor]
  refine go ?_
  refine ⟨fun m e M' => M' = M ∧ ∃ a b : Int, e = [some (.int a), some (.int b)] ∧ 0 ≤ a ∧ 0 ≤ b ∧ b.toNat = m ∧ Int.gcd a b = Int.gcd n d, ⟨_, rfl, _, _, rfl, ?_, ?_, rfl, ?_⟩, ?_⟩
  · split <;> omega
  · split <;> omega
  · have : ∀ x : Int, (if x < 0 then -x else x) = x.natAbs := fun x => by split <;> omega
    rw [this, this]; simp [Int.gcd]
  · rintro m env M' ⟨rfl, a, b, rfl, h0, h1, h2, h3⟩
    simp [WC_common_divisor_1]
    split
    · rename_i hb
      subst hb
      refine go ?_
      simp [T_common_divisor_1]
      refine ⟨M', Le.refl, ?_⟩
      rw [← h3] at hq
      simp at hq
      rw [show (a.natAbs : Int) = a by omega] at hq
      exact hq
    · rename_i hb
      have hb' : 0 < b := by omega
      have r0 := Int.emod_nonneg a (b := b) (by omega)
      have r1 := Int.emod_lt_of_pos a hb'
      simp [WB_common_divisor_1, fmod_pos hb', hb]
      exact ⟨(a % b).toNat, by omega, b, a % b, ⟨rfl, rfl⟩, h1, r0, rfl, by rw [gcd_mod hb', h3]⟩
theorem no_law_alike : ∀ E ds M Q, ¬ S_law_alike 0 E ds M Q := by
  intro E ds M Q h
  obtain ⟨x, y, rfl, rfl, ha, hq⟩ := fn2_e h
  exact ha
theorem ob_law_alike (n : Nat) : ∀ E ds M Q, S_law_alike (n + 1) E ds M Q → B_law_alike n E (endsL Q) (start 3 ds) M := by
  intro E ds M Q h
  obtain ⟨x, y, rfl, rfl, ha, hq⟩ := fn2_e h
  rcases ha with ⟨i, rfl⟩ | ⟨s, rfl⟩ | ⟨xs, rfl, hl, hx⟩
  · simp [B_law_alike, isTy, K, T_law_alike_2, T_law_alike_1]
    exact ⟨M, Le.refl, hq⟩
  · simp [B_law_alike, isTy, K, T_law_alike_2, T_law_alike_1]
    exact ⟨M, Le.refl, hq⟩
  · simp [B_law_alike, isTy]
    refine ⟨by omega, fun p hp => ?_⟩
    refine comp_map (fun _ => .bl true) (fun _ => True) (fun _ _ _ => trivial) (fun _ _ => trivial) _ [] _ ?_ ?_ set_same trivial ?_
    · intro x hxm m T _ hT
      obtain ⟨k, h0, h1, rfl⟩ := mem_rangeL hxm
      have h2 : k.toNat < xs.length := by omega
      simp [CE_law_alike_1, h0, h1, List.getElem?_eq_getElem h2]
      exact ⟨rfl, hx _ (List.getElem_mem _), hT⟩
    · have := sizeLine_ge; rw [rangeL_len]; simp; omega
    · have := asBools_map (rangeL 0 xs.length) (fun _ => true)
      rw [set_set, set_same]
      simp only [List.nil_append, lstO_lst, this, onBs_some]
      refine ⟨M, Le.refl.fresh hp, ?_⟩
      have : ((rangeL 0 xs.length).map fun _ => true).all id = true := by simp
      rw [this]; exact hq
theorem fr_one (n : Int) : fr n 1 = (n, 1) := by simp [fr]
theorem ob_ratio : ∀ E ds M Q, S_ratio E ds M Q → B_ratio E (endsL Q) (start 3 ds) M := by
  intro E ds M Q h
  obtain ⟨x, y, rfl, n, d, rfl, rfl, h0, h1, hq⟩ := fn2_e h
  have g0 := gcd_pos' (n := n) h0
  have g1 := gcd_sm (n := n) h0 h1
  simp [B_ratio, show ¬ d < 0 by omega]
  refine go ?_
  simp [T_ratio_2]
  split
  · rename_i h
    subst h
    refine go ?_
    simp [T_ratio_1]
    rw [fr_one] at hq
    exact ⟨M, Le.refl, hq⟩
  · simp [S_common_divisor]
    refine go ?_
    simp [fdiv_pos g0]
    refine ⟨by omega, g1.np (by decide), by omega, g1.np (by decide), go ?_⟩
    simp [T_ratio_1]
    exact ⟨M, Le.refl, hq⟩
theorem ob_plus : ∀ E ds M Q, S_plus E ds M Q → B_plus E (endsL Q) (start 2 ds) M := by
  intro E ds M Q h
  obtain ⟨x, y, rfl, a, b, rfl, rfl, ha, hb, h1, h2, h3, h4, hq⟩ := fn2_e h
  obtain ⟨a1, a2⟩ := a
  obtain ⟨b1, b2⟩ := b
  simp at ha hb h1 h2 h3 h4 hq
  simp [B_plus, dF]
  have gen : T_plus_1 E (endsL Q) [some (.tup [.int a1, .int a2]), some (.tup [.int b1, .int b2])] M := by
    simp [T_plus_1, S_ratio]
    exact ⟨h1.mulOk h4 (by omega), h3.mulOk h2 (by omega), h2.mulOk h4 (by omega), Int.mul_pos ha hb, (h2.mul h4).mono (by omega), M, Le.refl, hq⟩
  split
  · rename_i h
    subst h
    split
    · rename_i h
      subst h
      simp [fr_one, dF] at hq
      exact ⟨M, Le.refl, hq⟩
    · exact go gen
  · exact go gen
theorem ob_times : ∀ E ds M Q, S_times E ds M Q → B_times E (endsL Q) (start 2 ds) M := by
  intro E ds M Q h
  obtain ⟨x, y, rfl, a, b, rfl, rfl, ha, hb, h1, h2, h3, h4, hq⟩ := fn2_e h
  simp [B_times, S_ratio, dF]
  exact ⟨h1.mulOk h3 (by omega), h2.mulOk h4 (by omega), Int.mul_pos ha hb, (h2.mul h4).mono (by omega), M, Le.refl, hq⟩
end DL

set_option Elab.async false
set_option linter.all false
set_option maxRecDepth 100000
/-! K30S: what the defs of law k30 ask and tell -/
namespace DL
open PySem
/-- values that are looked at: none, bools, small ints, short texts, lists, tuples of such; how deep, how wide -/
def Vd (M : Sto) (L : Nat) : Nat → D → Prop
  | 0, _ => False
  | n + 1, d => d = .non ∨ (∃ b, d = .bl b) ∨ (∃ i : Int, d = .int i ∧ i.natAbs < 1073741824) ∨ (∃ s : Str, d = .str s ∧ s.length ≤ 100) ∨ (∃ p xs, d = .ref p ∧ M p = some (.lst xs)) ∨ (∃ xs, d = .tup xs ∧ xs.length ≤ L ∧ ∀ x ∈ xs, Vd M L n x)
mutual
def sz : D → Nat
  | .tup xs => 1 + szs xs
  | _ => 1
def szs : List D → Nat
  | [] => 0
  | x :: xs => sz x + szs xs
end
def LET : Str := "abcdefghijklmnopqrstuvwxyz"
def DIG : Str := "0123456789"
def occ (s t : Str) : Bool := !(Builtin.Str.occurrences s t 0 s.length 1).isEmpty
def isNm (s : Str) : Bool := decide (1 ≤ s.length ∧ s.length ≤ 8) && !(decide (s = "end") || decide (s = "stop")) && (match s.cps.toList with | c :: _ => occ LET ⟨#[c]⟩ | [] => false) && (s.cps.toList.all fun c => occ (LET ++ DIG) ⟨#[c]⟩)
def nmD : D → Bool
  | .str s => isNm s
  | _ => false
def intB : D → Bool
  | .int _ => true
  | _ => false
def frB : D → Bool
  | .tup [.int a, .int b] => decide (0 < b) && decide ((Int.gcd a b : Int) = 1)
  | _ => false
def frP : D → Bool
  | .tup [.int a, .int b] => decide (0 < b) && (decide (0 < a) && decide ((Int.gcd a b : Int) = 1))
  | _ => false
def frQ : D → Int × Int
  | .tup [.int a, .int b] => (a, b)
  | _ => (0, 1)
def rowB : D → Bool
  | .tup [f, _] => frP f
  | _ => false
def rowF : D → D
  | .tup [f, _] => f
  | _ => .non
def rowI : D → D
  | .tup [_, b] => b
  | _ => .non
def tot (l : List (Int × Int)) : Int × Int := l.foldl (fun f r => fr (f.1 * r.2 + r.1 * f.2) (f.2 * r.2)) (0, 1)
def rowsL (xs : List D) : Bool := !xs.isEmpty && (xs.all rowB && decide (tot (xs.map fun r => frQ (rowF r)) = (1, 1)))
def rowsB : D → Bool
  | .tup xs => rowsL xs
  | _ => false
def inN (ns : List Str) : D → Bool
  | .str s => decide (s ∈ ns)
  | _ => false
def isB (ns : List Str) : Nat → D → Bool
  | 0, _ => false
  | n + 1, .tup (.str t :: r) =>
    if t = "end" ∨ t = "stop" then r.isEmpty
    else if t = "tell" ∨ t = "call" then (match r with
      | [x, b] => nmD x && ((decide (t ≠ "call") || inN ns x) && isB ns n b)
      | _ => false)
    else if t = "draw" then (match r with
      | [.tup xs] => rowsL xs && xs.all fun x => isB ns n (rowI x)
      | _ => false)
    else false
  | _ + 1, _ => false
def prs : List D → List Str → Option (List (Str × D))
  | [], _ => some []
  | .tup [.str s, b] :: r, seen => if isNm s = true ∧ s ∉ seen then (prs r (seen ++ [s])).map ((s, b) :: ·) else none
  | _ :: _, _ => none
def isP (n : Nat) : D → Bool
  | .tup xs => !xs.isEmpty && (match prs xs [] with
    | some rs => rs.all fun r => isB (rs.map Prod.fst) n r.2
    | none => false)
  | _ => false
def S_is_less : FD := fn2 fun x y _ M Q => ∃ a b : Int × Int, x = dF a ∧ y = dF b ∧ a.2.natAbs < 2 ^ 60 ∧ b.2.natAbs < 2 ^ 60 ∧ Q (.bl (decide (a.1 * b.2 < b.1 * a.2))) M
def S_total : FD := fn1 fun x _ M Q => ∃ p qs, x = .ref p ∧ M p = some (.lst (qs.map dF)) ∧ qs.length ≤ 100 ∧ (∀ q ∈ qs, 0 < q.2 ∧ Sm 30 q.1 ∧ Sm 30 q.2) ∧ Q (dF (tot qs)) M
def ofVd (f : D → Bool) : FD := fn1 fun x _ M Q => (∃ L n, Vd M L n x) ∧ Q (.bl (f x)) M
def S_is_integer : FD := ofVd intB
def S_law_is_int : FD := ofVd intB
def S_is_ratio : FD := ofVd frB
def S_law_is_fraction : FD := ofVd frP
def S_is_name : FD := ofVd nmD
def S_law_is_name : FD := ofVd nmD
def S_has_rows : FD := fn1 fun x _ M Q => (∃ n, Vd M 50 n x) ∧ Q (.bl (rowsB x)) M
def kvN (ns : List Str) : List (Key × D) := ns.map fun s => (.inr s, .bl true)
def S_is_body : FD := fn2 fun x y _ M Q => ∃ n p ns, Vd M 50 n x ∧ sz x ≤ 1000000 ∧ y = .ref p ∧ M p = some (.dk (kvN ns)) ∧ Q (.bl (isB ns n x)) M
def S_law_is_body (n : Nat) : FD := fn2 fun x y _ M Q => ∃ p ns, Vd M 50 n x ∧ y = .ref p ∧ M p = some (.lst (ns.map .str)) ∧ Q (.bl (isB ns n x)) M
def S_is_program : FD := fn1 fun x _ M Q => Vd M 50 40 x ∧ sz x ≤ 1000000 ∧ Q (.bl (isP 40 x)) M
def S_law_is_program : FD := fn1 fun x _ M Q => Vd M 50 40 x ∧ Q (.bl (isP 40 x)) M
def S_law_spoilt (n : Nat) : FD := fn2 fun c v _ M Q => ∃ a b L k, c = .ref a ∧ CSt M a b ∧ 2 ≤ L ∧ L ≤ 1000 ∧ k ≤ n ∧ Vd M L k v ∧ ∀ d M', Vd M' (L + 1) (k + 2) d → sz d ≤ 2 * sz v + 20 → Fr a b M M' → Q d M'
end DL

set_option Elab.async false
set_option linter.all false
set_option maxRecDepth 100000
/-! mirrors of the text's defs (printed by gen.py) -/
namespace DL
open PySem
abbrev g_LETTERS : D := (.str "abcdefghijklmnopqrstuvwxyz")
abbrev g_DIGITS : D := (.str "0123456789")
abbrev g_MOST_SIGNS : D := (.int 8)
abbrev g_MOST_NUMBER : D := (.int (10000000000000000000000000000000000000000))
def B_is_less : WS :=
  (sRet (eCmp cLt (eBin opMul (eSub (eVar 0) (eC (.int 0))) (eSub (eVar 1) (eC (.int 1)))) (eBin opMul (eSub (eVar 1) (eC (.int 0))) (eSub (eVar 0) (eC (.int 1))))))
def FB_total_1 : WS :=
  (sAsg (eCall S_plus [(eVar 1), (eVar 2)]) (gName 1))
def T_total_1 : WS :=
  (sRet (eVar 1))
def B_total : WS :=
  (sSeq (sAsg (eC g_ZERO) (gName 1)) (sSeq (sFor (iVal (eVar 0)) (gName 2) FB_total_1) T_total_1))
def B_is_integer : WS :=
  (sRet (eAnd (eIsi (eVar 0) ["int"]) (eNotB (eIsi (eVar 0) ["bool"]))))
def T_is_ratio_1 : WS :=
  (sRet (eAnd (eCmp cGt (eSub (eVar 0) (eC (.int 1))) (eC (.int 0))) (eCmp cEq (eCall S_common_divisor [(eSub (eVar 0) (eC (.int 0))), (eSub (eVar 0) (eC (.int 1)))]) (eC (.int 1)))))
def B_is_ratio : WS :=
  (sSeq (sIf (tOr (tNot (tTru (eIsi (eVar 0) ["tuple"]))) (tOr (tCmp cNe (eLen (eVar 0)) (eC (.int 2))) (tOr (tNot (tTru (eCall S_is_integer [(eSub (eVar 0) (eC (.int 0)))]))) (tNot (tTru (eCall S_is_integer [(eSub (eVar 0) (eC (.int 1)))])))))) (sRet (eC (.bl false))) sNil) T_is_ratio_1)
def CE_is_name_1 : WE :=
  (eCmp cIn (eVar 1) (eBin opAdd (eC g_LETTERS) (eC g_DIGITS)))
def T_is_name_1 : WS :=
  (sRet (eAnd (eCmp cIn (eSub (eVar 0) (eC (.int 0))) (eC g_LETTERS)) (eAll (eComp (iChars (eVar 0)) [1] (gName 1) tYes CE_is_name_1))))
def B_is_name : WS :=
  (sSeq (sIf (tOr (tNot (tTru (eIsi (eVar 0) ["str"]))) (tOr (tNot (tChain cLe cLe (eC (.int 1)) (eLen (eVar 0)) (eC g_MOST_SIGNS))) (tCmp cIn (eVar 0) (eTup [(eC (.str "end")), (eC (.str "stop"))])))) (sRet (eC (.bl false))) sNil) T_is_name_1)
def T_has_rows_1 : WS :=
  (sIf (tOr (tCmp cGe (eSub (eSub (eVar 1) (eC (.int 0))) (eC (.int 0))) (eC g_MOST_NUMBER)) (tCmp cGe (eSub (eSub (eVar 1) (eC (.int 0))) (eC (.int 1))) (eC g_MOST_NUMBER))) (sRet (eC (.bl false))) sNil)
def FB_has_rows_1 : WS :=
  (sSeq (sIf (tOr (tNot (tTru (eIsi (eVar 1) ["tuple"]))) (tOr (tCmp cNe (eLen (eVar 1)) (eC (.int 2))) (tOr (tNot (tTru (eCall S_is_ratio [(eSub (eVar 1) (eC (.int 0)))]))) (tNot (tTru (eCall S_is_less [(eC g_ZERO), (eSub (eVar 1) (eC (.int 0)))])))))) (sRet (eC (.bl false))) sNil) T_has_rows_1)
def CE_has_rows_1 : WE :=
  (eSub (eVar 1) (eC (.int 0)))
def T_has_rows_2 : WS :=
  (sRet (eCmp cEq (eCall S_total [(eComp (iVal (eVar 0)) [1] (gName 1) tYes CE_has_rows_1)]) (eC g_ONE)))
def T_has_rows_3 : WS :=
  (sSeq (sFor (iVal (eVar 0)) (gName 1) FB_has_rows_1) T_has_rows_2)
def B_has_rows : WS :=
  (sSeq (sIf (tOr (tNot (tTru (eIsi (eVar 0) ["tuple"]))) (tCmp cEq (eLen (eVar 0)) (eC (.int 0)))) (sRet (eC (.bl false))) sNil) T_has_rows_3)
def T_is_body_1 : WS :=
  (sExpr (eAppend (eVar 2) (eSub (eVar 3) (eC (.int 2)))))
def CE_is_body_1 : WE :=
  (eSub (eVar 4) (eC (.int 1)))
def T_is_body_2 : WS :=
  (sIf (tCmp cIn (eSub (eVar 3) (eC (.int 0))) (eTup [(eC (.str "end")), (eC (.str "stop"))])) (sIf (tCmp cNe (eLen (eVar 3)) (eC (.int 1))) (sRet (eC (.bl false))) sNil) (sIf (tCmp cIn (eSub (eVar 3) (eC (.int 0))) (eTup [(eC (.str "tell")), (eC (.str "call"))])) (sSeq (sIf (tOr (tCmp cNe (eLen (eVar 3)) (eC (.int 3))) (tOr (tNot (tTru (eCall S_is_name [(eSub (eVar 3) (eC (.int 1)))]))) (tAnd (tCmp cEq (eSub (eVar 3) (eC (.int 0))) (eC (.str "call"))) (tCmp cNotIn (eSub (eVar 3) (eC (.int 1))) (eVar 1))))) (sRet (eC (.bl false))) sNil) T_is_body_1) (sIf (tOr (tCmp cNe (eSub (eVar 3) (eC (.int 0))) (eC (.str "draw"))) (tOr (tCmp cNe (eLen (eVar 3)) (eC (.int 2))) (tNot (tTru (eCall S_has_rows [(eSub (eVar 3) (eC (.int 1)))]))))) (sRet (eC (.bl false))) (sExpr (eExtend (eVar 2) (eComp (iVal (eSub (eVar 3) (eC (.int 1)))) [4] (gName 4) tYes CE_is_body_1))))))
def WC_is_body_1 : WT :=
  (tTru (eVar 2))
def WB_is_body_1 : WS :=
  (sSeq (sAsg (ePop (eVar 2)) (gName 3)) (sSeq (sIf (tOr (tNot (tTru (eIsi (eVar 3) ["tuple"]))) (tOr (tCmp cEq (eLen (eVar 3)) (eC (.int 0))) (tNot (tTru (eIsi (eSub (eVar 3) (eC (.int 0))) ["str"]))))) (sRet (eC (.bl false))) sNil) T_is_body_2))
def T_is_body_3 : WS :=
  (sRet (eC (.bl true)))
def B_is_body : WS :=
  (sSeq (sAsg (eLst [(eVar 0)]) (gName 2)) (sSeq (sWhile WC_is_body_1 WB_is_body_1) T_is_body_3))
def T_is_program_1 : WS :=
  (sAsg (eC (.bl true)) (gSub (eVar 1) (eSub (eVar 2) (eC (.int 0)))))
def FB_is_program_1 : WS :=
  (sSeq (sIf (tOr (tNot (tTru (eIsi (eVar 2) ["tuple"]))) (tOr (tCmp cNe (eLen (eVar 2)) (eC (.int 2))) (tOr (tNot (tTru (eCall S_is_name [(eSub (eVar 2) (eC (.int 0)))]))) (tCmp cIn (eSub (eVar 2) (eC (.int 0))) (eVar 1))))) (sRet (eC (.bl false))) sNil) T_is_program_1)
def CE_is_program_1 : WE :=
  (eCall S_is_body [(eVar 4), (eVar 1)])
def T_is_program_2 : WS :=
  (sRet (eAll (eComp (iVal (eVar 0)) [3, 4] (gTup [(gName 3), (gName 4)]) tYes CE_is_program_1)))
def T_is_program_3 : WS :=
  (sSeq (sAsg eDk (gName 1)) (sSeq (sFor (iVal (eVar 0)) (gName 2) FB_is_program_1) T_is_program_2))
def B_is_program : WS :=
  (sSeq (sIf (tOr (tNot (tTru (eIsi (eVar 0) ["tuple"]))) (tCmp cEq (eLen (eVar 0)) (eC (.int 0)))) (sRet (eC (.bl false))) sNil) T_is_program_3)
def CE_law_is_name_1 : WE :=
  (eCmp cIn (eVar 2) (eBin opAdd (eVar 1) (eC (.str "0123456789"))))
def T_law_is_name_1 : WS :=
  (sSeq (sAsg (eC (.str "abcdefghijklmnopqrstuvwxyz")) (gName 1)) (sRet (eAnd (eCmp cIn (eSub (eVar 0) (eC (.int 0))) (eVar 1)) (eAll (eComp (iChars (eVar 0)) [2] (gName 2) tYes CE_law_is_name_1)))))
def B_law_is_name : WS :=
  (sSeq (sIf (tOr (tNot (tTru (eIsi (eVar 0) ["str"]))) (tOr (tCmp cLt (eLen (eVar 0)) (eC (.int 1))) (tOr (tCmp cGt (eLen (eVar 0)) (eC (.int 8))) (tCmp cIn (eVar 0) (eLst [(eC (.str "stop")), (eC (.str "end"))]))))) (sRet (eC (.bl false))) sNil) T_law_is_name_1)
def B_law_is_int : WS :=
  (sRet (eAnd (eIsi (eVar 0) ["int"]) (eNotB (eIsi (eVar 0) ["bool"]))))
def T_law_is_fraction_1 : WS :=
  (sRet (eAnd (eCmp cGt (eSub (eVar 0) (eC (.int 1))) (eC (.int 0))) (eAnd (eCmp cGt (eSub (eVar 0) (eC (.int 0))) (eC (.int 0))) (eCmp cEq (eCall S_law_divisor [(eSub (eVar 0) (eC (.int 0))), (eSub (eVar 0) (eC (.int 1)))]) (eC (.int 1))))))
def B_law_is_fraction : WS :=
  (sSeq (sIf (tOr (tNot (tTru (eIsi (eVar 0) ["tuple"]))) (tOr (tCmp cNe (eLen (eVar 0)) (eC (.int 2))) (tOr (tNot (tTru (eCall S_law_is_int [(eSub (eVar 0) (eC (.int 0)))]))) (tNot (tTru (eCall S_law_is_int [(eSub (eVar 0) (eC (.int 1)))])))))) (sRet (eC (.bl false))) sNil) T_law_is_fraction_1)
def T_law_is_body_1 (n : Nat) : WS :=
  (sRet (eCall (S_law_is_body n) [(eSub (eVar 0) (eC (.int 2))), (eVar 1)]))
def T_law_is_body_2 (n : Nat) : WS :=
  (sAsg (eCall S_law_plus [(eVar 2), (eSub (eVar 3) (eC (.int 0)))]) (gName 2))
def FB_law_is_body_1 (n : Nat) : WS :=
  (sSeq (sIf (tOr (tNot (tTru (eIsi (eVar 3) ["tuple"]))) (tOr (tCmp cNe (eLen (eVar 3)) (eC (.int 2))) (tOr (tNot (tTru (eCall S_law_is_fraction [(eSub (eVar 3) (eC (.int 0)))]))) (tNot (tTru (eCall (S_law_is_body n) [(eSub (eVar 3) (eC (.int 1))), (eVar 1)])))))) (sRet (eC (.bl false))) sNil) (T_law_is_body_2 n))
def T_law_is_body_3 (n : Nat) : WS :=
  (sRet (eCmp cEq (eVar 2) (eTup [(eC (.int 1)), (eC (.int 1))])))
def T_law_is_body_4 (n : Nat) : WS :=
  (sSeq (sAsg (eTup [(eC (.int 0)), (eC (.int 1))]) (gName 2)) (sSeq (sFor (iVal (eSub (eVar 0) (eC (.int 1)))) (gName 3) (FB_law_is_body_1 n)) (T_law_is_body_3 n)))
def T_law_is_body_5 (n : Nat) : WS :=
  (sSeq (sIf (tOr (tCmp cNe (eSub (eVar 0) (eC (.int 0))) (eC (.str "draw"))) (tOr (tCmp cNe (eLen (eVar 0)) (eC (.int 2))) (tOr (tNot (tTru (eIsi (eSub (eVar 0) (eC (.int 1))) ["tuple"]))) (tNot (tTru (eSub (eVar 0) (eC (.int 1)))))))) (sRet (eC (.bl false))) sNil) (T_law_is_body_4 n))
def T_law_is_body_6 (n : Nat) : WS :=
  (sSeq (sIf (tOr (tCmp cEq (eSub (eVar 0) (eC (.int 0))) (eC (.str "tell"))) (tCmp cEq (eSub (eVar 0) (eC (.int 0))) (eC (.str "call")))) (sSeq (sIf (tOr (tCmp cNe (eLen (eVar 0)) (eC (.int 3))) (tOr (tNot (tTru (eCall S_law_is_name [(eSub (eVar 0) (eC (.int 1)))]))) (tAnd (tCmp cEq (eSub (eVar 0) (eC (.int 0))) (eC (.str "call"))) (tCmp cNotIn (eSub (eVar 0) (eC (.int 1))) (eVar 1))))) (sRet (eC (.bl false))) sNil) (T_law_is_body_1 n)) sNil) (T_law_is_body_5 n))
def T_law_is_body_7 (n : Nat) : WS :=
  (sSeq (sIf (tOr (tCmp cEq (eSub (eVar 0) (eC (.int 0))) (eC (.str "end"))) (tCmp cEq (eSub (eVar 0) (eC (.int 0))) (eC (.str "stop")))) (sRet (eCmp cEq (eLen (eVar 0)) (eC (.int 1)))) sNil) (T_law_is_body_6 n))
def B_law_is_body (n : Nat) : WS :=
  (sSeq (sIf (tOr (tNot (tTru (eIsi (eVar 0) ["tuple"]))) (tOr (tNot (tTru (eVar 0))) (tNot (tTru (eIsi (eSub (eVar 0) (eC (.int 0))) ["str"]))))) (sRet (eC (.bl false))) sNil) (T_law_is_body_7 n))
def T_law_is_program_1 : WS :=
  (sExpr (eAppend (eVar 1) (eSub (eVar 2) (eC (.int 0)))))
def FB_law_is_program_1 : WS :=
  (sSeq (sIf (tOr (tNot (tTru (eIsi (eVar 2) ["tuple"]))) (tOr (tCmp cNe (eLen (eVar 2)) (eC (.int 2))) (tOr (tNot (tTru (eCall S_law_is_name [(eSub (eVar 2) (eC (.int 0)))]))) (tCmp cIn (eSub (eVar 2) (eC (.int 0))) (eVar 1))))) (sRet (eC (.bl false))) sNil) T_law_is_program_1)
def CE_law_is_program_1 : WE :=
  (eCall (S_law_is_body 40) [(eSub (eVar 2) (eC (.int 1))), (eVar 1)])
def T_law_is_program_2 : WS :=
  (sRet (eAll (eComp (iVal (eVar 0)) [2] (gName 2) tYes CE_law_is_program_1)))
def T_law_is_program_3 : WS :=
  (sSeq (sAsg (eLst []) (gName 1)) (sSeq (sFor (iVal (eVar 0)) (gName 2) FB_law_is_program_1) T_law_is_program_2))
def B_law_is_program : WS :=
  (sSeq (sIf (tOr (tNot (tTru (eIsi (eVar 0) ["tuple"]))) (tNot (tTru (eVar 0)))) (sRet (eC (.bl false))) sNil) T_law_is_program_3)
def T_law_spoilt_1 (n : Nat) : WS :=
  (sSeq (sAsg (eCall S_law_take [(eVar 0), (eLen (eVar 1))]) (gName 2)) (sRet (eBin opAdd (eBin opAdd (eSl (eVar 1) none (some (eVar 2))) (eTup [(eCall (S_law_spoilt n) [(eVar 0), (eSub (eVar 1) (eVar 2))])])) (eSl (eVar 1) (some (eBin opAdd (eVar 2) (eC (.int 1)))) none))))
def T_law_spoilt_2 (n : Nat) : WS :=
  (sSeq (sIf (tCmp cEq (eCall S_law_take [(eVar 0), (eC (.int 6))]) (eC (.int 0))) (sSeq (sAsg (eLst [(eSl (eVar 1) (some (eC (.int 1))) none), (eSl (eVar 1) none (some (eNeg (eC (.int 1))))), (eBin opAdd (eVar 1) (eSl (eVar 1) (some (eNeg (eC (.int 1)))) none)), (eRev (eVar 1)), (eLstOf (eVar 1)), (eTup [(eC (.str "end"))]), (eTup [(eC (.str "stop"))]), (eTup [(eVar 1)]), (eTup [(eC (.int 1)), (eC (.int 2))]), (eTup [(eC (.int 2)), (eC (.int 4))])]) (gName 4)) (sRet (eSub (eVar 4) (eCall S_law_take [(eVar 0), (eC (.int 10))])))) sNil) (T_law_spoilt_1 n))
def T_law_spoilt_3 (n : Nat) : WS :=
  (sSeq (sIf (tOr (tNot (tTru (eIsi (eVar 1) ["tuple"]))) (tNot (tTru (eVar 1)))) (sRet (eSub (eLst [(eC (.int 0)), (eC (.int 1)), (eC (.int 2)), (eC (.int 3)), (eC (.bl true)), (eBin opSub (eC (.int 0)) (eC (.int 1))), (eC .non), (eTup []), (eC (.str "end")), (eTup [(eC (.str "end"))])]) (eCall S_law_take [(eVar 0), (eC (.int 10))]))) sNil) (T_law_spoilt_2 n))
def B_law_spoilt (n : Nat) : WS :=
  (sSeq (sIf (tTru (eIsi (eVar 1) ["str"])) (sSeq (sAsg (eLst [(eC (.str "end")), (eC (.str "stop")), (eC (.str "tell")), (eC (.str "call")), (eC (.str "draw")), (eC (.str "p")), (eC (.str "q")), (eC (.str "")), (eC (.str "2p")), (eC (.str "abcdefgh")), (eC (.str "abcdefghi")), (eC (.str "P")), (eC (.str "a_")), (eC (.int 0))]) (gName 3)) (sRet (eSub (eVar 3) (eCall S_law_take [(eVar 0), (eC (.int 14))])))) sNil) (T_law_spoilt_3 n))
def FB_law_1 : WS :=
  (sAsg (eCall (S_law_spoilt 40) [(eVar 1), (eVar 4)]) (gName 4))
def T_law_1 : WS :=
  (sSeq (sAsg (eCall S_is_program [(eVar 4)]) (gName 6)) (sIf (tOr (tNot (tTru (eIsi (eVar 6) ["bool"]))) (tCmp cNe (eVar 6) (eCall S_law_is_program [(eVar 4)]))) (sRet (eC (.bl false))) sNil))
def FB_law_2 : WS :=
  (sSeq (sAsg (eVar 2) (gName 4)) (sSeq (sFor (iRange1 (eBin opAdd (eC (.int 1)) (eCall S_law_take [(eVar 1), (eC (.int 2))]))) (gName 5) FB_law_1) T_law_1))
def T_law_2 : WS :=
  (sRet (eC (.bl true)))
def T_law_3 : WS :=
  (sSeq (sFor (iRange1 (eC (.int 12))) (gName 3) FB_law_2) T_law_2)
def B_law : WS :=
  (sSeq (sAsg (eCall S_law_start [(eVar 0)]) (gName 1)) (sSeq (sAsg (eCall S_law_program [(eVar 1)]) (gName 2)) (sSeq (sIf (tOr (tCmp cNotB (eCall S_is_program [(eVar 2)]) (eC (.bl true))) (tCmp cNotB (eCall S_is_program [(eTup [])]) (eC (.bl false)))) (sRet (eC (.bl false))) sNil) T_law_3)))
end DL

set_option Elab.async false
set_option linter.all false
set_option maxRecDepth 100000
set_option maxHeartbeats 4000000
namespace DL
open PySem
theorem Vd.succ {M : Sto} {L : Nat} : ∀ {n : Nat} {d : D}, Vd M L n d → Vd M L (n + 1) d
  | 0, d, h => h.elim
  | n + 1, d, h => by
    rcases h with h | h | h | h | h | ⟨xs, h1, h2, h3⟩
    · exact .inl h
    · exact .inr (.inl h)
    · exact .inr (.inr (.inl h))
    · exact .inr (.inr (.inr (.inl h)))
    · exact .inr (.inr (.inr (.inr (.inl h))))
    · exact .inr (.inr (.inr (.inr (.inr ⟨xs, h1, h2, fun x hx => (h3 x hx).succ⟩))))
theorem Vd.up {M : Sto} {L m n : Nat} {d : D} (h : Vd M L m d) (hl : m ≤ n) : Vd M L n d := by
  induction hl with
  | refl => exact h
  | step _ ih => exact ih.succ
theorem Vd.to {M M' : Sto} {L L' : Nat} (hl : L ≤ L') (hm : ∀ p xs, M p = some (.lst xs) → ∃ ys, M' p = some (.lst ys)) : ∀ {n : Nat} {d : D}, Vd M L n d → Vd M' L' n d
  | 0, d, h => h.elim
  | n + 1, d, h => by
    rcases h with h | h | h | h | ⟨p, xs, h1, h2⟩ | ⟨xs, h1, h2, h3⟩
    · exact .inl h
    · exact .inr (.inl h)
    · exact .inr (.inr (.inl h))
    · exact .inr (.inr (.inr (.inl h)))
    · obtain ⟨ys, h3⟩ := hm p xs h2
      exact .inr (.inr (.inr (.inr (.inl ⟨p, ys, h1, h3⟩))))
    · exact .inr (.inr (.inr (.inr (.inr ⟨xs, h1, by omega, fun x hx => (h3 x hx).to hl hm⟩))))
theorem Vd.le {M M' : Sto} {L n : Nat} {d : D} (h : Vd M L n d) (l : Le M M') : Vd M' L n d := h.to (Nat.le_refl _) fun p xs e => ⟨xs, l _ _ e⟩
/-- by kinds -/
inductive Kd (M : Sto) (L : Nat) (n : Nat) : D → Prop
  | non : Kd M L n .non
  | bl (b : Bool) : Kd M L n (.bl b)
  | int (i : Int) (h : i.natAbs < 1073741824) : Kd M L n (.int i)
  | str (s : Str) (h : s.length ≤ 100) : Kd M L n (.str s)
  | ref (p : Addr) (xs : List D) (h : M p = some (.lst xs)) : Kd M L n (.ref p)
  | tup (xs : List D) (h : xs.length ≤ L) (k : ∀ x ∈ xs, Vd M L n x) : Kd M L n (.tup xs)
theorem Vd.kd {M : Sto} {L n : Nat} {d : D} (h : Vd M L n d) : ∃ m, n = m + 1 ∧ Kd M L m d := by
  cases n with
  | zero => exact h.elim
  | succ n =>
    refine ⟨n, rfl, ?_⟩
    rcases h with rfl | ⟨b, rfl⟩ | ⟨i, rfl, h⟩ | ⟨s, rfl, h⟩ | ⟨p, xs, rfl, h⟩ | ⟨xs, rfl, h2, h3⟩
    · exact .non
    · exact .bl b
    · exact .int i h
    · exact .str s h
    · exact .ref p xs h
    · exact .tup xs h2 h3
theorem Kd.vd {M : Sto} {L n : Nat} {d : D} (h : Kd M L n d) : Vd M L (n + 1) d := by
  cases h with
  | non => exact .inl rfl
  | bl b => exact .inr (.inl ⟨b, rfl⟩)
  | int i h => exact .inr (.inr (.inl ⟨i, rfl, h⟩))
  | str s h => exact .inr (.inr (.inr (.inl ⟨s, rfl, h⟩)))
  | ref p xs h => exact .inr (.inr (.inr (.inr (.inl ⟨p, xs, rfl, h⟩))))
  | tup xs h k => exact .inr (.inr (.inr (.inr (.inr ⟨xs, rfl, h, k⟩))))
theorem ob_is_less : ∀ E ds M Q, S_is_less E ds M Q → B_is_less E (endsL Q) (start 2 ds) M := by
  intro E ds M Q h
  obtain ⟨x, y, rfl, a, b, rfl, rfl, h1, h2, hq⟩ := fn2_e h
  simp [B_is_less, dF]
  exact ⟨mulOk_small (by omega), mulOk_small (by omega), M, Le.refl, hq⟩
theorem ofVd_e {f : D → Bool} {E : XW} {ds : List D} {M : Sto} {Q : KD} (h : ofVd f E ds M Q) : ∃ x L m, ds = [x] ∧ Kd M L m x ∧ ∃ M0, Le M0 M ∧ Q (.bl (f x)) M0 := by
  obtain ⟨x, rfl, ⟨L, n, hv⟩, hq⟩ := fn1_e h
  obtain ⟨m, rfl, hk⟩ := hv.kd
  exact ⟨x, L, m, rfl, hk, M, Le.refl, hq⟩
theorem vd_i {f : D → Bool} {E : XW} {x : D} {M : Sto} {Q : KD} {L n : Nat} (h : Vd M L n x) (hq : Q (.bl (f x)) M) : ofVd f E [x] M Q := ⟨⟨L, n, h⟩, hq⟩
theorem ob_is_integer : ∀ E ds M Q, S_is_integer E ds M Q → B_is_integer E (endsL Q) (start 1 ds) M := by
  intro E ds M Q h
  obtain ⟨x, L, m, rfl, hk, hq⟩ := ofVd_e h
  cases hk <;> simp [B_is_integer, isTy, *] <;> exact hq
theorem ob_law_is_int : ∀ E ds M Q, S_law_is_int E ds M Q → B_law_is_int E (endsL Q) (start 1 ds) M := by
  intro E ds M Q h
  obtain ⟨x, L, m, rfl, hk, hq⟩ := ofVd_e h
  cases hk <;> simp [B_law_is_int, isTy, *] <;> exact hq
theorem intB_e {M : Sto} {L m : Nat} {d : D} (h : Vd M L m d) (hi : intB d = true) : ∃ i : Int, d = .int i ∧ i.natAbs < 1073741824 := by
  obtain ⟨m, rfl, hk⟩ := h.kd
  cases hk <;> first | exact ⟨_, rfl, by assumption⟩ | (exact absurd hi (by decide)) | (simp [intB] at hi)
theorem frB_not {u v : D} (h : intB u = false ∨ intB v = false) : frB (.tup [u, v]) = false ∧ frP (.tup [u, v]) = false := by
  rcases h with h | h
  · cases u <;> first | exact ⟨rfl, rfl⟩ | (cases v <;> first | exact ⟨rfl, rfl⟩ | (simp [intB] at h))
  · cases u <;> first | exact ⟨rfl, rfl⟩ | (cases v <;> first | exact ⟨rfl, rfl⟩ | (simp [intB] at h))
theorem frB_len {xs : List D} (h : xs.length ≠ 2) : frB (.tup xs) = false ∧ frP (.tup xs) = false := by
  match xs, h with
  | [], _ => exact ⟨rfl, rfl⟩
  | [u], _ => cases u <;> exact ⟨rfl, rfl⟩
  | u :: v :: w :: r, _ => cases u <;> first | exact ⟨rfl, rfl⟩ | (cases v <;> exact ⟨rfl, rfl⟩)
  | [_, _], h => exact absurd rfl h
theorem ob_is_ratio : ∀ E ds M Q, S_is_ratio E ds M Q → B_is_ratio E (endsL Q) (start 1 ds) M := by
  intro E ds M Q h
  obtain ⟨x, L, m, rfl, hk, hq⟩ := ofVd_e h
  cases hk with
  | tup xs hl hx =>
    match xs, hx with
    | [], _ => simp [B_is_ratio, isTy]; exact hq
    | [_], _ => rw [(frB_len (by simp)).1] at hq; simp [B_is_ratio, isTy]; exact hq
    | _ :: _ :: _ :: r, _ => rw [(frB_len (by simp)).1] at hq; simp [B_is_ratio, isTy]; rw [if_neg (by omega)]; exact hq
    | [u, v], hx =>
      have hu := hx u (by simp)
      have hv := hx v (by simp)
      simp [B_is_ratio, isTy]
      refine vd_i hu ?_
      simp
      cases hiu : intB u with
      | false => simp; rw [(frB_not (.inl hiu)).1] at hq; exact hq
      | true =>
        simp
        refine vd_i hv ?_
        simp
        cases hiv : intB v with
        | false => simp; rw [(frB_not (.inr hiv)).1] at hq; exact hq
        | true =>
          obtain ⟨i, rfl, h1⟩ := intB_e hu hiu
          obtain ⟨j, rfl, h2⟩ := intB_e hv hiv
          simp
          refine go ?_
          simp [T_is_ratio_1, S_common_divisor]
          unfold frB at hq
          split
          · rename_i h
            simp [h] at hq
            exact hq
          · rename_i h
            simp [h] at hq
            exact hq
  | _ => simp [B_is_ratio, isTy, *]; exact hq
theorem ob_law_is_fraction : ∀ E ds M Q, S_law_is_fraction E ds M Q → B_law_is_fraction E (endsL Q) (start 1 ds) M := by
  intro E ds M Q h
  obtain ⟨x, L, m, rfl, hk, hq⟩ := ofVd_e h
  cases hk with
  | tup xs hl hx =>
    match xs, hx with
    | [], _ => simp [B_law_is_fraction, isTy]; exact hq
    | [_], _ => rw [(frB_len (by simp)).2] at hq; simp [B_law_is_fraction, isTy]; exact hq
    | _ :: _ :: _ :: r, _ => rw [(frB_len (by simp)).2] at hq; simp [B_law_is_fraction, isTy]; rw [if_neg (by omega)]; exact hq
    | [u, v], hx =>
      have hu := hx u (by simp)
      have hv := hx v (by simp)
      simp [B_law_is_fraction, isTy]
      refine vd_i hu ?_
      simp
      cases hiu : intB u with
      | false => simp; rw [(frB_not (.inl hiu)).2] at hq; exact hq
      | true =>
        simp
        refine vd_i hv ?_
        simp
        cases hiv : intB v with
        | false => simp; rw [(frB_not (.inr hiv)).2] at hq; exact hq
        | true =>
          obtain ⟨i, rfl, h1⟩ := intB_e hu hiu
          obtain ⟨j, rfl, h2⟩ := intB_e hv hiv
          simp
          refine go ?_
          simp [T_law_is_fraction_1, S_law_divisor]
          unfold frP at hq
          split
          · rename_i h
            split
            · rename_i h'
              simp [h, h'] at hq
              exact ⟨h, .lit (by omega) (by omega), hq⟩
            · rename_i h'
              simp [h, h'] at hq
              exact hq
          · rename_i h
            simp [h] at hq
            exact hq
  | _ => simp [B_law_is_fraction, isTy, *]; exact hq
theorem div_le_abs {n g : Int} (h : g ∣ n) (hg : 0 < g) : (n / g).natAbs ≤ n.natAbs := by
  obtain ⟨k, rfl⟩ := h
  rw [Int.mul_ediv_cancel_left _ (by omega), Int.natAbs_mul]
  exact Nat.le_mul_of_pos_left _ (by omega)
theorem fr_le (n : Int) {d : Int} (h : 0 < d) : (fr n d).1.natAbs ≤ n.natAbs ∧ (fr n d).2.natAbs ≤ d.natAbs :=
  ⟨div_le_abs (Int.gcd_dvd_left ..) (gcd_pos' h), div_le_abs (Int.gcd_dvd_right ..) (gcd_pos' h)⟩
theorem ob_total : ∀ E ds M Q, S_total E ds M Q → B_total E (endsL Q) (start 3 ds) M := by
  intro E ds M Q h
  obtain ⟨x, rfl, p, qs, rfl, hp, hl, hok, hq⟩ := fn1_e h
  simp [B_total]
  refine go ?_
  simp [hp]
  refine for_ind (fun xs e m => m = M ∧ ∃ (rs : List (Int × Int)) (f : Int × Int) (x : Option D), xs = rs.map dF ∧ e = [some (.ref p), some (dF f), x] ∧ (∀ q ∈ rs, 0 < q.2 ∧ Sm 30 q.1 ∧ Sm 30 q.2) ∧ rs.length ≤ 100 ∧
    0 < f.2 ∧ Sm (31 * (100 - rs.length) + 31) f.1 ∧ Sm (31 * (100 - rs.length) + 31) f.2 ∧ rs.foldl (fun f r => fr (f.1 * r.2 + r.1 * f.2) (f.2 * r.2)) f = tot qs) ?_ ?_ _ _ _
    ⟨rfl, qs, (0, 1), none, rfl, rfl, hok, hl, by decide, ⟨by simp; exact Nat.two_pow_pos _⟩, ⟨Nat.lt_of_lt_of_le (show (1 : Nat) < 2 ^ 31 by decide) (Nat.pow_le_pow_right (by decide) (by omega))⟩, rfl⟩
  · rintro x xs e m ⟨rfl, rs, f, y, hx, rfl, hok, hl, hf0, hf1, hf2, hf⟩
    obtain ⟨q, rs, rfl⟩ : ∃ q rs', rs = q :: rs' := by cases rs with
      | nil => simp at hx
      | cons q rs => exact ⟨q, rs, rfl⟩
    simp at hx
    obtain ⟨rfl, rfl⟩ := hx
    refine ⟨hp, fun N hN => ?_⟩
    have hq' := hok q (.head _)
    simp at hl
    simp [FB_total_1]
    simp at hf1 hf2
    have hs1 := hf1.mul hq'.2.2
    have hs2 := hq'.2.1.mul hf2
    have hs3 := hf2.mul hq'.2.2
    have hd : 0 < f.2 * q.2 := Int.mul_pos hf0 hq'.1
    refine ⟨f, q, rfl, rfl, hf0, hq'.1, hf1.mono (by omega), hf2.mono (by omega), hq'.2.1.mono (by omega), hq'.2.2.mono (by omega), hN _ _ ⟨rfl, rs, _, _, rfl, rfl, fun r hr => hok r (.tail _ hr), by omega, ?_, ?_, ?_, by simpa using hf⟩⟩
    · exact Int.ediv_pos_of_pos_of_dvd hd (by omega) (Int.gcd_dvd_right ..)
    · exact Sm.of_le (fr_le _ hd).1 ((hs1.add hs2).mono (by simp; omega))
    · exact Sm.of_le (fr_le _ hd).2 (hs3.mono (by omega))
  · rintro e m ⟨rfl, rs, f, y, hx, rfl, hok, hl, hf0, hf1, hf2, hf⟩
    have : rs = [] := by simpa using hx.symm
    subst this
    refine ⟨hp, go ?_⟩
    simp at hf
    simp [T_total_1]
    exact ⟨m, Le.refl, by rw [hf]; exact hq⟩
/-! ## names -/
theorem Le.fresh' {M0 M : Sto} {p : Addr} {o : O} (l : Le M0 M) (hp : M p = none) : Le M0 (M.set p o) := fun a u e => by
  have := l a u e
  rw [set_ne (ne_of this hp)]; exact this
theorem size_list (s : Str) : s.length = s.cps.toList.length := by simp [Str.length]
theorem chars_all {s : Str} {z w : Addr} {M : Sto} (t : Str) : asBools ((charsOf s).map fun d => .bl (match d with | .str c => occ t c | _ => false)) = some (s.cps.toList.map fun c => occ t ⟨#[c]⟩) := by
  unfold charsOf
  rw [List.map_map]
  exact asBools_map _ _
theorem isNm_no {s : Str} (h : ¬ (1 ≤ s.length ∧ s.length ≤ 8) ∨ s = "end" ∨ s = "stop") : isNm s = false := by
  unfold isNm
  rcases h with h | h | h
  · simp [h]
  · simp [h]
  · simp [h]
theorem ob_is_name : ∀ E ds M Q, S_is_name E ds M Q → B_is_name E (endsL Q) (start 2 ds) M := by
  intro E ds M Q h
  obtain ⟨x, L, m, rfl, hk, hq⟩ := ofVd_e h
  cases hk with
  | str s hl =>
    have hsz := sizeLine_ge
    simp only [nmD] at hq
    have no : (¬ (1 ≤ s.length ∧ s.length ≤ 8) ∨ s = "end" ∨ s = "stop") → ∃ M0, Le M0 M ∧ Q (D.bl false) M0 := fun h => by rw [isNm_no h] at hq; exact hq
    simp [B_is_name, isTy, g_MOST_SIGNS, flat, eqF]
    refine ⟨by omega, ?_⟩
    split
    · split
      · split
        · rename_i h
          exact no (by rcases h with h | h; exact .inr (.inl h.symm); exact .inr (.inr h.symm))
        · rename_i h1 h2 h3
          refine go ?_
          have hne : s.cps.toList ≠ [] := by
            intro e
            rw [size_list, e] at h1; simp at h1
          obtain ⟨c, cs, hc⟩ : ∃ c cs, s.cps.toList = c :: cs := by
            cases hs : s.cps.toList with
            | nil => exact absurd hs hne
            | cons c cs => exact ⟨c, cs, rfl⟩
          have hnm : isNm s = (occ LET ⟨#[c]⟩ && (s.cps.toList.all fun c => occ (LET ++ DIG) ⟨#[c]⟩)) := by
            unfold isNm
            have h4 : 1 ≤ s.length ∧ s.length ≤ 8 := ⟨by omega, by omega⟩
            have h5 : ¬ s = Str.ofString "end" := fun e => h3 (.inl e.symm)
            have h6 : ¬ s = Str.ofString "stop" := fun e => h3 (.inr e.symm)
            simp [h4, h5, h6, hc]
          rw [hnm] at hq
          have c0 : s.cps[0]? = some c := by rw [← Array.getElem?_toList, hc]; rfl
          have c1 : 0 < s.cps.size := by have := congrArg List.length hc; simp at this; omega
          have c2 : s.cps[0] = c := (Array.getElem?_eq_some_iff.mp c0).2
          simp [T_is_name_1, g_LETTERS, c1, c2]
          refine ⟨by omega, ?_⟩
          split
          · rename_i h7
            have : occ LET ⟨#[c]⟩ = false := by
              unfold occ LET; rw [h7]; rfl
            rw [this] at hq
            exact hq
          · rename_i h7
            have : occ LET ⟨#[c]⟩ = true := by
              unfold occ LET
              cases hh : Builtin.Str.occurrences (Str.ofString "abcdefghijklmnopqrstuvwxyz") { cps := #[c] } 0 (Str.ofString "abcdefghijklmnopqrstuvwxyz").length 1 with
              | nil => exact absurd hh h7
              | cons _ _ => rfl
            rw [this, Bool.true_and] at hq
            intro p hp
            refine comp_map (fun d => .bl (match d with | .str c => occ (LET ++ DIG) c | _ => false)) (fun _ => True) (fun _ _ _ => trivial) (fun _ _ => trivial) _ [] _ ?_ ?_ set_same trivial ?_
            · intro x hx m T _ hT
              unfold charsOf at hx
              obtain ⟨k, hk, rfl⟩ := List.mem_map.mp hx
              simp [CE_is_name_1, g_LETTERS, g_DIGITS]
              exact ⟨by decide +kernel, hT⟩
            · have : (charsOf s).length = s.length := by simp [charsOf, Str.length]
              rw [this]; simp; omega
            · rw [set_set, set_same, List.nil_append, lstO_lst, chars_all (z := p) (w := p) (M := M), onBs_some]
              obtain ⟨M0, l, q⟩ := hq
              refine ⟨M0, l.fresh' hp, ?_⟩
              simpa using q
      · exact no (.inl (by omega))
    · exact no (.inl (by omega))
  | _ => simp [B_is_name, isTy, *]; exact hq
theorem ob_law_is_name : ∀ E ds M Q, S_law_is_name E ds M Q → B_law_is_name E (endsL Q) (start 3 ds) M := by
  intro E ds M Q h
  obtain ⟨x, L, m, rfl, hk, hq⟩ := ofVd_e h
  cases hk with
  | str s hl =>
    have hsz := sizeLine_ge
    simp only [nmD] at hq
    have no : (¬ (1 ≤ s.length ∧ s.length ≤ 8) ∨ s = "end" ∨ s = "stop") → ∃ M0, Le M0 M ∧ Q (D.bl false) M0 := fun h => by rw [isNm_no h] at hq; exact hq
    simp [B_law_is_name, isTy, flat, eqF]
    refine ⟨by omega, ?_⟩
    split
    · exact no (.inl (by omega))
    · refine ⟨by omega, ?_⟩
      split
      · exact no (.inl (by omega))
      · rename_i g1 g2
        have h1 : 1 ≤ (s.length : Int) := by omega
        have h2 : (s.length : Int) ≤ 8 := by omega
        intro z hz
        split
        · rename_i h
          obtain ⟨M0, l, q⟩ := no (by rcases h with h | h; exact .inr (.inr h.symm); exact .inr (.inl h.symm))
          exact ⟨M0, l.fresh' hz, q⟩
        · rename_i h3
          have h3 : ¬(Str.ofString "end" = s ∨ Str.ofString "stop" = s) := fun h => h3 (by rcases h with h | h; exact .inr h; exact .inl h)
          replace hq : ∃ M0, Le M0 (M.set z (O.lst [D.str (Str.ofString "stop"), D.str (Str.ofString "end")])) ∧ Q (.bl (isNm s)) M0 := by
            obtain ⟨M0, l, q⟩ := hq
            exact ⟨M0, l.fresh' hz, q⟩
          generalize M.set z (O.lst [D.str (Str.ofString "stop"), D.str (Str.ofString "end")]) = M at hq ⊢
          refine go ?_
          have hne : s.cps.toList ≠ [] := by
            intro e
            rw [size_list, e] at h1; simp at h1
          obtain ⟨c, cs, hc⟩ : ∃ c cs, s.cps.toList = c :: cs := by
            cases hs : s.cps.toList with
            | nil => exact absurd hs hne
            | cons c cs => exact ⟨c, cs, rfl⟩
          have hnm : isNm s = (occ LET ⟨#[c]⟩ && (s.cps.toList.all fun c => occ (LET ++ DIG) ⟨#[c]⟩)) := by
            unfold isNm
            have h4 : 1 ≤ s.length ∧ s.length ≤ 8 := ⟨by omega, by omega⟩
            have h5 : ¬ s = Str.ofString "end" := fun e => h3 (.inl e.symm)
            have h6 : ¬ s = Str.ofString "stop" := fun e => h3 (.inr e.symm)
            simp [h4, h5, h6, hc]
          rw [hnm] at hq
          have c0 : s.cps[0]? = some c := by rw [← Array.getElem?_toList, hc]; rfl
          have c1 : 0 < s.cps.size := by have := congrArg List.length hc; simp at this; omega
          have c2 : s.cps[0] = c := (Array.getElem?_eq_some_iff.mp c0).2
          simp [T_law_is_name_1]
          refine go ?_
          simp [c1, c2]
          refine ⟨by omega, ?_⟩
          split
          · rename_i h7
            have : occ LET ⟨#[c]⟩ = false := by
              unfold occ LET; rw [h7]; rfl
            rw [this] at hq
            exact hq
          · rename_i h7
            have : occ LET ⟨#[c]⟩ = true := by
              unfold occ LET
              cases hh : Builtin.Str.occurrences (Str.ofString "abcdefghijklmnopqrstuvwxyz") { cps := #[c] } 0 (Str.ofString "abcdefghijklmnopqrstuvwxyz").length 1 with
              | nil => exact absurd hh h7
              | cons _ _ => rfl
            rw [this, Bool.true_and] at hq
            intro p hp
            refine comp_map (fun d => .bl (match d with | .str c => occ (LET ++ DIG) c | _ => false)) (fun _ => True) (fun _ _ _ => trivial) (fun _ _ => trivial) _ [] _ ?_ ?_ set_same trivial ?_
            · intro x hx m T _ hT
              unfold charsOf at hx
              obtain ⟨k, hk, rfl⟩ := List.mem_map.mp hx
              simp [CE_law_is_name_1]
              exact ⟨by decide +kernel, hT⟩
            · have : (charsOf s).length = s.length := by simp [charsOf, Str.length]
              rw [this]; simp; omega
            · rw [set_set, set_same, List.nil_append, lstO_lst, chars_all (z := p) (w := p) (M := M), onBs_some]
              obtain ⟨M0, l, q⟩ := hq
              refine ⟨M0, l.fresh' hp, ?_⟩
              simpa using q
  | _ => simp [B_law_is_name, isTy, *]; exact hq
/-! ## rows -/
theorem frB_e {M : Sto} {L n : Nat} {d : D} (hv : Vd M L n d) (h : frB d = true) : ∃ a b : Int, d = dF (a, b) ∧ 0 < b ∧ (Int.gcd a b : Int) = 1 ∧ a.natAbs < 1073741824 ∧ b.natAbs < 1073741824 := by
  obtain ⟨m, rfl, hk⟩ := hv.kd
  cases hk with
  | tup xs hl hx =>
    match xs, hx, h with
    | [], _, h => simp [frB] at h
    | [u], _, h => rw [(frB_len (by simp)).1] at h; cases h
    | u :: v :: w :: r, _, h => rw [(frB_len (by simp)).1] at h; cases h
    | [u, v], hx, h =>
      cases hu : intB u with
      | false => rw [(frB_not (.inl hu)).1] at h; cases h
      | true =>
        cases hv' : intB v with
        | false => rw [(frB_not (.inr hv')).1] at h; cases h
        | true =>
          obtain ⟨i, rfl, h1⟩ := intB_e (hx u (by simp)) hu
          obtain ⟨j, rfl, h2⟩ := intB_e (hx v (by simp)) hv'
          simp [frB] at h
          exact ⟨i, j, rfl, h.1, by omega, h1, h2⟩
  | _ => simp [frB] at h
theorem frP_of {a b : Int} (h1 : 0 < b) (h2 : (Int.gcd a b : Int) = 1) : frP (dF (a, b)) = decide (0 < a) := by
  simp [frP, dF, h1, h2]
theorem frP_B {d : D} (h : frP d = true) : frB d = true := by
  unfold frP at h; split at h
  · simp at h; simp [frB, h]
  · cases h
/-- a row by kinds -/
theorem row_not {M : Sto} {L n : Nat} {d : D} (hv : Kd M L n d) : (∀ xs, d ≠ .tup xs) ∨ ∃ xs, d = .tup xs := by
  cases d <;> first | exact .inr ⟨_, rfl⟩ | (exact .inl fun xs h => by cases h)
theorem rowB_tup {xs : List D} (h : xs.length ≠ 2) : rowB (.tup xs) = false := by
  match xs, h with
  | [], _ => rfl
  | [u], _ => rfl
  | u :: v :: w :: r, _ => rfl
  | [_, _], h => exact absurd rfl h
theorem rowsL_no {xs : List D} {x : D} (hx : x ∈ xs) (h : rowB x = false) : rowsL xs = false := by
  unfold rowsL
  have : xs.all rowB = false := by
    rw [Bool.eq_false_iff]; intro ht
    have := List.all_eq_true.mp ht x hx
    rw [h] at this; cases this
  rw [this]; simp
theorem ob_has_rows : ∀ E ds M Q, S_has_rows E ds M Q → B_has_rows E (endsL Q) (start 2 ds) M := by
  intro E ds M Q h
  obtain ⟨x, rfl, ⟨n, hv⟩, hq⟩ := fn1_e h
  obtain ⟨m, rfl, hk⟩ := hv.kd
  replace hq : ∃ M0, Le M0 M ∧ Q (.bl (rowsB x)) M0 := ⟨M, Le.refl, hq⟩
  cases hk with
  | tup xs hl hx =>
    simp only [rowsB] at hq
    by_cases hx0 : xs = []
    · subst hx0
      simp [B_has_rows, isTy]
      exact hq
    · simp [B_has_rows, isTy, hx0]
      refine go ?_
      simp [T_has_rows_3]
      refine for_ind (fun ys e m' => m' = M ∧ (∃ pre, xs = pre ++ ys ∧ pre.all rowB = true) ∧ ∃ x1, e = [some (.tup xs), x1]) ?_ ?_ _ _ _ ⟨rfl, ⟨[], rfl, rfl⟩, _, rfl⟩
      · rintro y ys e m' ⟨rfl, ⟨pre, hpre, hall⟩, x1, rfl⟩
        have hy : y ∈ xs := by rw [hpre]; simp
        have no : rowB y = false → ∃ M0, Le M0 m' ∧ Q (.bl false) M0 := fun h => by rw [rowsL_no hy h] at hq; exact hq
        refine ⟨trivial, fun N hN => ?_⟩
        obtain ⟨m2, rfl, hk⟩ := (hx y hy).kd
        cases hk with
        | tup zs hzl hz =>
          match zs, hz, hy, no with
          | [], _, hy, no => simp [FB_has_rows_1, isTy]; exact no rfl
          | [_], _, hy, no => simp [FB_has_rows_1, isTy]; exact no rfl
          | _ :: _ :: _ :: r, _, hy, no => simp [FB_has_rows_1, isTy]; rw [if_neg (by omega)]; exact no rfl
          | [u, v], hz, hy, no =>
            have hu := hz u (by simp)
            simp [FB_has_rows_1, isTy]
            refine vd_i hu ?_
            simp
            cases hfb : frB u with
            | false =>
              simp
              refine no ?_
              show frP u = false
              cases hp : frP u with
              | false => rfl
              | true => rw [frP_B hp] at hfb; cases hfb
            | true =>
              obtain ⟨i, j, rfl, h1, h2, h3, h4⟩ := frB_e hu hfb
              simp
              refine ⟨(0, 1), (i, j), rfl, rfl, by decide, by simp; omega, ?_⟩
              simp
              split
              rotate_left
              · rename_i h5
                refine no ?_
                show frP (dF (i, j)) = false
                rw [frP_of h1 h2]; simp; omega
              · rename_i h5
                refine go ?_
                simp [T_has_rows_1, g_MOST_NUMBER, dF]
                rw [if_neg (by omega), if_neg (by omega)]
                refine hN _ _ ⟨rfl, ⟨pre ++ [.tup [dF (i, j), v]], by rw [hpre]; simp, ?_⟩, _, rfl⟩
                rw [List.all_append, hall]
                simp
                show frP (dF (i, j)) = true
                rw [frP_of h1 h2]
                simp; omega
        | _ => simp [FB_has_rows_1, isTy, *]; exact no rfl
      · rintro e m' ⟨rfl, ⟨pre, hpre, hall⟩, x1, rfl⟩
        simp at hpre; subst hpre
        refine ⟨trivial, go ?_⟩
        simp [T_has_rows_2]
        intro p hp
        have hrow : ∀ y ∈ xs, ∃ (q : Int × Int) (v : D), y = .tup [dF q, v] ∧ 0 < q.2 ∧ Sm 30 q.1 ∧ Sm 30 q.2 := by
          intro y hy
          have hb := List.all_eq_true.mp hall y hy
          obtain ⟨m2, rfl, hk⟩ := (hx y hy).kd
          cases hk with
          | tup zs hzl hz =>
            match zs, hz, hb with
            | [], _, hb => cases hb
            | [_], _, hb => cases hb
            | _ :: _ :: _ :: r, _, hb => cases hb
            | [u, v], hz, hb =>
              obtain ⟨i, j, rfl, h1, h2, h3, h4⟩ := frB_e (hz u (by simp)) (frP_B hb)
              exact ⟨(i, j), v, rfl, h1, ⟨h3⟩, ⟨h4⟩⟩
          | _ => cases hb
        have hmap : xs.map rowF = (xs.map fun r => frQ (rowF r)).map dF := by
          rw [List.map_map]
          apply List.map_congr_left
          intro y hy
          obtain ⟨q, v, rfl, -⟩ := hrow y hy
          rfl
        refine comp_map rowF (fun _ => True) (fun _ _ _ => trivial) (fun _ _ => trivial) _ [] _ ?_ ?_ set_same trivial ?_
        · intro y hy m T _ hT
          obtain ⟨q, v, rfl, -⟩ := hrow y hy
          simp [CE_has_rows_1]
          exact hT
        · have := sizeLine_ge; simp; omega
        · rw [set_set, List.nil_append]
          refine ⟨p, xs.map fun r => frQ (rowF r), rfl, by rw [set_same, hmap], by simp; omega, ?_, ?_⟩
          · intro q hq
            obtain ⟨y, hy, rfl⟩ := List.mem_map.mp hq
            obtain ⟨q, v, rfl, h1, h2, h3⟩ := hrow y hy
            exact ⟨h1, h2, h3⟩
          · simp only [eC_s]
            refine cEq_pl rfl rfl (by simp [dF, dpt, dpts]) (by simp [g_ONE, dpt, dpts]) ?_
            unfold rowsL at hq
            rw [hall] at hq
            have : xs.isEmpty = false := by simpa using hx0
            rw [this] at hq
            simp at hq
            obtain ⟨M0, l, q⟩ := hq
            refine ⟨M0, l.fresh' hp, ?_⟩
            have he : (dF (tot (xs.map fun r => frQ (rowF r))) = g_ONE) ↔ tot (xs.map fun r => frQ (rowF r)) = (1, 1) := by
              generalize tot (xs.map fun r => frQ (rowF r)) = t
              obtain ⟨t1, t2⟩ := t
              simp [dF, g_ONE]
            simp only [he]
            exact q
  | _ => simp [B_has_rows, isTy, *]; exact hq
/-! ## bodies -/
theorem isB_s {ns : List Str} {n : Nat} {t : Str} {r : List D} : isB ns (n + 1) (.tup (.str t :: r)) = (if t = "end" ∨ t = "stop" then r.isEmpty
    else if t = "tell" ∨ t = "call" then (match r with
      | [x, b] => nmD x && ((decide (t ≠ "call") || inN ns x) && isB ns n b)
      | _ => false)
    else if t = "draw" then (match r with
      | [.tup xs] => rowsL xs && xs.all fun x => isB ns n (rowI x)
      | _ => false)
    else false) := rfl
theorem isB_o {ns : List Str} {n : Nat} {d : D} (h : ∀ t r, d ≠ .tup (.str t :: r)) : isB ns n d = false := by
  unfold isB
  split
  · rfl
  · exact absurd rfl (h _ _)
  · rfl
theorem szs_append (xs ys : List D) : szs (xs ++ ys) = szs xs + szs ys := by
  induction xs with
  | nil => simp [szs]
  | cons x xs ih => simp [szs, ih]; omega
theorem sz_pos (d : D) : 1 ≤ sz d := by cases d <;> simp [sz]
theorem szs_len (xs : List D) : xs.length ≤ szs xs := by
  induction xs with
  | nil => simp [szs]
  | cons x xs ih => have := sz_pos x; simp [szs]; omega
theorem kvN_lk (ns : List Str) (s : Str) : (lk (kvN ns) (.inr s)).isSome = decide (s ∈ ns) := by
  induction ns with
  | nil => rfl
  | cons n ns ih =>
    unfold kvN at ih ⊢
    simp only [List.map_cons, lk]
    by_cases h : n = s
    · subst h; simp
    · have : ¬ (Sum.inr n : Key) = Sum.inr s := fun e => h (Sum.inr.inj e)
      rw [if_neg this, ih]
      simp [Ne.symm h]
def bodE (x : D) (p z : Addr) (x3 x4 : Option D) : Ev := [some x, some (.ref p), some (.ref z), x3, x4]
def BodW (M : Sto) (x : D) (p z : Addr) (ns : List Str) (n : Nat) (m : Nat) (env : Ev) (M' : Sto) : Prop :=
  ∃ (its : List (Nat × D)) (x3 x4 : Option D), env = bodE x p z x3 x4 ∧ Le M M' ∧ M' z = some (.lst (its.map Prod.snd)) ∧ (∀ it ∈ its, Vd M 50 it.1 it.2) ∧ szs (its.map Prod.snd) = m ∧ m ≤ 1000000 ∧ (its.all fun it => isB ns it.1 it.2) = isB ns n x
theorem ob_is_body : ∀ E ds M Q, S_is_body E ds M Q → B_is_body E (endsL Q) (start 5 ds) M := by
  intro E ds M Q h
  obtain ⟨x, y, rfl, n, p, ns, hv, hsz, rfl, hp, hq⟩ := fn2_e h
  simp [B_is_body]
  intro z hz
  have hpz : p ≠ z := ne_of hp hz
  refine go ?_
  simp
  refine ⟨BodW M x p z ns n, ⟨sz x, [(n, x)], none, none, rfl, Le.refl.fresh hz, set_same, ?_, ?_, hsz, ?_⟩, ?_⟩
  · intro it hit; simp at hit; subst hit; exact hv
  · simp [szs]
  · simp
  rintro m env M' ⟨its, x3, x4, rfl, hl, ez, hvd, hm, hm', hall⟩
  have hszl := sizeLine_ge
  simp [WC_is_body_1, bodE, ez]
  rcases List.eq_nil_or_concat its with rfl | ⟨its, it, rfl⟩
  · simp
    simp at hall
    refine go ?_
    simp [T_is_body_3]
    exact ⟨M, hl, by rw [← hall]; exact hq⟩
  · obtain ⟨k, d⟩ := it
    simp at hvd hm hall ez ⊢
    simp [WB_is_body_1, ez]
    have hit := hvd k d (.inr ⟨rfl, rfl⟩)
    have hl1 : Le M (M'.set z (.lst (its.map Prod.snd))) := hl.fresh hz
    have ez1 : (M'.set z (.lst (its.map Prod.snd))) z = some (.lst (its.map Prod.snd)) := set_same
    generalize M'.set z (.lst (its.map Prod.snd)) = M1 at hl1 ez1 ⊢
    have bad : isB ns k d = false → ∃ M0, Le M0 M1 ∧ Q (.bl false) M0 := by
      intro hb
      rw [hb] at hall
      simp at hall
      exact ⟨M, hl1, by rw [← hall]; exact hq⟩
    rw [szs_append] at hm
    simp [szs] at hm
    have hd1 := sz_pos d
    -- what is left
    have nxt : ∀ (new : List (Nat × D)) (M2 : Sto) (x3 x4 : Option D), Le M M2 → M2 z = some (.lst (its.map Prod.snd ++ new.map Prod.snd)) → (∀ it ∈ new, Vd M 50 it.1 it.2) → szs (new.map Prod.snd) < sz d →
        isB ns k d = (new.all fun it => isB ns it.1 it.2) → ∃ m', m' < m ∧ BodW M x p z ns n m' (bodE x p z x3 x4) M2 := by
      intro new M2 x3 x4 h1 h2 h3 h4 h5
      refine ⟨_, ?_, its ++ new, x3, x4, rfl, h1, by rw [h2]; simp, ?_, rfl, ?_, ?_⟩
      · simp [szs_append]; omega
      · intro it hit
        rcases List.mem_append.mp hit with h | h
        · exact hvd _ _ (.inl h)
        · exact h3 _ h
      · simp [szs_append]; omega
      · rw [List.all_append, ← h5]; exact hall
    obtain ⟨k, rfl, hk⟩ := hit.kd
    refine go ?_
    cases hk with
    | tup zs hzl hzv =>
      match zs, hzl, hzv with
      | [], _, _ => simp [isTy]; exact bad (isB_o fun t r h => by cases h)
      | u :: r, hzl, hzv =>
        have hkM1 : Kd M1 50 (k) (.tup (u :: r)) := .tup _ hzl fun x hx => (hzv x hx).le hl1
        have hu := (hzv u (.head _)).le hl1
        simp [isTy]
        obtain ⟨k, rfl, hku⟩ := hu.kd
        cases hku with
        | str t ht =>
          simp
          refine go ?_
          have hB := isB_s (ns := ns) (n := k + 1) (t := t) (r := r)
          have fl : ∀ m' : Prop, True := fun _ => trivial
          simp [T_is_body_2, flat, eqF]
          by_cases h1 : t = "end" ∨ t = "stop"
          · rw [if_pos h1] at hB
            rw [if_pos (by rcases h1 with h | h; exact .inl h.symm; exact .inr h.symm)]
            cases r with
            | nil =>
              simp
              exact nxt [] M1 _ _ hl1 (by simpa using ez1) (by simp) (by simp [szs]; omega) (by rw [hB]; rfl)
            | cons v r =>
              simp
              rw [if_neg (by omega)]
              exact bad hB
          · rw [if_neg h1] at hB
            rw [if_neg (fun h => h1 (by rcases h with h | h; exact .inl h.symm; exact .inr h.symm))]
            by_cases h2 : t = "tell" ∨ t = "call"
            · rw [if_pos h2] at hB
              rw [if_pos (by rcases h2 with h | h; exact .inl h.symm; exact .inr h.symm)]
              match r, hB, hzv, bad, nxt with
              | [], hB, _, bad, _ => simp; exact bad hB
              | [_], hB, _, bad, _ => simp; exact bad hB
              | _ :: _ :: _ :: _, hB, _, bad, _ => simp; rw [if_neg (by omega)]; exact bad hB
              | [v, w], hB, hzv, bad, nxt =>
                have hv' := (hzv v (by simp)).le hl1
                simp at hB
                simp
                refine vd_i hv' ?_
                simp
                cases hnv : nmD v with
                | false => simp; exact bad (by rw [hB, hnv]; rfl)
                | true =>
                  obtain ⟨w', rfl⟩ : ∃ w', v = .str w' := by cases v <;> first | exact ⟨_, rfl⟩ | cases hnv
                  have hin : (Le M M1) := hl1
                  simp [hl1 _ _ hp, kvN_lk]
                  have app : isB ns (k + 2) (.tup [.str t, .str w', w]) = isB ns (k + 1) w → K (T_is_body_1 E { nx := fun e M' => ∃ m', m' < m ∧ BodW M x p z ns n m' e M', rt := (endsL Q).rt, bk := K (T_is_body_3 E (endsL Q)), ct := fun e M' => ∃ m', m' < m ∧ BodW M x p z ns n m' e M' })
                      [some x, some (D.ref p), some (D.ref z), some (D.tup [.str t, .str w', w]), x4] M1 := by
                    intro he
                    refine go ?_
                    simp [T_is_body_1, ez1]
                    have hlen : its.length ≤ 1000000 := by have := szs_len (its.map Prod.snd); simp at this; omega
                    have hszl2 : 2000000 ≤ sizeLine := by decide
                    refine ⟨by omega, nxt [(k + 1, w)] _ _ _ (hl1.fresh hz) (by rw [set_same]; simp) (by intro it h; simp at h; subst h; exact hzv w (by simp)) (by simp [szs, sz]; omega) (by simp [he])⟩
                  split
                  · rename_i hc
                    split
                    · rename_i hw
                      exact app (by rw [hB, hnv]; simp [inN, hw])
                    · rename_i hw
                      exact bad (by rw [hB]; simp [inN, hw, hc])
                  · rename_i hc
                    exact app (by rw [hB, hnv]; simp [hc])
            · rw [if_neg h2] at hB
              rw [if_neg (fun h => h2 (by rcases h with h | h; exact .inl h.symm; exact .inr h.symm))]
              by_cases h3 : t = "draw"
              · subst h3
                rw [if_pos rfl] at hB
                match r, hB, hzv, bad, nxt with
                | [], hB, _, bad, _ => simp; exact bad hB
                | v :: v2 :: r2, hB, _, bad, _ => simp; rw [if_neg (by omega)]; exact bad (by rw [hB]; cases v <;> rfl)
                | [v], hB, hzv, bad, nxt =>
                  have hv' := (hzv v (by simp)).le hl1
                  simp
                  refine ⟨⟨_, hv'⟩, ?_⟩
                  simp
                  cases hrb : rowsB v with
                  | false =>
                    simp
                    refine bad ?_
                    rw [hB]
                    cases v <;> first | rfl | (simp [rowsB] at hrb; simp [hrb])
                  | true =>
                    obtain ⟨xs, rfl⟩ : ∃ xs, v = .tup xs := by cases v <;> first | exact ⟨_, rfl⟩ | cases hrb
                    simp [rowsB] at hrb
                    simp [ez1]
                    intro w hw
                    have hwz : w ≠ z := fun e => by rw [e, ez1] at hw; cases hw
                    have hrl : xs.all rowB = true := by
                      unfold rowsL at hrb; simp at hrb; simp; exact hrb.2.1
                    have hrow : ∀ y ∈ xs, ∃ (f : D) (b : D), y = .tup [f, b] := by
                      intro y hy
                      have hb := List.all_eq_true.mp hrl y hy
                      cases y with
                      | tup zs => match zs, hb with
                        | [u, v], _ => exact ⟨u, v, rfl⟩
                        | [], hb => cases hb
                        | [_], hb => cases hb
                        | _ :: _ :: _ :: _, hb => cases hb
                      | _ => cases hb
                    have hk50 : xs.length ≤ 50 ∧ ∀ y ∈ xs, Vd M 50 k y := by
                      obtain ⟨m9, e9, hk9⟩ := (hzv (.tup xs) (by simp)).kd
                      cases e9
                      cases hk9 with
                      | tup _ h1 h2 => exact ⟨h1, h2⟩
                    have hlen : its.length ≤ 1000000 := by have := szs_len (its.map Prod.snd); simp at this; omega
                    have hszl2 : 2000000 ≤ sizeLine := by decide
                    refine comp_map rowI (fun m9 => m9 z = some (.lst (its.map Prod.snd))) (fun m9 o h => by rw [set_ne hwz.symm]; exact h) (fun _ _ => trivial) _ [] _ ?_ ?_ set_same (by rw [set_ne hwz.symm]; exact ez1) ?_
                    · intro y hy m T _ hT
                      obtain ⟨f, b, rfl⟩ := hrow y hy
                      simp [CE_is_body_1]
                      exact hT
                    · simp; omega
                    · rw [set_set, set_ne hwz.symm, ez1, set_same, List.nil_append]
                      simp
                      refine ⟨by omega, nxt (xs.map fun y => (k + 1, rowI y)) _ _ _ ((hl1.fresh' hw).fresh hz) ?_ ?_ ?_ ?_⟩
                      · rw [set_same]; simp
                      · intro it hit
                        obtain ⟨y, hy, rfl⟩ := List.mem_map.mp hit
                        obtain ⟨f, b, rfl⟩ := hrow y hy
                        obtain ⟨m9, e9, hk9⟩ := (hk50.2 _ hy).kd
                        subst e9
                        cases hk9 with
                        | tup _ h1 h2 => exact (h2 b (by simp)).up (by omega)
                      · have : ∀ ys : List D, (∀ y ∈ ys, ∃ (f : D) (b : D), y = .tup [f, b]) → szs (ys.map rowI) ≤ szs ys := by
                          intro ys
                          induction ys with
                          | nil => intro _; simp [szs]
                          | cons y ys ih =>
                            intro h
                            obtain ⟨f, b, rfl⟩ := h y (.head _)
                            have := ih fun y hy => h y (.tail _ hy)
                            simp [szs, sz, rowI]; omega
                        have := this xs hrow
                        simp [szs, sz]
                        rw [show (List.map (Prod.snd ∘ fun y => (k + 1, rowI y)) xs) = xs.map rowI from rfl]
                        omega
                      · rw [hB]
                        simp [hrb, List.all_map]
                        rfl
              · rw [if_neg h3] at hB
                simp [h3]
                exact bad hB
        | bl _ => simp; exact bad (isB_o fun t r h => by cases h)
        | non => simp; exact bad (isB_o fun t r h => by cases h)
        | int _ _ => simp; exact bad (isB_o fun t r h => by cases h)
        | tup _ _ _ => simp; exact bad (isB_o fun t r h => by cases h)
        | ref a xs ha => simp [ha]; exact bad (isB_o fun t r h => by cases h)
    | bl _ => simp [isTy]; exact bad (isB_o fun t r h => by cases h)
    | non => simp [isTy]; exact bad (isB_o fun t r h => by cases h)
    | int _ _ => simp [isTy]; exact bad (isB_o fun t r h => by cases h)
    | str _ _ => simp [isTy]; exact bad (isB_o fun t r h => by cases h)
    | ref a xs ha => simp [isTy, hl1 _ _ ha]; exact bad (isB_o fun t r h => by cases h)
/-! ## the law's own looking -/
theorem no_law_is_body : ∀ E ds M Q, ¬ S_law_is_body 0 E ds M Q := by
  intro E ds M Q h
  obtain ⟨x, y, rfl, p, ns, hv, rfl, hp, hq⟩ := fn2_e h
  exact hv
theorem any_strs (ns : List Str) (w : Str) : ((ns.map D.str).any fun z => eqF z (.str w)) = decide (w ∈ ns) := by
  induction ns with
  | nil => rfl
  | cons n ns ih => simp only [List.map_cons, List.any_cons, ih]; simp [eqF, eq_comm]
theorem all_flat (ns : List Str) : (ns.map D.str).all flat = true := by simp [flat]
theorem ob_law_is_body (n : Nat) : ∀ E ds M Q, S_law_is_body (n + 1) E ds M Q → B_law_is_body n E (endsL Q) (start 4 ds) M := by
  intro E ds M Q h
  obtain ⟨x, y, rfl, p, ns, hv, rfl, hp, hq⟩ := fn2_e h
  replace hq : ∃ M0, Le M0 M ∧ Q (.bl (isB ns (n + 1) x)) M0 := ⟨M, Le.refl, hq⟩
  have bad : isB ns (n + 1) x = false → ∃ M0, Le M0 M ∧ Q (.bl false) M0 := fun h => by rw [h] at hq; exact hq
  obtain ⟨k, e, hk⟩ := hv.kd
  cases e
  cases hk with
  | tup zs hzl hzv =>
    match zs, hzl, hzv with
    | [], _, _ => simp [B_law_is_body, isTy]; exact bad (isB_o fun t r h => by cases h)
    | u :: r, hzl, hzv =>
      have hu := hzv u (.head _)
      simp [B_law_is_body, isTy]
      obtain ⟨k, rfl, hku⟩ := hu.kd
      cases hku with
      | str t ht =>
        simp
        refine go ?_
        have hB := isB_s (ns := ns) (n := k + 1) (t := t) (r := r)
        simp [T_law_is_body_7]
        by_cases h1 : t = "end" ∨ t = "stop"
        · rw [if_pos h1] at hB
          have hq1 : ∃ M0, Le M0 M ∧ Q (D.bl (decide (((r.length : Int) + 1) = 1))) M0 := by
            rw [hB] at hq
            have : decide (((r.length : Int) + 1) = 1) = r.isEmpty := by cases r <;> simp; omega
            rw [this]; exact hq
          split
          · exact hq1
          · split
            · exact hq1
            · rename_i g1 g2
              exact absurd h1 (by simp [g1, g2])
        · have g1 : ¬ t = "end" := fun h => h1 (.inl h)
          have g2 : ¬ t = "stop" := fun h => h1 (.inr h)
          rw [if_neg h1] at hB
          rw [if_neg g1, if_neg g2]
          refine go ?_
          simp [T_law_is_body_6]
          by_cases h2 : t = "tell" ∨ t = "call"
          · rw [if_pos h2] at hB
            have main : (if (r.length : Int) + 1 = 3 then True else True) := by split <;> trivial
            match r, hB, hzv, bad, hq with
            | [], hB, _, bad, _ =>
              simp
              rcases h2 with rfl | rfl
              · simp; exact bad hB
              · simp; exact bad hB
            | [_], hB, _, bad, _ =>
              simp
              rcases h2 with rfl | rfl
              · simp; exact bad hB
              · simp; exact bad hB
            | _ :: _ :: _ :: _, hB, _, bad, _ =>
              simp
              rcases h2 with rfl | rfl
              · simp; rw [if_neg (by omega)]; exact bad hB
              · simp; rw [if_neg (by omega)]; exact bad hB
            | [v, w], hB, hzv, bad, hq =>
              have hv' := hzv v (by simp)
              have hw' := hzv w (by simp)
              simp at hB
              have rec_ : isB ns (k + 2) (.tup [.str t, v, w]) = isB ns (k + 1) w → ∀ N, K (T_law_is_body_1 (k + 1) E { nx := N, rt := (endsL Q).rt, bk := (endsL Q).bk, ct := (endsL Q).ct }) [some (.tup [.str t, v, w]), some (.ref p), none, none] M := by
                intro he N
                refine go ?_
                simp [T_law_is_body_1]
                rw [he] at hq
                exact ⟨p, ns, hw', rfl, hp, hq⟩
              have name : ∀ G : D → Sto → Prop, G (.bl (nmD v)) M → S_law_is_name E [v] M G := fun G hG => vd_i hv' hG
              rcases h2 with rfl | rfl
              · simp
                refine name _ ?_
                simp
                cases hnv : nmD v with
                | false => simp; exact bad (by rw [hB, hnv]; rfl)
                | true =>
                  simp
                  exact rec_ (by rw [hB, hnv]; simp) _
              · simp
                refine name _ ?_
                simp
                cases hnv : nmD v with
                | false => simp; exact bad (by rw [hB, hnv]; rfl)
                | true =>
                  obtain ⟨w', rfl⟩ : ∃ w', v = .str w' := by cases v <;> first | exact ⟨_, rfl⟩ | cases hnv
                  simp only [hp, if_true, inO_lst, any_strs, all_flat]
                  simp [flat]
                  split
                  · rename_i hw
                    exact rec_ (by rw [hB, hnv]; simp [inN, hw]) _
                  · rename_i hw
                    exact bad (by rw [hB]; simp [inN, hw])
          · rw [if_neg h2] at hB
            rw [if_neg (fun h => h2 (.inl h)), if_neg (fun h => h2 (.inr h))]
            refine go ?_
            simp [T_law_is_body_5]
            by_cases h3 : t = "draw"
            · subst h3
              rw [if_pos rfl] at hB
              simp
              match r, hB, hzv, bad, hq with
              | [], hB, _, bad, _ => simp; exact bad hB
              | v :: v2 :: r2, hB, _, bad, _ => simp; rw [if_neg (by omega)]; exact bad (by rw [hB]; cases v <;> rfl)
              | [v], hB, hzv, bad, hq =>
                have hv' := hzv v (by simp)
                simp
                obtain ⟨k2, e2, hkv⟩ := hv'.kd
                cases e2
                cases hkv with
                | tup xs hxl hxv =>
                  simp [isTy]
                  simp at hB
                  split
                  · rename_i hx0
                    exact bad (by rw [hB]; simp [rowsL, hx0])
                  · rename_i hx0
                    refine go ?_
                    simp [T_law_is_body_4]
                    refine go ?_
                    simp
                    refine for_ind (fun ys e m' => m' = M ∧ (∃ pre, xs = pre ++ ys ∧ pre.all rowB = true ∧ (pre.all fun x => isB ns (k + 1) (rowI x)) = true ∧ ∃ x3, e = [some (.tup [.str "draw", .tup xs]), some (.ref p), some (dF (tot (pre.map fun r => frQ (rowF r)))), x3] ∧
                      0 < (tot (pre.map fun r => frQ (rowF r))).2 ∧ Sm (31 * pre.length + 31) (tot (pre.map fun r => frQ (rowF r))).1 ∧ Sm (31 * pre.length + 31) (tot (pre.map fun r => frQ (rowF r))).2)) ?_ ?_ _ _ _
                      ⟨rfl, [], rfl, rfl, rfl, _, rfl, by decide, ⟨by decide⟩, ⟨by decide⟩⟩
                    · rintro y ys e m' ⟨rfl, pre, hpre, hall, hall2, x3, rfl, hf0, hf1, hf2⟩
                      have hy : y ∈ xs := by rw [hpre]; simp
                      have hpl : pre.length < 50 := by have := congrArg List.length hpre; simp at this; omega
                      have no : rowB y = false ∨ isB ns (k + 1) (rowI y) = false → ∃ M0, Le M0 m' ∧ Q (.bl false) M0 := by
                        intro h
                        refine bad ?_
                        rw [hB]
                        rcases h with h | h
                        · rw [rowsL_no hy h]; rfl
                        · have : (xs.all fun x => isB ns (k + 1) (rowI x)) = false := by
                            rw [Bool.eq_false_iff]; intro ht
                            have := List.all_eq_true.mp ht y hy
                            rw [h] at this; cases this
                          rw [this, Bool.and_false]
                      refine ⟨trivial, fun N hN => ?_⟩
                      obtain ⟨m2, e2, hk⟩ := (hxv y hy).kd
                      cases hk with
                      | tup zs hzl hz =>
                        match zs, hz, hy, no, hpre with
                        | [], _, hy, no, _ => simp [FB_law_is_body_1, isTy]; exact no (.inl rfl)
                        | [_], _, hy, no, _ => simp [FB_law_is_body_1, isTy]; exact no (.inl rfl)
                        | _ :: _ :: _ :: r, _, hy, no, _ => simp [FB_law_is_body_1, isTy]; rw [if_neg (by omega)]; exact no (.inl rfl)
                        | [u, v], hz, hy, no, hpre =>
                          have hu := hz u (by simp)
                          have hvv := hz v (by simp)
                          simp [FB_law_is_body_1, isTy]
                          refine vd_i hu ?_
                          simp
                          cases hfb : frP u with
                          | false => simp; exact no (.inl hfb)
                          | true =>
                            simp
                            refine ⟨p, ns, hvv.up (by omega), rfl, hp, ?_⟩
                            simp
                            cases hbb : isB ns (k + 1) v with
                            | false => simp; exact no (.inr hbb)
                            | true =>
                              simp
                              refine go ?_
                              obtain ⟨i, j, rfl, h1, h2, h3, h4⟩ := frB_e hu (frP_B hfb)
                              simp [T_law_is_body_2]
                              have hs1 := hf1.mul (n := 30) ⟨h4⟩
                              have hs2 := (⟨h3⟩ : Sm 30 i).mul hf2
                              have hs3 := hf2.mul (n := 30) ⟨h4⟩
                              have hd := Int.mul_pos hf0 h1
                              have ht : tot ((pre ++ [D.tup [dF (i, j), v]]).map fun r => frQ (rowF r)) = fr ((tot (pre.map fun r => frQ (rowF r))).1 * j + i * (tot (pre.map fun r => frQ (rowF r))).2) ((tot (pre.map fun r => frQ (rowF r))).2 * j) := by
                                unfold tot
                                rw [List.map_append, List.foldl_append]
                                rfl
                              refine ⟨_, (i, j), rfl, rfl, hf0, h1, hf1.mono (by omega), hf2.mono (by omega), ⟨Nat.lt_of_lt_of_le h3 (Nat.pow_le_pow_right (n := 2) (i := 30) (j := 4000) (by decide) (by omega))⟩, ⟨Nat.lt_of_lt_of_le h4 (Nat.pow_le_pow_right (n := 2) (i := 30) (j := 4000) (by decide) (by omega))⟩, ?_⟩
                              refine hN _ _ ⟨rfl, pre ++ [.tup [dF (i, j), v]], by rw [hpre]; simp, ?_, ?_, _, by rw [ht], ?_, ?_, ?_⟩
                              · rw [List.all_append, hall]; simp; exact hfb
                              · rw [List.all_append, hall2]; simp; exact hbb
                              · rw [ht]; exact Int.ediv_pos_of_pos_of_dvd hd (by omega) (Int.gcd_dvd_right ..)
                              · rw [ht]; exact Sm.of_le (fr_le _ hd).1 ((hs1.add hs2).mono (by simp; omega))
                              · rw [ht]; exact Sm.of_le (fr_le _ hd).2 (hs3.mono (by simp; omega))
                      | ref a xs ha => simp [FB_law_is_body_1, isTy, ha]; exact no (.inl rfl)
                      | _ => simp [FB_law_is_body_1, isTy]; exact no (.inl rfl)
                    · rintro e m' ⟨rfl, pre, hpre, hall, hall2, x3, rfl, hf0, hf1, hf2⟩
                      simp at hpre; subst hpre
                      refine ⟨trivial, go ?_⟩
                      simp [T_law_is_body_3]
                      refine go ?_
                      simp
                      refine cEq_pl rfl rfl (by simp [dF, dpt, dpts]) (by simp [dpt, dpts]) ?_
                      have : isB ns (k + 1 + 1) (.tup [.str "draw", .tup xs]) = decide (dF (tot (xs.map fun r => frQ (rowF r))) = .tup [.int 1, .int 1]) := by
                        rw [hB]
                        unfold rowsL
                        rw [hall, hall2]
                        have h0 : xs.isEmpty = false := by simpa using hx0
                        rw [h0]
                        generalize tot (xs.map fun r => frQ (rowF r)) = t
                        obtain ⟨t1, t2⟩ := t
                        simp [dF]
                      rw [← this]
                      exact hq
                | bl _ => simp [isTy]; exact bad (by rw [hB])
                | non => simp [isTy]; exact bad (by rw [hB])
                | int _ _ => simp [isTy]; exact bad (by rw [hB])
                | str _ _ => simp [isTy]; exact bad (by rw [hB])
                | ref a xs ha => simp [isTy, ha]; exact bad (by rw [hB])
            · rw [if_neg h3] at hB
              simp [h3]
              exact bad hB
      | bl _ => simp; exact bad (isB_o fun t r h => by cases h)
      | non => simp; exact bad (isB_o fun t r h => by cases h)
      | int _ _ => simp; exact bad (isB_o fun t r h => by cases h)
      | tup _ _ _ => simp; exact bad (isB_o fun t r h => by cases h)
      | ref a xs ha => simp [ha]; exact bad (isB_o fun t r h => by cases h)
  | bl _ => simp [B_law_is_body, isTy]; exact bad (isB_o fun t r h => by cases h)
  | non => simp [B_law_is_body, isTy]; exact bad (isB_o fun t r h => by cases h)
  | int _ _ => simp [B_law_is_body, isTy]; exact bad (isB_o fun t r h => by cases h)
  | str _ _ => simp [B_law_is_body, isTy]; exact bad (isB_o fun t r h => by cases h)
  | ref a xs ha => simp [B_law_is_body, isTy, ha]; exact bad (isB_o fun t r h => by cases h)
/-! ## programs -/
theorem prs_cons {s : Str} {b : D} {r : List D} {seen : List Str} (h1 : isNm s = true) (h2 : s ∉ seen) : prs (.tup [.str s, b] :: r) seen = (prs r (seen ++ [s])).map ((s, b) :: ·) := by
  rw [prs, if_pos ⟨h1, h2⟩]
theorem prs_no {y : D} {r : List D} {seen : List Str} (h : ∀ s b, y = .tup [.str s, b] → isNm s = true → s ∈ seen) : prs (y :: r) seen = none := by
  unfold prs
  split
  · rename_i hh; cases hh
  · rename_i hh
    injection hh with h1 h2
    subst h1; subst h2
    rw [if_neg]
    rintro ⟨h1, h2⟩
    exact h2 (h _ _ rfl h1)
  · rfl
theorem isP_no {n : Nat} {xs : List D} (h : prs xs [] = none) : isP n (.tup xs) = false := by simp [isP, h]
theorem kvN_ins {ns : List Str} {s : Str} (h : s ∉ ns) : ins (kvN ns) (.inr s) (.bl true) = kvN (ns ++ [s]) := by
  rw [ins_new]
  · simp [kvN]
  · simp [kvN, h]
theorem szs_mem {x : D} {xs : List D} (h : x ∈ xs) : sz x ≤ szs xs := by
  induction xs with
  | nil => cases h
  | cons y ys ih =>
    simp only [szs]
    rcases List.mem_cons.mp h with rfl | h
    · omega
    · have := ih h; omega
/-- what the loop over the rows has found -/
def prI (xs ys : List D) (pr : List (Str × D)) : Prop := xs = pr.map dProc ++ ys ∧ prs xs [] = (prs ys (pr.map Prod.fst)).map (pr ++ ·)
theorem prI_no {xs ys : List D} {y : D} {pr : List (Str × D)} (hi : prI xs (y :: ys) pr) (h : ∀ s b, y = .tup [.str s, b] → isNm s = true → s ∈ pr.map Prod.fst) (n : Nat) : isP n (.tup xs) = false := isP_no (by rw [hi.2, prs_no h]; rfl)
theorem prI_go {xs ys : List D} {s : Str} {b : D} {pr : List (Str × D)} (hi : prI xs (.tup [.str s, b] :: ys) pr) (h1 : isNm s = true) (h2 : s ∉ pr.map Prod.fst) : prI xs ys (pr ++ [(s, b)]) := by
  refine ⟨by rw [hi.1]; simp [dProc], ?_⟩
  rw [hi.2, prs_cons h1 h2]
  simp [Option.map_map, Function.comp_def]
theorem prI_end {xs : List D} {pr : List (Str × D)} (hi : prI xs [] pr) (h0 : xs ≠ []) (n : Nat) : xs = pr.map dProc ∧ isP n (.tup xs) = pr.all fun r => isB (pr.map Prod.fst) n r.2 := by
  refine ⟨by simpa using hi.1, ?_⟩
  have h : prs xs [] = some pr := by rw [hi.2]; simp [prs]
  have h0 : xs.isEmpty = false := by simpa using h0
  simp only [isP, h, h0]; rfl
theorem ob_is_program : ∀ E ds M Q, S_is_program E ds M Q → B_is_program E (endsL Q) (start 5 ds) M := by
  intro E ds M Q h
  obtain ⟨x, rfl, hv, hsz, hq⟩ := fn1_e h
  replace hq : ∃ M0, Le M0 M ∧ Q (.bl (isP 40 x)) M0 := ⟨M, Le.refl, hq⟩
  obtain ⟨k, e, hk⟩ := hv.kd
  cases e
  cases hk with
  | tup xs hxl hxv =>
    by_cases hx0 : xs = []
    · subst hx0; simp [B_is_program, isTy]; exact hq
    · simp [B_is_program, isTy, hx0]
      refine go ?_
      simp [T_is_program_3]
      intro z hz
      refine go ?_
      simp
      refine for_ind (fun ys e m' => ∃ pr, prI xs ys pr ∧ Le M m' ∧ m' z = some (.dk (kvN (pr.map Prod.fst))) ∧ ∃ x2 x3 x4, e = [some (.tup xs), some (.ref z), x2, x3, x4]) ?_ ?_ _ _ _ ⟨[], ⟨rfl, by simp⟩, Le.refl.fresh hz, set_same, _, _, _, rfl⟩
      · rintro y ys e m ⟨pr, hi, hl, ez, x2, x3, x4, rfl⟩
        refine ⟨trivial, fun N hN => ?_⟩
        have hy : y ∈ xs := by rw [hi.1]; simp
        have hlp : pr.length < 50 := by have := congrArg List.length hi.1; simp at this; omega
        have no : (∀ s b, y = .tup [.str s, b] → isNm s = true → s ∈ pr.map Prod.fst) → ∃ M0, Le M0 m ∧ Q (.bl false) M0 := by
          intro h
          rw [prI_no hi h] at hq
          obtain ⟨M0, l, q⟩ := hq
          exact ⟨M0, l.trans hl, q⟩
        obtain ⟨m2, e2, hk⟩ := (hxv y hy).kd
        cases e2
        cases hk with
        | tup zs hzl hzv =>
          match zs, hzv, hi, hy, no with
          | [], _, _, _, no => simp [FB_is_program_1, isTy]; exact no (by simp)
          | [_], _, _, _, no => simp [FB_is_program_1, isTy]; exact no (by simp)
          | _ :: _ :: _ :: r, _, _, _, no => simp [FB_is_program_1, isTy]; rw [if_neg (by omega)]; exact no (by simp)
          | [u, v], hzv, hi, hy, no =>
            have hu := (hzv u (by simp)).le hl
            simp [FB_is_program_1, isTy]
            refine vd_i hu ?_
            simp
            cases hnu : nmD u with
            | false =>
              simp
              refine no fun s b h1 h2 => ?_
              simp at h1
              rw [h1.1] at hnu
              simp [nmD, h2] at hnu
            | true =>
              obtain ⟨w, rfl⟩ : ∃ w, u = .str w := by cases u <;> first | exact ⟨_, rfl⟩ | cases hnu
              simp only [ez, if_true, inO_dkS, kvN_lk]
              simp only [decide_eq_true_eq]
              split
              · rename_i hm
                refine no fun s b h1 h2 => ?_
                simp at h1
                rw [← h1.1]; simpa using hm
              · rename_i hm
                refine go ?_
                have hm' : w ∉ pr.map Prod.fst := by simpa using hm
                simp [T_is_program_1, ez]
                rw [kvN_ins hm']
                have hsl := sizeLine_ge
                refine ⟨by simp [kvN]; omega, hN _ _ ⟨pr ++ [(w, v)], prI_go hi hnu hm', hl.fresh hz, by rw [set_same]; simp, _, _, _, rfl⟩⟩
        | ref a xs' ha => simp [FB_is_program_1, isTy, hl _ _ ha]; exact no (by simp)
        | _ => simp [FB_is_program_1, isTy]; exact no (by simp)
      · rintro e m ⟨pr, hi, hl, ez, x2, x3, x4, rfl⟩
        refine ⟨trivial, go ?_⟩
        obtain ⟨rfl, hP⟩ := prI_end hi hx0 40
        rw [hP] at hq
        simp [T_is_program_2]
        refine go ?_
        simp
        intro w hw
        have hwz : w ≠ z := fun e => by rw [e, ez] at hw; cases hw
        have hwM : M w = none := by
          cases h : M w with
          | none => rfl
          | some o => rw [hl _ _ h] at hw; cases hw
        refine comp_map (fun d => .bl (isB (pr.map Prod.fst) 40 (rowI d))) (fun m9 => Le M m9 ∧ m9 z = some (.dk (kvN (pr.map Prod.fst)))) (fun m9 o h => ⟨h.1.fresh hwM, by rw [set_ne hwz.symm]; exact h.2⟩) (fun _ _ => trivial) _ [] _ ?_ ?_ set_same ⟨hl.fresh hwM, by rw [set_ne hwz.symm]; exact ez⟩ ?_
        · intro y hy m9 T h9 hT
          obtain ⟨r, hr, rfl⟩ := List.mem_map.mp hy
          have hrv : Vd M 50 40 r.2 := by
            obtain ⟨m2, e2, hk⟩ := (hxv _ hy).kd
            cases e2
            cases hk with
            | tup _ _ h => exact (h r.2 (by simp)).up (by omega)
          have hrs : sz r.2 ≤ 1000000 := by
            have := szs_mem hy
            simp [dProc, sz, szs] at this hsz; omega
          simp [dProc, CE_is_program_1]
          exact ⟨40, z, pr.map Prod.fst, hrv.le h9.1, hrs, rfl, h9.2, hT⟩
        · have := sizeLine_ge; simp at hxl ⊢; omega
        · rw [set_set, set_same, List.nil_append, lstO_lst, asBools_map, onBs_some]
          obtain ⟨M0, l, q⟩ := hq
          refine ⟨M0, (l.trans hl).fresh' hw, ?_⟩
          simpa [List.all_map, Function.comp_def, rowI, dProc] using q
  | ref a xs ha => simp [B_is_program, isTy, ha]; exact hq
  | _ => simp [B_is_program, isTy]; exact hq
theorem ob_law_is_program : ∀ E ds M Q, S_law_is_program E ds M Q → B_law_is_program E (endsL Q) (start 3 ds) M := by
  intro E ds M Q h
  obtain ⟨x, rfl, hv, hq⟩ := fn1_e h
  replace hq : ∃ M0, Le M0 M ∧ Q (.bl (isP 40 x)) M0 := ⟨M, Le.refl, hq⟩
  obtain ⟨k, e, hk⟩ := hv.kd
  cases e
  cases hk with
  | tup xs hxl hxv =>
    by_cases hx0 : xs = []
    · subst hx0; simp [B_law_is_program, isTy]; exact hq
    · simp [B_law_is_program, isTy, hx0]
      refine go ?_
      simp [T_law_is_program_3]
      intro z hz
      refine go ?_
      simp
      refine for_ind (fun ys e m' => ∃ pr, prI xs ys pr ∧ Le M m' ∧ m' z = some (.lst ((pr.map Prod.fst).map .str)) ∧ ∃ x2, e = [some (.tup xs), some (.ref z), x2]) ?_ ?_ _ _ _ ⟨[], ⟨rfl, by simp⟩, Le.refl.fresh hz, set_same, _, rfl⟩
      · rintro y ys e m ⟨pr, hi, hl, ez, x2, rfl⟩
        refine ⟨trivial, fun N hN => ?_⟩
        have hy : y ∈ xs := by rw [hi.1]; simp
        have hlp : pr.length < 50 := by have := congrArg List.length hi.1; simp at this; omega
        have no : (∀ s b, y = .tup [.str s, b] → isNm s = true → s ∈ pr.map Prod.fst) → ∃ M0, Le M0 m ∧ Q (.bl false) M0 := by
          intro h
          rw [prI_no hi h] at hq
          obtain ⟨M0, l, q⟩ := hq
          exact ⟨M0, l.trans hl, q⟩
        obtain ⟨m2, e2, hk⟩ := (hxv y hy).kd
        cases e2
        cases hk with
        | tup zs hzl hzv =>
          match zs, hzv, hi, hy, no with
          | [], _, _, _, no => simp [FB_law_is_program_1, isTy]; exact no (by simp)
          | [_], _, _, _, no => simp [FB_law_is_program_1, isTy]; exact no (by simp)
          | _ :: _ :: _ :: r, _, _, _, no => simp [FB_law_is_program_1, isTy]; rw [if_neg (by omega)]; exact no (by simp)
          | [u, v], hzv, hi, hy, no =>
            have hu := (hzv u (by simp)).le hl
            simp [FB_law_is_program_1, isTy]
            refine vd_i hu ?_
            simp
            cases hnu : nmD u with
            | false =>
              simp
              refine no fun s b h1 h2 => ?_
              simp at h1
              rw [h1.1] at hnu
              simp [nmD, h2] at hnu
            | true =>
              obtain ⟨w, rfl⟩ : ∃ w, u = .str w := by cases u <;> first | exact ⟨_, rfl⟩ | cases hnu
              simp only [ez, if_true, inO_lst, any_strs, all_flat]
              simp only [decide_eq_true_eq, flat, true_and]
              split
              · rename_i hm
                refine no fun s b h1 h2 => ?_
                simp at h1
                rw [← h1.1]; simpa using hm
              · rename_i hm
                refine go ?_
                have hm' : w ∉ pr.map Prod.fst := by simpa using hm
                simp [T_law_is_program_1, ez]
                have hsl := sizeLine_ge
                refine ⟨by omega, hN _ _ ⟨pr ++ [(w, v)], prI_go hi hnu hm', hl.fresh hz, by rw [set_same]; simp, _, rfl⟩⟩
        | ref a xs' ha => simp [FB_law_is_program_1, isTy, hl _ _ ha]; exact no (by simp)
        | _ => simp [FB_law_is_program_1, isTy]; exact no (by simp)
      · rintro e m ⟨pr, hi, hl, ez, x2, rfl⟩
        refine ⟨trivial, go ?_⟩
        obtain ⟨rfl, hP⟩ := prI_end hi hx0 40
        rw [hP] at hq
        simp [T_law_is_program_2]
        refine go ?_
        simp
        intro w hw
        have hwz : w ≠ z := fun e => by rw [e, ez] at hw; cases hw
        have hwM : M w = none := by
          cases h : M w with
          | none => rfl
          | some o => rw [hl _ _ h] at hw; cases hw
        refine comp_map (fun d => .bl (isB (pr.map Prod.fst) 40 (rowI d))) (fun m9 => Le M m9 ∧ m9 z = some (.lst ((pr.map Prod.fst).map .str))) (fun m9 o h => ⟨h.1.fresh hwM, by rw [set_ne hwz.symm]; exact h.2⟩) (fun _ _ => trivial) _ [] _ ?_ ?_ set_same ⟨hl.fresh hwM, by rw [set_ne hwz.symm]; exact ez⟩ ?_
        · intro y hy m9 T h9 hT
          obtain ⟨r, hr, rfl⟩ := List.mem_map.mp hy
          have hrv : Vd M 50 40 r.2 := by
            obtain ⟨m2, e2, hk⟩ := (hxv _ hy).kd
            cases e2
            cases hk with
            | tup _ _ h => exact (h r.2 (by simp)).up (by omega)
          simp [dProc, CE_law_is_program_1]
          exact ⟨z, pr.map Prod.fst, hrv.le h9.1, rfl, h9.2, hT⟩
        · have := sizeLine_ge; simp at hxl ⊢; omega
        · rw [set_set, set_same, List.nil_append, lstO_lst, asBools_map, onBs_some]
          obtain ⟨M0, l, q⟩ := hq
          refine ⟨M0, (l.trans hl).fresh' hw, ?_⟩
          simpa [List.all_map, Function.comp_def, rowI, dProc] using q
  | ref a xs ha => simp [B_law_is_program, isTy, ha]; exact hq
  | _ => simp [B_law_is_program, isTy]; exact hq
/-! ## spoilt ones -/
def okAtom : D → Bool
  | .non => true
  | .bl _ => true
  | .int i => decide (i.natAbs < 1000)
  | .str s => decide (s.length ≤ 50)
  | .tup [] => true
  | .tup [.str s] => decide (s.length ≤ 50)
  | .tup [.int i, .int j] => decide (i.natAbs < 1000 ∧ j.natAbs < 1000)
  | _ => false
theorem okAtom_vd {d : D} (h : okAtom d = true) (M : Sto) {L n : Nat} (hL : 2 ≤ L) : Vd M L (n + 2) d ∧ sz d ≤ 3 := by
  unfold okAtom at h
  split at h
  · exact ⟨.inl rfl, by simp [sz]⟩
  · exact ⟨.inr (.inl ⟨_, rfl⟩), by simp [sz]⟩
  · simp at h; exact ⟨.inr (.inr (.inl ⟨_, rfl, by omega⟩)), by simp [sz]⟩
  · simp at h; exact ⟨.inr (.inr (.inr (.inl ⟨_, rfl, by omega⟩))), by simp [sz]⟩
  · exact ⟨.inr (.inr (.inr (.inr (.inr ⟨[], rfl, by simp, by simp⟩)))), by simp [sz, szs]⟩
  · simp at h
    refine ⟨.inr (.inr (.inr (.inr (.inr ⟨_, rfl, by simp; omega, fun x hx => ?_⟩)))), by simp [sz, szs]⟩
    simp at hx; subst hx
    exact .inr (.inr (.inr (.inl ⟨_, rfl, by omega⟩)))
  · simp at h
    refine ⟨.inr (.inr (.inr (.inr (.inr ⟨_, rfl, by simp; omega, fun x hx => ?_⟩)))), by simp [sz, szs]⟩
    simp at hx
    rcases hx with rfl | rfl
    · exact .inr (.inr (.inl ⟨_, rfl, by omega⟩))
    · exact .inr (.inr (.inl ⟨_, rfl, by omega⟩))
  · cases h
theorem szs_take (xs : List D) (n : Nat) : szs (xs.take n) ≤ szs xs := by
  have := szs_append (xs.take n) (xs.drop n)
  rw [List.take_append_drop] at this; omega
theorem szs_drop (xs : List D) (n : Nat) : szs (xs.drop n) ≤ szs xs := by
  have := szs_append (xs.take n) (xs.drop n)
  rw [List.take_append_drop] at this; omega
theorem cut_mem {xs : List D} {lo hi : Option Int} {x : D} (h : x ∈ cut xs lo hi) : x ∈ xs := List.mem_of_mem_drop (List.mem_of_mem_take h)
theorem cut_szs (xs : List D) (lo hi : Option Int) : szs (cut xs lo hi) ≤ szs xs := Nat.le_trans (szs_take _ _) (szs_drop _ _)
theorem cut_len (xs : List D) (lo hi : Option Int) : (cut xs lo hi).length ≤ xs.length := by unfold cut; simp; omega
theorem szs_rev (xs : List D) : szs xs.reverse = szs xs := by
  induction xs with
  | nil => rfl
  | cons x xs ih => rw [List.reverse_cons, szs_append, ih]; simp [szs]; omega
theorem cut_last (xs : List D) : (cut xs (some (-1)) none).length ≤ 1 := by
  unfold cut HT.sIx; simp; omega
def atomsA : List D := [D.int 0, D.int 1, D.int 2, D.int 3, D.bl true, D.int (-1), D.non, D.tup [], D.str "end", D.tup [D.str "end"]]
def atomsB : List D := [.str "end", .str "stop", .str "tell", .str "call", .str "draw", .str "p", .str "q", .str "", .str "2p", .str "abcdefgh", .str "abcdefghi", .str "P", .str "a_", .int 0]
theorem Fr.lst {a b : Addr} {M M' : Sto} (f : Fr a b M M') (p : Addr) (xs : List D) (h : M p = some (.lst xs)) : ∃ ys, M' p = some (.lst ys) := by
  by_cases hp : p = a
  · subst hp
    obtain ⟨o, e, i, j, k, l, -, rfl⟩ := f.o
    exact ⟨_, e⟩
  · exact ⟨xs, f.l _ _ hp h⟩
theorem Vd.tup {M : Sto} {L n : Nat} {xs : List D} (h1 : xs.length ≤ L) (h2 : ∀ x ∈ xs, Vd M L n x) : Vd M L (n + 1) (.tup xs) := .inr (.inr (.inr (.inr (.inr ⟨xs, rfl, h1, h2⟩))))
theorem no_law_spoilt : ∀ E ds M Q, ¬ S_law_spoilt 0 E ds M Q := by
  intro E ds M Q h
  obtain ⟨c, v, rfl, a, b, L, k, rfl, hc, h2, hL, hk, hv, hq⟩ := fn2_e h
  obtain rfl : k = 0 := by omega
  exact hv
theorem ob_law_spoilt (n : Nat) : ∀ E ds M Q, S_law_spoilt (n + 1) E ds M Q → B_law_spoilt n E (endsL Q) (start 5 ds) M := by
  intro E ds M Q h
  obtain ⟨c, v, rfl, a, b, L, k, rfl, hc, h2, hL, hkn, hv, hq⟩ := fn2_e h
  have fin : ∀ d M', Vd M' (L + 1) (k + 2) d → sz d ≤ 2 * sz v + 20 → Fr a b M M' → ∃ M0, Le M0 M' ∧ Q d M0 := fun d M' h1 h2 h3 => ⟨M', Le.refl, hq d M' h1 h2 h3⟩
  have atom : ∀ d M', okAtom d = true → Fr a b M M' → ∃ M0, Le M0 M' ∧ Q d M0 := fun d M' h f => by
    have := okAtom_vd h M' (L := L + 1) (n := k) (by omega)
    exact fin d M' this.1 (by omega) f
  -- one of a list of such
  have pick : ∀ (l : List D) (G : D → Sto → Prop), l ≠ [] → l.length ≤ 100 → l.all okAtom = true → (∀ d M', okAtom d = true → Fr a b M M' → G d M') → ∀ p, M p = none →
      S_law_take E [.ref a, .int l.length] (M.set p (.lst l)) fun y M2 => subO (M2 p) y fun d => G d M2 := by
    intro l G h0 h1 h2 h3 p hp
    have hl : 0 < l.length := by cases l; exact absurd rfl h0; simp
    refine take_i (by omega) (by omega) (hc.fresh hp) fun d o d0 d1 hc1 => ?_
    rw [set_ne (hc.pa hp), set_same]
    obtain ⟨q, hm, he⟩ := atI_mem (xs := l) d0 d1
    simp [-atI_s, he]
    exact h3 q _ (List.all_eq_true.mp h2 q hm) ((hc.refl.fresh hp).set hc1)
  obtain ⟨k, rfl, hk⟩ := hv.kd
  simp [B_law_spoilt]
  have tail3 : (∀ s, v ≠ .str s) → T_law_spoilt_3 n E (endsL Q) [some (.ref a), some v, none, none, none] M := by
    intro hns
    have leaf : ∀ p, M p = none → S_law_take E [.ref a, .int 10] (M.set p (.lst [D.int 0, D.int 1, D.int 2, D.int 3, D.bl true, D.int (-1), D.non, D.tup [], D.str "end", D.tup [D.str "end"]])) fun y M2 => subO (M2 p) y fun d => ∃ M0, Le M0 M2 ∧ Q d M0 :=
      pick atomsA _ (by simp [atomsA]) (by simp [atomsA]) (by decide +kernel) atom
    cases hk with
    | non => simp [T_law_spoilt_3, isTy]; exact leaf
    | bl _ => simp [T_law_spoilt_3, isTy]; exact leaf
    | int _ _ => simp [T_law_spoilt_3, isTy]; exact leaf
    | str s _ => exact absurd rfl (hns s)
    | ref p xs hp => simp [T_law_spoilt_3, isTy, hp]; exact leaf
    | tup xs hxl hxv =>
      by_cases hx0 : xs = []
      · subst hx0; simp [T_law_spoilt_3, isTy]; exact leaf
      · simp [T_law_spoilt_3, isTy, hx0]
        refine go ?_
        simp [T_law_spoilt_2]
        refine take_i (by decide) (by decide) hc fun d o d0 d1 hc1 => ?_
        have f1 := hc.refl.set hc1
        generalize M.set a o = M1 at f1 ⊢
        simp
        split
        · refine ⟨by have := sizeLine_ge; have := cut_last xs; omega, fun q hq1 r hr => ?_⟩
          have f2 := (f1.fresh (o := .lst xs) hq1).fresh (o := .lst [D.tup (cut xs (some 1) none), D.tup (cut xs none (some (-1))), D.tup (xs ++ cut xs (some (-1)) none), D.tup xs.reverse, D.ref q, D.tup [D.str "end"], D.tup [D.str "stop"], D.tup [D.tup xs], D.tup [D.int 1, D.int 2], D.tup [D.int 2, D.int 4]]) hr
          have hra := f2.none (p := r)
          have hrq : r ≠ q := (set_none.mp hr).1
          have hra : r ≠ a := ((f1.fresh (o := .lst xs) hq1).none hr).1
          have hqa : q ≠ a := (f1.none hq1).1
          refine go ?_
          simp
          refine take_i (by decide) (by decide) (hc.fr f2) fun d2 o2 e0 e1 hc2 => ?_
          have f3 := f2.set hc2
          have er : (((M1.set q (.lst xs)).set r (.lst [D.tup (cut xs (some 1) none), D.tup (cut xs none (some (-1))), D.tup (xs ++ cut xs (some (-1)) none), D.tup xs.reverse, D.ref q, D.tup [D.str "end"], D.tup [D.str "stop"], D.tup [D.tup xs], D.tup [D.int 1, D.int 2], D.tup [D.int 2, D.int 4]])).set a o2) r = some (.lst [D.tup (cut xs (some 1) none), D.tup (cut xs none (some (-1))), D.tup (xs ++ cut xs (some (-1)) none), D.tup xs.reverse, D.ref q, D.tup [D.str "end"], D.tup [D.str "stop"], D.tup [D.tup xs], D.tup [D.int 1, D.int 2], D.tup [D.int 2, D.int 4]]) := by rw [set_ne hra, set_same]
          have eq' : (((M1.set q (.lst xs)).set r (.lst [D.tup (cut xs (some 1) none), D.tup (cut xs none (some (-1))), D.tup (xs ++ cut xs (some (-1)) none), D.tup xs.reverse, D.ref q, D.tup [D.str "end"], D.tup [D.str "stop"], D.tup [D.tup xs], D.tup [D.int 1, D.int 2], D.tup [D.int 2, D.int 4]])).set a o2) q = some (.lst xs) := by rw [set_ne hqa, set_ne hrq.symm, set_same]
          generalize (((M1.set q (.lst xs)).set r (.lst [D.tup (cut xs (some 1) none), D.tup (cut xs none (some (-1))), D.tup (xs ++ cut xs (some (-1)) none), D.tup xs.reverse, D.ref q, D.tup [D.str "end"], D.tup [D.str "stop"], D.tup [D.tup xs], D.tup [D.int 1, D.int 2], D.tup [D.int 2, D.int 4]])).set a o2) = M3 at f3 er eq' ⊢
          obtain ⟨g, hm, he⟩ := atI_mem (xs := [D.tup (cut xs (some 1) none), D.tup (cut xs none (some (-1))), D.tup (xs ++ cut xs (some (-1)) none), D.tup xs.reverse, D.ref q, D.tup [D.str "end"], D.tup [D.str "stop"], D.tup [D.tup xs], D.tup [D.int 1, D.int 2], D.tup [D.int 2, D.int 4]]) e0 e1
          simp [-atI_s, er, he]
          have hx3 : ∀ x ∈ xs, Vd M3 (L + 1) k x := fun x hx => (hxv x hx).to (by omega) f3.lst
          have hcl := cut_last xs
          simp at hm
          rcases hm with rfl | rfl | rfl | rfl | rfl | rfl | rfl | rfl | rfl | rfl
          · refine fin _ _ ((Vd.tup (by have := cut_len xs (some 1) none; omega) fun x hx => hx3 x (cut_mem hx)).up (by omega)) ?_ f3
            have := cut_szs xs (some 1) none
            simp [sz]; omega
          · refine fin _ _ ((Vd.tup (by have := cut_len xs none (some (-1)); omega) fun x hx => hx3 x (cut_mem hx)).up (by omega)) ?_ f3
            have := cut_szs xs none (some (-1))
            simp [sz]; omega
          · refine fin _ _ ((Vd.tup (n := k) (by simp; omega) fun x hx => ?_).up (by omega)) ?_ f3
            · rcases List.mem_append.mp hx with hx | hx
              · exact hx3 x hx
              · exact hx3 x (cut_mem hx)
            · have := cut_szs xs (some (-1)) none
              simp [sz, szs_append]; omega
          · refine fin _ _ ((Vd.tup (by simp; omega) fun x hx => hx3 x (by simpa using hx)).up (by omega)) ?_ f3
            simp [sz, szs_rev]; omega
          · refine fin _ _ (.inr (.inr (.inr (.inr (.inl ⟨_, _, rfl, eq'⟩))))) (by simp [sz]) f3
          · exact atom _ _ (by decide +kernel) f3
          · exact atom _ _ (by decide +kernel) f3
          · refine fin _ _ (Vd.tup (n := k + 2) (by simp) fun x hx => ?_) ?_ f3
            · simp at hx; subst hx
              exact (Vd.tup (by omega) hx3).up (by omega)
            · simp [sz, szs]; omega
          · exact atom _ _ (by decide +kernel) f3
          · exact atom _ _ (by decide +kernel) f3
        · refine go ?_
          simp [T_law_spoilt_1]
          have hl0 : 0 < xs.length := List.length_pos_iff.mpr hx0
          refine take_i (by omega) (by omega) (hc.fr f1) fun d2 o2 e0 e1 hc2 => ?_
          have f2 := f1.set hc2
          generalize M1.set a o2 = M2 at f2 ⊢
          refine go ?_
          obtain ⟨i, rfl⟩ := Int.eq_ofNat_of_zero_le e0
          have hi : i < xs.length := by omega
          have hxi := hxv xs[i] (List.getElem_mem _)
          simp [hi]
          have c1 : cut xs none (some (i : Int)) = xs.take i := by rw [cut_to _ (by omega)]; rfl
          have c2 : cut xs (some ((i : Int) + 1)) none = xs.drop (i + 1) := by rw [cut_from _ (by omega)]; rfl
          refine ⟨a, b, L, k, rfl, hc.fr f2, h2, hL, by omega, hxi.to (Nat.le_refl _) f2.lst, fun g M3 hg hs hf => ?_⟩
          have f3 := f2.trans hf
          have hx3 : ∀ x ∈ xs, Vd M3 (L + 1) k x := fun x hx => (hxv x hx).to (by omega) f3.lst
          rw [c1, c2]
          have hsl := sizeLine_ge
          simp
          refine ⟨by omega, by omega, fin _ _ (Vd.tup (by simp; omega) fun x hx => ?_) ?_ f3⟩
          · rcases List.mem_append.mp hx with hx | hx
            · exact (hx3 x (List.mem_of_mem_take hx)).up (by omega)
            · rcases List.mem_cons.mp hx with rfl | hx
              · exact hg
              · exact (hx3 x (List.mem_of_mem_drop hx)).up (by omega)
          · have e1 : xs = xs.take i ++ xs[i] :: xs.drop (i + 1) := by simp
            have e2 : szs xs = szs (xs.take i) + (sz xs[i] + szs (xs.drop (i + 1))) := by
              conv => lhs; rw [e1]
              rw [szs_append]; rfl
            simp [sz, szs_append, szs]; omega
  cases hk with
  | str s hs =>
    simp [isTy]
    intro p hp
    refine go ?_
    simp
    exact pick atomsB _ (by simp [atomsB]) (by simp [atomsB]) (by decide +kernel) atom p hp
  | ref p xs hp => simp [isTy, hp]; exact go (tail3 (by simp))
  | _ => simp [isTy]; exact go (tail3 (by simp))
/-! ## the law -/
theorem isB_up {ns : List Str} : ∀ {n : Nat} {d : D}, isB ns n d = true → isB ns (n + 1) d = true
  | 0, d, h => by cases h
  | n + 1, d, h => by
    by_cases hd : ∃ t r, d = .tup (.str t :: r)
    · obtain ⟨t, r, rfl⟩ := hd
      rw [isB_s] at h ⊢
      by_cases h1 : t = "end" ∨ t = "stop"
      · rw [if_pos h1] at h ⊢; exact h
      · rw [if_neg h1] at h ⊢
        by_cases h2 : t = "tell" ∨ t = "call"
        · rw [if_pos h2] at h ⊢
          match r, h with
          | [x, b], h =>
            simp only [Bool.and_eq_true] at h ⊢
            exact ⟨h.1, h.2.1, isB_up h.2.2⟩
          | [], h => cases h
          | [_], h => cases h
          | _ :: _ :: _ :: _, h => cases h
        · rw [if_neg h2] at h ⊢
          by_cases h3 : t = "draw"
          · rw [if_pos h3] at h ⊢
            match r, h with
            | [], h => cases h
            | x :: y :: z, h => cases x <;> cases h
            | [x], h =>
              cases x with
              | tup xs =>
                simp only [Bool.and_eq_true, List.all_eq_true] at h ⊢
                exact ⟨h.1, fun x hx => isB_up (h.2 x hx)⟩
              | _ => cases h
          · rw [if_neg h3] at h; cases h
    · rw [isB_o fun t r e => hd ⟨t, r, e⟩] at h; cases h
theorem isB_le {ns : List Str} {m n : Nat} {d : D} (h : isB ns m d = true) (hl : m ≤ n) : isB ns n d = true := by
  induction hl with
  | refl => exact h
  | step _ ih => exact isB_up ih
theorem cuts_rows : ∀ l ∈ cuts, l ≠ [] ∧ l.length ≤ 3 ∧ (∀ r ∈ l, frP (dF r) = true ∧ r.1.natAbs < 1073741824 ∧ r.2.natAbs < 1073741824) ∧ tot l = (1, 1) := by decide +kernel
theorem rows_cut {rs : List ((Int × Int) × D)} (h : rs.map Prod.fst ∈ cuts) : rowsL (rs.map dRow) = true := by
  have hc := cuts_rows _ h
  unfold rowsL
  have e1 : (rs.map dRow).isEmpty = false := by
    cases rs with
    | nil => exact absurd rfl hc.1
    | cons _ _ => rfl
  have e2 : (rs.map dRow).all rowB = true := by
    rw [List.all_eq_true]
    intro x hx
    obtain ⟨r, hr, rfl⟩ := List.mem_map.mp hx
    exact (hc.2.2.1 r.1 (List.mem_map.mpr ⟨r, hr, rfl⟩)).1
  have e3 : (rs.map dRow).map (fun r => frQ (rowF r)) = rs.map Prod.fst := by
    rw [List.map_map]; rfl
  rw [e1, e2, e3, hc.2.2.2]; rfl
theorem wb_isB {ns ls : List Str} (hn : ∀ s ∈ ns, isNm s = true) (hl : ∀ s ∈ ls, isNm s = true) : ∀ {n : Nat} {d : D}, WB ns ls n d → isB ns (n + 1) d = true
  | 0, d, h => by
    rcases h with rfl | rfl
    · rw [isB_s]; simp
    · rw [isB_s]; simp
  | n + 1, d, h => by
    rcases h with rfl | rfl | ⟨s, b, h1, rfl, h3⟩ | ⟨s, b, h1, rfl, h3⟩ | ⟨rs, h1, rfl, h3⟩
    · rw [isB_s]; simp
    · rw [isB_s]; simp
    · rw [isB_s]; simp; exact ⟨hl s h1, wb_isB hn hl h3⟩
    · rw [isB_s]; simp; exact ⟨hn s h1, by simp [inN, h1], wb_isB hn hl h3⟩
    · rw [isB_s]; simp
      exact ⟨rows_cut h1, fun a b c hm => wb_isB hn hl (h3 _ hm)⟩
theorem Vd.str {M : Sto} {L n : Nat} {s : Str} (h : s.length ≤ 100) : Vd M L (n + 1) (.str s) := .inr (.inr (.inr (.inl ⟨s, rfl, h⟩)))
theorem Vd.int {M : Sto} {L n : Nat} {i : Int} (h : i.natAbs < 1073741824) : Vd M L (n + 1) (.int i) := .inr (.inr (.inl ⟨i, rfl, h⟩))
theorem wb_vd {M : Sto} {ns ls : List Str} (hn : ∀ s ∈ ns, s.length ≤ 100) (hl : ∀ s ∈ ls, s.length ≤ 100) : ∀ {n : Nat} {d : D}, WB ns ls n d → Vd M 10 (3 * n + 2) d
  | 0, d, h => by
    rcases h with rfl | rfl
    · exact Vd.tup (by simp) fun x hx => by simp at hx; subst hx; exact .str (by decide +kernel)
    · exact Vd.tup (by simp) fun x hx => by simp at hx; subst hx; exact .str (by decide +kernel)
  | n + 1, d, h => by
    rcases h with rfl | rfl | ⟨s, b, h1, rfl, h3⟩ | ⟨s, b, h1, rfl, h3⟩ | ⟨rs, h1, rfl, h3⟩
    · exact Vd.tup (by simp) fun x hx => by simp at hx; subst hx; exact .str (by decide +kernel)
    · exact Vd.tup (by simp) fun x hx => by simp at hx; subst hx; exact .str (by decide +kernel)
    · refine Vd.tup (n := 3 * n + 4) (by simp) fun x hx => ?_
      simp at hx
      rcases hx with rfl | rfl | rfl
      · exact .str (by decide +kernel)
      · exact .str (hl s h1)
      · exact (wb_vd hn hl h3).up (by omega)
    · refine Vd.tup (n := 3 * n + 4) (by simp) fun x hx => ?_
      simp at hx
      rcases hx with rfl | rfl | rfl
      · exact .str (by decide +kernel)
      · exact .str (hn s h1)
      · exact (wb_vd hn hl h3).up (by omega)
    · have hc := cuts_rows _ h1
      refine Vd.tup (n := 3 * n + 4) (by simp) fun x hx => ?_
      simp at hx
      rcases hx with rfl | rfl
      · exact .str (by decide +kernel)
      · refine Vd.tup (n := 3 * n + 3) (by have := hc.2.1; simp at this ⊢; omega) fun x hx => ?_
        obtain ⟨r, hr, rfl⟩ := List.mem_map.mp hx
        refine Vd.tup (n := 3 * n + 2) (by simp) fun x hx => ?_
        simp at hx
        rcases hx with rfl | rfl
        · have := hc.2.2.1 r.1 (List.mem_map.mpr ⟨r, hr, rfl⟩)
          refine Vd.tup (n := 3 * n + 1) (by simp) fun x hx => ?_
          simp at hx
          rcases hx with rfl | rfl
          · exact .int this.2.1
          · exact .int this.2.2
        · exact wb_vd hn hl (h3 r hr)
theorem wb_sz {ns ls : List Str} : ∀ {n : Nat} {d : D}, WB ns ls n d → sz d ≤ 30 * 4 ^ n
  | 0, d, h => by rcases h with rfl | rfl <;> simp [sz, szs]
  | n + 1, d, h => by
    have h4 : 0 < 4 ^ n := Nat.pow_pos (by decide)
    rw [Nat.pow_succ]
    rcases h with rfl | rfl | ⟨s, b, h1, rfl, h3⟩ | ⟨s, b, h1, rfl, h3⟩ | ⟨rs, h1, rfl, h3⟩
    · simp [sz, szs]; omega
    · simp [sz, szs]; omega
    · have := wb_sz h3; simp [sz, szs]; omega
    · have := wb_sz h3; simp [sz, szs]; omega
    · have hc := (cuts_rows _ h1).2.1
      have : ∀ qs : List ((Int × Int) × D), (∀ r ∈ qs, WB ns ls n r.2) → szs (qs.map dRow) ≤ qs.length * (5 + 30 * 4 ^ n) := by
        intro qs
        induction qs with
        | nil => intro _; simp [szs]
        | cons q qs ih =>
          intro h
          have h1 := wb_sz (h q (.head _))
          have h2 := ih fun r hr => h r (.tail _ hr)
          have h3 : sz (dRow q) = 4 + sz q.2 := by simp [dRow, dF, sz, szs]; omega
          simp only [List.map_cons, szs, List.length_cons, Nat.add_mul, Nat.one_mul]; omega
      have h5 := this rs h3
      have h6 : rs.length * (5 + 30 * 4 ^ n) ≤ 3 * (5 + 30 * 4 ^ n) := Nat.mul_le_mul_right _ (by simpa using hc)
      simp [sz, szs]; omega
theorem prs_prog : ∀ (rs : List (Str × D)) (seen : List Str), (∀ r ∈ rs, isNm r.1 = true) → (seen ++ rs.map Prod.fst).Nodup → prs (rs.map dProc) seen = some rs
  | [], seen, _, _ => by simp [prs]
  | r :: rs, seen, h1, h2 => by
    rw [List.map_cons, dProc, prs_cons (h1 r (.head _)), prs_prog rs _ (fun q hq => h1 q (.tail _ hq))]
    · rfl
    · simpa using h2
    · rw [List.nodup_append] at h2
      intro hm
      exact h2.2.2 _ hm _ (by simp) rfl
theorem allN_nm : ∀ ns ∈ allN, ns.Nodup ∧ ns ≠ [] ∧ ns.length ≤ 4 ∧ ∀ s ∈ ns, isNm s = true ∧ s.length ≤ 100 := by decide +kernel
theorem allL_nm : ∀ ls ∈ allL, ∀ s ∈ ls, isNm s = true ∧ s.length ≤ 100 := by decide +kernel
theorem wp_isP {rs : List (Str × D)} (h : WP rs) : isP 40 (.tup (rs.map dProc)) = true := by
  obtain ⟨h1, ls, h2, h3⟩ := h
  have hn := allN_nm _ h1
  have hp := prs_prog rs [] (fun r hr => (hn.2.2.2 r.1 (List.mem_map.mpr ⟨r, hr, rfl⟩)).1) (by simpa using hn.1)
  have h0 : (rs.map dProc).isEmpty = false := by
    cases rs with
    | nil => exact absurd rfl hn.2.1
    | cons _ _ => rfl
  simp only [isP, hp, h0]
  simp only [Bool.not_false, Bool.true_and, List.all_eq_true]
  intro r hr
  exact isB_le (wb_isB (fun s hs => (hn.2.2.2 s hs).1) (fun s hs => (allL_nm _ h2 s hs).1) (h3 r hr)) (by omega)
theorem wp_vd {rs : List (Str × D)} (h : WP rs) (M : Sto) : Vd M 10 19 (.tup (rs.map dProc)) ∧ sz (.tup (rs.map dProc)) ≤ 130000 := by
  obtain ⟨h1, ls, h2, h3⟩ := h
  have hn := allN_nm _ h1
  have hl : rs.length ≤ 4 := by simpa using hn.2.2.1
  refine ⟨Vd.tup (n := 18) (by simp; omega) fun x hx => ?_, ?_⟩
  · obtain ⟨r, hr, rfl⟩ := List.mem_map.mp hx
    refine Vd.tup (n := 17) (by simp) fun x hx => ?_
    simp at hx
    rcases hx with rfl | rfl
    · exact .str (hn.2.2.2 r.1 (List.mem_map.mpr ⟨r, hr, rfl⟩)).2
    · exact wb_vd (fun s hs => (hn.2.2.2 s hs).2) (fun s hs => (allL_nm _ h2 s hs).2) (h3 r hr)
  · have : ∀ qs : List (Str × D), (∀ r ∈ qs, WB (rs.map Prod.fst) ls 5 r.2) → szs (qs.map dProc) ≤ qs.length * 31000 := by
      intro qs
      induction qs with
      | nil => intro _; simp [szs]
      | cons q qs ih =>
        intro h
        have h1 := wb_sz (h q (.head _))
        have h2 := ih fun r hr => h r (.tail _ hr)
        have h3 : sz (dProc q) = 2 + sz q.2 := by simp [dProc, sz, szs]; omega
        simp only [List.map_cons, szs, List.length_cons, Nat.add_mul, Nat.one_mul]; omega
    have := this rs h3
    simp [sz]; omega
theorem ob_law : ∀ E ds M Q, S_law E ds M Q → B_law E (endsL Q) (start 7 ds) M := by
  intro E ds M Q h
  obtain ⟨x, rfl, ⟨ns, rfl, hl, hb⟩, hq⟩ := fn1_e h
  simp [B_law]
  refine ⟨ns, rfl, hl, fun a b hab ha hb => ?_⟩
  have hc : CSt ((M.set b (.lst (ns.map .int))).set a (cs b 0 0 0 20)) a b := ⟨hab, ⟨ns, by rw [set_ne hab.symm, set_same]⟩, _, set_same, 0, 0, 0, 20, by decide, rfl⟩
  generalize ((M.set b (.lst (ns.map .int))).set a (cs b 0 0 0 20)) = M0 at hc ⊢
  refine go ?_
  simp
  refine ⟨a, b, rfl, hc, fun rs o hwp hco => ?_⟩
  have f0 := hc.refl.set hco
  generalize M0.set a o = M1 at f0 ⊢
  refine go ?_
  have hvd := wp_vd hwp
  have hP := wp_isP hwp
  generalize D.tup (rs.map dProc) = val at hvd hP ⊢
  simp
  refine ⟨((hvd M1).1.to (by omega) fun p xs e => ⟨xs, e⟩).up (by omega), by have := (hvd M1).2; omega, ?_⟩
  rw [hP]
  simp
  refine ⟨Vd.tup (n := 39) (by simp) (by simp), by simp [sz, szs], ?_⟩
  have : isP 40 (.tup []) = false := by rfl
  rw [this]
  simp
  refine go ?_
  simp [T_law_3]
  refine for_ind (fun xs e m => Fr a b M0 m ∧ ∃ x3 x4 x5 x6 : Option D, e = [some (D.lro (ns.map .int)), some (.ref a), some val, x3, x4, x5, x6]) ?_ ?_ _ _ _ ⟨f0, _, _, _, _, rfl⟩
  · rintro x xs e m ⟨f, x3, x4, x5, x6, rfl⟩
    refine ⟨trivial, fun N hN => ?_⟩
    simp [FB_law_2]
    refine go ?_
    simp
    refine take_i (by decide) (by decide) (hc.fr f) fun d o d0 d1 hc1 => ?_
    have f1 := f.set hc1
    generalize m.set a o = m1 at f1 ⊢
    simp
    refine ⟨by omega, by omega, ?_⟩
    refine for_ind (fun ys e m' => Fr a b M0 m' ∧ ∃ (v : D) (L k : Nat) (x3 x5 x6 : Option D), e = [some (D.lro (ns.map .int)), some (.ref a), some val, x3, some v, x5, x6] ∧ Vd m' L k v ∧ 2 ≤ L ∧ L + ys.length ≤ 12 ∧ k + 2 * ys.length ≤ 23 ∧
      (sz v + 20) * 2 ^ ys.length ≤ 520080) ?_ ?_ _ _ _ ⟨f1, val, 10, 19, _, _, _, rfl, (hvd m1).1, by omega, ?_, ?_, ?_⟩
    · rintro y ys e m' ⟨f, v, L, k, y3, y5, y6, rfl, hv, h2, hL, hk, hs⟩
      refine ⟨trivial, fun N' hN' => ?_⟩
      simp at hL hk
      simp [FB_law_1]
      refine ⟨a, b, L, k, rfl, hc.fr f, h2, by omega, by omega, hv, fun g m2 hg hsg hf => ?_⟩
      refine hN' _ _ ⟨f.trans hf, g, L + 1, k + 2, _, _, _, rfl, hg, by omega, by omega, by omega, ?_⟩
      rw [List.length_cons, Nat.pow_succ] at hs
      have h3 : (sz g + 20) * 2 ^ ys.length ≤ (2 * (sz v + 20)) * 2 ^ ys.length := Nat.mul_le_mul_right _ (by omega)
      have h4 : (2 * (sz v + 20)) * 2 ^ ys.length = (sz v + 20) * (2 ^ ys.length * 2) := by
        rw [Nat.mul_comm 2 (sz v + 20), Nat.mul_assoc, Nat.mul_comm 2]
      omega
    · rintro e m' ⟨f, v, L, k, y3, y5, y6, rfl, hv, h2, hL, hk, hs⟩
      refine ⟨trivial, go ?_⟩
      simp at hL hk hs
      have hvv : Vd m' 50 40 v := (hv.to (by omega) fun p xs e => ⟨xs, e⟩).up (by omega)
      simp [T_law_1]
      refine ⟨hvv, by omega, go ?_⟩
      simp [isTy]
      refine ⟨hvv, ?_⟩
      simp
      exact hN _ _ ⟨f, _, _, _, _, rfl⟩
    · rw [rangeL_len]; omega
    · rw [rangeL_len]; omega
    · rw [rangeL_len]
      have := (hvd m1).2
      have h2 : (1 + d - 0).toNat ≤ 2 := by omega
      have h3 : 2 ^ (1 + d - 0).toNat ≤ 2 ^ 2 := Nat.pow_le_pow_right (by decide) h2
      have h4 : (sz val + 20) * 2 ^ (1 + d - 0).toNat ≤ (130000 + 20) * 2 ^ 2 := Nat.mul_le_mul (by omega) h3
      omega
  · rintro e m ⟨f, x3, x4, x5, x6, rfl⟩
    refine ⟨trivial, go ?_⟩
    simp [T_law_2]
    exact ⟨m, Le.refl, hq _⟩
end DL

set_option Elab.async false
set_option linter.all false
set_option maxRecDepth 100000
set_option maxHeartbeats 8000000
/-! derivations (printed by gen.py) -/
namespace DL
open PySem PySem.Spec PyProof.Rows L2
def top (i : Nat) : Stmt := PySem.Challenge.pw_hazardry_k30_programs_in_form.main.body.getD i (.Pass ⟨0, 0, 0, 0⟩)
structure Tx (K : PySem.W.Frag) (mg : Str → Option Value) : Prop where
  m_abs : mg "abs" = none
  m_all : mg "all" = none
  m_bool : mg "bool" = none
  m_int : mg "int" = none
  m_isinstance : mg "isinstance" = none
  m_len : mg "len" = none
  m_list : mg "list" = none
  m_range : mg "range" = none
  m_str : mg "str" = none
  m_tuple : mg "tuple" = none
  g_ZERO : GRep K mg "ZERO" g_ZERO
  g_ONE : GRep K mg "ONE" g_ONE
  g_LETTERS : GRep K mg "LETTERS" g_LETTERS
  g_DIGITS : GRep K mg "DIGITS" g_DIGITS
  g_MOST_SIGNS : GRep K mg "MOST_SIGNS" g_MOST_SIGNS
  g_MOST_NUMBER : GRep K mg "MOST_NUMBER" g_MOST_NUMBER
abbrev s_common_divisor : Stmt := top 3
theorem sc_common_divisor : FnScope ["first", "second"] ["first", "second"] (defScope s_common_divisor) := ⟨rfl, rfl, rfl, by decide +kernel, rfl, by decide +kernel, by decide +kernel⟩
abbrev s_ratio : Stmt := top 4
theorem sc_ratio : FnScope ["above", "below", "both"] ["above", "below"] (defScope s_ratio) := ⟨rfl, rfl, rfl, by decide +kernel, rfl, by decide +kernel, by decide +kernel⟩
abbrev s_plus : Stmt := top 5
theorem sc_plus : FnScope ["first", "second"] ["first", "second"] (defScope s_plus) := ⟨rfl, rfl, rfl, by decide +kernel, rfl, by decide +kernel, by decide +kernel⟩
abbrev s_is_less : Stmt := top 6
theorem sc_is_less : FnScope ["first", "second"] ["first", "second"] (defScope s_is_less) := ⟨rfl, rfl, rfl, by decide +kernel, rfl, by decide +kernel, by decide +kernel⟩
abbrev s_total : Stmt := top 7
theorem sc_total : FnScope ["fractions", "found", "one"] ["fractions"] (defScope s_total) := ⟨rfl, rfl, rfl, by decide +kernel, rfl, by decide +kernel, by decide +kernel⟩
abbrev s_is_integer : Stmt := top 8
theorem sc_is_integer : FnScope ["value"] ["value"] (defScope s_is_integer) := ⟨rfl, rfl, rfl, by decide +kernel, rfl, by decide +kernel, by decide +kernel⟩
abbrev s_is_ratio : Stmt := top 9
theorem sc_is_ratio : FnScope ["value"] ["value"] (defScope s_is_ratio) := ⟨rfl, rfl, rfl, by decide +kernel, rfl, by decide +kernel, by decide +kernel⟩
abbrev s_is_name : Stmt := top 15
theorem sc_is_name : FnScope ["value", "sign"] ["value"] (defScope s_is_name) := ⟨rfl, rfl, rfl, by decide +kernel, rfl, by decide +kernel, by decide +kernel⟩
abbrev s_has_rows : Stmt := top 16
theorem sc_has_rows : FnScope ["value", "row"] ["value"] (defScope s_has_rows) := ⟨rfl, rfl, rfl, by decide +kernel, rfl, by decide +kernel, by decide +kernel⟩
abbrev s_is_body : Stmt := top 17
theorem sc_is_body : FnScope ["value", "names", "left", "one", "row"] ["value", "names"] (defScope s_is_body) := ⟨rfl, rfl, rfl, by decide +kernel, rfl, by decide +kernel, by decide +kernel⟩
abbrev s_is_program : Stmt := top 18
theorem sc_is_program : FnScope ["value", "names", "row", "name", "body"] ["value"] (defScope s_is_program) := ⟨rfl, rfl, rfl, by decide +kernel, rfl, by decide +kernel, by decide +kernel⟩
abbrev s_law_start : Stmt := top 20
theorem sc_law_start : FnScope ["script", "cell"] ["script"] (defScope s_law_start) := ⟨rfl, rfl, rfl, by decide +kernel, rfl, by decide +kernel, by decide +kernel⟩
abbrev s_law_fill : Stmt := top 21
theorem sc_law_fill : FnScope ["c", "number"] ["c"] (defScope s_law_fill) := ⟨rfl, rfl, rfl, by decide +kernel, rfl, by decide +kernel, by decide +kernel⟩
abbrev s_law_take : Stmt := top 22
theorem sc_law_take : FnScope ["c", "many", "digit"] ["c", "many"] (defScope s_law_take) := ⟨rfl, rfl, rfl, by decide +kernel, rfl, by decide +kernel, by decide +kernel⟩
abbrev s_law_divisor : Stmt := top 23
theorem sc_law_divisor : FnScope ["a", "b", "turn"] ["a", "b"] (defScope s_law_divisor) := ⟨rfl, rfl, rfl, by decide +kernel, rfl, by decide +kernel, by decide +kernel⟩
abbrev s_law_fraction : Stmt := top 24
theorem sc_law_fraction : FnScope ["n", "d", "many"] ["n", "d"] (defScope s_law_fraction) := ⟨rfl, rfl, rfl, by decide +kernel, rfl, by decide +kernel, by decide +kernel⟩
abbrev s_law_plus : Stmt := top 25
theorem sc_law_plus : FnScope ["a", "b"] ["a", "b"] (defScope s_law_plus) := ⟨rfl, rfl, rfl, by decide +kernel, rfl, by decide +kernel, by decide +kernel⟩
abbrev s_law_times : Stmt := top 26
theorem sc_law_times : FnScope ["a", "b"] ["a", "b"] (defScope s_law_times) := ⟨rfl, rfl, rfl, by decide +kernel, rfl, by decide +kernel, by decide +kernel⟩
abbrev s_law_cut : Stmt := top 27
theorem sc_law_cut : FnScope ["c", "menu", "found", "rest", "n", "d", "part"] ["c"] (defScope s_law_cut) := ⟨rfl, rfl, rfl, by decide +kernel, rfl, by decide +kernel, by decide +kernel⟩
abbrev s_law_body : Stmt := top 28
theorem sc_law_body : FnScope ["c", "names", "letters", "deep", "way", "one"] ["c", "names", "letters", "deep"] (defScope s_law_body) := ⟨rfl, rfl, rfl, by decide +kernel, rfl, by decide +kernel, by decide +kernel⟩
abbrev s_law_program : Stmt := top 29
theorem sc_law_program : FnScope ["c", "names", "k", "letters", "name"] ["c"] (defScope s_law_program) := ⟨rfl, rfl, rfl, by decide +kernel, rfl, by decide +kernel, by decide +kernel⟩
abbrev s_law_is_name : Stmt := top 31
theorem sc_law_is_name : FnScope ["value", "letters", "sign"] ["value"] (defScope s_law_is_name) := ⟨rfl, rfl, rfl, by decide +kernel, rfl, by decide +kernel, by decide +kernel⟩
abbrev s_law_is_int : Stmt := top 32
theorem sc_law_is_int : FnScope ["value"] ["value"] (defScope s_law_is_int) := ⟨rfl, rfl, rfl, by decide +kernel, rfl, by decide +kernel, by decide +kernel⟩
abbrev s_law_is_fraction : Stmt := top 33
theorem sc_law_is_fraction : FnScope ["value"] ["value"] (defScope s_law_is_fraction) := ⟨rfl, rfl, rfl, by decide +kernel, rfl, by decide +kernel, by decide +kernel⟩
abbrev s_law_is_body : Stmt := top 34
theorem sc_law_is_body : FnScope ["value", "names", "total_v", "row"] ["value", "names"] (defScope s_law_is_body) := ⟨rfl, rfl, rfl, by decide +kernel, rfl, by decide +kernel, by decide +kernel⟩
abbrev s_law_is_program : Stmt := top 35
theorem sc_law_is_program : FnScope ["value", "names", "row"] ["value"] (defScope s_law_is_program) := ⟨rfl, rfl, rfl, by decide +kernel, rfl, by decide +kernel, by decide +kernel⟩
abbrev s_law_spoilt : Stmt := top 36
theorem sc_law_spoilt : FnScope ["c", "value", "k", "row", "rows"] ["c", "value"] (defScope s_law_spoilt) := ⟨rfl, rfl, rfl, by decide +kernel, rfl, by decide +kernel, by decide +kernel⟩
abbrev s_law : Stmt := top 37
theorem sc_law : FnScope ["script", "c", "value", "turn", "bent", "k", "told"] ["script"] (defScope s_law) := ⟨rfl, rfl, rfl, by decide +kernel, rfl, by decide +kernel, by decide +kernel⟩
section
variable {P : Program} {w : World} {K : PySem.W.Frag} {mg : Str → Option Value} {base : Heap} {CA : String → Addr}
theorem ok_common_divisor (T : Tx K mg) {f : Addr} {fd : FuncData} (F : Fun K "common_divisor" "common_divisor" s_common_divisor f fd) : FnOk P w K mg base CX0 1 f fd ["first", "second"] (spOf ⟨P, w, K, CA⟩ S_common_divisor) :=
  fn_l F sc_common_divisor len2 (gb := B_common_divisor) (fun cdv A outer s H E hr =>
    (ss_cons (s_par 0 1 rfl sc_common_divisor.nd (by decide) (d_abs T.m_abs (d_var 0)) (d_abs T.m_abs (d_var 1)) rfl)
    (ss_cons (s_while PassesOwn.never (t_cmp (op_neA hr) neS (d_var 1) d_int (nomark _)) (ss_one (s_par 0 1 rfl sc_common_divisor.nd (by decide) (d_var 1) (d_mod (d_var 0) (d_var 1)) rfl)))
    (ss_one (s_ret (d_var 0)))))) ob_common_divisor
theorem ok_ratio (T : Tx K mg) {f : Addr} {fd : FuncData} (F : Fun K "ratio" "ratio" s_ratio f fd) (D_common_divisor : FnD ⟨P, w, K, CA⟩ mg base CX0 1 "common_divisor" S_common_divisor) : FnOk P w K mg base CX0 2 f fd ["above", "below"] (spOf ⟨P, w, K, CA⟩ S_ratio) :=
  fn_l F sc_ratio len2 (gb := B_ratio) (fun cdv A outer s H E hr =>
    (ss_cons (s_if (t_cmp op_lt ltS (d_var 1) d_int (nomark _)) (ss_one (s_par 0 1 rfl sc_ratio.nd (by decide) (d_neg (d_var 0)) (d_neg (d_var 1)) rfl)) ss_nil)
    (ss_cons (s_if (t_cmp (op_neA hr) neS (d_var 1) d_int (nomark _)) (ss_cons (s_set 2 sc_ratio.nd (d_call D_common_divisor hr (by decide) passN (a_cons (d_var 0) (a_cons (d_var 1) SAs.nil))))
    (ss_one (s_par 0 1 rfl sc_ratio.nd (by decide) (d_div (d_var 0) (d_var 2)) (d_div (d_var 1) (d_var 2)) rfl))) ss_nil)
    (ss_one (s_ret (d_tup (a_cons (d_var 0) (a_cons (d_var 1) SAs.nil)))))))) ob_ratio
theorem ok_plus (T : Tx K mg) {f : Addr} {fd : FuncData} (F : Fun K "plus" "plus" s_plus f fd) (D_ratio : FnD ⟨P, w, K, CA⟩ mg base CX0 2 "ratio" S_ratio) : FnOk P w K mg base CX0 3 f fd ["first", "second"] (spOf ⟨P, w, K, CA⟩ S_plus) :=
  fn_l F sc_plus len2 (gb := B_plus) (fun cdv A outer s H E hr =>
    (ss_cons (s_if (t_chain (op_eqA hr) eqS (op_eqA hr) eqS (d_sub_ hr (d_var 0) d_int) (d_sub_ hr (d_var 1) d_int) d_int) (ss_one (s_ret (d_tup (a_cons (d_add (d_sub_ hr (d_var 0) d_int) (d_sub_ hr (d_var 1) d_int)) (a_cons d_int SAs.nil))))) ss_nil)
    (ss_one (s_ret (d_call D_ratio hr (by decide) passN (a_cons (d_add (d_mul (d_sub_ hr (d_var 0) d_int) (d_sub_ hr (d_var 1) d_int)) (d_mul (d_sub_ hr (d_var 1) d_int) (d_sub_ hr (d_var 0) d_int))) (a_cons (d_mul (d_sub_ hr (d_var 0) d_int) (d_sub_ hr (d_var 1) d_int)) SAs.nil))))))) ob_plus
theorem ok_is_less (T : Tx K mg) {f : Addr} {fd : FuncData} (F : Fun K "is_less" "is_less" s_is_less f fd) : FnOk P w K mg base CX0 1 f fd ["first", "second"] (spOf ⟨P, w, K, CA⟩ S_is_less) :=
  fn_l F sc_is_less len2 (gb := B_is_less) (fun cdv A outer s H E hr =>
    (ss_one (s_ret (d_cmp op_lt ltS (d_mul (d_sub_ hr (d_var 0) d_int) (d_sub_ hr (d_var 1) d_int)) (d_mul (d_sub_ hr (d_var 1) d_int) (d_sub_ hr (d_var 0) d_int)) (nomark _))))) ob_is_less
theorem ok_total (T : Tx K mg) {f : Addr} {fd : FuncData} (F : Fun K "total" "total" s_total f fd) (D_plus : FnD ⟨P, w, K, CA⟩ mg base CX0 3 "plus" S_plus) : FnOk P w K mg base CX0 4 f fd ["fractions"] (spOf ⟨P, w, K, CA⟩ S_total) :=
  fn_l F sc_total len1 (gb := B_total) (fun cdv A outer s H E hr =>
    (ss_cons (s_set 1 sc_total.nd (d_glob T.g_ZERO))
    (ss_cons (s_for (vs := [2]) PassesOwn.never rfl (i_val (d_var 0)) (g_name 2 sc_total.nd (by decide)) (ss_one (s_set 1 sc_total.nd (d_call D_plus hr (by decide) passN (a_cons (d_var 1) (a_cons (d_var 2) SAs.nil))))))
    (ss_one (s_ret (d_var 1)))))) ob_total
theorem ok_is_integer (T : Tx K mg) {f : Addr} {fd : FuncData} (F : Fun K "is_integer" "is_integer" s_is_integer f fd) : FnOk P w K mg base CX0 1 f fd ["value"] (spOf ⟨P, w, K, CA⟩ S_is_integer) :=
  fn_l F sc_is_integer len1 (gb := B_is_integer) (fun cdv A outer s H E hr =>
    (ss_one (s_ret (d_and (d_isi1 T.m_isinstance T.m_int (by decide +kernel) (by decide) (d_var 0)) (d_one (d_notB (d_isi1 T.m_isinstance T.m_bool (by decide +kernel) (by decide) (d_var 0)))))))) ob_is_integer
theorem ok_is_ratio (T : Tx K mg) {f : Addr} {fd : FuncData} (F : Fun K "is_ratio" "is_ratio" s_is_ratio f fd) (D_is_integer : FnD ⟨P, w, K, CA⟩ mg base CX0 1 "is_integer" S_is_integer) (D_common_divisor : FnD ⟨P, w, K, CA⟩ mg base CX0 1 "common_divisor" S_common_divisor) : FnOk P w K mg base CX0 2 f fd ["value"] (spOf ⟨P, w, K, CA⟩ S_is_ratio) :=
  fn_l F sc_is_ratio len1 (gb := B_is_ratio) (fun cdv A outer s H E hr =>
    (ss_cons (s_if (t_w (w_or (t_not (t_tru (d_isi1 T.m_isinstance T.m_tuple (by decide +kernel) (by decide) (d_var 0)))) (w_or (t_cmp (op_neA hr) neS (d_len T.m_len (d_var 0)) d_int (nomark _)) (w_or (t_not (t_tru (d_call D_is_integer hr (by decide) passN (a_cons (d_sub_ hr (d_var 0) d_int) SAs.nil)))) (w_or1 (t_not (t_tru (d_call D_is_integer hr (by decide) passN (a_cons (d_sub_ hr (d_var 0) d_int) SAs.nil))))))))) (ss_one (s_ret d_bl)) ss_nil)
    (ss_one (s_ret (d_and (d_cmp op_gt gtS (d_sub_ hr (d_var 0) d_int) d_int (nomark _)) (d_one (d_cmp (op_eqA hr) eqS (d_call D_common_divisor hr (by decide) passN (a_cons (d_sub_ hr (d_var 0) d_int) (a_cons (d_sub_ hr (d_var 0) d_int) SAs.nil))) d_int (nomark _)))))))) ob_is_ratio
theorem ok_is_name (T : Tx K mg) {f : Addr} {fd : FuncData} (F : Fun K "is_name" "is_name" s_is_name f fd) : FnOk P w K mg base CX0 1 f fd ["value"] (spOf ⟨P, w, K, CA⟩ S_is_name) :=
  fn_l F sc_is_name len1 (gb := B_is_name) (fun cdv A outer s H E hr =>
    (ss_cons (s_if (t_w (w_or (t_not (t_tru (d_isi1 T.m_isinstance T.m_str (by decide +kernel) (by decide) (d_var 0)))) (w_or (t_not (t_chain op_le leS op_le leS d_int (d_len T.m_len (d_var 0)) (d_glob T.g_MOST_SIGNS))) (w_or1 (t_cmp (op_inA hr) inS (d_var 0) (d_tup (a_cons d_str (a_cons d_str SAs.nil))) (by rfl)))))) (ss_one (s_ret d_bl)) ss_nil)
    (ss_one (s_ret (d_and (d_cmp (op_inA hr) inS (d_sub_ hr (d_var 0) d_int) (d_glob T.g_LETTERS) (by rfl)) (d_one (d_all rfl T.m_all (d_comp (own := [("sign", 1)]) rfl sc_is_name.nd (i_str (d_var 0)) (blk_by (N := ["value", "sign"]) (sc := defScope s_is_name) rfl rfl (own := [("sign", 1)]) (by decide +kernel)) (fun _ _ _ _ _ => (g_name 1 sc_is_name.nd (by decide))) (fun _ _ _ _ _ => ts_nil) (fun _ _ _ _ _ => (d_cmp (op_inA hr) inS (d_var 1) (d_add (d_glob T.g_LETTERS) (d_glob T.g_DIGITS)) (by rfl))))))))))) ob_is_name
theorem ok_has_rows (T : Tx K mg) {f : Addr} {fd : FuncData} (F : Fun K "has_rows" "has_rows" s_has_rows f fd) (D_total : FnD ⟨P, w, K, CA⟩ mg base CX0 4 "total" S_total) (D_is_ratio : FnD ⟨P, w, K, CA⟩ mg base CX0 2 "is_ratio" S_is_ratio) (D_is_less : FnD ⟨P, w, K, CA⟩ mg base CX0 1 "is_less" S_is_less) : FnOk P w K mg base CX0 5 f fd ["value"] (spOf ⟨P, w, K, CA⟩ S_has_rows) :=
  fn_l F sc_has_rows len1 (gb := B_has_rows) (fun cdv A outer s H E hr =>
    (ss_cons (s_if (t_w (w_or (t_not (t_tru (d_isi1 T.m_isinstance T.m_tuple (by decide +kernel) (by decide) (d_var 0)))) (w_or1 (t_cmp (op_eqA hr) eqS (d_len T.m_len (d_var 0)) d_int (nomark _))))) (ss_one (s_ret d_bl)) ss_nil)
    (ss_cons (s_for (vs := [1]) PassesOwn.never rfl (i_val (d_var 0)) (g_name 1 sc_has_rows.nd (by decide)) (ss_cons (s_if (t_w (w_or (t_not (t_tru (d_isi1 T.m_isinstance T.m_tuple (by decide +kernel) (by decide) (d_var 1)))) (w_or (t_cmp (op_neA hr) neS (d_len T.m_len (d_var 1)) d_int (nomark _)) (w_or (t_not (t_tru (d_call D_is_ratio hr (by decide) passN (a_cons (d_sub_ hr (d_var 1) d_int) SAs.nil)))) (w_or1 (t_not (t_tru (d_call D_is_less hr (by decide) passN (a_cons (d_glob T.g_ZERO) (a_cons (d_sub_ hr (d_var 1) d_int) SAs.nil)))))))))) (ss_one (s_ret d_bl)) ss_nil)
    (ss_one (s_if (t_w (w_or (t_cmp op_ge geS (d_sub_ hr (d_sub_ hr (d_var 1) d_int) d_int) (d_glob T.g_MOST_NUMBER) (nomark _)) (w_or1 (t_cmp op_ge geS (d_sub_ hr (d_sub_ hr (d_var 1) d_int) d_int) (d_glob T.g_MOST_NUMBER) (nomark _))))) (ss_one (s_ret d_bl)) ss_nil))))
    (ss_one (s_ret (d_cmp (op_eqA hr) eqS (d_call D_total hr (by decide) passN (a_cons (d_comp (own := [("row", 1)]) rfl sc_has_rows.nd (i_val (d_var 0)) (blk_by (N := ["value", "row"]) (sc := defScope s_has_rows) rfl rfl (own := [("row", 1)]) (by decide +kernel)) (fun _ _ _ _ _ => (g_name 1 sc_has_rows.nd (by decide))) (fun _ _ _ _ _ => ts_nil) (fun _ _ _ _ _ => (d_sub_ hr (d_var 1) d_int))) SAs.nil)) (d_glob T.g_ONE) (nomark _))))))) ob_has_rows
theorem ok_is_body (T : Tx K mg) {f : Addr} {fd : FuncData} (F : Fun K "is_body" "is_body" s_is_body f fd) (D_is_name : FnD ⟨P, w, K, CA⟩ mg base CX0 1 "is_name" S_is_name) (D_has_rows : FnD ⟨P, w, K, CA⟩ mg base CX0 5 "has_rows" S_has_rows) : FnOk P w K mg base CX0 6 f fd ["value", "names"] (spOf ⟨P, w, K, CA⟩ S_is_body) :=
  fn_l F sc_is_body len2 (gb := B_is_body) (fun cdv A outer s H E hr =>
    (ss_cons (s_set 2 sc_is_body.nd (d_lst (a_cons (d_var 0) SAs.nil)))
    (ss_cons (s_while PassesOwn.never (t_tru (d_var 2)) (ss_cons (s_set 3 sc_is_body.nd (d_pop (d_var 2)))
    (ss_cons (s_if (t_w (w_or (t_not (t_tru (d_isi1 T.m_isinstance T.m_tuple (by decide +kernel) (by decide) (d_var 3)))) (w_or (t_cmp (op_eqA hr) eqS (d_len T.m_len (d_var 3)) d_int (nomark _)) (w_or1 (t_not (t_tru (d_isi1 T.m_isinstance T.m_str (by decide +kernel) (by decide) (d_sub_ hr (d_var 3) d_int)))))))) (ss_one (s_ret d_bl)) ss_nil)
    (ss_one (s_if (t_cmp (op_inA hr) inS (d_sub_ hr (d_var 3) d_int) (d_tup (a_cons d_str (a_cons d_str SAs.nil))) (by rfl)) (ss_one (s_if (t_cmp (op_neA hr) neS (d_len T.m_len (d_var 3)) d_int (nomark _)) (ss_one (s_ret d_bl)) ss_nil)) (ss_one (s_if (t_cmp (op_inA hr) inS (d_sub_ hr (d_var 3) d_int) (d_tup (a_cons d_str (a_cons d_str SAs.nil))) (by rfl)) (ss_cons (s_if (t_w (w_or (t_cmp (op_neA hr) neS (d_len T.m_len (d_var 3)) d_int (nomark _)) (w_or (t_not (t_tru (d_call D_is_name hr (by decide) passN (a_cons (d_sub_ hr (d_var 3) d_int) SAs.nil)))) (w_or1 (t_w (w_and (t_cmp (op_eqA hr) eqS (d_sub_ hr (d_var 3) d_int) d_str (nomark _)) (w_and1 (t_cmp (op_notInA hr) notInS (d_sub_ hr (d_var 3) d_int) (d_var 1) (by rfl))))))))) (ss_one (s_ret d_bl)) ss_nil)
    (ss_one (s_expr (d_append (d_var 2) (d_sub_ hr (d_var 3) d_int))))) (ss_one (s_if (t_w (w_or (t_cmp (op_neA hr) neS (d_sub_ hr (d_var 3) d_int) d_str (nomark _)) (w_or (t_cmp (op_neA hr) neS (d_len T.m_len (d_var 3)) d_int (nomark _)) (w_or1 (t_not (t_tru (d_call D_has_rows hr (by decide) passN (a_cons (d_sub_ hr (d_var 3) d_int) SAs.nil)))))))) (ss_one (s_ret d_bl)) (ss_one (s_expr (d_extend (d_var 2) (d_comp (own := [("row", 4)]) rfl sc_is_body.nd (i_val (d_sub_ hr (d_var 3) d_int)) (blk_by (N := ["value", "names", "left", "one", "row"]) (sc := defScope s_is_body) rfl rfl (own := [("row", 4)]) (by decide +kernel)) (fun _ _ _ _ _ => (g_name 4 sc_is_body.nd (by decide))) (fun _ _ _ _ _ => ts_nil) (fun _ _ _ _ _ => (d_sub_ hr (d_var 4) d_int)))))))))))))))
    (ss_one (s_ret d_bl))))) ob_is_body
theorem ok_is_program (T : Tx K mg) {f : Addr} {fd : FuncData} (F : Fun K "is_program" "is_program" s_is_program f fd) (D_is_body : FnD ⟨P, w, K, CA⟩ mg base CX0 6 "is_body" S_is_body) (D_is_name : FnD ⟨P, w, K, CA⟩ mg base CX0 1 "is_name" S_is_name) : FnOk P w K mg base CX0 7 f fd ["value"] (spOf ⟨P, w, K, CA⟩ S_is_program) :=
  fn_l F sc_is_program len1 (gb := B_is_program) (fun cdv A outer s H E hr =>
    (ss_cons (s_if (t_w (w_or (t_not (t_tru (d_isi1 T.m_isinstance T.m_tuple (by decide +kernel) (by decide) (d_var 0)))) (w_or1 (t_cmp (op_eqA hr) eqS (d_len T.m_len (d_var 0)) d_int (nomark _))))) (ss_one (s_ret d_bl)) ss_nil)
    (ss_cons (s_set 1 sc_is_program.nd d_dk)
    (ss_cons (s_for (vs := [2]) PassesOwn.never rfl (i_val (d_var 0)) (g_name 2 sc_is_program.nd (by decide)) (ss_cons (s_if (t_w (w_or (t_not (t_tru (d_isi1 T.m_isinstance T.m_tuple (by decide +kernel) (by decide) (d_var 2)))) (w_or (t_cmp (op_neA hr) neS (d_len T.m_len (d_var 2)) d_int (nomark _)) (w_or (t_not (t_tru (d_call D_is_name hr (by decide) passN (a_cons (d_sub_ hr (d_var 2) d_int) SAs.nil)))) (w_or1 (t_cmp (op_inA hr) inS (d_sub_ hr (d_var 2) d_int) (d_var 1) (by rfl))))))) (ss_one (s_ret d_bl)) ss_nil)
    (ss_one (s_asg (vs := []) d_bl (g_sub hr (d_var 1) (d_sub_ hr (d_var 2) d_int))))))
    (ss_one (s_ret (d_all rfl T.m_all (d_comp (own := [("name", 3), ("body", 4)]) rfl sc_is_program.nd (i_val (d_var 0)) (blk_by (N := ["value", "names", "row", "name", "body"]) (sc := defScope s_is_program) rfl rfl (own := [("name", 3), ("body", 4)]) (by decide +kernel)) (fun _ _ _ _ _ => (g_tup rfl (gs_cons (g_name 3 sc_is_program.nd (by decide)) (gs_cons (g_name 4 sc_is_program.nd (by decide)) gs_nil)))) (fun _ _ _ _ _ => ts_nil) (fun _ _ _ _ _ => (d_call D_is_body hr (by decide) passN (a_cons (d_var 4) (a_cons (d_var 1) SAs.nil)))))))))))) ob_is_program
theorem ok_law_start (T : Tx K mg) {f : Addr} {fd : FuncData} (F : Fun K "_law_start" "_law_start" s_law_start f fd) : FnOk P w K mg base CX0 1 f fd ["script"] (spOf ⟨P, w, K, CA⟩ S_law_start) :=
  fn_l F sc_law_start len1 (gb := B_law_start) (fun cdv A outer s H E hr =>
    (ss_one (s_ret (d_lst (a_cons (d_comp (own := [("cell", 1)]) rfl sc_law_start.nd (i_val (d_slice (d_var 0) o_none (o_some d_int))) (blk_by (N := ["script", "cell"]) (sc := defScope s_law_start) rfl rfl (own := [("cell", 1)]) (by decide +kernel)) (fun _ _ _ _ _ => (g_name 1 sc_law_start.nd (by decide))) (fun _ _ _ _ _ => ts_nil) (fun _ _ _ _ _ => (d_intC T.m_int (d_var 1)))) (a_cons d_int (a_cons d_int (a_cons d_int (a_cons d_int SAs.nil))))))))) ob_law_start
theorem ok_law_fill (T : Tx K mg) {f : Addr} {fd : FuncData} (F : Fun K "_law_fill" "_law_fill" s_law_fill f fd) : FnOk P w K mg base CX0 1 f fd ["c"] (spOf ⟨P, w, K, CA⟩ S_law_fill) :=
  fn_l F sc_law_fill len1 (gb := B_law_fill) (fun cdv A outer s H E hr =>
    (ss_cons (s_asg (vs := []) (d_add (d_sub_ hr (d_var 0) d_int) d_int) (g_sub hr (d_var 0) d_int))
    (ss_cons (s_set 1 sc_law_fill.nd (d_add (d_mul (d_sub_ hr (d_var 0) d_int) d_int) d_int))
    (ss_cons (s_if (t_cmp op_lt ltS (d_sub_ hr (d_var 0) d_int) (d_len T.m_len (d_sub_ hr (d_var 0) d_int)) (nomark _)) (ss_cons (s_set 1 sc_law_fill.nd (d_sub_ hr (d_sub_ hr (d_var 0) d_int) (d_sub_ hr (d_var 0) d_int)))
    (ss_cons (s_asg (vs := []) (d_add (d_sub_ hr (d_var 0) d_int) d_int) (g_sub hr (d_var 0) d_int))
    (ss_cons (s_if (t_cmp op_lt ltS (d_var 1) d_int (nomark _)) (ss_one (s_set 1 sc_law_fill.nd (d_sub (d_sub d_int d_int) (d_var 1)))) ss_nil)
    (ss_one (s_if (t_cmp op_ge geS (d_var 1) (d_pow d_int d_int) (nomark _)) (ss_one (s_ret (d_var 1))) ss_nil))))) ss_nil)
    (ss_cons (s_if (t_w (w_and (t_tru (d_sub_ hr (d_var 0) d_int)) (w_and1 (t_cmp op_ge geS (d_sub_ hr (d_var 0) d_int) (d_len T.m_len (d_sub_ hr (d_var 0) d_int)) (nomark _))))) (ss_one (s_set 1 sc_law_fill.nd (d_add (d_var 1) (d_mod (d_intC T.m_int (d_sub_ hr (d_sub_ hr (d_var 0) d_int) (d_neg d_int))) d_int)))) ss_nil)
    (ss_cons (s_set 1 sc_law_fill.nd (d_mod (d_intC T.m_int (d_add (d_mul (d_var 1) d_int) (d_mul (d_sub_ hr (d_var 0) d_int) d_int))) d_int))
    (ss_one (s_ret (d_add (d_div (d_intC T.m_int (d_add (d_add (d_mul (d_var 1) (d_var 1)) (d_mul (d_sub_ hr (d_var 0) d_int) d_int)) d_int)) d_int) d_int))))))))) ob_law_fill
theorem ok_law_take (T : Tx K mg) {f : Addr} {fd : FuncData} (F : Fun K "_law_take" "_law_take" s_law_take f fd) (D_law_fill : FnD ⟨P, w, K, CA⟩ mg base CX0 1 "_law_fill" S_law_fill) : FnOk P w K mg base CX0 2 f fd ["c", "many"] (spOf ⟨P, w, K, CA⟩ S_law_take) :=
  fn_l F sc_law_take len2 (gb := B_law_take) (fun cdv A outer s H E hr =>
    (ss_cons (s_if (t_cmp op_lt ltS (d_sub_ hr (d_var 0) d_int) (d_var 1) (nomark _)) (ss_one (s_asg (vs := []) (d_call D_law_fill hr (by decide) passN (a_cons (d_var 0) SAs.nil)) (g_sub hr (d_var 0) d_int))) ss_nil)
    (ss_cons (s_set 2 sc_law_take.nd (d_mod (d_intC T.m_int (d_sub_ hr (d_var 0) d_int)) (d_var 1)))
    (ss_cons (s_asg (vs := []) (d_div (d_sub_ hr (d_var 0) d_int) (d_var 1)) (g_sub hr (d_var 0) d_int))
    (ss_one (s_ret (d_var 2))))))) ob_law_take
theorem ok_law_divisor (T : Tx K mg) {f : Addr} {fd : FuncData} (F : Fun K "_law_divisor" "_law_divisor" s_law_divisor f fd) : FnOk P w K mg base CX0 1 f fd ["a", "b"] (spOf ⟨P, w, K, CA⟩ S_law_divisor) :=
  fn_l F sc_law_divisor len2 (gb := B_law_divisor) (fun cdv A outer s H E hr =>
    (ss_cons (s_for (vs := [2]) PassesOwn.never rfl (i_range1 T.m_range d_int) (g_name 2 sc_law_divisor.nd (by decide)) (ss_cons (s_if (t_cmp (op_eqA hr) eqS (d_var 1) d_int (nomark _)) (ss_one (s_ret (d_abs T.m_abs (d_var 0)))) ss_nil)
    (ss_one (s_par 0 1 rfl sc_law_divisor.nd (by decide) (d_var 1) (d_mod (d_var 0) (d_var 1)) rfl))))
    (ss_one (s_ret d_int)))) ob_law_divisor
theorem ok_law_fraction (T : Tx K mg) {f : Addr} {fd : FuncData} (F : Fun K "_law_fraction" "_law_fraction" s_law_fraction f fd) (D_law_divisor : FnD ⟨P, w, K, CA⟩ mg base CX0 1 "_law_divisor" S_law_divisor) : FnOk P w K mg base CX0 2 f fd ["n", "d"] (spOf ⟨P, w, K, CA⟩ S_law_fraction) :=
  fn_l F sc_law_fraction len2 (gb := B_law_fraction) (fun cdv A outer s H E hr =>
    (ss_cons (s_set 2 sc_law_fraction.nd (d_call D_law_divisor hr (by decide) passN (a_cons (d_var 0) (a_cons (d_var 1) SAs.nil))))
    (ss_cons (s_set 2 sc_law_fraction.nd (d_ifE (t_cmp op_gt gtS (d_var 1) d_int (nomark _)) (d_var 2) (d_sub d_int (d_var 2))))
    (ss_one (s_ret (d_tup (a_cons (d_div (d_var 0) (d_var 2)) (a_cons (d_div (d_var 1) (d_var 2)) SAs.nil)))))))) ob_law_fraction
theorem ok_law_plus (T : Tx K mg) {f : Addr} {fd : FuncData} (F : Fun K "_law_plus" "_law_plus" s_law_plus f fd) (D_law_fraction : FnD ⟨P, w, K, CA⟩ mg base CX0 2 "_law_fraction" S_law_fraction) : FnOk P w K mg base CX0 3 f fd ["a", "b"] (spOf ⟨P, w, K, CA⟩ S_law_plus) :=
  fn_l F sc_law_plus len2 (gb := B_law_plus) (fun cdv A outer s H E hr =>
    (ss_one (s_ret (d_call D_law_fraction hr (by decide) passN (a_cons (d_add (d_mul (d_sub_ hr (d_var 0) d_int) (d_sub_ hr (d_var 1) d_int)) (d_mul (d_sub_ hr (d_var 1) d_int) (d_sub_ hr (d_var 0) d_int))) (a_cons (d_mul (d_sub_ hr (d_var 0) d_int) (d_sub_ hr (d_var 1) d_int)) SAs.nil)))))) ob_law_plus
theorem ok_law_times (T : Tx K mg) {f : Addr} {fd : FuncData} (F : Fun K "_law_times" "_law_times" s_law_times f fd) (D_law_fraction : FnD ⟨P, w, K, CA⟩ mg base CX0 2 "_law_fraction" S_law_fraction) : FnOk P w K mg base CX0 3 f fd ["a", "b"] (spOf ⟨P, w, K, CA⟩ S_law_times) :=
  fn_l F sc_law_times len2 (gb := B_law_times) (fun cdv A outer s H E hr =>
    (ss_one (s_ret (d_call D_law_fraction hr (by decide) passN (a_cons (d_mul (d_sub_ hr (d_var 0) d_int) (d_sub_ hr (d_var 1) d_int)) (a_cons (d_mul (d_sub_ hr (d_var 0) d_int) (d_sub_ hr (d_var 1) d_int)) SAs.nil)))))) ob_law_times
theorem ok_law_cut (T : Tx K mg) {f : Addr} {fd : FuncData} (F : Fun K "_law_cut" "_law_cut" s_law_cut f fd) (D_law_fraction : FnD ⟨P, w, K, CA⟩ mg base CX0 2 "_law_fraction" S_law_fraction) (D_law_take : FnD ⟨P, w, K, CA⟩ mg base CX0 2 "_law_take" S_law_take) (D_law_times : FnD ⟨P, w, K, CA⟩ mg base CX0 3 "_law_times" S_law_times) (D_law_plus : FnD ⟨P, w, K, CA⟩ mg base CX0 3 "_law_plus" S_law_plus) : FnOk P w K mg base CX0 4 f fd ["c"] (spOf ⟨P, w, K, CA⟩ S_law_cut) :=
  fn_l F sc_law_cut len1 (gb := B_law_cut) (fun cdv A outer s H E hr =>
    (ss_cons (s_set 1 sc_law_cut.nd (d_lst (a_cons (d_tup (a_cons d_int (a_cons d_int SAs.nil))) (a_cons (d_tup (a_cons d_int (a_cons d_int SAs.nil))) (a_cons (d_tup (a_cons d_int (a_cons d_int SAs.nil))) (a_cons (d_tup (a_cons d_int (a_cons d_int SAs.nil))) (a_cons (d_tup (a_cons d_int (a_cons d_int SAs.nil))) (a_cons (d_tup (a_cons d_int (a_cons d_int SAs.nil))) (a_cons (d_tup (a_cons d_int (a_cons d_int SAs.nil))) (a_cons (d_tup (a_cons d_int (a_cons d_int SAs.nil))) (a_cons (d_tup (a_cons d_int (a_cons d_int SAs.nil))) SAs.nil)))))))))))
    (ss_cons (s_asg (vs := [4, 5]) (d_sub_ hr (d_var 1) (d_call D_law_take hr (by decide) passN (a_cons (d_var 0) (a_cons d_int SAs.nil)))) (g_tup rfl (gs_cons (g_name 4 sc_law_cut.nd (by decide)) (gs_cons (g_name 5 sc_law_cut.nd (by decide)) gs_nil))))
    (ss_cons (s_if (t_cmp (op_eqA hr) eqS (d_var 5) d_int (nomark _)) (ss_one (s_ret (d_lst (a_cons (d_tup (a_cons d_int (a_cons d_int SAs.nil))) SAs.nil)))) ss_nil)
    (ss_cons (s_set 2 sc_law_cut.nd (d_lst (a_cons (d_tup (a_cons (d_var 4) (a_cons (d_var 5) SAs.nil))) SAs.nil)))
    (ss_cons (s_set 3 sc_law_cut.nd (d_call D_law_fraction hr (by decide) passN (a_cons (d_sub (d_var 5) (d_var 4)) (a_cons (d_var 5) SAs.nil))))
    (ss_cons (s_if (t_cmp (op_eqA hr) eqS (d_call D_law_take hr (by decide) passN (a_cons (d_var 0) (a_cons d_int SAs.nil))) d_int (nomark _)) (ss_cons (s_asg (vs := [4, 5]) (d_sub_ hr (d_var 1) (d_add d_int (d_call D_law_take hr (by decide) passN (a_cons (d_var 0) (a_cons d_int SAs.nil))))) (g_tup rfl (gs_cons (g_name 4 sc_law_cut.nd (by decide)) (gs_cons (g_name 5 sc_law_cut.nd (by decide)) gs_nil))))
    (ss_cons (s_set 6 sc_law_cut.nd (d_call D_law_times hr (by decide) passN (a_cons (d_var 3) (a_cons (d_tup (a_cons (d_var 4) (a_cons (d_var 5) SAs.nil))) SAs.nil))))
    (ss_cons (s_expr (d_append (d_var 2) (d_var 6)))
    (ss_one (s_set 3 sc_law_cut.nd (d_call D_law_plus hr (by decide) passN (a_cons (d_var 3) (a_cons (d_tup (a_cons (d_sub d_int (d_sub_ hr (d_var 6) d_int)) (a_cons (d_sub_ hr (d_var 6) d_int) SAs.nil))) SAs.nil)))))))) ss_nil)
    (ss_one (s_ret (d_add (d_var 2) (d_lst (a_cons (d_var 3) SAs.nil)))))))))))) ob_law_cut
theorem ok_law_body (T : Tx K mg) {f : Addr} {fd : FuncData} (F : Fun K "_law_body" "_law_body" s_law_body f fd) (hm : mg "_law_body" = some (.ref f)) (hb : Binds K fd ["c", "names", "letters", "deep"] []) (D_law_take : FnD ⟨P, w, K, CA⟩ mg base CX0 2 "_law_take" S_law_take) (D_law_cut : FnD ⟨P, w, K, CA⟩ mg base CX0 4 "_law_cut" S_law_cut) : ∀ n : Nat, FnOk P w K mg base CX0 (4 + n) f fd ["c", "names", "letters", "deep"] (spOf ⟨P, w, K, CA⟩ (S_law_body n))
  | 0 => fn_none no_law_body
  | n + 1 => by
    have D_self := FnOk.d (ok_law_body T F hm hb D_law_take D_law_cut n) hm F.kp hb
    exact fn_l F sc_law_body len4 (gb := B_law_body n) (fun cdv A outer s H E hr =>
    (ss_cons (s_set 4 sc_law_body.nd (d_call D_law_take hr (Nat.le_add_right_of_le (by decide)) passN (a_cons (d_var 0) (a_cons d_int SAs.nil))))
    (ss_cons (s_if (t_w (w_or (t_cmp op_lt ltS (d_var 3) d_int (nomark _)) (w_or1 (t_cmp (op_eqA hr) eqS (d_var 4) d_int (nomark _))))) (ss_one (s_ret (d_sub_ hr (d_lst (a_cons (d_tup (a_cons d_str SAs.nil)) (a_cons (d_tup (a_cons d_str SAs.nil)) (a_cons (d_tup (a_cons d_str SAs.nil)) (a_cons (d_tup (a_cons d_str SAs.nil)) (a_cons (d_tup (a_cons d_str SAs.nil)) SAs.nil)))))) (d_call D_law_take hr (Nat.le_add_right_of_le (by decide)) passN (a_cons (d_var 0) (a_cons d_int SAs.nil)))))) ss_nil)
    (ss_cons (s_if (t_w (w_and (t_cmp op_lt ltS (d_var 4) d_int (nomark _)) (w_and1 (t_tru (d_var 2))))) (ss_one (s_ret (d_tup (a_cons d_str (a_cons (d_sub_ hr (d_var 2) (d_call D_law_take hr (Nat.le_add_right_of_le (by decide)) passN (a_cons (d_var 0) (a_cons (d_len T.m_len (d_var 2)) SAs.nil)))) (a_cons (d_call D_self hr (Nat.le_refl _) passN (a_cons (d_var 0) (a_cons (d_var 1) (a_cons (d_var 2) (a_cons (d_sub (d_var 3) d_int) SAs.nil))))) SAs.nil)))))) ss_nil)
    (ss_cons (s_if (t_cmp op_lt ltS (d_var 4) d_int (nomark _)) (ss_one (s_ret (d_tup (a_cons d_str (a_cons (d_sub_ hr (d_var 1) (d_call D_law_take hr (Nat.le_add_right_of_le (by decide)) passN (a_cons (d_var 0) (a_cons (d_len T.m_len (d_var 1)) SAs.nil)))) (a_cons (d_call D_self hr (Nat.le_refl _) passN (a_cons (d_var 0) (a_cons (d_var 1) (a_cons (d_var 2) (a_cons (d_sub (d_var 3) d_int) SAs.nil))))) SAs.nil)))))) ss_nil)
    (ss_one (s_ret (d_tup (a_cons d_str (a_cons (d_tupOf T.m_tuple (d_comp (own := [("one", 5)]) rfl sc_law_body.nd (i_val (d_call D_law_cut hr (Nat.le_add_right_of_le (by decide)) passN (a_cons (d_var 0) SAs.nil))) (blk_by (N := ["c", "names", "letters", "deep", "way", "one"]) (sc := defScope s_law_body) rfl rfl (own := [("one", 5)]) (by decide +kernel)) (fun _ _ _ _ _ => (g_name 5 sc_law_body.nd (by decide))) (fun _ _ _ _ _ => ts_nil) (fun _ _ _ _ _ => (d_tup (a_cons (d_var 5) (a_cons (d_call D_self hr (Nat.le_refl _) passN (a_cons (d_var 0) (a_cons (d_var 1) (a_cons (d_var 2) (a_cons (d_sub (d_var 3) d_int) SAs.nil))))) SAs.nil)))))) SAs.nil)))))))))) (ob_law_body n)
theorem ok_law_program (T : Tx K mg) {f : Addr} {fd : FuncData} (F : Fun K "_law_program" "_law_program" s_law_program f fd) (D_law_take : FnD ⟨P, w, K, CA⟩ mg base CX0 2 "_law_take" S_law_take) (D_law_body : FnD ⟨P, w, K, CA⟩ mg base CX0 12 "_law_body" (S_law_body 8)) : FnOk P w K mg base CX0 13 f fd ["c"] (spOf ⟨P, w, K, CA⟩ S_law_program) :=
  fn_l F sc_law_program len1 (gb := B_law_program) (fun cdv A outer s H E hr =>
    (ss_cons (s_set 1 sc_law_program.nd (d_slice (d_lst (a_cons d_str (a_cons d_str (a_cons d_str (a_cons d_str SAs.nil))))) o_none (o_some (d_add d_int (d_call D_law_take hr (by decide) passN (a_cons (d_var 0) (a_cons d_int SAs.nil)))))))
    (ss_cons (s_set 2 sc_law_program.nd (d_call D_law_take hr (by decide) passN (a_cons (d_var 0) (a_cons (d_len T.m_len (d_var 1)) SAs.nil))))
    (ss_cons (s_set 1 sc_law_program.nd (d_add (d_slice (d_var 1) (o_some (d_var 2)) o_none) (d_slice (d_var 1) o_none (o_some (d_var 2)))))
    (ss_cons (s_set 3 sc_law_program.nd (d_slice (d_lst (a_cons d_str (a_cons d_str (a_cons d_str SAs.nil)))) o_none (o_some (d_call D_law_take hr (by decide) passN (a_cons (d_var 0) (a_cons d_int SAs.nil))))))
    (ss_one (s_ret (d_tupOf T.m_tuple (d_comp (own := [("name", 4)]) rfl sc_law_program.nd (i_val (d_var 1)) (blk_by (N := ["c", "names", "k", "letters", "name"]) (sc := defScope s_law_program) rfl rfl (own := [("name", 4)]) (by decide +kernel)) (fun _ _ _ _ _ => (g_name 4 sc_law_program.nd (by decide))) (fun _ _ _ _ _ => ts_nil) (fun _ _ _ _ _ => (d_tup (a_cons (d_var 4) (a_cons (d_call D_law_body hr (by decide) passN (a_cons (d_var 0) (a_cons (d_var 1) (a_cons (d_var 3) (a_cons (d_add d_int (d_call D_law_take hr (by decide) passN (a_cons (d_var 0) (a_cons d_int SAs.nil)))) SAs.nil))))) SAs.nil))))))))))))) ob_law_program
theorem ok_law_is_name (T : Tx K mg) {f : Addr} {fd : FuncData} (F : Fun K "_law_is_name" "_law_is_name" s_law_is_name f fd) : FnOk P w K mg base CX0 1 f fd ["value"] (spOf ⟨P, w, K, CA⟩ S_law_is_name) :=
  fn_l F sc_law_is_name len1 (gb := B_law_is_name) (fun cdv A outer s H E hr =>
    (ss_cons (s_if (t_w (w_or (t_not (t_tru (d_isi1 T.m_isinstance T.m_str (by decide +kernel) (by decide) (d_var 0)))) (w_or (t_cmp op_lt ltS (d_len T.m_len (d_var 0)) d_int (nomark _)) (w_or (t_cmp op_gt gtS (d_len T.m_len (d_var 0)) d_int (nomark _)) (w_or1 (t_cmp (op_inA hr) inS (d_var 0) (d_lst (a_cons d_str (a_cons d_str SAs.nil))) (by rfl))))))) (ss_one (s_ret d_bl)) ss_nil)
    (ss_cons (s_set 1 sc_law_is_name.nd d_str)
    (ss_one (s_ret (d_and (d_cmp (op_inA hr) inS (d_sub_ hr (d_var 0) d_int) (d_var 1) (by rfl)) (d_one (d_all rfl T.m_all (d_comp (own := [("sign", 2)]) rfl sc_law_is_name.nd (i_str (d_var 0)) (blk_by (N := ["value", "letters", "sign"]) (sc := defScope s_law_is_name) rfl rfl (own := [("sign", 2)]) (by decide +kernel)) (fun _ _ _ _ _ => (g_name 2 sc_law_is_name.nd (by decide))) (fun _ _ _ _ _ => ts_nil) (fun _ _ _ _ _ => (d_cmp (op_inA hr) inS (d_var 2) (d_add (d_var 1) d_str) (by rfl)))))))))))) ob_law_is_name
theorem ok_law_is_int (T : Tx K mg) {f : Addr} {fd : FuncData} (F : Fun K "_law_is_int" "_law_is_int" s_law_is_int f fd) : FnOk P w K mg base CX0 1 f fd ["value"] (spOf ⟨P, w, K, CA⟩ S_law_is_int) :=
  fn_l F sc_law_is_int len1 (gb := B_law_is_int) (fun cdv A outer s H E hr =>
    (ss_one (s_ret (d_and (d_isi1 T.m_isinstance T.m_int (by decide +kernel) (by decide) (d_var 0)) (d_one (d_notB (d_isi1 T.m_isinstance T.m_bool (by decide +kernel) (by decide) (d_var 0)))))))) ob_law_is_int
theorem ok_law_is_fraction (T : Tx K mg) {f : Addr} {fd : FuncData} (F : Fun K "_law_is_fraction" "_law_is_fraction" s_law_is_fraction f fd) (D_law_is_int : FnD ⟨P, w, K, CA⟩ mg base CX0 1 "_law_is_int" S_law_is_int) (D_law_divisor : FnD ⟨P, w, K, CA⟩ mg base CX0 1 "_law_divisor" S_law_divisor) : FnOk P w K mg base CX0 2 f fd ["value"] (spOf ⟨P, w, K, CA⟩ S_law_is_fraction) :=
  fn_l F sc_law_is_fraction len1 (gb := B_law_is_fraction) (fun cdv A outer s H E hr =>
    (ss_cons (s_if (t_w (w_or (t_not (t_tru (d_isi1 T.m_isinstance T.m_tuple (by decide +kernel) (by decide) (d_var 0)))) (w_or (t_cmp (op_neA hr) neS (d_len T.m_len (d_var 0)) d_int (nomark _)) (w_or (t_not (t_tru (d_call D_law_is_int hr (by decide) passN (a_cons (d_sub_ hr (d_var 0) d_int) SAs.nil)))) (w_or1 (t_not (t_tru (d_call D_law_is_int hr (by decide) passN (a_cons (d_sub_ hr (d_var 0) d_int) SAs.nil))))))))) (ss_one (s_ret d_bl)) ss_nil)
    (ss_one (s_ret (d_and (d_cmp op_gt gtS (d_sub_ hr (d_var 0) d_int) d_int (nomark _)) (d_and (d_cmp op_gt gtS (d_sub_ hr (d_var 0) d_int) d_int (nomark _)) (d_one (d_cmp (op_eqA hr) eqS (d_call D_law_divisor hr (by decide) passN (a_cons (d_sub_ hr (d_var 0) d_int) (a_cons (d_sub_ hr (d_var 0) d_int) SAs.nil))) d_int (nomark _))))))))) ob_law_is_fraction
theorem ok_law_is_body (T : Tx K mg) {f : Addr} {fd : FuncData} (F : Fun K "_law_is_body" "_law_is_body" s_law_is_body f fd) (hm : mg "_law_is_body" = some (.ref f)) (hb : Binds K fd ["value", "names"] []) (D_law_plus : FnD ⟨P, w, K, CA⟩ mg base CX0 3 "_law_plus" S_law_plus) (D_law_is_name : FnD ⟨P, w, K, CA⟩ mg base CX0 1 "_law_is_name" S_law_is_name) (D_law_is_fraction : FnD ⟨P, w, K, CA⟩ mg base CX0 2 "_law_is_fraction" S_law_is_fraction) : ∀ n : Nat, FnOk P w K mg base CX0 (3 + n) f fd ["value", "names"] (spOf ⟨P, w, K, CA⟩ (S_law_is_body n))
  | 0 => fn_none no_law_is_body
  | n + 1 => by
    have D_self := FnOk.d (ok_law_is_body T F hm hb D_law_plus D_law_is_name D_law_is_fraction n) hm F.kp hb
    exact fn_l F sc_law_is_body len2 (gb := B_law_is_body n) (fun cdv A outer s H E hr =>
    (ss_cons (s_if (t_w (w_or (t_not (t_tru (d_isi1 T.m_isinstance T.m_tuple (by decide +kernel) (by decide) (d_var 0)))) (w_or (t_not (t_tru (d_var 0))) (w_or1 (t_not (t_tru (d_isi1 T.m_isinstance T.m_str (by decide +kernel) (by decide) (d_sub_ hr (d_var 0) d_int)))))))) (ss_one (s_ret d_bl)) ss_nil)
    (ss_cons (s_if (t_w (w_or (t_cmp (op_eqA hr) eqS (d_sub_ hr (d_var 0) d_int) d_str (nomark _)) (w_or1 (t_cmp (op_eqA hr) eqS (d_sub_ hr (d_var 0) d_int) d_str (nomark _))))) (ss_one (s_ret (d_cmp (op_eqA hr) eqS (d_len T.m_len (d_var 0)) d_int (nomark _)))) ss_nil)
    (ss_cons (s_if (t_w (w_or (t_cmp (op_eqA hr) eqS (d_sub_ hr (d_var 0) d_int) d_str (nomark _)) (w_or1 (t_cmp (op_eqA hr) eqS (d_sub_ hr (d_var 0) d_int) d_str (nomark _))))) (ss_cons (s_if (t_w (w_or (t_cmp (op_neA hr) neS (d_len T.m_len (d_var 0)) d_int (nomark _)) (w_or (t_not (t_tru (d_call D_law_is_name hr (Nat.le_add_right_of_le (by decide)) passN (a_cons (d_sub_ hr (d_var 0) d_int) SAs.nil)))) (w_or1 (t_w (w_and (t_cmp (op_eqA hr) eqS (d_sub_ hr (d_var 0) d_int) d_str (nomark _)) (w_and1 (t_cmp (op_notInA hr) notInS (d_sub_ hr (d_var 0) d_int) (d_var 1) (by rfl))))))))) (ss_one (s_ret d_bl)) ss_nil)
    (ss_one (s_ret (d_call D_self hr (Nat.le_refl _) passN (a_cons (d_sub_ hr (d_var 0) d_int) (a_cons (d_var 1) SAs.nil)))))) ss_nil)
    (ss_cons (s_if (t_w (w_or (t_cmp (op_neA hr) neS (d_sub_ hr (d_var 0) d_int) d_str (nomark _)) (w_or (t_cmp (op_neA hr) neS (d_len T.m_len (d_var 0)) d_int (nomark _)) (w_or (t_not (t_tru (d_isi1 T.m_isinstance T.m_tuple (by decide +kernel) (by decide) (d_sub_ hr (d_var 0) d_int)))) (w_or1 (t_not (t_tru (d_sub_ hr (d_var 0) d_int)))))))) (ss_one (s_ret d_bl)) ss_nil)
    (ss_cons (s_set 2 sc_law_is_body.nd (d_tup (a_cons d_int (a_cons d_int SAs.nil))))
    (ss_cons (s_for (vs := [3]) PassesOwn.never rfl (i_val (d_sub_ hr (d_var 0) d_int)) (g_name 3 sc_law_is_body.nd (by decide)) (ss_cons (s_if (t_w (w_or (t_not (t_tru (d_isi1 T.m_isinstance T.m_tuple (by decide +kernel) (by decide) (d_var 3)))) (w_or (t_cmp (op_neA hr) neS (d_len T.m_len (d_var 3)) d_int (nomark _)) (w_or (t_not (t_tru (d_call D_law_is_fraction hr (Nat.le_add_right_of_le (by decide)) passN (a_cons (d_sub_ hr (d_var 3) d_int) SAs.nil)))) (w_or1 (t_not (t_tru (d_call D_self hr (Nat.le_refl _) passN (a_cons (d_sub_ hr (d_var 3) d_int) (a_cons (d_var 1) SAs.nil)))))))))) (ss_one (s_ret d_bl)) ss_nil)
    (ss_one (s_set 2 sc_law_is_body.nd (d_call D_law_plus hr (Nat.le_add_right_of_le (by decide)) passN (a_cons (d_var 2) (a_cons (d_sub_ hr (d_var 3) d_int) SAs.nil)))))))
    (ss_one (s_ret (d_cmp (op_eqA hr) eqS (d_var 2) (d_tup (a_cons d_int (a_cons d_int SAs.nil))) (nomark _))))))))))) (ob_law_is_body n)
theorem ok_law_is_program (T : Tx K mg) {f : Addr} {fd : FuncData} (F : Fun K "_law_is_program" "_law_is_program" s_law_is_program f fd) (D_law_is_body : FnD ⟨P, w, K, CA⟩ mg base CX0 43 "_law_is_body" (S_law_is_body 40)) (D_law_is_name : FnD ⟨P, w, K, CA⟩ mg base CX0 1 "_law_is_name" S_law_is_name) : FnOk P w K mg base CX0 44 f fd ["value"] (spOf ⟨P, w, K, CA⟩ S_law_is_program) :=
  fn_l F sc_law_is_program len1 (gb := B_law_is_program) (fun cdv A outer s H E hr =>
    (ss_cons (s_if (t_w (w_or (t_not (t_tru (d_isi1 T.m_isinstance T.m_tuple (by decide +kernel) (by decide) (d_var 0)))) (w_or1 (t_not (t_tru (d_var 0)))))) (ss_one (s_ret d_bl)) ss_nil)
    (ss_cons (s_set 1 sc_law_is_program.nd (d_lst SAs.nil))
    (ss_cons (s_for (vs := [2]) PassesOwn.never rfl (i_val (d_var 0)) (g_name 2 sc_law_is_program.nd (by decide)) (ss_cons (s_if (t_w (w_or (t_not (t_tru (d_isi1 T.m_isinstance T.m_tuple (by decide +kernel) (by decide) (d_var 2)))) (w_or (t_cmp (op_neA hr) neS (d_len T.m_len (d_var 2)) d_int (nomark _)) (w_or (t_not (t_tru (d_call D_law_is_name hr (by decide) passN (a_cons (d_sub_ hr (d_var 2) d_int) SAs.nil)))) (w_or1 (t_cmp (op_inA hr) inS (d_sub_ hr (d_var 2) d_int) (d_var 1) (by rfl))))))) (ss_one (s_ret d_bl)) ss_nil)
    (ss_one (s_expr (d_append (d_var 1) (d_sub_ hr (d_var 2) d_int))))))
    (ss_one (s_ret (d_all rfl T.m_all (d_comp (own := [("row", 2)]) rfl sc_law_is_program.nd (i_val (d_var 0)) (blk_by (N := ["value", "names", "row"]) (sc := defScope s_law_is_program) rfl rfl (own := [("row", 2)]) (by decide +kernel)) (fun _ _ _ _ _ => (g_name 2 sc_law_is_program.nd (by decide))) (fun _ _ _ _ _ => ts_nil) (fun _ _ _ _ _ => (d_call D_law_is_body hr (by decide) passN (a_cons (d_sub_ hr (d_var 2) d_int) (a_cons (d_var 1) SAs.nil)))))))))))) ob_law_is_program
theorem ok_law_spoilt (T : Tx K mg) {f : Addr} {fd : FuncData} (F : Fun K "_law_spoilt" "_law_spoilt" s_law_spoilt f fd) (hm : mg "_law_spoilt" = some (.ref f)) (hb : Binds K fd ["c", "value"] []) (D_law_take : FnD ⟨P, w, K, CA⟩ mg base CX0 2 "_law_take" S_law_take) : ∀ n : Nat, FnOk P w K mg base CX0 (2 + n) f fd ["c", "value"] (spOf ⟨P, w, K, CA⟩ (S_law_spoilt n))
  | 0 => fn_none no_law_spoilt
  | n + 1 => by
    have D_self := FnOk.d (ok_law_spoilt T F hm hb D_law_take n) hm F.kp hb
    exact fn_l F sc_law_spoilt len2 (gb := B_law_spoilt n) (fun cdv A outer s H E hr =>
    (ss_cons (s_if (t_tru (d_isi1 T.m_isinstance T.m_str (by decide +kernel) (by decide) (d_var 1))) (ss_cons (s_set 3 sc_law_spoilt.nd (d_lst (a_cons d_str (a_cons d_str (a_cons d_str (a_cons d_str (a_cons d_str (a_cons d_str (a_cons d_str (a_cons d_str (a_cons d_str (a_cons d_str (a_cons d_str (a_cons d_str (a_cons d_str (a_cons d_int SAs.nil))))))))))))))))
    (ss_one (s_ret (d_sub_ hr (d_var 3) (d_call D_law_take hr (Nat.le_add_right_of_le (by decide)) passN (a_cons (d_var 0) (a_cons d_int SAs.nil))))))) ss_nil)
    (ss_cons (s_if (t_w (w_or (t_not (t_tru (d_isi1 T.m_isinstance T.m_tuple (by decide +kernel) (by decide) (d_var 1)))) (w_or1 (t_not (t_tru (d_var 1)))))) (ss_one (s_ret (d_sub_ hr (d_lst (a_cons d_int (a_cons d_int (a_cons d_int (a_cons d_int (a_cons d_bl (a_cons (d_sub d_int d_int) (a_cons d_non (a_cons (d_tup SAs.nil) (a_cons d_str (a_cons (d_tup (a_cons d_str SAs.nil)) SAs.nil))))))))))) (d_call D_law_take hr (Nat.le_add_right_of_le (by decide)) passN (a_cons (d_var 0) (a_cons d_int SAs.nil)))))) ss_nil)
    (ss_cons (s_if (t_cmp (op_eqA hr) eqS (d_call D_law_take hr (Nat.le_add_right_of_le (by decide)) passN (a_cons (d_var 0) (a_cons d_int SAs.nil))) d_int (nomark _)) (ss_cons (s_set 4 sc_law_spoilt.nd (d_lst (a_cons (d_slice (d_var 1) (o_some d_int) o_none) (a_cons (d_slice (d_var 1) o_none (o_some (d_neg d_int))) (a_cons (d_add (d_var 1) (d_slice (d_var 1) (o_some (d_neg d_int)) o_none)) (a_cons (d_rev (d_var 1)) (a_cons (d_lstOf rfl T.m_list (d_var 1)) (a_cons (d_tup (a_cons d_str SAs.nil)) (a_cons (d_tup (a_cons d_str SAs.nil)) (a_cons (d_tup (a_cons (d_var 1) SAs.nil)) (a_cons (d_tup (a_cons d_int (a_cons d_int SAs.nil))) (a_cons (d_tup (a_cons d_int (a_cons d_int SAs.nil))) SAs.nil))))))))))))
    (ss_one (s_ret (d_sub_ hr (d_var 4) (d_call D_law_take hr (Nat.le_add_right_of_le (by decide)) passN (a_cons (d_var 0) (a_cons d_int SAs.nil))))))) ss_nil)
    (ss_cons (s_set 2 sc_law_spoilt.nd (d_call D_law_take hr (Nat.le_add_right_of_le (by decide)) passN (a_cons (d_var 0) (a_cons (d_len T.m_len (d_var 1)) SAs.nil))))
    (ss_one (s_ret (d_add (d_add (d_slice (d_var 1) o_none (o_some (d_var 2))) (d_tup (a_cons (d_call D_self hr (Nat.le_refl _) passN (a_cons (d_var 0) (a_cons (d_sub_ hr (d_var 1) (d_var 2)) SAs.nil))) SAs.nil))) (d_slice (d_var 1) (o_some (d_add (d_var 2) d_int)) o_none))))))))) (ob_law_spoilt n)
theorem ok_law (T : Tx K mg) {f : Addr} {fd : FuncData} (F : Fun K "law" "law" s_law f fd) (D_law_start : FnD ⟨P, w, K, CA⟩ mg base CX0 1 "_law_start" S_law_start) (D_law_program : FnD ⟨P, w, K, CA⟩ mg base CX0 13 "_law_program" S_law_program) (D_is_program : FnD ⟨P, w, K, CA⟩ mg base CX0 7 "is_program" S_is_program) (D_law_spoilt : FnD ⟨P, w, K, CA⟩ mg base CX0 42 "_law_spoilt" (S_law_spoilt 40)) (D_law_take : FnD ⟨P, w, K, CA⟩ mg base CX0 2 "_law_take" S_law_take) (D_law_is_program : FnD ⟨P, w, K, CA⟩ mg base CX0 44 "_law_is_program" S_law_is_program) : FnOk P w K mg base CX0 45 f fd ["script"] (spOf ⟨P, w, K, CA⟩ S_law) :=
  fn_l F sc_law len1 (gb := B_law) (fun cdv A outer s H E hr =>
    (ss_cons (s_set 1 sc_law.nd (d_call D_law_start hr (by decide) passN (a_cons (d_var 0) SAs.nil)))
    (ss_cons (s_set 2 sc_law.nd (d_call D_law_program hr (by decide) passN (a_cons (d_var 1) SAs.nil)))
    (ss_cons (s_if (t_w (w_or (t_cmp op_notB notBS (d_call D_is_program hr (by decide) passN (a_cons (d_var 2) SAs.nil)) d_bl (nomark _)) (w_or1 (t_cmp op_notB notBS (d_call D_is_program hr (by decide) passN (a_cons (d_tup SAs.nil) SAs.nil)) d_bl (nomark _))))) (ss_one (s_ret d_bl)) ss_nil)
    (ss_cons (s_for (vs := [3]) PassesOwn.never rfl (i_range1 T.m_range d_int) (g_name 3 sc_law.nd (by decide)) (ss_cons (s_set 4 sc_law.nd (d_var 2))
    (ss_cons (s_for (vs := [5]) PassesOwn.never rfl (i_range1 T.m_range (d_add d_int (d_call D_law_take hr (by decide) passN (a_cons (d_var 1) (a_cons d_int SAs.nil))))) (g_name 5 sc_law.nd (by decide)) (ss_one (s_set 4 sc_law.nd (d_call D_law_spoilt hr (by decide) passN (a_cons (d_var 1) (a_cons (d_var 4) SAs.nil))))))
    (ss_cons (s_set 6 sc_law.nd (d_call D_is_program hr (by decide) passN (a_cons (d_var 4) SAs.nil)))
    (ss_one (s_if (t_w (w_or (t_not (t_tru (d_isi1 T.m_isinstance T.m_bool (by decide +kernel) (by decide) (d_var 6)))) (w_or1 (t_cmp (op_neA hr) neS (d_var 6) (d_call D_law_is_program hr (by decide) passN (a_cons (d_var 4) SAs.nil)) (nomark _))))) (ss_one (s_ret d_bl)) ss_nil))))))
    (ss_one (s_ret d_bl))))))) ob_law
end
theorem all_mk {l : PySem.W.OpenLaw} {w : World} {K : PySem.W.Frag} {h : Heap} {mg : Str → Option Value} {fa : Addr} (X : K.In h) (G : h.Ns mainGlobals mg) (hfa : mg "law" = some (.ref fa)) (CA : String → Addr)
    (z_abs : PySem.W.nsIn K mainGlobals "abs" = some none)
    (z_all : PySem.W.nsIn K mainGlobals "all" = some none)
    (z_bool : PySem.W.nsIn K mainGlobals "bool" = some none)
    (z_int : PySem.W.nsIn K mainGlobals "int" = some none)
    (z_isinstance : PySem.W.nsIn K mainGlobals "isinstance" = some none)
    (z_len : PySem.W.nsIn K mainGlobals "len" = some none)
    (z_list : PySem.W.nsIn K mainGlobals "list" = some none)
    (z_range : PySem.W.nsIn K mainGlobals "range" = some none)
    (z_str : PySem.W.nsIn K mainGlobals "str" = some none)
    (z_tuple : PySem.W.nsIn K mainGlobals "tuple" = some none)
    {a_ZERO : Addr} {t_ZERO u_ZERO : Tok} {n_ZERO : Nat} {sl_ZERO : Array (Option Value)} (v_ZERO : PySem.W.nsIn K mainGlobals "ZERO" = some (some (.ref a_ZERO))) (w_ZERO : K.lookup a_ZERO = some ⟨.type "tuple", none, .seq #[.int 0 t_ZERO, .int 1 u_ZERO] n_ZERO, sl_ZERO⟩)
    {a_ONE : Addr} {t_ONE u_ONE : Tok} {n_ONE : Nat} {sl_ONE : Array (Option Value)} (v_ONE : PySem.W.nsIn K mainGlobals "ONE" = some (some (.ref a_ONE))) (w_ONE : K.lookup a_ONE = some ⟨.type "tuple", none, .seq #[.int 1 t_ONE, .int 1 u_ONE] n_ONE, sl_ONE⟩)
    {t_LETTERS : Tok} (v_LETTERS : PySem.W.nsIn K mainGlobals "LETTERS" = some (some (.str "abcdefghijklmnopqrstuvwxyz" t_LETTERS)))
    {t_DIGITS : Tok} (v_DIGITS : PySem.W.nsIn K mainGlobals "DIGITS" = some (some (.str "0123456789" t_DIGITS)))
    {t_MOST_SIGNS : Tok} (v_MOST_SIGNS : PySem.W.nsIn K mainGlobals "MOST_SIGNS" = some (some (.int 8 t_MOST_SIGNS)))
    {t_MOST_NUMBER : Tok} (v_MOST_NUMBER : PySem.W.nsIn K mainGlobals "MOST_NUMBER" = some (some (.int 10000000000000000000000000000000000000000 t_MOST_NUMBER)))
    {f_common_divisor : Addr} {od_common_divisor an_common_divisor : Option Addr} {sl_common_divisor : Array (Option Value)} {oc_common_divisor kV_common_divisor dc_common_divisor pm_common_divisor cd_common_divisor ct_common_divisor : Value} (a_common_divisor : PySem.W.nsIn K mainGlobals "common_divisor" = some (some (.ref f_common_divisor))) (l_common_divisor : K.lookup f_common_divisor = some ⟨oc_common_divisor, od_common_divisor, .func (PySem.W.fnOf "common_divisor" "common_divisor" (defArgs s_common_divisor) (defBody s_common_divisor) (defScope s_common_divisor) .none kV_common_divisor dc_common_divisor pm_common_divisor an_common_divisor cd_common_divisor ct_common_divisor), sl_common_divisor⟩) (c_common_divisor : PySem.W.codeIn K cd_common_divisor "common_divisor" = true) (k_common_divisor : PySem.W.keepIn K (.ref f_common_divisor) = true)
    {f_ratio : Addr} {od_ratio an_ratio : Option Addr} {sl_ratio : Array (Option Value)} {oc_ratio kV_ratio dc_ratio pm_ratio cd_ratio ct_ratio : Value} (a_ratio : PySem.W.nsIn K mainGlobals "ratio" = some (some (.ref f_ratio))) (l_ratio : K.lookup f_ratio = some ⟨oc_ratio, od_ratio, .func (PySem.W.fnOf "ratio" "ratio" (defArgs s_ratio) (defBody s_ratio) (defScope s_ratio) .none kV_ratio dc_ratio pm_ratio an_ratio cd_ratio ct_ratio), sl_ratio⟩) (c_ratio : PySem.W.codeIn K cd_ratio "ratio" = true) (k_ratio : PySem.W.keepIn K (.ref f_ratio) = true)
    {f_plus : Addr} {od_plus an_plus : Option Addr} {sl_plus : Array (Option Value)} {oc_plus kV_plus dc_plus pm_plus cd_plus ct_plus : Value} (a_plus : PySem.W.nsIn K mainGlobals "plus" = some (some (.ref f_plus))) (l_plus : K.lookup f_plus = some ⟨oc_plus, od_plus, .func (PySem.W.fnOf "plus" "plus" (defArgs s_plus) (defBody s_plus) (defScope s_plus) .none kV_plus dc_plus pm_plus an_plus cd_plus ct_plus), sl_plus⟩) (c_plus : PySem.W.codeIn K cd_plus "plus" = true) (k_plus : PySem.W.keepIn K (.ref f_plus) = true)
    {f_is_less : Addr} {od_is_less an_is_less : Option Addr} {sl_is_less : Array (Option Value)} {oc_is_less kV_is_less dc_is_less pm_is_less cd_is_less ct_is_less : Value} (a_is_less : PySem.W.nsIn K mainGlobals "is_less" = some (some (.ref f_is_less))) (l_is_less : K.lookup f_is_less = some ⟨oc_is_less, od_is_less, .func (PySem.W.fnOf "is_less" "is_less" (defArgs s_is_less) (defBody s_is_less) (defScope s_is_less) .none kV_is_less dc_is_less pm_is_less an_is_less cd_is_less ct_is_less), sl_is_less⟩) (c_is_less : PySem.W.codeIn K cd_is_less "is_less" = true) (k_is_less : PySem.W.keepIn K (.ref f_is_less) = true)
    {f_total : Addr} {od_total an_total : Option Addr} {sl_total : Array (Option Value)} {oc_total kV_total dc_total pm_total cd_total ct_total : Value} (a_total : PySem.W.nsIn K mainGlobals "total" = some (some (.ref f_total))) (l_total : K.lookup f_total = some ⟨oc_total, od_total, .func (PySem.W.fnOf "total" "total" (defArgs s_total) (defBody s_total) (defScope s_total) .none kV_total dc_total pm_total an_total cd_total ct_total), sl_total⟩) (c_total : PySem.W.codeIn K cd_total "total" = true) (k_total : PySem.W.keepIn K (.ref f_total) = true)
    {f_is_integer : Addr} {od_is_integer an_is_integer : Option Addr} {sl_is_integer : Array (Option Value)} {oc_is_integer kV_is_integer dc_is_integer pm_is_integer cd_is_integer ct_is_integer : Value} (a_is_integer : PySem.W.nsIn K mainGlobals "is_integer" = some (some (.ref f_is_integer))) (l_is_integer : K.lookup f_is_integer = some ⟨oc_is_integer, od_is_integer, .func (PySem.W.fnOf "is_integer" "is_integer" (defArgs s_is_integer) (defBody s_is_integer) (defScope s_is_integer) .none kV_is_integer dc_is_integer pm_is_integer an_is_integer cd_is_integer ct_is_integer), sl_is_integer⟩) (c_is_integer : PySem.W.codeIn K cd_is_integer "is_integer" = true) (k_is_integer : PySem.W.keepIn K (.ref f_is_integer) = true)
    {f_is_ratio : Addr} {od_is_ratio an_is_ratio : Option Addr} {sl_is_ratio : Array (Option Value)} {oc_is_ratio kV_is_ratio dc_is_ratio pm_is_ratio cd_is_ratio ct_is_ratio : Value} (a_is_ratio : PySem.W.nsIn K mainGlobals "is_ratio" = some (some (.ref f_is_ratio))) (l_is_ratio : K.lookup f_is_ratio = some ⟨oc_is_ratio, od_is_ratio, .func (PySem.W.fnOf "is_ratio" "is_ratio" (defArgs s_is_ratio) (defBody s_is_ratio) (defScope s_is_ratio) .none kV_is_ratio dc_is_ratio pm_is_ratio an_is_ratio cd_is_ratio ct_is_ratio), sl_is_ratio⟩) (c_is_ratio : PySem.W.codeIn K cd_is_ratio "is_ratio" = true) (k_is_ratio : PySem.W.keepIn K (.ref f_is_ratio) = true)
    {f_is_name : Addr} {od_is_name an_is_name : Option Addr} {sl_is_name : Array (Option Value)} {oc_is_name kV_is_name dc_is_name pm_is_name cd_is_name ct_is_name : Value} (a_is_name : PySem.W.nsIn K mainGlobals "is_name" = some (some (.ref f_is_name))) (l_is_name : K.lookup f_is_name = some ⟨oc_is_name, od_is_name, .func (PySem.W.fnOf "is_name" "is_name" (defArgs s_is_name) (defBody s_is_name) (defScope s_is_name) .none kV_is_name dc_is_name pm_is_name an_is_name cd_is_name ct_is_name), sl_is_name⟩) (c_is_name : PySem.W.codeIn K cd_is_name "is_name" = true) (k_is_name : PySem.W.keepIn K (.ref f_is_name) = true)
    {f_has_rows : Addr} {od_has_rows an_has_rows : Option Addr} {sl_has_rows : Array (Option Value)} {oc_has_rows kV_has_rows dc_has_rows pm_has_rows cd_has_rows ct_has_rows : Value} (a_has_rows : PySem.W.nsIn K mainGlobals "has_rows" = some (some (.ref f_has_rows))) (l_has_rows : K.lookup f_has_rows = some ⟨oc_has_rows, od_has_rows, .func (PySem.W.fnOf "has_rows" "has_rows" (defArgs s_has_rows) (defBody s_has_rows) (defScope s_has_rows) .none kV_has_rows dc_has_rows pm_has_rows an_has_rows cd_has_rows ct_has_rows), sl_has_rows⟩) (c_has_rows : PySem.W.codeIn K cd_has_rows "has_rows" = true) (k_has_rows : PySem.W.keepIn K (.ref f_has_rows) = true)
    {f_is_body : Addr} {od_is_body an_is_body : Option Addr} {sl_is_body : Array (Option Value)} {oc_is_body kV_is_body dc_is_body pm_is_body cd_is_body ct_is_body : Value} (a_is_body : PySem.W.nsIn K mainGlobals "is_body" = some (some (.ref f_is_body))) (l_is_body : K.lookup f_is_body = some ⟨oc_is_body, od_is_body, .func (PySem.W.fnOf "is_body" "is_body" (defArgs s_is_body) (defBody s_is_body) (defScope s_is_body) .none kV_is_body dc_is_body pm_is_body an_is_body cd_is_body ct_is_body), sl_is_body⟩) (c_is_body : PySem.W.codeIn K cd_is_body "is_body" = true) (k_is_body : PySem.W.keepIn K (.ref f_is_body) = true)
    {f_is_program : Addr} {od_is_program an_is_program : Option Addr} {sl_is_program : Array (Option Value)} {oc_is_program kV_is_program dc_is_program pm_is_program cd_is_program ct_is_program : Value} (a_is_program : PySem.W.nsIn K mainGlobals "is_program" = some (some (.ref f_is_program))) (l_is_program : K.lookup f_is_program = some ⟨oc_is_program, od_is_program, .func (PySem.W.fnOf "is_program" "is_program" (defArgs s_is_program) (defBody s_is_program) (defScope s_is_program) .none kV_is_program dc_is_program pm_is_program an_is_program cd_is_program ct_is_program), sl_is_program⟩) (c_is_program : PySem.W.codeIn K cd_is_program "is_program" = true) (k_is_program : PySem.W.keepIn K (.ref f_is_program) = true)
    {f_law_start : Addr} {od_law_start an_law_start : Option Addr} {sl_law_start : Array (Option Value)} {oc_law_start kV_law_start dc_law_start pm_law_start cd_law_start ct_law_start : Value} (a_law_start : PySem.W.nsIn K mainGlobals "_law_start" = some (some (.ref f_law_start))) (l_law_start : K.lookup f_law_start = some ⟨oc_law_start, od_law_start, .func (PySem.W.fnOf "_law_start" "_law_start" (defArgs s_law_start) (defBody s_law_start) (defScope s_law_start) .none kV_law_start dc_law_start pm_law_start an_law_start cd_law_start ct_law_start), sl_law_start⟩) (c_law_start : PySem.W.codeIn K cd_law_start "_law_start" = true) (k_law_start : PySem.W.keepIn K (.ref f_law_start) = true)
    {f_law_fill : Addr} {od_law_fill an_law_fill : Option Addr} {sl_law_fill : Array (Option Value)} {oc_law_fill kV_law_fill dc_law_fill pm_law_fill cd_law_fill ct_law_fill : Value} (a_law_fill : PySem.W.nsIn K mainGlobals "_law_fill" = some (some (.ref f_law_fill))) (l_law_fill : K.lookup f_law_fill = some ⟨oc_law_fill, od_law_fill, .func (PySem.W.fnOf "_law_fill" "_law_fill" (defArgs s_law_fill) (defBody s_law_fill) (defScope s_law_fill) .none kV_law_fill dc_law_fill pm_law_fill an_law_fill cd_law_fill ct_law_fill), sl_law_fill⟩) (c_law_fill : PySem.W.codeIn K cd_law_fill "_law_fill" = true) (k_law_fill : PySem.W.keepIn K (.ref f_law_fill) = true)
    {f_law_take : Addr} {od_law_take an_law_take : Option Addr} {sl_law_take : Array (Option Value)} {oc_law_take kV_law_take dc_law_take pm_law_take cd_law_take ct_law_take : Value} (a_law_take : PySem.W.nsIn K mainGlobals "_law_take" = some (some (.ref f_law_take))) (l_law_take : K.lookup f_law_take = some ⟨oc_law_take, od_law_take, .func (PySem.W.fnOf "_law_take" "_law_take" (defArgs s_law_take) (defBody s_law_take) (defScope s_law_take) .none kV_law_take dc_law_take pm_law_take an_law_take cd_law_take ct_law_take), sl_law_take⟩) (c_law_take : PySem.W.codeIn K cd_law_take "_law_take" = true) (k_law_take : PySem.W.keepIn K (.ref f_law_take) = true)
    {f_law_divisor : Addr} {od_law_divisor an_law_divisor : Option Addr} {sl_law_divisor : Array (Option Value)} {oc_law_divisor kV_law_divisor dc_law_divisor pm_law_divisor cd_law_divisor ct_law_divisor : Value} (a_law_divisor : PySem.W.nsIn K mainGlobals "_law_divisor" = some (some (.ref f_law_divisor))) (l_law_divisor : K.lookup f_law_divisor = some ⟨oc_law_divisor, od_law_divisor, .func (PySem.W.fnOf "_law_divisor" "_law_divisor" (defArgs s_law_divisor) (defBody s_law_divisor) (defScope s_law_divisor) .none kV_law_divisor dc_law_divisor pm_law_divisor an_law_divisor cd_law_divisor ct_law_divisor), sl_law_divisor⟩) (c_law_divisor : PySem.W.codeIn K cd_law_divisor "_law_divisor" = true) (k_law_divisor : PySem.W.keepIn K (.ref f_law_divisor) = true)
    {f_law_fraction : Addr} {od_law_fraction an_law_fraction : Option Addr} {sl_law_fraction : Array (Option Value)} {oc_law_fraction kV_law_fraction dc_law_fraction pm_law_fraction cd_law_fraction ct_law_fraction : Value} (a_law_fraction : PySem.W.nsIn K mainGlobals "_law_fraction" = some (some (.ref f_law_fraction))) (l_law_fraction : K.lookup f_law_fraction = some ⟨oc_law_fraction, od_law_fraction, .func (PySem.W.fnOf "_law_fraction" "_law_fraction" (defArgs s_law_fraction) (defBody s_law_fraction) (defScope s_law_fraction) .none kV_law_fraction dc_law_fraction pm_law_fraction an_law_fraction cd_law_fraction ct_law_fraction), sl_law_fraction⟩) (c_law_fraction : PySem.W.codeIn K cd_law_fraction "_law_fraction" = true) (k_law_fraction : PySem.W.keepIn K (.ref f_law_fraction) = true)
    {f_law_plus : Addr} {od_law_plus an_law_plus : Option Addr} {sl_law_plus : Array (Option Value)} {oc_law_plus kV_law_plus dc_law_plus pm_law_plus cd_law_plus ct_law_plus : Value} (a_law_plus : PySem.W.nsIn K mainGlobals "_law_plus" = some (some (.ref f_law_plus))) (l_law_plus : K.lookup f_law_plus = some ⟨oc_law_plus, od_law_plus, .func (PySem.W.fnOf "_law_plus" "_law_plus" (defArgs s_law_plus) (defBody s_law_plus) (defScope s_law_plus) .none kV_law_plus dc_law_plus pm_law_plus an_law_plus cd_law_plus ct_law_plus), sl_law_plus⟩) (c_law_plus : PySem.W.codeIn K cd_law_plus "_law_plus" = true) (k_law_plus : PySem.W.keepIn K (.ref f_law_plus) = true)
    {f_law_times : Addr} {od_law_times an_law_times : Option Addr} {sl_law_times : Array (Option Value)} {oc_law_times kV_law_times dc_law_times pm_law_times cd_law_times ct_law_times : Value} (a_law_times : PySem.W.nsIn K mainGlobals "_law_times" = some (some (.ref f_law_times))) (l_law_times : K.lookup f_law_times = some ⟨oc_law_times, od_law_times, .func (PySem.W.fnOf "_law_times" "_law_times" (defArgs s_law_times) (defBody s_law_times) (defScope s_law_times) .none kV_law_times dc_law_times pm_law_times an_law_times cd_law_times ct_law_times), sl_law_times⟩) (c_law_times : PySem.W.codeIn K cd_law_times "_law_times" = true) (k_law_times : PySem.W.keepIn K (.ref f_law_times) = true)
    {f_law_cut : Addr} {od_law_cut an_law_cut : Option Addr} {sl_law_cut : Array (Option Value)} {oc_law_cut kV_law_cut dc_law_cut pm_law_cut cd_law_cut ct_law_cut : Value} (a_law_cut : PySem.W.nsIn K mainGlobals "_law_cut" = some (some (.ref f_law_cut))) (l_law_cut : K.lookup f_law_cut = some ⟨oc_law_cut, od_law_cut, .func (PySem.W.fnOf "_law_cut" "_law_cut" (defArgs s_law_cut) (defBody s_law_cut) (defScope s_law_cut) .none kV_law_cut dc_law_cut pm_law_cut an_law_cut cd_law_cut ct_law_cut), sl_law_cut⟩) (c_law_cut : PySem.W.codeIn K cd_law_cut "_law_cut" = true) (k_law_cut : PySem.W.keepIn K (.ref f_law_cut) = true)
    {f_law_body : Addr} {od_law_body an_law_body : Option Addr} {sl_law_body : Array (Option Value)} {oc_law_body kV_law_body dc_law_body pm_law_body cd_law_body ct_law_body : Value} (a_law_body : PySem.W.nsIn K mainGlobals "_law_body" = some (some (.ref f_law_body))) (l_law_body : K.lookup f_law_body = some ⟨oc_law_body, od_law_body, .func (PySem.W.fnOf "_law_body" "_law_body" (defArgs s_law_body) (defBody s_law_body) (defScope s_law_body) .none kV_law_body dc_law_body pm_law_body an_law_body cd_law_body ct_law_body), sl_law_body⟩) (c_law_body : PySem.W.codeIn K cd_law_body "_law_body" = true) (k_law_body : PySem.W.keepIn K (.ref f_law_body) = true)
    {f_law_program : Addr} {od_law_program an_law_program : Option Addr} {sl_law_program : Array (Option Value)} {oc_law_program kV_law_program dc_law_program pm_law_program cd_law_program ct_law_program : Value} (a_law_program : PySem.W.nsIn K mainGlobals "_law_program" = some (some (.ref f_law_program))) (l_law_program : K.lookup f_law_program = some ⟨oc_law_program, od_law_program, .func (PySem.W.fnOf "_law_program" "_law_program" (defArgs s_law_program) (defBody s_law_program) (defScope s_law_program) .none kV_law_program dc_law_program pm_law_program an_law_program cd_law_program ct_law_program), sl_law_program⟩) (c_law_program : PySem.W.codeIn K cd_law_program "_law_program" = true) (k_law_program : PySem.W.keepIn K (.ref f_law_program) = true)
    {f_law_is_name : Addr} {od_law_is_name an_law_is_name : Option Addr} {sl_law_is_name : Array (Option Value)} {oc_law_is_name kV_law_is_name dc_law_is_name pm_law_is_name cd_law_is_name ct_law_is_name : Value} (a_law_is_name : PySem.W.nsIn K mainGlobals "_law_is_name" = some (some (.ref f_law_is_name))) (l_law_is_name : K.lookup f_law_is_name = some ⟨oc_law_is_name, od_law_is_name, .func (PySem.W.fnOf "_law_is_name" "_law_is_name" (defArgs s_law_is_name) (defBody s_law_is_name) (defScope s_law_is_name) .none kV_law_is_name dc_law_is_name pm_law_is_name an_law_is_name cd_law_is_name ct_law_is_name), sl_law_is_name⟩) (c_law_is_name : PySem.W.codeIn K cd_law_is_name "_law_is_name" = true) (k_law_is_name : PySem.W.keepIn K (.ref f_law_is_name) = true)
    {f_law_is_int : Addr} {od_law_is_int an_law_is_int : Option Addr} {sl_law_is_int : Array (Option Value)} {oc_law_is_int kV_law_is_int dc_law_is_int pm_law_is_int cd_law_is_int ct_law_is_int : Value} (a_law_is_int : PySem.W.nsIn K mainGlobals "_law_is_int" = some (some (.ref f_law_is_int))) (l_law_is_int : K.lookup f_law_is_int = some ⟨oc_law_is_int, od_law_is_int, .func (PySem.W.fnOf "_law_is_int" "_law_is_int" (defArgs s_law_is_int) (defBody s_law_is_int) (defScope s_law_is_int) .none kV_law_is_int dc_law_is_int pm_law_is_int an_law_is_int cd_law_is_int ct_law_is_int), sl_law_is_int⟩) (c_law_is_int : PySem.W.codeIn K cd_law_is_int "_law_is_int" = true) (k_law_is_int : PySem.W.keepIn K (.ref f_law_is_int) = true)
    {f_law_is_fraction : Addr} {od_law_is_fraction an_law_is_fraction : Option Addr} {sl_law_is_fraction : Array (Option Value)} {oc_law_is_fraction kV_law_is_fraction dc_law_is_fraction pm_law_is_fraction cd_law_is_fraction ct_law_is_fraction : Value} (a_law_is_fraction : PySem.W.nsIn K mainGlobals "_law_is_fraction" = some (some (.ref f_law_is_fraction))) (l_law_is_fraction : K.lookup f_law_is_fraction = some ⟨oc_law_is_fraction, od_law_is_fraction, .func (PySem.W.fnOf "_law_is_fraction" "_law_is_fraction" (defArgs s_law_is_fraction) (defBody s_law_is_fraction) (defScope s_law_is_fraction) .none kV_law_is_fraction dc_law_is_fraction pm_law_is_fraction an_law_is_fraction cd_law_is_fraction ct_law_is_fraction), sl_law_is_fraction⟩) (c_law_is_fraction : PySem.W.codeIn K cd_law_is_fraction "_law_is_fraction" = true) (k_law_is_fraction : PySem.W.keepIn K (.ref f_law_is_fraction) = true)
    {f_law_is_body : Addr} {od_law_is_body an_law_is_body : Option Addr} {sl_law_is_body : Array (Option Value)} {oc_law_is_body kV_law_is_body dc_law_is_body pm_law_is_body cd_law_is_body ct_law_is_body : Value} (a_law_is_body : PySem.W.nsIn K mainGlobals "_law_is_body" = some (some (.ref f_law_is_body))) (l_law_is_body : K.lookup f_law_is_body = some ⟨oc_law_is_body, od_law_is_body, .func (PySem.W.fnOf "_law_is_body" "_law_is_body" (defArgs s_law_is_body) (defBody s_law_is_body) (defScope s_law_is_body) .none kV_law_is_body dc_law_is_body pm_law_is_body an_law_is_body cd_law_is_body ct_law_is_body), sl_law_is_body⟩) (c_law_is_body : PySem.W.codeIn K cd_law_is_body "_law_is_body" = true) (k_law_is_body : PySem.W.keepIn K (.ref f_law_is_body) = true)
    {f_law_is_program : Addr} {od_law_is_program an_law_is_program : Option Addr} {sl_law_is_program : Array (Option Value)} {oc_law_is_program kV_law_is_program dc_law_is_program pm_law_is_program cd_law_is_program ct_law_is_program : Value} (a_law_is_program : PySem.W.nsIn K mainGlobals "_law_is_program" = some (some (.ref f_law_is_program))) (l_law_is_program : K.lookup f_law_is_program = some ⟨oc_law_is_program, od_law_is_program, .func (PySem.W.fnOf "_law_is_program" "_law_is_program" (defArgs s_law_is_program) (defBody s_law_is_program) (defScope s_law_is_program) .none kV_law_is_program dc_law_is_program pm_law_is_program an_law_is_program cd_law_is_program ct_law_is_program), sl_law_is_program⟩) (c_law_is_program : PySem.W.codeIn K cd_law_is_program "_law_is_program" = true) (k_law_is_program : PySem.W.keepIn K (.ref f_law_is_program) = true)
    {f_law_spoilt : Addr} {od_law_spoilt an_law_spoilt : Option Addr} {sl_law_spoilt : Array (Option Value)} {oc_law_spoilt kV_law_spoilt dc_law_spoilt pm_law_spoilt cd_law_spoilt ct_law_spoilt : Value} (a_law_spoilt : PySem.W.nsIn K mainGlobals "_law_spoilt" = some (some (.ref f_law_spoilt))) (l_law_spoilt : K.lookup f_law_spoilt = some ⟨oc_law_spoilt, od_law_spoilt, .func (PySem.W.fnOf "_law_spoilt" "_law_spoilt" (defArgs s_law_spoilt) (defBody s_law_spoilt) (defScope s_law_spoilt) .none kV_law_spoilt dc_law_spoilt pm_law_spoilt an_law_spoilt cd_law_spoilt ct_law_spoilt), sl_law_spoilt⟩) (c_law_spoilt : PySem.W.codeIn K cd_law_spoilt "_law_spoilt" = true) (k_law_spoilt : PySem.W.keepIn K (.ref f_law_spoilt) = true)
    {f_law : Addr} {od_law an_law : Option Addr} {sl_law : Array (Option Value)} {oc_law kV_law dc_law pm_law cd_law ct_law : Value} (a_law : PySem.W.nsIn K mainGlobals "law" = some (some (.ref f_law))) (l_law : K.lookup f_law = some ⟨oc_law, od_law, .func (PySem.W.fnOf "law" "law" (defArgs s_law) (defBody s_law) (defScope s_law) .none kV_law dc_law pm_law an_law cd_law ct_law), sl_law⟩) (c_law : PySem.W.codeIn K cd_law "law" = true) (k_law : PySem.W.keepIn K (.ref f_law) = true) :
    ∃ fd : FuncData, (∀ (s : Shared) (v : Value), BindsTo s fd ⟨[v], []⟩ [("script", v)]) ∧ ∀ base : Heap, K.In base → base.Ns mainGlobals mg → FnOk l.prog w K mg base CX0 45 fa fd ["script"] (spOf ⟨l.prog, w, K, CA⟩ lawS) := by
  have e := hfa.symm.trans (PySem.W.mg_of X G a_law)
  cases e
  have T : Tx K mg := ⟨PySem.W.mg_none_of X G z_abs, PySem.W.mg_none_of X G z_all, PySem.W.mg_none_of X G z_bool, PySem.W.mg_none_of X G z_int, PySem.W.mg_none_of X G z_isinstance, PySem.W.mg_none_of X G z_len, PySem.W.mg_none_of X G z_list, PySem.W.mg_none_of X G z_range, PySem.W.mg_none_of X G z_str, PySem.W.mg_none_of X G z_tuple, grep_2 (PySem.W.mg_of X G v_ZERO) w_ZERO, grep_2 (PySem.W.mg_of X G v_ONE) w_ONE, grep_str (PySem.W.mg_of X G v_LETTERS), grep_str (PySem.W.mg_of X G v_DIGITS), grep_int (PySem.W.mg_of X G v_MOST_SIGNS), grep_int (PySem.W.mg_of X G v_MOST_NUMBER)⟩
  have F_common_divisor := fun_mk (st := s_common_divisor) l_common_divisor c_common_divisor k_common_divisor
  have b_common_divisor := F_common_divisor.binds (ps := ["first", "second"]) fun _ _ _ _ _ _ us hl => match us, hl with | [_, _], _ => rfl
  have m_common_divisor := PySem.W.mg_of X G a_common_divisor
  have F_ratio := fun_mk (st := s_ratio) l_ratio c_ratio k_ratio
  have b_ratio := F_ratio.binds (ps := ["above", "below"]) fun _ _ _ _ _ _ us hl => match us, hl with | [_, _], _ => rfl
  have m_ratio := PySem.W.mg_of X G a_ratio
  have F_plus := fun_mk (st := s_plus) l_plus c_plus k_plus
  have b_plus := F_plus.binds (ps := ["first", "second"]) fun _ _ _ _ _ _ us hl => match us, hl with | [_, _], _ => rfl
  have m_plus := PySem.W.mg_of X G a_plus
  have F_is_less := fun_mk (st := s_is_less) l_is_less c_is_less k_is_less
  have b_is_less := F_is_less.binds (ps := ["first", "second"]) fun _ _ _ _ _ _ us hl => match us, hl with | [_, _], _ => rfl
  have m_is_less := PySem.W.mg_of X G a_is_less
  have F_total := fun_mk (st := s_total) l_total c_total k_total
  have b_total := F_total.binds (ps := ["fractions"]) fun _ _ _ _ _ _ us hl => match us, hl with | [_], _ => rfl
  have m_total := PySem.W.mg_of X G a_total
  have F_is_integer := fun_mk (st := s_is_integer) l_is_integer c_is_integer k_is_integer
  have b_is_integer := F_is_integer.binds (ps := ["value"]) fun _ _ _ _ _ _ us hl => match us, hl with | [_], _ => rfl
  have m_is_integer := PySem.W.mg_of X G a_is_integer
  have F_is_ratio := fun_mk (st := s_is_ratio) l_is_ratio c_is_ratio k_is_ratio
  have b_is_ratio := F_is_ratio.binds (ps := ["value"]) fun _ _ _ _ _ _ us hl => match us, hl with | [_], _ => rfl
  have m_is_ratio := PySem.W.mg_of X G a_is_ratio
  have F_is_name := fun_mk (st := s_is_name) l_is_name c_is_name k_is_name
  have b_is_name := F_is_name.binds (ps := ["value"]) fun _ _ _ _ _ _ us hl => match us, hl with | [_], _ => rfl
  have m_is_name := PySem.W.mg_of X G a_is_name
  have F_has_rows := fun_mk (st := s_has_rows) l_has_rows c_has_rows k_has_rows
  have b_has_rows := F_has_rows.binds (ps := ["value"]) fun _ _ _ _ _ _ us hl => match us, hl with | [_], _ => rfl
  have m_has_rows := PySem.W.mg_of X G a_has_rows
  have F_is_body := fun_mk (st := s_is_body) l_is_body c_is_body k_is_body
  have b_is_body := F_is_body.binds (ps := ["value", "names"]) fun _ _ _ _ _ _ us hl => match us, hl with | [_, _], _ => rfl
  have m_is_body := PySem.W.mg_of X G a_is_body
  have F_is_program := fun_mk (st := s_is_program) l_is_program c_is_program k_is_program
  have b_is_program := F_is_program.binds (ps := ["value"]) fun _ _ _ _ _ _ us hl => match us, hl with | [_], _ => rfl
  have m_is_program := PySem.W.mg_of X G a_is_program
  have F_law_start := fun_mk (st := s_law_start) l_law_start c_law_start k_law_start
  have b_law_start := F_law_start.binds (ps := ["script"]) fun _ _ _ _ _ _ us hl => match us, hl with | [_], _ => rfl
  have m_law_start := PySem.W.mg_of X G a_law_start
  have F_law_fill := fun_mk (st := s_law_fill) l_law_fill c_law_fill k_law_fill
  have b_law_fill := F_law_fill.binds (ps := ["c"]) fun _ _ _ _ _ _ us hl => match us, hl with | [_], _ => rfl
  have m_law_fill := PySem.W.mg_of X G a_law_fill
  have F_law_take := fun_mk (st := s_law_take) l_law_take c_law_take k_law_take
  have b_law_take := F_law_take.binds (ps := ["c", "many"]) fun _ _ _ _ _ _ us hl => match us, hl with | [_, _], _ => rfl
  have m_law_take := PySem.W.mg_of X G a_law_take
  have F_law_divisor := fun_mk (st := s_law_divisor) l_law_divisor c_law_divisor k_law_divisor
  have b_law_divisor := F_law_divisor.binds (ps := ["a", "b"]) fun _ _ _ _ _ _ us hl => match us, hl with | [_, _], _ => rfl
  have m_law_divisor := PySem.W.mg_of X G a_law_divisor
  have F_law_fraction := fun_mk (st := s_law_fraction) l_law_fraction c_law_fraction k_law_fraction
  have b_law_fraction := F_law_fraction.binds (ps := ["n", "d"]) fun _ _ _ _ _ _ us hl => match us, hl with | [_, _], _ => rfl
  have m_law_fraction := PySem.W.mg_of X G a_law_fraction
  have F_law_plus := fun_mk (st := s_law_plus) l_law_plus c_law_plus k_law_plus
  have b_law_plus := F_law_plus.binds (ps := ["a", "b"]) fun _ _ _ _ _ _ us hl => match us, hl with | [_, _], _ => rfl
  have m_law_plus := PySem.W.mg_of X G a_law_plus
  have F_law_times := fun_mk (st := s_law_times) l_law_times c_law_times k_law_times
  have b_law_times := F_law_times.binds (ps := ["a", "b"]) fun _ _ _ _ _ _ us hl => match us, hl with | [_, _], _ => rfl
  have m_law_times := PySem.W.mg_of X G a_law_times
  have F_law_cut := fun_mk (st := s_law_cut) l_law_cut c_law_cut k_law_cut
  have b_law_cut := F_law_cut.binds (ps := ["c"]) fun _ _ _ _ _ _ us hl => match us, hl with | [_], _ => rfl
  have m_law_cut := PySem.W.mg_of X G a_law_cut
  have F_law_body := fun_mk (st := s_law_body) l_law_body c_law_body k_law_body
  have b_law_body := F_law_body.binds (ps := ["c", "names", "letters", "deep"]) fun _ _ _ _ _ _ us hl => match us, hl with | [_, _, _, _], _ => rfl
  have m_law_body := PySem.W.mg_of X G a_law_body
  have F_law_program := fun_mk (st := s_law_program) l_law_program c_law_program k_law_program
  have b_law_program := F_law_program.binds (ps := ["c"]) fun _ _ _ _ _ _ us hl => match us, hl with | [_], _ => rfl
  have m_law_program := PySem.W.mg_of X G a_law_program
  have F_law_is_name := fun_mk (st := s_law_is_name) l_law_is_name c_law_is_name k_law_is_name
  have b_law_is_name := F_law_is_name.binds (ps := ["value"]) fun _ _ _ _ _ _ us hl => match us, hl with | [_], _ => rfl
  have m_law_is_name := PySem.W.mg_of X G a_law_is_name
  have F_law_is_int := fun_mk (st := s_law_is_int) l_law_is_int c_law_is_int k_law_is_int
  have b_law_is_int := F_law_is_int.binds (ps := ["value"]) fun _ _ _ _ _ _ us hl => match us, hl with | [_], _ => rfl
  have m_law_is_int := PySem.W.mg_of X G a_law_is_int
  have F_law_is_fraction := fun_mk (st := s_law_is_fraction) l_law_is_fraction c_law_is_fraction k_law_is_fraction
  have b_law_is_fraction := F_law_is_fraction.binds (ps := ["value"]) fun _ _ _ _ _ _ us hl => match us, hl with | [_], _ => rfl
  have m_law_is_fraction := PySem.W.mg_of X G a_law_is_fraction
  have F_law_is_body := fun_mk (st := s_law_is_body) l_law_is_body c_law_is_body k_law_is_body
  have b_law_is_body := F_law_is_body.binds (ps := ["value", "names"]) fun _ _ _ _ _ _ us hl => match us, hl with | [_, _], _ => rfl
  have m_law_is_body := PySem.W.mg_of X G a_law_is_body
  have F_law_is_program := fun_mk (st := s_law_is_program) l_law_is_program c_law_is_program k_law_is_program
  have b_law_is_program := F_law_is_program.binds (ps := ["value"]) fun _ _ _ _ _ _ us hl => match us, hl with | [_], _ => rfl
  have m_law_is_program := PySem.W.mg_of X G a_law_is_program
  have F_law_spoilt := fun_mk (st := s_law_spoilt) l_law_spoilt c_law_spoilt k_law_spoilt
  have b_law_spoilt := F_law_spoilt.binds (ps := ["c", "value"]) fun _ _ _ _ _ _ us hl => match us, hl with | [_, _], _ => rfl
  have m_law_spoilt := PySem.W.mg_of X G a_law_spoilt
  have F_law := fun_mk (st := s_law) l_law c_law k_law
  have b_law := F_law.binds (ps := ["script"]) fun _ _ _ _ _ _ us hl => match us, hl with | [_], _ => rfl
  have m_law := PySem.W.mg_of X G a_law
  refine ⟨PySem.W.fnOf "law" "law" (defArgs s_law) (defBody s_law) (defScope s_law) .none kV_law dc_law pm_law an_law cd_law ct_law, fun s v => .of_eq rfl, fun base _ _ => ?_⟩ 
  have D_law_start := FnOk.d (ok_law_start (P := l.prog) (w := w) (base := base) (CA := CA) T F_law_start) m_law_start k_law_start b_law_start
  have D_law_fill := FnOk.d (ok_law_fill (P := l.prog) (w := w) (base := base) (CA := CA) T F_law_fill) m_law_fill k_law_fill b_law_fill
  have D_law_take := FnOk.d (ok_law_take (P := l.prog) (w := w) (base := base) (CA := CA) T F_law_take D_law_fill) m_law_take k_law_take b_law_take
  have D_law_divisor := FnOk.d (ok_law_divisor (P := l.prog) (w := w) (base := base) (CA := CA) T F_law_divisor) m_law_divisor k_law_divisor b_law_divisor
  have D_law_fraction := FnOk.d (ok_law_fraction (P := l.prog) (w := w) (base := base) (CA := CA) T F_law_fraction D_law_divisor) m_law_fraction k_law_fraction b_law_fraction
  have D_law_times := FnOk.d (ok_law_times (P := l.prog) (w := w) (base := base) (CA := CA) T F_law_times D_law_fraction) m_law_times k_law_times b_law_times
  have D_law_plus := FnOk.d (ok_law_plus (P := l.prog) (w := w) (base := base) (CA := CA) T F_law_plus D_law_fraction) m_law_plus k_law_plus b_law_plus
  have D_law_cut := FnOk.d (ok_law_cut (P := l.prog) (w := w) (base := base) (CA := CA) T F_law_cut D_law_fraction D_law_take D_law_times D_law_plus) m_law_cut k_law_cut b_law_cut
  have D_law_body := FnOk.d (ok_law_body (P := l.prog) (w := w) (base := base) (CA := CA) T F_law_body m_law_body b_law_body D_law_take D_law_cut 8) m_law_body k_law_body b_law_body
  have D_law_program := FnOk.d (ok_law_program (P := l.prog) (w := w) (base := base) (CA := CA) T F_law_program D_law_take D_law_body) m_law_program k_law_program b_law_program
  have D_is_name := FnOk.d (ok_is_name (P := l.prog) (w := w) (base := base) (CA := CA) T F_is_name) m_is_name k_is_name b_is_name
  have D_common_divisor := FnOk.d (ok_common_divisor (P := l.prog) (w := w) (base := base) (CA := CA) T F_common_divisor) m_common_divisor k_common_divisor b_common_divisor
  have D_ratio := FnOk.d (ok_ratio (P := l.prog) (w := w) (base := base) (CA := CA) T F_ratio D_common_divisor) m_ratio k_ratio b_ratio
  have D_plus := FnOk.d (ok_plus (P := l.prog) (w := w) (base := base) (CA := CA) T F_plus D_ratio) m_plus k_plus b_plus
  have D_total := FnOk.d (ok_total (P := l.prog) (w := w) (base := base) (CA := CA) T F_total D_plus) m_total k_total b_total
  have D_is_integer := FnOk.d (ok_is_integer (P := l.prog) (w := w) (base := base) (CA := CA) T F_is_integer) m_is_integer k_is_integer b_is_integer
  have D_is_ratio := FnOk.d (ok_is_ratio (P := l.prog) (w := w) (base := base) (CA := CA) T F_is_ratio D_is_integer D_common_divisor) m_is_ratio k_is_ratio b_is_ratio
  have D_is_less := FnOk.d (ok_is_less (P := l.prog) (w := w) (base := base) (CA := CA) T F_is_less) m_is_less k_is_less b_is_less
  have D_has_rows := FnOk.d (ok_has_rows (P := l.prog) (w := w) (base := base) (CA := CA) T F_has_rows D_total D_is_ratio D_is_less) m_has_rows k_has_rows b_has_rows
  have D_is_body := FnOk.d (ok_is_body (P := l.prog) (w := w) (base := base) (CA := CA) T F_is_body D_is_name D_has_rows) m_is_body k_is_body b_is_body
  have D_is_program := FnOk.d (ok_is_program (P := l.prog) (w := w) (base := base) (CA := CA) T F_is_program D_is_body D_is_name) m_is_program k_is_program b_is_program
  have D_law_spoilt := FnOk.d (ok_law_spoilt (P := l.prog) (w := w) (base := base) (CA := CA) T F_law_spoilt m_law_spoilt b_law_spoilt D_law_take 40) m_law_spoilt k_law_spoilt b_law_spoilt
  have D_law_is_name := FnOk.d (ok_law_is_name (P := l.prog) (w := w) (base := base) (CA := CA) T F_law_is_name) m_law_is_name k_law_is_name b_law_is_name
  have D_law_is_int := FnOk.d (ok_law_is_int (P := l.prog) (w := w) (base := base) (CA := CA) T F_law_is_int) m_law_is_int k_law_is_int b_law_is_int
  have D_law_is_fraction := FnOk.d (ok_law_is_fraction (P := l.prog) (w := w) (base := base) (CA := CA) T F_law_is_fraction D_law_is_int D_law_divisor) m_law_is_fraction k_law_is_fraction b_law_is_fraction
  have D_law_is_body := FnOk.d (ok_law_is_body (P := l.prog) (w := w) (base := base) (CA := CA) T F_law_is_body m_law_is_body b_law_is_body D_law_plus D_law_is_name D_law_is_fraction 40) m_law_is_body k_law_is_body b_law_is_body
  have D_law_is_program := FnOk.d (ok_law_is_program (P := l.prog) (w := w) (base := base) (CA := CA) T F_law_is_program D_law_is_body D_law_is_name) m_law_is_program k_law_is_program b_law_is_program
  exact ok_law T F_law D_law_start D_law_program D_is_program D_law_spoilt D_law_take D_law_is_program
end DL

set_option Elab.async false
set_option maxRecDepth 100000
open PySem PySem.W PyProof.Rows in
set_option maxRecDepth 100000 in
set_option maxHeartbeats 0 in
theorem PySem.Challenge.cw_hazardry_k30_programs_in_form_holds : PySem.Challenge.rw_hazardry_k30_programs_in_form.Holds := by
  w_on; o_law; k_head; (case hw => w_witness2)
  k_fill
  refine DL.law_walk (l := PySem.Challenge.rw_hazardry_k30_programs_in_form) (k := 45) (fun _ _ => 0) rfl rfl ⟨rfl, by decide, by decide⟩ (fun w h Y => PySem.W.kIn_of Y) ?F
  case F =>
    intro w mg fa h KX G hmg
    refine' DL.all_mk KX G hmg (fun _ => 0) ?z_abs ?z_all ?z_bool ?z_int ?z_isinstance ?z_len ?z_list ?z_range ?z_str ?z_tuple ?v_ZERO ?w_ZERO ?v_ONE ?w_ONE ?v_LETTERS ?v_DIGITS ?v_MOST_SIGNS ?v_MOST_NUMBER ?a_common_divisor ?l_common_divisor ?c_common_divisor ?k_common_divisor ?a_ratio ?l_ratio ?c_ratio ?k_ratio ?a_plus ?l_plus ?c_plus ?k_plus ?a_is_less ?l_is_less ?c_is_less ?k_is_less ?a_total ?l_total ?c_total ?k_total ?a_is_integer ?l_is_integer ?c_is_integer ?k_is_integer ?a_is_ratio ?l_is_ratio ?c_is_ratio ?k_is_ratio ?a_is_name ?l_is_name ?c_is_name ?k_is_name ?a_has_rows ?l_has_rows ?c_has_rows ?k_has_rows ?a_is_body ?l_is_body ?c_is_body ?k_is_body ?a_is_program ?l_is_program ?c_is_program ?k_is_program ?a_law_start ?l_law_start ?c_law_start ?k_law_start ?a_law_fill ?l_law_fill ?c_law_fill ?k_law_fill ?a_law_take ?l_law_take ?c_law_take ?k_law_take ?a_law_divisor ?l_law_divisor ?c_law_divisor ?k_law_divisor ?a_law_fraction ?l_law_fraction ?c_law_fraction ?k_law_fraction ?a_law_plus ?l_law_plus ?c_law_plus ?k_law_plus ?a_law_times ?l_law_times ?c_law_times ?k_law_times ?a_law_cut ?l_law_cut ?c_law_cut ?k_law_cut ?a_law_body ?l_law_body ?c_law_body ?k_law_body ?a_law_program ?l_law_program ?c_law_program ?k_law_program ?a_law_is_name ?l_law_is_name ?c_law_is_name ?k_law_is_name ?a_law_is_int ?l_law_is_int ?c_law_is_int ?k_law_is_int ?a_law_is_fraction ?l_law_is_fraction ?c_law_is_fraction ?k_law_is_fraction ?a_law_is_body ?l_law_is_body ?c_law_is_body ?k_law_is_body ?a_law_is_program ?l_law_is_program ?c_law_is_program ?k_law_is_program ?a_law_spoilt ?l_law_spoilt ?c_law_spoilt ?k_law_spoilt ?a_law ?l_law ?c_law ?k_law
    (case z_abs => k_is)
    (case z_all => k_is)
    (case z_bool => k_is)
    (case z_int => k_is)
    (case z_isinstance => k_is)
    (case z_len => k_is)
    (case z_list => k_is)
    (case z_range => k_is)
    (case z_str => k_is)
    (case z_tuple => k_is)
    (case v_ZERO => k_is)
    (case w_ZERO => k_is)
    (case v_ONE => k_is)
    (case w_ONE => k_is)
    (case v_LETTERS => k_is)
    (case v_DIGITS => k_is)
    (case v_MOST_SIGNS => k_is)
    (case v_MOST_NUMBER => k_is)
    (case a_common_divisor => k_is)
    (case l_common_divisor => k_is)
    (case c_common_divisor => k_is)
    (case k_common_divisor => k_is)
    (case a_ratio => k_is)
    (case l_ratio => k_is)
    (case c_ratio => k_is)
    (case k_ratio => k_is)
    (case a_plus => k_is)
    (case l_plus => k_is)
    (case c_plus => k_is)
    (case k_plus => k_is)
    (case a_is_less => k_is)
    (case l_is_less => k_is)
    (case c_is_less => k_is)
    (case k_is_less => k_is)
    (case a_total => k_is)
    (case l_total => k_is)
    (case c_total => k_is)
    (case k_total => k_is)
    (case a_is_integer => k_is)
    (case l_is_integer => k_is)
    (case c_is_integer => k_is)
    (case k_is_integer => k_is)
    (case a_is_ratio => k_is)
    (case l_is_ratio => k_is)
    (case c_is_ratio => k_is)
    (case k_is_ratio => k_is)
    (case a_is_name => k_is)
    (case l_is_name => k_is)
    (case c_is_name => k_is)
    (case k_is_name => k_is)
    (case a_has_rows => k_is)
    (case l_has_rows => k_is)
    (case c_has_rows => k_is)
    (case k_has_rows => k_is)
    (case a_is_body => k_is)
    (case l_is_body => k_is)
    (case c_is_body => k_is)
    (case k_is_body => k_is)
    (case a_is_program => k_is)
    (case l_is_program => k_is)
    (case c_is_program => k_is)
    (case k_is_program => k_is)
    (case a_law_start => k_is)
    (case l_law_start => k_is)
    (case c_law_start => k_is)
    (case k_law_start => k_is)
    (case a_law_fill => k_is)
    (case l_law_fill => k_is)
    (case c_law_fill => k_is)
    (case k_law_fill => k_is)
    (case a_law_take => k_is)
    (case l_law_take => k_is)
    (case c_law_take => k_is)
    (case k_law_take => k_is)
    (case a_law_divisor => k_is)
    (case l_law_divisor => k_is)
    (case c_law_divisor => k_is)
    (case k_law_divisor => k_is)
    (case a_law_fraction => k_is)
    (case l_law_fraction => k_is)
    (case c_law_fraction => k_is)
    (case k_law_fraction => k_is)
    (case a_law_plus => k_is)
    (case l_law_plus => k_is)
    (case c_law_plus => k_is)
    (case k_law_plus => k_is)
    (case a_law_times => k_is)
    (case l_law_times => k_is)
    (case c_law_times => k_is)
    (case k_law_times => k_is)
    (case a_law_cut => k_is)
    (case l_law_cut => k_is)
    (case c_law_cut => k_is)
    (case k_law_cut => k_is)
    (case a_law_body => k_is)
    (case l_law_body => k_is)
    (case c_law_body => k_is)
    (case k_law_body => k_is)
    (case a_law_program => k_is)
    (case l_law_program => k_is)
    (case c_law_program => k_is)
    (case k_law_program => k_is)
    (case a_law_is_name => k_is)
    (case l_law_is_name => k_is)
    (case c_law_is_name => k_is)
    (case k_law_is_name => k_is)
    (case a_law_is_int => k_is)
    (case l_law_is_int => k_is)
    (case c_law_is_int => k_is)
    (case k_law_is_int => k_is)
    (case a_law_is_fraction => k_is)
    (case l_law_is_fraction => k_is)
    (case c_law_is_fraction => k_is)
    (case k_law_is_fraction => k_is)
    (case a_law_is_body => k_is)
    (case l_law_is_body => k_is)
    (case c_law_is_body => k_is)
    (case k_law_is_body => k_is)
    (case a_law_is_program => k_is)
    (case l_law_is_program => k_is)
    (case c_law_is_program => k_is)
    (case k_law_is_program => k_is)
    (case a_law_spoilt => k_is)
    (case l_law_spoilt => k_is)
    (case c_law_spoilt => k_is)
    (case k_law_spoilt => k_is)
    (case a_law => k_is)
    (case l_law => k_is)
    (case c_law => k_is)
    (case k_law => k_is)

