import PyProof.Rows.All
import Wide.All
import OpenK.AllK
import Wide.FinOn
import PySem.Str
import PyProof.Fits
import PyProof.NoPylong
import HandS.List
import HandS.ForMost
import HandS.TupAny
import HandS.IsInst
import HandS.Wide
import HandS.Style
import HandS.Conv
import HandS.Deep
import HandS.EndBits
import KE.KDictKeyed
import KE.KDictPairs
import KE.IntBitsLaws
import PyProof.EqLayable
import PySem.Challenge.RW_hazardry_k31_alternatives
set_option Elab.async false
set_option linter.all false
/-! DL: a clean level over the hand layer. Values (tuples by value, lists and dicts by address), a store, and what Python's
expressions and statements ask, as predicate transformers. -/
namespace DL
open PySem

/-! ## values -/
inductive D where
  | non | bl (b : Bool) | int (i : Int) | str (x : Str) | tup (xs : List D) | ref (a : Addr) | ty (n : String)
  /-- a list that is read alone -/
  | lro (xs : List D)
  deriving Inhabited

mutual
def D.beq : D → D → Bool
  | .non, .non => true
  | .bl a, .bl b => a == b
  | .int a, .int b => decide (a = b)
  | .str a, .str b => decide (a = b)
  | .tup a, .tup b => D.beqs a b
  | .lro a, .lro b => D.beqs a b
  | .ref a, .ref b => decide (a = b)
  | .ty a, .ty b => decide (a = b)
  | _, _ => false
def D.beqs : List D → List D → Bool
  | [], [] => true
  | a :: as, b :: bs => D.beq a b && D.beqs as bs
  | _, _ => false
end
mutual
theorem D.beq_self : ∀ a : D, D.beq a a = true
  | .non => rfl
  | .bl a => by simp [D.beq]
  | .int a => by simp [D.beq]
  | .str a => by simp [D.beq]
  | .tup a => by rw [D.beq]; exact D.beqs_self a
  | .lro a => by rw [D.beq]; exact D.beqs_self a
  | .ref a => by simp [D.beq]
  | .ty a => by simp [D.beq]
theorem D.beqs_self : ∀ a : List D, D.beqs a a = true
  | [] => rfl
  | a :: as => by rw [D.beqs, D.beq_self a, D.beqs_self as]; rfl
end
mutual
theorem D.eq_of_beq : ∀ a b : D, D.beq a b = true → a = b
  | .non, b, h => by cases b <;> simp [D.beq] at h ⊢
  | .bl a, b, h => by cases b <;> simp [D.beq] at h ⊢; exact h
  | .int a, b, h => by cases b <;> simp [D.beq] at h ⊢; exact h
  | .str a, b, h => by cases b <;> simp [D.beq] at h ⊢; exact h
  | .tup a, b, h => by
    cases b <;> simp [D.beq] at h ⊢
    exact D.eq_of_beqs a _ h
  | .lro a, b, h => by
    cases b <;> simp [D.beq] at h ⊢
    exact D.eq_of_beqs a _ h
  | .ref a, b, h => by cases b <;> simp [D.beq] at h ⊢; exact h
  | .ty a, b, h => by cases b <;> simp [D.beq] at h ⊢; exact h
theorem D.eq_of_beqs : ∀ a b : List D, D.beqs a b = true → a = b
  | [], b, h => by cases b <;> simp [D.beqs] at h ⊢
  | a :: as, b, h => by
    cases b with
    | nil => simp [D.beqs] at h
    | cons b bs =>
      simp only [D.beqs, Bool.and_eq_true] at h
      rw [D.eq_of_beq a b h.1, D.eq_of_beqs as bs h.2]
end
instance : DecidableEq D := fun a b => if h : D.beq a b = true then isTrue (D.eq_of_beq a b h) else isFalse fun e => h (e ▸ D.beq_self a)

/-! ## the store -/
abbrev Key := Sum Int Str
inductive O where
  | lst (xs : List D)
  /-- a dict whose keys are ints and texts; one whose keys are tuples (of ints, texts, None, tuples) -/
  | dk (kvs : List (Key × D)) | dn (kvs : List (D × D))
  /-- an instance of a class of the text -/
  | ins (C : String) (fs : List (Str × D))
  /-- dicts while they are walked: read, not written -/
  | dkF (kvs : List (Key × D)) | dnF (kvs : List (D × D))
def O.un : O → O
  | .dkF k => .dk k
  | .dnF k => .dn k
  | o => o
abbrev Sto := Addr → Option O
def Sto.set (M : Sto) (a : Addr) (o : O) : Sto := fun b => if b = a then some o else M b
@[simp] theorem set_same {M : Sto} {a : Addr} {o : O} : M.set a o a = some o := if_pos rfl
theorem set_ne {M : Sto} {a b : Addr} {o : O} (h : b ≠ a) : M.set a o b = M b := if_neg h
theorem set_set {M : Sto} {a : Addr} {o u : O} : (M.set a o).set a u = M.set a u := by
  funext b; unfold Sto.set; split <;> rfl
theorem set_comm {M : Sto} {a b : Addr} {o u : O} (h : a ≠ b) : (M.set a o).set b u = (M.set b u).set a o := by
  funext c; unfold Sto.set
  by_cases h1 : c = b
  · subst h1; rw [if_pos rfl, if_neg (Ne.symm h), if_pos rfl]
  · rw [if_neg h1, if_neg h1]
theorem set_self {M : Sto} {a : Addr} {o : O} (h : M a = some o) : M.set a o = M := by
  funext b; unfold Sto.set; split
  · rename_i e; rw [e, h]
  · rfl
theorem ne_of {M : Sto} {a b : Addr} {o : O} (h : M a = some o) (h' : M b = none) : a ≠ b := by
  intro e; subst e; rw [h] at h'; cases h'

/-! ## names -/
abbrev Ev := List (Option D)
@[simp] def gt : Ev → Nat → Option D
  | [], _ => none
  | x :: _, 0 => x
  | _ :: r, i + 1 => gt r i
@[simp] def put : Ev → Nat → D → Ev
  | [], _, _ => []
  | _ :: r, 0, d => some d :: r
  | x :: r, i + 1, d => x :: put r i d
@[simp] def wipe (e : Ev) : List Nat → Ev
  | [] => e
  | i :: r => (wipe e r).set i none
@[simp] def start (n : Nat) (ds : List D) : Ev := ds.map some ++ List.replicate (n - ds.length) none

/-! ## what is wanted -/
/-- of an exception: its class, its own fields -/
abbrev XW := String → List (Str × D) → Sto → Prop
abbrev KD := D → Sto → Prop
abbrev WE := XW → Ev → Sto → KD → Prop
abbrev WT := XW → Ev → Sto → (Bool → Sto → Prop) → Prop
structure Ends where
  nx : Ev → Sto → Prop
  rt : KD
  bk : Ev → Sto → Prop
  ct : Ev → Sto → Prop
abbrev WS := XW → Ends → Ev → Sto → Prop
abbrev WG := D → XW → Ev → Sto → (Ev → Sto → Prop) → Prop
abbrev FD := XW → List D → Sto → KD → Prop
abbrev X0 : XW := fun _ _ _ => False

/-! ## operations by values -/
abbrev B2 := D → D → Sto → KD → Prop
abbrev C2 := D → D → Sto → (Bool → Prop) → Prop
def opAdd : B2 := fun x y M Q => match x, y with
  | .int i, .int j => Q (.int (i + j)) M
  | .str a, .str b => a.length + b.length ≤ sizeLine ∧ Q (.str (a ++ b)) M
  | .tup xs, .tup ys => xs.length + ys.length ≤ sizeLine ∧ Q (.tup (xs ++ ys)) M
  | .ref a, .ref b => match M a, M b with
    | some (.lst xs), some (.lst ys) => xs.length + ys.length ≤ sizeLine ∧ ∀ p, M p = none → Q (.ref p) (M.set p (.lst (xs ++ ys)))
    | _, _ => False
  | _, _ => False
/-- + in place, of ints, texts and tuples -/
def ipAdd : B2 := fun x y M Q => match x, y with
  | .int i, .int j => Q (.int (i + j)) M
  | _, _ => False
def opSub : B2 := fun x y M Q => match x, y with
  | .int i, .int j => Q (.int (i - j)) M
  | _, _ => False
def opMul : B2 := fun x y M Q => match x, y with
  | .int i, .int j => IntMulOk i j ∧ Q (.int (i * j)) M
  | _, _ => False
def opDiv : B2 := fun x y M Q => match x, y with
  | .int i, .int j => j ≠ 0 ∧ Builtin.divisionGoesByPylong i j = false ∧ Q (.int (i.fdiv j)) M
  | _, _ => False
def opMod : B2 := fun x y M Q => match x, y with
  | .int i, .int j => j ≠ 0 ∧ Q (.int (i.fmod j)) M
  | _, _ => False
def opPow : B2 := fun x y M Q => match x, y with
  | .int i, .int j => 0 ≤ j ∧ j ≤ 1000000 ∧ i.natAbs < 2 ^ 64 ∧ Q (.int (i ^ j.toNat)) M
  | _, _ => False
/-- a flat value -/
def flat : D → Bool
  | .non | .bl _ | .int _ | .str _ => true
  | _ => false
/-- x == y of flat values -/
def eqF : D → D → Bool
  | .non, .non => true
  | .bl a, .bl b => a == b
  | .bl a, .int b => (if a then 1 else 0) == b
  | .int a, .bl b => a == (if b then 1 else 0)
  | .int a, .int b => decide (a = b)
  | .str a, .str b => decide (a = b)
  | _, _ => false
mutual
/-- as data -/
def D.py : D → PyData
  | .non => .none
  | .bl b => .bool b
  | .int i => .int i
  | .str x => .str x
  | .tup xs => .tuple (D.pys xs)
  | .ref _ => .dict []
  | .ty _ => .dict []
  | .lro _ => .dict []
def D.pys : List D → List PyData
  | [] => []
  | x :: xs => x.py :: D.pys xs
end
def D.scal : D → D → Bool
  | .int _, .int _ | .str _, .str _ | .bl _, .bl _ => true
  | _, _ => false
def cEq : C2 := fun x y M k => match x, y with
  | .int i, .int j => k (decide (i = j))
  | .str a, .str b => k (decide (a = b))
  | .bl a, .bl b => k (a == b)
  | x, y => SeqAt.shaped x.py = true ∧ SeqAt.shaped y.py = true ∧ k (PyData.eqv x.py y.py)
def cNe : C2 := fun x y M k => cEq x y M fun b => k (!b)
def cLt : C2 := fun x y M k => match x, y with
  | .int i, .int j => k (decide (i < j))
  | _, _ => False
def cLe : C2 := fun x y M k => match x, y with
  | .int i, .int j => k (decide (i ≤ j))
  | _, _ => False
def cGt : C2 := fun x y M k => match x, y with
  | .int i, .int j => k (decide (j < i))
  | _, _ => False
def cGe : C2 := fun x y M k => match x, y with
  | .int i, .int j => k (decide (j ≤ i))
  | _, _ => False
def cIsN : C2 := fun x y _ k => match y with
  | .non => k (decide (x = .non))
  | _ => False
def cNotN : C2 := fun x y _ k => match y with
  | .non => k (!decide (x = .non))
  | _ => False
/-- a key of a dict -/
def keyD : D → Option Key
  | .int i => some (.inl i)
  | .str x => some (.inr x)
  | _ => none
def dKey : Key → D
  | .inl i => .int i
  | .inr x => .str x
mutual
def nest : D → Option Nat
  | .non | .int _ | .str _ => some 0
  | .tup xs => (nests xs).map (· + 1)
  | _ => none
def nests : List D → Option Nat
  | [] => some 0
  | x :: xs => match nest x, nests xs with
    | some a, some b => some (max a b)
    | _, _ => none
end
/-- a tuple that may be a key -/
def nkOk (x : D) : Bool := match x with
  | .tup _ => match nest x with
    | some n => decide (n ≤ 8)
    | none => false
  | _ => false
section
variable {κ : Type} [DecidableEq κ]
def lk : List (κ × D) → κ → Option D
  | [], _ => none
  | p :: r, k => if p.1 = k then some p.2 else lk r k
def ins (kvs : List (κ × D)) (k : κ) (v : D) : List (κ × D) :=
  if (kvs.any fun kv => decide (kv.1 = k)) = true then kvs.map fun kv => if kv.1 = k then (kv.1, v) else kv else kvs ++ [(k, v)]
end
/-- k in d, or what stands there -/
def dLk (x : O) (y : D) (k : Option D → Prop) : Prop := match x.un with
  | .dk kvs => match keyD y with
    | some κ => k (lk kvs κ)
    | none => False
  | .dn kvs => nkOk y = true ∧ k (lk kvs y)
  | _ => False
def cIn : C2 := fun x y M k => match y with
  | .tup xs => flat x = true ∧ xs.all flat = true ∧ k (xs.any fun z => eqF z x)
  | .str s => match x with
    | .str t => k (!(Builtin.Str.occurrences s t 0 s.length 1).isEmpty)
    | _ => False
  | .ref a => match M a with
    | some (.lst xs) => flat x = true ∧ xs.all flat = true ∧ k (xs.any fun z => eqF z x)
    | some o => dLk o x fun r => k r.isSome
    | none => False
  | _ => False
def cNotIn : C2 := fun x y M k => cIn x y M fun b => k (!b)

/-! ## truth, length, items -/
def truD (x : D) (M : Sto) (k : Bool → Prop) : Prop := match x with
  | .non => k false
  | .bl b => k b
  | .int i => k (i != 0)
  | .str s => s.length ≤ sizeLine ∧ k ((s.length : Int) != 0)
  | .tup xs => k (!xs.isEmpty)
  | .lro xs => k (!xs.isEmpty)
  | .ref a => match M a with
    | some (.lst xs) => k (!xs.isEmpty)
    | some (.dk kvs) => k (!kvs.isEmpty)
    | _ => False
  | .ty _ => False
def lenD (x : D) (M : Sto) (k : Nat → Prop) : Prop := match x with
  | .str s => s.length ≤ sizeLine ∧ k s.length
  | .tup xs => k xs.length
  | .lro xs => k xs.length
  | .ref a => match M a with
    | some (.lst xs) => k xs.length
    | _ => False
  | _ => False
def at' (xs : List D) (i : Int) (k : D → Prop) : Prop := match L2.atI xs i with
  | some d => k d
  | none => False
def subD (x y : D) (M : Sto) (k : D → Prop) : Prop := match x with
  | .tup xs => match y with
    | .int i => at' xs i k
    | _ => False
  | .lro xs => match y with
    | .int i => at' xs i k
    | _ => False
  | .str s => match y with
    | .int i => s.length ≤ sizeLine ∧ match L2.atI s.cps.toList i with
      | some c => k (.str ⟨#[c]⟩)
      | none => False
    | _ => False
  | .ref a => match M a with
    | some (.lst xs) => match y with
      | .int i => at' xs i k
      | _ => False
    | some o => dLk o y fun r => match r with
      | some d => k d
      | none => False
    | none => False
  | _ => False
def cut {α : Type} (xs : List α) (lo hi : Option Int) : List α := (xs.drop (HT.sIx xs.length 0 lo)).take (HT.sIx xs.length xs.length hi - HT.sIx xs.length 0 lo)
def slD (x : D) (lo hi : Option Int) (M : Sto) (Q : KD) : Prop := match x with
  | .tup xs => Q (.tup (cut xs lo hi)) M
  | .lro xs => ∀ p, M p = none → Q (.ref p) (M.set p (.lst (cut xs lo hi)))
  | .ref a => match M a with
    | some (.lst xs) => ∀ p, M p = none → Q (.ref p) (M.set p (.lst (cut xs lo hi)))
    | _ => False
  | _ => False
def revD (x : D) (M : Sto) (Q : KD) : Prop := match x with
  | .tup xs => Q (.tup xs.reverse) M
  | .ref a => match M a with
    | some (.lst xs) => ∀ p, M p = none → Q (.ref p) (M.set p (.lst xs.reverse))
    | _ => False
  | _ => False

/-! ## expressions -/
def eVar (i : Nat) : WE := fun _ env M Q => match gt env i with
  | some d => Q d M
  | none => False
def eC (d : D) : WE := fun _ _ M Q => Q d M
def argsW : List WE → XW → Ev → Sto → (List D → Sto → Prop) → Prop
  | [], _, _, M, Q => Q [] M
  | f :: fs, E, env, M, Q => f E env M fun d M1 => argsW fs E env M1 fun ds M2 => Q (d :: ds) M2
def eTup (fs : List WE) : WE := fun E env M Q => argsW fs E env M fun ds M1 => Q (.tup ds) M1
def eLst (fs : List WE) : WE := fun E env M Q => argsW fs E env M fun ds M1 => ∀ p, M1 p = none → Q (.ref p) (M1.set p (.lst ds))
def eBin (op : B2) (f g : WE) : WE := fun E env M Q => f E env M fun x M1 => g E env M1 fun y M2 => op x y M2 Q
def eNeg (f : WE) : WE := fun E env M Q => f E env M fun x M1 => match x with
  | .int i => Q (.int (-i)) M1
  | _ => False
def eCmp (c : C2) (f g : WE) : WE := fun E env M Q => f E env M fun x M1 => g E env M1 fun y M2 => c x y M2 fun b => Q (.bl b) M2
def tCmp (c : C2) (f g : WE) : WT := fun E env M Q => f E env M fun x M1 => g E env M1 fun y M2 => c x y M2 fun b => Q b M2
/-- a < b < c -/
def tChain (c c' : C2) (f g h : WE) : WT := fun E env M Q => f E env M fun x M1 => g E env M1 fun y M2 => c x y M2 fun b =>
  if b = true then h E env M2 fun z M3 => c' y z M3 fun b' => Q b' M3 else Q false M2
def tTru (f : WE) : WT := fun E env M Q => f E env M fun x M1 => truD x M1 fun b => Q b M1
def tAnd (t u : WT) : WT := fun E env M Q => t E env M fun b M1 => if b = true then u E env M1 Q else Q false M1
def tOr (t u : WT) : WT := fun E env M Q => t E env M fun b M1 => if b = true then Q true M1 else u E env M1 Q
def tNot (t : WT) : WT := fun E env M Q => t E env M fun b M1 => Q (!b) M1
/-- and, or, not as values (of bools) -/
def eAnd (f g : WE) : WE := fun E env M Q => f E env M fun x M1 => match x with
  | .bl b => if b = true then g E env M1 Q else Q (.bl false) M1
  | _ => False
def eOr (f g : WE) : WE := fun E env M Q => f E env M fun x M1 => match x with
  | .bl b => if b = true then Q (.bl true) M1 else g E env M1 Q
  | _ => False
def eNotB (f : WE) : WE := fun E env M Q => f E env M fun x M1 => match x with
  | .bl b => Q (.bl (!b)) M1
  | _ => False
def eIf (t : WT) (f g : WE) : WE := fun E env M Q => t E env M fun b M1 => if b = true then f E env M1 Q else g E env M1 Q
def eSub (f g : WE) : WE := fun E env M Q => f E env M fun x M1 => g E env M1 fun y M2 => subD x y M2 fun d => Q d M2
def optW : Option WE → XW → Ev → Sto → (Option Int → Sto → Prop) → Prop
  | none, _, _, M, Q => Q none M
  | some f, E, env, M, Q => f E env M fun x M1 => match x with
    | .int i => Q (some i) M1
    | _ => False
def eSl (f : WE) (lo hi : Option WE) : WE := fun E env M Q => f E env M fun x M1 => optW lo E env M1 fun l M2 => optW hi E env M2 fun h M3 => slD x l h M3 Q
def eRev (f : WE) : WE := fun E env M Q => f E env M fun x M1 => revD x M1 Q
def eFld (C : String) (f : WE) (name : Str) : WE := fun E env M Q => f E env M fun x M1 => match x with
  | .ref a => match M1 a with
    | some (.ins C' fs) => C' = C ∧ match fs.lookup name with
      | some d => Q d M1
      | none => False
    | _ => False
  | _ => False
/-! calls -/
def eCall (g : FD) (fs : List WE) : WE := fun E env M Q => argsW fs E env M fun ds M1 => g E ds M1 Q
def eMeth (C : String) (m : Str) (g : FD) (f : WE) (fs : List WE) : WE := fun E env M Q => f E env M fun x M1 => match x with
  | .ref a => match M1 a with
    | some (.ins C' flds) => C' = C ∧ flds.lookup m = none ∧ argsW fs E env M1 fun ds M2 => g E (x :: ds) M2 Q
    | _ => False
  | _ => False
def eNew (C : String) (g : FD) (fs : List WE) : WE := fun E env M Q => argsW fs E env M fun ds M1 => ∀ x, M1 x = none →
  g E (.ref x :: ds) (M1.set x (.ins C [])) fun v M2 => v = .non ∧ Q (.ref x) M2
def eLen (f : WE) : WE := fun E env M Q => f E env M fun x M1 => lenD x M1 fun n => Q (.int n) M1
def eAbs (f : WE) : WE := fun E env M Q => f E env M fun x M1 => match x with
  | .int i => Q (.int (if i < 0 then -i else i)) M1
  | _ => False
def eInt (f : WE) : WE := fun E env M Q => f E env M fun x M1 => match x with
  | .int i => Q (.int i) M1
  | .bl b => Q (.int (if b then 1 else 0)) M1
  | _ => False
def eTupOf (f : WE) : WE := fun E env M Q => f E env M fun x M1 => match x with
  | .tup xs => Q (.tup xs) M1
  | .ref a => match M1 a with
    | some (.lst xs) => Q (.tup xs) M1
    | _ => False
  | _ => False
def eLstOf (f : WE) : WE := fun E env M Q => f E env M fun x M1 => match x with
  | .tup xs => ∀ p, M1 p = none → Q (.ref p) (M1.set p (.lst xs))
  | .ref a => match M1 a with
    | some (.lst xs) => ∀ p, M1 p = none → Q (.ref p) (M1.set p (.lst xs))
    | some (.dk kvs) => ∀ p, M1 p = none → Q (.ref p) (M1.set p (.lst (kvs.map fun kv => dKey kv.1)))
    | _ => False
  | _ => False
def asBools : List D → Option (List Bool)
  | [] => some []
  | .bl b :: r => (asBools r).map (b :: ·)
  | _ => none
def asInts : List D → Option (List Int)
  | [] => some []
  | .int i :: r => (asInts r).map (i :: ·)
  | _ => none
def eAll (f : WE) : WE := fun E env M Q => f E env M fun x M1 => match x with
  | .ref a => match M1 a with
    | some (.lst xs) => match asBools xs with
      | some bs => Q (.bl (bs.all id)) M1
      | none => False
    | _ => False
  | _ => False
def eAny (f : WE) : WE := fun E env M Q => f E env M fun x M1 => match x with
  | .ref a => match M1 a with
    | some (.lst xs) => match asBools xs with
      | some bs => Q (.bl (bs.any id)) M1
      | none => False
    | _ => False
  | _ => False
def eSum (f : WE) : WE := fun E env M Q => f E env M fun x M1 => match x with
  | .ref a => match M1 a with
    | some (.lst xs) => match asInts xs with
      | some ks => Q (.int ks.sum) M1
      | none => False
    | _ => False
  | _ => False
/-- the type's name of a value -/
def tyD (x : D) (M : Sto) (k : String → Prop) : Prop := match x with
  | .non => k "NoneType"
  | .bl _ => k "bool"
  | .int _ => k "int"
  | .str _ => k "str"
  | .tup _ => k "tuple"
  | .ref a => match M a with
    | some (.lst _) => k "list"
    | some (.dk _) => k "dict"
    | _ => False
  | .lro _ => k "list"
  | .ty _ => False
def isTy (t c : String) : Bool := t == c || (t == "bool" && c == "int")
def eIsi (f : WE) (cs : List String) : WE := fun E env M Q => f E env M fun x M1 => tyD x M1 fun t => Q (.bl (cs.any (isTy t))) M1
/-! dicts -/
def eDk : WE := fun _ _ M Q => ∀ p, M p = none → Q (.ref p) (M.set p (.dk []))
def eDn : WE := fun _ _ M Q => ∀ p, M p = none → Q (.ref p) (M.set p (.dn []))
def refD (x : D) (M : Sto) (k : O → Prop) : Prop := match x with
  | .ref a => match M a with
    | some o => k o
    | none => False
  | _ => False
def isDct (x : D) (M : Sto) (k : Prop) : Prop := match x with
  | .ref a => match M a with
    | some (.dk _) => k
    | some (.dn _) => k
    | _ => False
  | _ => False
def eGet1 (f g : WE) : WE := fun E env M Q => f E env M fun x M1 => isDct x M1 <| g E env M1 fun y M2 => refD x M2 fun o => dLk o y fun r => Q (r.getD .non) M2
def eGet2 (f g h : WE) : WE := fun E env M Q => f E env M fun x M1 => isDct x M1 <| g E env M1 fun y M2 => h E env M2 fun z M3 => refD x M3 fun o => dLk o y fun r => Q (r.getD z) M3
/-- dict(pairs) of texts or ints -/
def pairsK : List D → Option (List (Key × D))
  | [] => some []
  | .tup [k, v] :: r => match keyD k, pairsK r with
    | some κ, some s => some ((κ, v) :: s)
    | _, _ => none
  | _ => none
def insAll (kvs : List (Key × D)) (more : List (Key × D)) : List (Key × D) := more.foldl (fun acc kv => ins acc kv.1 kv.2) kvs
def itemsD (x : D) (M : Sto) (k : List D → Prop) : Prop := match x with
  | .tup xs => k xs
  | .ref a => match M a with
    | some (.lst xs) => k xs
    | _ => False
  | _ => False
def eDict (f : WE) : WE := fun E env M Q => f E env M fun x M1 => itemsD x M1 fun xs => match pairsK xs with
    | some kvs => ∀ p, M1 p = none → Q (.ref p) (M1.set p (.dk (insAll [] kvs)))
    | none => False
/-! methods of lists -/
def lstAt (x : D) (M : Sto) (k : Addr → List D → Prop) : Prop := match x with
  | .ref a => match M a with
    | some (.lst xs) => k a xs
    | _ => False
  | _ => False
def eAppend (f g : WE) : WE := fun E env M Q => f E env M fun x M1 => lstAt x M1 fun _ _ => g E env M1 fun y M2 => lstAt x M2 fun a xs => xs.length < sizeLine ∧ Q .non (M2.set a (.lst (xs ++ [y])))
def ePop (f : WE) : WE := fun E env M Q => f E env M fun x M1 => lstAt x M1 fun a xs => match xs.getLast? with
  | some y => Q y (M1.set a (.lst xs.dropLast))
  | none => False
def eExtend (f g : WE) : WE := fun E env M Q => f E env M fun x M1 => lstAt x M1 fun _ _ => g E env M1 fun y M2 => lstAt x M2 fun a xs => lstAt y M2 fun _ ys => xs.length + ys.length ≤ sizeLine ∧ Q .non (M2.set a (.lst (xs ++ ys)))

/-! ## what a loop walks: a check at each turn, the items -/
abbrev WI := XW → Ev → Sto → ((Sto → Prop) → List D → Sto → Prop) → Prop
def iVal (f : WE) : WI := fun E env M k => f E env M fun x M1 => match x with
  | .tup xs => k (fun _ => True) xs M1
  | .lro xs => k (fun _ => True) xs M1
  | .ref a => match M1 a with
    | some (.lst xs) => k (fun M' => M' a = some (.lst xs)) xs M1
    | _ => False
  | _ => False
def rangeL (lo hi : Int) : List D := (List.range (hi - lo).toNat).map fun (i : Nat) => .int (lo + i)
def iRange1 (f : WE) : WI := fun E env M k => f E env M fun x M1 => match x with
  | .int j => -(2 ^ 62) ≤ j ∧ j < 2 ^ 62 ∧ k (fun _ => True) (rangeL 0 j) M1
  | _ => False
def iRange2 (f g : WE) : WI := fun E env M k => f E env M fun x M1 => g E env M1 fun y M2 => match x, y with
  | .int i, .int j => (-(2 ^ 62) ≤ i ∧ i < 2 ^ 62 ∧ -(2 ^ 62) ≤ j ∧ j < 2 ^ 62) ∧ k (fun _ => True) (rangeL i j) M2
  | _, _ => False

def charsOf (s : Str) : List D := s.cps.toList.map fun c => .str ⟨#[c]⟩
def iChars (f : WE) : WI := fun E env M k => f E env M fun x M1 => match x with
  | .str s => k (fun _ => True) (charsOf s) M1
  | _ => False
def cIsB : C2 := fun x y _ k => match x, y with
  | .bl a, .bl b => k (a == b)
  | _, _ => False
def cNotB : C2 := fun x y _ k => match x, y with
  | .bl a, .bl b => k (!(a == b))
  | _, _ => False
/-! dicts that are walked: locked the while -/
def lockO (o : Option O) (k : O → O → Prop) : Prop := match o with
  | some (.dk kvs) => k (.dk kvs) (.dkF kvs)
  | some (.dn kvs) => k (.dn kvs) (.dnF kvs)
  | _ => False
def lockD (x : Option D) (M : Sto) (k : Addr → O → O → Prop) : Prop := match x with
  | some (.ref a) => lockO (M a) (k a)
  | _ => False
def eLock (i : Nat) (f : WE) : WE := fun _ env M Q => lockD (gt env i) M fun a o o' => f X0 env (M.set a o') fun d M' => M' a = some o' ∧ Q d (M'.set a o)
/-- the keys of a locked dict -/
def keysO (o : Option O) (k : O → List D → Prop) : Prop := match o with
  | some (.dkF kvs) => k (.dkF kvs) (kvs.map fun kv => dKey kv.1)
  | some (.dnF kvs) => k (.dnF kvs) (kvs.map Prod.fst)
  | _ => False
def iKeysD (f : WE) : WI := fun E env M k => f E env M fun x M1 => match x with
  | .ref a => keysO (M1 a) fun o xs => k (fun M' => M' a = some o) xs M1
  | _ => False
/-! ## targets -/
def gName (i : Nat) : WG := fun d _ env M Q => Q (put env i d) M
def gAll : List WG → List D → XW → Ev → Sto → (Ev → Sto → Prop) → Prop
  | [], [], _, env, M, Q => Q env M
  | g :: gs, d :: ds, E, env, M, Q => g d E env M fun env1 M1 => gAll gs ds E env1 M1 Q
  | _, _, _, _, _, _ => False
def gTup (gs : List WG) : WG := fun d E env M Q => match d with
  | .tup ds => ds.length = gs.length ∧ gAll gs ds E env M Q
  | _ => False
/-- o[i] = d -/
def setD (o i d : D) (M : Sto) (Q : Sto → Prop) : Prop := match o with
  | .ref a => match M a with
    | some (.lst xs) => match i with
      | .int k => match L2.ixN xs.length k with
        | some j => Q (M.set a (.lst (xs.set j d)))
        | none => False
      | _ => False
    | some (.dk kvs) => match keyD i with
      | some κ => kvs.length < sizeLine ∧ Q (M.set a (.dk (ins kvs κ d)))
      | none => False
    | some (.dn kvs) => nkOk i = true ∧ kvs.length < sizeLine ∧ Q (M.set a (.dn (ins kvs i d)))
    | _ => False
  | _ => False
def gSub (f g : WE) : WG := fun d E env M Q => f E env M fun o M1 => g E env M1 fun i M2 => setD o i d M2 fun M3 => Q env M3
def putF (name : Str) (d : D) : List (Str × D) → List (Str × D)
  | [] => [(name, d)]
  | p :: r => if p.1 = name then (name, d) :: r else p :: putF name d r
def gFld (C : String) (f : WE) (name : Str) : WG := fun d E env M Q => f E env M fun o M1 => match o with
  | .ref a => match M1 a with
    | some (.ins C' fs) => C' = C ∧ fs.length < 1000 ∧ Q env (M1.set a (.ins C (putF name d fs)))
    | _ => False
  | _ => False

/-! ## statements -/
def sNil : WS := fun _ D env M => D.nx env M
def sSeq (s t : WS) : WS := fun E D env M => s E { D with nx := fun e m => t E D e m } env M
def sAsg (f : WE) (g : WG) : WS := fun E D env M => f E env M fun d M1 => g d E env M1 D.nx
def sAug (i : Nat) (op : B2) (f : WE) : WS := fun E D env M => match gt env i with
  | some x => f E env M fun y M1 => op x y M1 fun z M2 => D.nx (put env i z) M2
  | none => False
/-- o.name op= e -/
def sAugF (C : String) (o : WE) (name : Str) (op : B2) (f : WE) : WS := fun E D env M => o E env M fun x M1 => match x with
  | .ref a => match M1 a with
    | some (.ins C0 fs) => C0 = C ∧ match fs.lookup name with
      | some old => f E env M1 fun y M2 => op old y M2 fun z M3 => match M3 a with
        | some (.ins C' fs') => C' = C ∧ fs'.length < 1000 ∧ D.nx env (M3.set a (.ins C (putF name z fs')))
        | _ => False
      | none => False
    | _ => False
  | _ => False
def sExpr (f : WE) : WS := fun E D env M => f E env M fun _ M1 => D.nx env M1
def sRet (f : WE) : WS := fun E D env M => f E env M D.rt
def sRetN : WS := fun _ D _ M => D.rt .non M
def sIf (t : WT) (a b : WS) : WS := fun E D env M => t E env M fun c M1 => if c = true then a E D env M1 else b E D env M1
def sBreak : WS := fun _ D env M => D.bk env M
def sCont : WS := fun _ D env M => D.ct env M
def sNever : WS := fun _ _ _ _ => False
def forL (g : WG) (b : WS) (chk : Sto → Prop) : List D → XW → Ends → Ev → Sto → Prop
  | [], _, D, env, M => chk M ∧ D.nx env M
  | x :: xs, E, D, env, M => chk M ∧ g x E env M fun env1 M1 => b E { D with nx := fun e m => forL g b chk xs E D e m, ct := fun e m => forL g b chk xs E D e m, bk := D.nx } env1 M1
def sFor (src : WI) (g : WG) (b : WS) : WS := fun E D env M => src E env M fun chk xs M1 => forL g b chk xs E D env M1
def sWhile (c : WT) (b : WS) : WS := fun E D env M => ∃ W : Nat → Ev → Sto → Prop, (∃ m, W m env M) ∧ ∀ m env M, W m env M →
  c E env M fun t M1 => if t = true then b E { D with nx := fun e M' => ∃ m', m' < m ∧ W m' e M', ct := fun e M' => ∃ m', m' < m ∧ W m' e M', bk := D.nx } env M1 else D.nx env M1

/-! ## comprehensions -/
def compL (p : Addr) (vs : List Nat) (g : WG) (t : WT) (f : WE) (env : Ev) (chk : Sto → Prop) : List D → Sto → (Sto → Prop) → Prop
  | [], M, Q => chk M ∧ Q M
  | x :: xs, M, Q => chk M ∧ g x X0 (wipe env vs) M fun env1 M1 => t X0 env1 M1 fun b M2 =>
    if b = true then f X0 env1 M2 fun d M3 => (match M3 p with
      | some (.lst acc) => acc.length < sizeLine ∧ compL p vs g t f env chk xs (M3.set p (.lst (acc ++ [d]))) Q
      | _ => False)
    else compL p vs g t f env chk xs M2 Q
def tYes : WT := fun _ _ M Q => Q true M
def eComp (src : WI) (vs : List Nat) (g : WG) (t : WT) (f : WE) : WE := fun E env M Q => src E env M fun chk xs M1 => ∀ p, M1 p = none →
  compL p vs g t f env chk xs (M1.set p (.lst [])) fun M2 => Q (.ref p) M2

/-! ## defs -/
def endsOf (Q : KD) : Ends := ⟨fun _ M => Q .non M, Q, fun _ _ => False, fun _ _ => False⟩
@[simp] def fn1 (g : D → XW → Sto → KD → Prop) : FD := fun E ds M Q => match ds with
  | [x] => g x E M Q
  | _ => False
@[simp] def fn2 (g : D → D → XW → Sto → KD → Prop) : FD := fun E ds M Q => match ds with
  | [x, y] => g x y E M Q
  | _ => False
@[simp] def fn3 (g : D → D → D → XW → Sto → KD → Prop) : FD := fun E ds M Q => match ds with
  | [x, y, z] => g x y z E M Q
  | _ => False
@[simp] def fn4 (g : D → D → D → D → XW → Sto → KD → Prop) : FD := fun E ds M Q => match ds with
  | [x, y, z, u] => g x y z u E M Q
  | _ => False
@[simp] def fn5 (g : D → D → D → D → D → XW → Sto → KD → Prop) : FD := fun E ds M Q => match ds with
  | [x, y, z, u, v] => g x y z u v E M Q
  | _ => False
end DL

set_option Elab.async false
set_option linter.all false
set_option maxRecDepth 100000
set_option maxHeartbeats 4000000
/-! DS: the clean level is sound over the hand layer -/
namespace DL
open PySem PySem.Spec PyProof.Rows L2

/-! ## what a value stands for -/
/-- a list that nobody writes -/
def SqF (K : PySem.W.Frag) (H : Hp) (a : Addr) (xs : List V) : Prop :=
  (∃ o, H a = some (.frz o (.lst xs))) ∨
    ∃ (o : Obj) (its : Array Value) (n : Nat), K.lookup a = some o ∧ o.cls = .type "list" ∧ o.dict = none ∧ o.data = .seq its n ∧ its.size ≤ sizeLine ∧ Vals xs its.toList
theorem SqF.l {K : PySem.W.Frag} {H : Hp} {a : Addr} {xs : List V} (h : SqF K H a xs) : SqL K H a xs := h.elim (fun h => .inl (.inr h)) .inr
/-- the object of a tuple as the text makes it -/
abbrev TupO (its : List Value) : Obj := { cls := .type "tuple", data := .seq its.toArray }
/-- a tuple, known to the object -/
def SqD (K : PySem.W.Frag) (H : Hp) (a : Addr) (xs : List V) : Prop :=
  (∃ its, H a = some (.frz (TupO its) (.tup xs))) ∨
    ∃ (o : Obj) (its : Array Value) (n : Nat), K.lookup a = some o ∧ o.cls = .type "tuple" ∧ o.dict = none ∧ o.data = .seq its n ∧ its.size ≤ sizeLine ∧ Vals xs its.toList
theorem SqD.s {K : PySem.W.Frag} {H : Hp} {a : Addr} {xs : List V} (h : SqD K H a xs) : SqT K H a xs :=
  h.elim (fun ⟨_, h⟩ => .inl (.inr ⟨_, h⟩)) fun ⟨o, its, n, a, b, _, c, d, e⟩ => .inr ⟨o, its, n, a, b, c, d, e⟩
mutual
inductive Rep (K : PySem.W.Frag) (H : Hp) : V → D → Prop
  | non : Rep K H .non .non
  | bl (b : Bool) : Rep K H (.bl b) (.bl b)
  | int (i : Int) : Rep K H (.int i) (.int i)
  | str (x : Str) : Rep K H (.str x) (.str x)
  | ref (a : Addr) : Rep K H (.ref a) (.ref a)
  | ty (n : String) : Rep K H (.ty n) (.ty n)
  | tup {a : Addr} {vs : List V} {ds : List D} : SqD K H a vs → Reps K H vs ds → Rep K H (.ref a) (.tup ds)
  | lro {a : Addr} {vs : List V} {ds : List D} : SqF K H a vs → Reps K H vs ds → Rep K H (.ref a) (.lro ds)
inductive Reps (K : PySem.W.Frag) (H : Hp) : List V → List D → Prop
  | nil : Reps K H [] []
  | cons {v : V} {d : D} {vs : List V} {ds : List D} : Rep K H v d → Reps K H vs ds → Reps K H (v :: vs) (d :: ds)
end
/-- tuples and lists that nobody writes stand still -/
structure TF (K : PySem.W.Frag) (H H' : Hp) : Prop where
  t : ∀ a vs, SqD K H a vs → SqD K H' a vs
  f : ∀ a vs, SqF K H a vs → SqF K H' a vs
/-- .. and what is locked stays so -/
structure Tups (K : PySem.W.Frag) (H H' : Hp) : Prop extends TF K H H' where
  z : ∀ a o u, H a = some (.frz o u) → H' a = some (.frz o u)
theorem Tups.refl {K : PySem.W.Frag} {H : Hp} : Tups K H H := ⟨⟨fun _ _ h => h, fun _ _ h => h⟩, fun _ _ _ h => h⟩
theorem Tups.trans {K : PySem.W.Frag} {H H1 H2 : Hp} (a : Tups K H H1) (b : Tups K H1 H2) : Tups K H H2 := ⟨⟨fun x vs h => b.t x vs (a.t x vs h), fun x vs h => b.f x vs (a.f x vs h)⟩, fun x o u h => b.z x o u (a.z x o u h)⟩
section
variable {K : PySem.W.Frag} {H H' : Hp}
mutual
theorem Rep.mono (t : TF K H H') : ∀ (d : D) {v : V}, Rep K H v d → Rep K H' v d
  | .non, _, h => by cases h; exact .non
  | .bl b, _, h => by cases h; exact .bl b
  | .int b, _, h => by cases h; exact .int b
  | .str b, _, h => by cases h; exact .str b
  | .ref b, _, h => by cases h; exact .ref b
  | .ty b, _, h => by cases h; exact .ty b
  | .tup ds, _, h => by
    cases h with
    | tup s r => exact .tup (t.t _ _ s) (Reps.mono t ds r)
  | .lro ds, _, h => by
    cases h with
    | lro s r => exact .lro (t.f _ _ s) (Reps.mono t ds r)
theorem Reps.mono (t : TF K H H') : ∀ (ds : List D) {vs : List V}, Reps K H vs ds → Reps K H' vs ds
  | [], _, h => by cases h; exact .nil
  | d :: ds, _, h => by
    cases h with
    | cons a b => exact .cons (Rep.mono t d a) (Reps.mono t ds b)
end
theorem Rep.m0 {v : V} {d : D} (h : Rep K H v d) (t : TF K H H') : Rep K H' v d := Rep.mono t d h
theorem Reps.m0 {vs : List V} {ds : List D} (h : Reps K H vs ds) (t : TF K H H') : Reps K H' vs ds := Reps.mono t ds h
theorem Rep.m {v : V} {d : D} (h : Rep K H v d) (t : Tups K H H') : Rep K H' v d := Rep.mono t.toTF d h
theorem Reps.m {vs : List V} {ds : List D} (h : Reps K H vs ds) (t : Tups K H H') : Reps K H' vs ds := Reps.mono t.toTF ds h
theorem Reps.length : ∀ {vs : List V} {ds : List D}, Reps K H vs ds → vs.length = ds.length
  | _, _, .nil => rfl
  | _, _, .cons _ t => by rw [List.length_cons, List.length_cons, Reps.length t]
theorem Reps.get : ∀ {vs : List V} {ds : List D} {i : Nat} {d : D}, Reps K H vs ds → ds[i]? = some d → ∃ v, vs[i]? = some v ∧ Rep K H v d
  | _, _, _, _, .nil, e => by simp at e
  | _, _, 0, _, .cons r _, e => by simp at e; subst e; exact ⟨_, rfl, r⟩
  | _, _, i + 1, d, .cons _ t, e => by
    obtain ⟨u, h1, h2⟩ := Reps.get (i := i) (d := d) t (by simpa using e)
    exact ⟨u, by simpa using h1, h2⟩
theorem Reps.getV : ∀ {vs : List V} {ds : List D} {i : Nat} {v : V}, Reps K H vs ds → vs[i]? = some v → ∃ d, ds[i]? = some d ∧ Rep K H v d
  | _, _, _, _, .nil, e => by simp at e
  | _, _, 0, _, .cons r _, e => by simp at e; subst e; exact ⟨_, rfl, r⟩
  | _, _, i + 1, d, .cons _ t, e => by
    obtain ⟨u, h1, h2⟩ := Reps.getV (i := i) (v := d) t (by simpa using e)
    exact ⟨u, by simpa using h1, h2⟩
theorem Reps.append : ∀ {vs ws : List V} {ds es : List D}, Reps K H vs ds → Reps K H ws es → Reps K H (vs ++ ws) (ds ++ es)
  | _, _, _, _, .nil, s => s
  | _, _, _, _, .cons r t, s => .cons r (Reps.append t s)
theorem Reps.take : ∀ {vs : List V} {ds : List D} (n : Nat), Reps K H vs ds → Reps K H (vs.take n) (ds.take n)
  | _, _, 0, _ => .nil
  | _, _, _ + 1, .nil => .nil
  | _, _, n + 1, .cons r t => .cons r (Reps.take n t)
theorem Reps.drop : ∀ {vs : List V} {ds : List D} (n : Nat), Reps K H vs ds → Reps K H (vs.drop n) (ds.drop n)
  | _, _, 0, r => r
  | _, _, _ + 1, .nil => .nil
  | _, _, n + 1, .cons _ t => Reps.drop n t
theorem Reps.reverse : ∀ {vs : List V} {ds : List D}, Reps K H vs ds → Reps K H vs.reverse ds.reverse
  | _, _, .nil => .nil
  | _, _, .cons r t => by
    rw [List.reverse_cons, List.reverse_cons]
    exact (Reps.reverse t).append (.cons r .nil)
theorem Reps.set {v : V} {d : D} (r : Rep K H v d) : ∀ {vs : List V} {ds : List D} (i : Nat), Reps K H vs ds → Reps K H (vs.set i v) (ds.set i d)
  | _, _, _, .nil => .nil
  | _, _, 0, .cons _ t => .cons r t
  | _, _, i + 1, .cons q t => .cons q (Reps.set r i t)
theorem Reps.dropLast : ∀ {vs : List V} {ds : List D}, Reps K H vs ds → Reps K H vs.dropLast ds.dropLast
  | _, _, .nil => .nil
  | _, _, .cons _ .nil => .nil
  | _, _, .cons r (.cons q t) => .cons r (Reps.dropLast (.cons q t))
end

/-! ## constants of the context -/
structure Cn where
  P : Program
  w : World
  K : PySem.W.Frag
  CA : String → Addr
abbrev cn (X : Cx) (CA : String → Addr) : Cn := ⟨X.prog, X.w, X.K, CA⟩

/-! ## what stands at an address -/
mutual
/-- a key of nested tuples -/
def nkD : D → NestedKey
  | .non => .none
  | .int i => .num i
  | .str x => .text x
  | .tup xs => .tup (nkDs xs)
  | _ => .none
def nkDs : List D → List NestedKey
  | [] => []
  | x :: xs => nkD x :: nkDs xs
end
abbrev Ent := NestedKey × Addr × V
def NDict (c : Cn) (a : Addr) (es : List Ent) : HO := .ext fun h => es.length ≤ sizeLine ∧ (a == sysModules) = false ∧
  ∃ xs : List (NestedKey × Addr × Value), Paired (fun (p : Ent) (q : NestedKey × Addr × Value) => p.1 = q.1 ∧ p.2.1 = q.2.1 ∧ RelV p.2.2 q.2.2) es xs ∧
    (∃ o es ep, h.get? a = some o ∧ o.ExactDict ∧ o.data = .dict es ep ∧ es.toList = xs.map (entryOfKey (nestedKind c.P c.w))) ∧ (xs.map (·.1)).Nodup
abbrev PKV (K : PySem.W.Frag) (H : Hp) : List (L2.Key × V) → List (Key × D) → Prop := Paired fun p q => p.1 = q.1 ∧ Rep K H p.2 q.2
abbrev PFs (K : PySem.W.Frag) (H : Hp) : List (Str × V) → List (Str × D) → Prop := Paired fun p q => p.1 = q.1 ∧ Rep K H p.2 q.2
def RepO (c : Cn) (H : Hp) (a : Addr) : O → Prop
  | .lst xs => ∃ vs, H a = some (.lst vs) ∧ Reps c.K H vs xs
  | .dk kvs => ∃ vs : List (L2.Key × V), H a = some (.dK vs) ∧ PKV c.K H vs kvs
  | .dn kvs => ∃ es : List Ent, H a = some (NDict c a es) ∧ Paired (fun (p : Ent) (q : D × D) => p.1 = nkD q.1 ∧ nkOk q.1 = true ∧ Rep c.K H (.ref p.2.1) q.1 ∧ Rep c.K H p.2.2 q.2) es kvs
  | .ins C fs => ∃ (dx : Addr) (vs : List (Str × V)), H a = some (.ins (c.CA C) dx vs) ∧ PFs c.K H vs fs
  | .dkF kvs => ∃ (od : Obj) (vs : List (L2.Key × V)), H a = some (.frz od (.dK vs)) ∧ PKV c.K H vs kvs
  | .dnF kvs => ∃ (od : Obj) (es : List Ent), H a = some (.frz od (NDict c a es)) ∧ Paired (fun (p : Ent) (q : D × D) => p.1 = nkD q.1 ∧ nkOk q.1 = true ∧ Rep c.K H (.ref p.2.1) q.1 ∧ Rep c.K H p.2.2 q.2) es kvs
def R (c : Cn) (M : Sto) (H : Hp) : Prop := ∀ a o, M a = some o → RepO c H a o
section
variable {c : Cn} {M : Sto} {H H' : Hp} {a p : Addr} {o : O} {ho : HO}
theorem paired_mono {α β : Type} {F G : α → β → Prop} {l : List α} {r : List β} (h : Paired F l r) (f : ∀ a b, F a b → G a b) : Paired G l r := Paired.mapP h f
theorem PFs.m0 {K : PySem.W.Frag} {H H' : Hp} {vs : List (Str × V)} {fs : List (Str × D)} (h : PFs K H vs fs) (t : TF K H H') : PFs K H' vs fs := paired_mono h fun _ _ z => ⟨z.1, z.2.m0 t⟩
theorem PFs.m {K : PySem.W.Frag} {H H' : Hp} {vs : List (Str × V)} {fs : List (Str × D)} (h : PFs K H vs fs) (t : Tups K H H') : PFs K H' vs fs := h.m0 t.toTF
theorem RepO.mono0 (h : RepO c H a o) (t : TF c.K H H') (e : H' a = H a) : RepO c H' a o := by
  cases o with
  | lst xs => obtain ⟨vs, h1, h2⟩ := h; exact ⟨vs, by rw [e]; exact h1, h2.m0 t⟩
  | dk kvs => obtain ⟨vs, h1, h2⟩ := h; exact ⟨vs, by rw [e]; exact h1, paired_mono h2 fun p q z => ⟨z.1, z.2.m0 t⟩⟩
  | dn kvs => obtain ⟨vs, h1, h2⟩ := h; exact ⟨vs, by rw [e]; exact h1, paired_mono h2 fun p q z => ⟨z.1, z.2.1, z.2.2.1.m0 t, z.2.2.2.m0 t⟩⟩
  | ins C fs => obtain ⟨dx, vs, h1, h2⟩ := h; exact ⟨dx, vs, by rw [e]; exact h1, h2.m0 t⟩
  | dkF kvs => obtain ⟨od, vs, h1, h2⟩ := h; exact ⟨od, vs, by rw [e]; exact h1, paired_mono h2 fun p q z => ⟨z.1, z.2.m0 t⟩⟩
  | dnF kvs => obtain ⟨od, vs, h1, h2⟩ := h; exact ⟨od, vs, by rw [e]; exact h1, paired_mono h2 fun p q z => ⟨z.1, z.2.1, z.2.2.1.m0 t, z.2.2.2.m0 t⟩⟩
theorem RepO.mono (h : RepO c H a o) (t : Tups c.K H H') (e : H' a = H a) : RepO c H' a o := h.mono0 t.toTF e
/-- a dict that is read -/
theorem RepO.dk_rd {kvs : List (Key × D)} (h : RepO c H a o) (e : o.un = .dk kvs) : ∃ vs : List (L2.Key × V), Rd H a (.dK vs) ∧ PKV c.K H vs kvs := by
  cases o <;> cases e
  · obtain ⟨vs, h1, h2⟩ := h; exact ⟨vs, .inl h1, h2⟩
  · obtain ⟨od, vs, h1, h2⟩ := h; exact ⟨vs, .inr ⟨od, h1⟩, h2⟩
theorem RepO.dn_rd {kvs : List (D × D)} (h : RepO c H a o) (e : o.un = .dn kvs) : ∃ es : List Ent, Rd H a (NDict c a es) ∧ Paired (fun (p : Ent) (q : D × D) => p.1 = nkD q.1 ∧ nkOk q.1 = true ∧ Rep c.K H (.ref p.2.1) q.1 ∧ Rep c.K H p.2.2 q.2) es kvs := by
  cases o <;> cases e
  · obtain ⟨vs, h1, h2⟩ := h; exact ⟨vs, .inl h1, h2⟩
  · obtain ⟨od, vs, h1, h2⟩ := h; exact ⟨vs, .inr ⟨od, h1⟩, h2⟩
theorem ne_frz {u : HO} (h : match u with | .frz _ _ => False | _ => True) : ∀ o xs, u ≠ .frz o xs := by
  intro o xs z; subst z; exact h
theorem RepO.there (h : RepO c H a o) : ∃ u, H a = some u := by
  cases o with
  | lst xs => obtain ⟨vs, h1, h2⟩ := h; exact ⟨_, h1⟩
  | dk kvs => obtain ⟨vs, h1, h2⟩ := h; exact ⟨_, h1⟩
  | dn kvs => obtain ⟨vs, h1, h2⟩ := h; exact ⟨_, h1⟩
  | ins C fs => obtain ⟨dx, vs, h1, h2⟩ := h; exact ⟨_, h1⟩
  | dkF kvs => obtain ⟨od, vs, h1, h2⟩ := h; exact ⟨_, h1⟩
  | dnF kvs => obtain ⟨od, vs, h1, h2⟩ := h; exact ⟨_, h1⟩
theorem tups_at {K : PySem.W.Frag} (n : ∀ o xs, H p ≠ some (.frz o xs)) : Tups K H (upd H p ho) := by
  refine ⟨⟨fun a vs h => ?_, fun a vs h => ?_⟩, fun a o u h => ?_⟩
  · rcases h with ⟨u, h⟩ | h
    · exact .inl ⟨u, by rw [upd_ne (fun z => n _ _ (by rw [← z]; exact h))]; exact h⟩
    · exact .inr h
  · rcases h with ⟨u, h⟩ | h
    · exact .inl ⟨u, by rw [upd_ne (fun z => n u _ (by rw [← z]; exact h))]; exact h⟩
    · exact .inr h
  · rw [upd_ne (fun z => n _ _ (by rw [← z]; exact h))]; exact h
/-- what was locked, and is no tuple or list, is set free -/
theorem tf_un {K : PySem.W.Frag} {od : Obj} {u : HO} (e : H p = some (.frz od u)) (n : match u with | .tup _ => False | .lst _ => False | _ => True) : TF K H (upd H p ho) := by
  refine ⟨fun a vs h => ?_, fun a vs h => ?_⟩
  · rcases h with ⟨w, h⟩ | h
    · refine .inl ⟨w, ?_⟩
      rw [upd_ne (fun z => ?_)]; exact h
      subst z; rw [e] at h; cases h; exact n
    · exact .inr h
  · rcases h with ⟨w, h⟩ | h
    · refine .inl ⟨w, ?_⟩
      rw [upd_ne (fun z => ?_)]; exact h
      subst z; rw [e] at h; cases h; exact n
    · exact .inr h
theorem Tups.new {K : PySem.W.Frag} (hp : H p = none) : Tups K H (upd H p ho) := tups_at fun _ _ => by rw [hp]; exact nofun
/-- what may be written is no tuple -/
theorem Tups.wr {K : PySem.W.Frag} {u : HO} (hp : H p = some u) (nf : ∀ o xs, u ≠ .frz o xs) : Tups K H (upd H p ho) := tups_at
  fun o xs => by rw [hp]; exact fun z => nf o xs (Option.some.inj z)
theorem R.fresh (r : R c M H) (h : H p = none) : M p = none := by
  cases e : M p with
  | none => rfl
  | some o =>
    obtain ⟨u, q⟩ := (r p o e).there
    rw [h] at q; cases q
/-- one address is written (or new), all else stands -/
theorem R.at (r : R c M H) (t : Tups c.K H (upd H a ho)) (n : RepO c (upd H a ho) a o) : R c (M.set a o) (upd H a ho) := fun b u e => by
  by_cases hb : b = a
  · subst hb; rw [set_same] at e; cases e; exact n
  · rw [set_ne hb] at e; exact (r b u e).mono t (upd_ne hb)
theorem R.keep (r : R c M H) (h : H p = none) : R c M (upd H p ho) := fun b u e => by
  refine (r b u e).mono (Tups.new h) (upd_ne ?_)
  rintro rfl
  rw [r.fresh h] at e; cases e
end

/-! ## names -/
inductive RelEnv (K : PySem.W.Frag) (H : Hp) : L2.St → Ev → Prop
  | nil : RelEnv K H [] []
  | cons {ov : Option V} {od : Option D} {σ : L2.St} {env : Ev} : (∀ d, od = some d → ∃ v, ov = some v ∧ Rep K H v d) → RelEnv K H σ env → RelEnv K H (ov :: σ) (od :: env)
section
variable {K : PySem.W.Frag} {H H' : Hp}
theorem RelEnv.mono0 (t : TF K H H') : ∀ {σ : L2.St} {env : Ev}, RelEnv K H σ env → RelEnv K H' σ env
  | _, _, .nil => .nil
  | _, _, .cons h r => .cons (fun d e => let ⟨v, a, b⟩ := h d e; ⟨v, a, b.m0 t⟩) (RelEnv.mono0 t r)
theorem RelEnv.mono (t : Tups K H H') {σ : L2.St} {env : Ev} (h : RelEnv K H σ env) : RelEnv K H' σ env := h.mono0 t.toTF
theorem RelEnv.get : ∀ {σ : L2.St} {env : Ev} {i : Nat} {d : D}, RelEnv K H σ env → gt env i = some d → ∃ v, σ[i]? = some (some v) ∧ Rep K H v d
  | _, _, _, _, .nil, e => by simp [gt] at e
  | _, _, 0, d, .cons h _, e => by
    obtain ⟨v, a, b⟩ := h d e
    exact ⟨v, by simp [a], b⟩
  | _, _, i + 1, d, .cons _ r, e => by
    obtain ⟨v, a, b⟩ := RelEnv.get (i := i) r e
    exact ⟨v, by simpa using a, b⟩
theorem RelEnv.put {v : V} {d : D} (q : Rep K H v d) : ∀ {σ : L2.St} {env : Ev} (i : Nat), RelEnv K H σ env → RelEnv K H (σ.set i (some v)) (put env i d)
  | _, _, _, .nil => .nil
  | _, _, 0, .cons _ r => .cons (fun d' e => ⟨v, rfl, by cases e; exact q⟩) r
  | _, _, i + 1, .cons h r => .cons h (RelEnv.put q i r)
theorem RelEnv.clear : ∀ {σ : L2.St} {env : Ev} (i : Nat), RelEnv K H σ env → RelEnv K H (σ.set i none) (env.set i none)
  | _, _, _, .nil => .nil
  | _, _, 0, .cons _ r => .cons (nofun) r
  | _, _, i + 1, .cons h r => .cons h (RelEnv.clear i r)
theorem RelEnv.nones : ∀ (n : Nat), RelEnv K H (List.replicate n none) (List.replicate n none)
  | 0 => .nil
  | n + 1 => .cons nofun (RelEnv.nones n)
theorem RelEnv.app : ∀ {vs : List V} {ds : List D} {σ : L2.St} {env : Ev}, Reps K H vs ds → RelEnv K H σ env → RelEnv K H (vs.map some ++ σ) (ds.map some ++ env)
  | _, _, _, _, .nil, r => r
  | _, _, _, _, .cons q s, r => .cons (fun d e => ⟨_, rfl, by cases e; exact q⟩) (RelEnv.app s r)
theorem RelEnv.start {N : List Str} {vs : List V} {ds : List D} (r : Reps K H vs ds) : RelEnv K H (L2.start N vs) (start N.length ds) := by
  unfold L2.start DL.start
  rw [← r.length]
  exact RelEnv.app r (RelEnv.nones _)
end
end DL

set_option Elab.async false
set_option linter.all false
set_option maxRecDepth 100000
set_option maxHeartbeats 4000000
/-! DT: tuples, known to the object: made by a display, +, a slice, tuple(..), [::-1] -/
namespace DL
open PySem PySem.Spec PyProof.Rows L2
section
variable {X : Cx} {e : Expr} {es : List Expr} {te : TE} {t : TA} {pos : Pos} {pins : List (Addr × Obj)} {σ : L2.St} {H : Hp} {s : Shared}
theorem layT {xs : List V} {its : List Value} {h' : Heap} (I : Inv X pins σ H s) (k : ∀ b o, s.heap.get? b = some o → h'.get? b = some o) (r : Vals xs its) (z : xs.length ≤ sizeLine) {Q : VK} (hs : s.heap.objs.size ≤ h'.objs.size)
    (q : ∀ p its, H p = none → Q (.ref p) (upd H p (.frz (TupO its) (.tup xs)))) : EP X pins σ Q (.ref h'.objs.size) { s with heap := h'.push (TupO its) } := by
  have I1 : Inv X pins σ H { s with heap := h' } := I.kept (t' := s.toks) k
  refine ⟨.ref h'.objs.size, upd H h'.objs.size (.frz (TupO its) (.tup xs)), I1.laid (t' := s.toks) (fun b o e => Heap.get?_push_of_some _ e) (Nat.le_refl _) ?_, rfl, q _ _ (I1.hok.fresh (Nat.le_refl _))⟩
  exact ⟨Heap.get?_push_size _ rfl, z, its, r, _, Heap.get?_push_size _ rfl, rfl, _, rfl⟩
def tTupF (t : TA) : TE := fun σ H Q => t σ H fun xs H1 => xs.length ≤ sizeLine ∧ ∀ p its, H1 p = none → Q (.ref p) (upd H1 p (.frz (TupO its) (.tup xs)))
theorem pe_tupF {x1} (h : PA X es t) : PE X (.Tuple es x1 pos) (tTupF t) := by
  refine ⟨fun pins s σ H Q I hq => ?_⟩
  refine wpAny_Tuple_spliced (thn (h.run pos pins s σ H _ I hq) fun us s1 ⟨xs, H1, I1, r, z, q⟩ => ⟨by rw [← r.length]; exact z, ?_⟩)
  exact layT I1 (fun _ _ e => e) r z (Nat.le_refl _) q
def rCatF (K : PySem.W.Frag) : R2 := fun x y H Q => ∃ a b xs ys, x = .ref a ∧ y = .ref b ∧ SqT K H a xs ∧ SqT K H b ys ∧ xs.length + ys.length ≤ sizeLine ∧
  (xs = [] → Q (.ref b) H) ∧ (xs ≠ [] → ys = [] → Q (.ref a) H) ∧ (xs ≠ [] → ys ≠ [] → ∀ p its, H p = none → Q (.ref p) (upd H p (.frz (TupO its) (.tup (xs ++ ys)))))
theorem op_catF : OpR X (binaryOp .Add) (rCatF X.K) := by
  intro pins s σ H x y v u Q I rx ry h
  obtain ⟨a, b, xs, ys, rfl, rfl, ha, hb, hz, q0, q1, q2⟩ := h
  cases rx
  cases ry
  obtain ⟨its, r1, p1, _⟩ := I.tuple ha
  obtain ⟨its2, r2, p2, _⟩ := I.tuple hb
  by_cases hx : xs = []
  · subst hx
    cases r1
    exact cat_tup0 p1 p2 ⟨.ref b, H, I, rfl, q0 rfl⟩
  · refine HT.cat_tup p1 p2 (fun z => hx (r1.nil_iff.mp z)) (fun z => ⟨.ref a, H, I, rfl, q1 hx (r2.nil_iff.mp z)⟩) (fun z => ?_) (by rw [← r1.length, ← r2.length]; exact hz)
    exact layT I (fun _ _ e => e) (r1.append r2) (by rw [List.length_append]; exact hz) (Nat.le_refl _) (q2 hx fun w => z (r2.nil_iff.mpr w))
def rSlF (K : PySem.W.Frag) : V → Option Int → Option Int → Hp → VK → Prop := fun x lo hi H Q => ∃ a xs, x = .ref a ∧ SqT K H a xs ∧
  (HT.sIx xs.length 0 lo = 0 ∧ HT.sIx xs.length xs.length hi = xs.length → Q (.ref a) H) ∧ (¬ (HT.sIx xs.length 0 lo = 0 ∧ HT.sIx xs.length xs.length hi = xs.length) → ∀ p its, H p = none → Q (.ref p) (upd H p (.frz (TupO its) (.tup (cutV xs lo hi)))))
theorem sl_tupF : SlR X (rSlF X.K) := by
  intro pins s σ H x v vl vu lo hi sl Q I rx hs pl pu h
  obtain ⟨a, xs, rfl, hx, q1, q2⟩ := h
  cases rx
  obtain ⟨its, r, ht, hz⟩ := I.tuple hx
  have hlen : its.toArray.size = xs.length := by rw [List.size_toArray]; exact r.length.symm
  refine ⟨"tuple", _, PyProof.Rows.slot_tuple_getitem.lookup, ht.typeIs, ?_⟩
  by_cases hw : HT.sIx xs.length 0 lo = 0 ∧ HT.sIx xs.length xs.length hi = xs.length
  · exact getItem_tuple_whole ht hs pl pu (by rw [hlen]; exact hw) ⟨.ref a, H, I, rfl, q1 hw⟩
  · refine HT.getItem_tuple_cut ht hs pl pu (by rw [hlen]; exact hw) ?_ (by rw [hlen]; exact hz)
    rw [hlen]
    exact layT I (fun _ _ e => e) ((r.drop (HT.sIx xs.length 0 lo)).take (HT.sIx xs.length xs.length hi - HT.sIx xs.length 0 lo)) (Nat.le_trans (cutV_length xs lo hi) hz) (Nat.le_refl _) (q2 hw)
theorem call_tupleF : CallR X (.type "tuple") (fun xs H Q => ∃ p ys, xs = [.ref p] ∧ ((SqL X.K H p ys ∧ ∀ l its, H l = none → Q (.ref l) (upd H l (.frz (TupO its) (.tup ys)))) ∨ (SqT X.K H p ys ∧ Q (.ref p) H))) := by
  intro pins s σ H xs us Q I r h
  obtain ⟨p, ys, rfl, h⟩ := h
  obtain ⟨u, rfl, rx⟩ := vals1 r
  cases rx
  rcases h with ⟨hq, q⟩ | ⟨hq, q⟩
  · obtain ⟨its, r', pl, hz⟩ := I.list hq
    have hlen := r'.length
    refine call_tuple_list pl.isList (fun h' kp => ?_) (by simp only [List.size_toArray] <;> omega)
    have I1 : Inv X pins σ H { s with heap := h' } := I.kept (t' := s.toks) kp
    exact layT (s := { s with heap := h' }) I1 (fun _ _ e => e) r' hz (Nat.le_refl _) q
  · obtain ⟨its, r', pl, hz⟩ := I.tuple hq
    exact call_tuple_same pl ⟨.ref p, H, I, rfl, q⟩
end
section
variable {prog : Program} {w : World} {A : Around} {E : Value → Shared → Prop} {s : Shared}
theorem sliceApplied_rev {sl : Addr} {vl vu vs : Value} {n : Nat} {Q : Int × Int × Nat → Shared → Prop} (hs : s.heap.IsSliceOf sl vl vu vs) (pl : IsPart vl none) (pu : IsPart vu none) (ps : IsPart vs (some (-1)))
    (h : Q ((n : Int) - 1, -1, n) s) : wpAny (model prog w) A (Builtin.Slice.sliceApplied (.ref sl) (pure (n : Int))) Q E s := by
  obtain ⟨os, hos, hcs, hds⟩ := id hs
  unfold Builtin.Slice.sliceApplied Builtin.Slice.sliceFields
  refine wpAny_bind (wpAny_bind (wpAny_field hos hds (x := vl) rfl (wpAny_bind (wpAny_field hos hds (x := vu) rfl (wpAny_bind (wpAny_field hos hds (x := vs) rfl (wpAny_pure ?_)))))))
  refine wpAny_bind (HT.slicePart_ ps ?_)
  show wpAny _ _ (if ((-1 : Int) == 0) = true then _ else _) _ _ s
  rw [if_neg (by decide)]
  refine wpAny_bind (HT.slicePart_ pl (wpAny_bind (HT.slicePart_ pu (wpAny_bind (wpAny_pure ?_)))))
  show wpAny _ _ (match Builtin.Slice.sliceAdjust none none (-1) (n : Int) with | (lo, hi) => pure (lo, (-1 : Int), Builtin.Slice.slicePlaces lo hi (-1))) _ _ s
  have e : Builtin.Slice.sliceAdjust none none (-1) (n : Int) = ((n : Int) - 1, -1) := by
    unfold Builtin.Slice.sliceAdjust
    rfl
  rw [e]
  show wpAny _ _ (pure ((n : Int) - 1, (-1 : Int), Builtin.Slice.slicePlaces ((n : Int) - 1) (-1) (-1))) _ _ s
  have e2 : Builtin.Slice.slicePlaces ((n : Int) - 1) (-1) (-1) = n := by
    unfold Builtin.Slice.slicePlaces
    have h1 : ¬ ((-1 : Int) > 0) := by decide
    simp only [h1, if_false]
    split
    · rw [show (- -1 : Int) = 1 by decide, Int.ediv_one]; omega
    · omega
  rw [e2]
  exact wpAny_pure h
theorem pick_rev (xs : Array Value) : ((List.range xs.size).filterMap fun (k : Nat) => xs[((xs.size : Int) - 1 + (k : Int) * (-1)).toNat]?).toArray = xs.toList.reverse.toArray := by
  have e : (List.range xs.size).filterMap (fun (k : Nat) => xs[((xs.size : Int) - 1 + (k : Int) * (-1)).toNat]?) = ((List.range xs.size).map fun k => xs.size - 1 - k).filterMap (xs[·]?) := by
    rw [List.filterMap_map]
    have key : ∀ (l : List Nat), (∀ k ∈ l, k < xs.size) → l.filterMap (fun (k : Nat) => xs[((xs.size : Int) - 1 + (k : Int) * (-1)).toNat]?) = l.filterMap ((fun x => xs[x]?) ∘ fun k => xs.size - 1 - k) := by
      intro l
      induction l with
      | nil => intro _; rfl
      | cons k r ih =>
        intro hl
        have h1 := hl k List.mem_cons_self
        have h2 : ((xs.size : Int) - 1 + (k : Int) * (-1)).toNat = xs.size - 1 - k := by omega
        rw [List.filterMap_cons, List.filterMap_cons, ih fun j hj => hl j (List.mem_cons_of_mem _ hj), h2]
        rfl
    exact key _ fun k hk => List.mem_range.mp hk
  rw [e, PySem.W.krv_range, List.filterMap_reverse, PySem.W.krv_all]
theorem getItem_tuple_rev {t sl : Addr} {items : Array Value} {vl vu vs : Value} {Q : Value → Shared → Prop} (ht : IsTup s.heap t items) (hs : s.heap.IsSliceOf sl vl vu vs) (pl : IsPart vl none) (pu : IsPart vu none) (ps : IsPart vs (some (-1)))
    (h : Q (.ref s.heap.objs.size) { s with heap := s.heap.push { cls := .type "tuple", data := .seq items.toList.reverse.toArray } })
    (hsz : items.size ≤ sizeLine) : wpAny (model prog w) A (getItem (.ref t) (.ref sl)) Q E s := by
  have htake : sizeOk (.seq items.toList.reverse.toArray) := by
    show items.toList.reverse.toArray.size ≤ sizeLine
    rw [List.size_toArray, List.length_reverse, Array.length_toList]
    exact hsz
  obtain ⟨os, hos, hcs, hds⟩ := id hs
  have hTs : s.TypeIs (.ref sl) "slice" := ⟨os, hos, hcs⟩
  unfold getItem
  try with_reducible refine wpAny_holding ?_
  first | refine wpAny_bind (wpAny_pure ?_) | skip
  refine wpAny_bind (wpAny_sequenceKey ht.typeIs (by decide) ?_)
  refine wpAny_bind (wpAny_callSpecial?_slot (name := Str.ofString "__getitem__") ht.typeIs PyProof.Rows.slot_tuple_getitem
    (wpAny_call_entry PyProof.Rows.slot_tuple_getitem ht.typeIs entry_tuple_getitem ?_ (args_tuple_getitem _ _)))
  show wpAny _ _ (Builtin.Tuple.tupleItemsOf (.ref t) >>= _) _ _ s
  refine wpAny_bind (tupleItemsOf_ ht ?_)
  refine wpAny_bind (wpAny_typeOf hTs ?_)
  rw [if_pos (by decide)]
  refine wpAny_bind (sliceApplied_rev hs pl pu ps ?_)
  have hno : ¬ ((((items.size : Int) - 1) == 0 && (-1 : Int) == 1 && items.size == items.size) = true) := by
    intro q
    rw [Bool.and_eq_true, Bool.and_eq_true] at q
    exact absurd q.1.2 (by decide)
  show wpAny _ _ (if (((items.size : Int) - 1) == 0 && (-1 : Int) == 1 && items.size == items.size) = true then _ else _) _ _ s
  rw [if_neg hno, pick_rev]
  first
    | exact wpAny_bind (m := Builtin.Tuple.tupleExact _) (wpAny_newObj_type (wpAny_pure ⟨_, rfl, wpAny_pure h⟩) htake)
    | exact wpAny_bind (m := Builtin.Tuple.tupleExact _) (wpAny_newObj_type (wpAny_bind (wpAny_pure (wpAny_pure ⟨_, rfl, wpAny_pure h⟩))) htake)
end
section
variable {X : Cx} {e : Expr} {te : TE} {pos : Pos}
/-- x[::-1] of a tuple or a list -/
def tRevF (K : PySem.W.Frag) (te : TE) : TE := fun σ H Q => te σ H fun x H1 => ∃ a xs, x = .ref a ∧ ((SqT K H1 a xs ∧ ∀ p its, H1 p = none → Q (.ref p) (upd H1 p (.frz (TupO its) (.tup xs.reverse)))) ∨ (SqL K H1 a xs ∧ ∀ p, H1 p = none → Q (.ref p) (upd H1 p (.lst xs.reverse))))
theorem pe_revF {k : Nat} {p1 p2 p3 : Pos} (he : PE X e te) : PE X (.Subscript e (.Slice none none (some (.UnaryOp .USub (.Constant (.int 1) k p1) p2)) p3) pos) (tRevF X.K te) := by
  refine ⟨fun pins s σ H Q I h => ?_⟩
  refine Subscript_ (thn (he.run pins s σ H _ I h) fun v s1 ⟨x, H1, I1, r1, q1⟩ => ?_)
  obtain ⟨a, xs, ex, q1⟩ := q1
  subst ex
  cases r1
  have hst : PO X (some (.UnaryOp .USub (.Constant (.int 1) k p1) p2)) (tPart (tUn (rU fun i => .int (-i)) (tC (.int 1)))) := po_some (pe_un un_neg pe_int)
  refine wpAny_Slice (thn (po_none.run pins s1 σ H1 (fun o H2 => o = none ∧ H2 = H1) I1 ⟨rfl, rfl⟩) fun vl s2 ⟨l, H2, I2, pl, el, e2⟩ => ?_)
  subst el e2
  refine thn (po_none.run pins s2 σ H2 (fun o H3 => o = none ∧ H3 = H2) I2 ⟨rfl, rfl⟩) fun vu s3 ⟨u, H3, I3, pu, eu, e3⟩ => ?_
  subst eu e3
  refine thn (hst.run pins s3 σ H3 (fun o H4 => o = some (-1) ∧ H4 = H3) I3 ⟨1, rfl, -1, rfl, rfl, rfl⟩) fun vs s4 ⟨o, H4, I4, ps, eo, e4⟩ => ?_
  subst eo e4
  have I5 : Inv X pins σ H4 { s4 with heap := s4.heap.push { cls := .type "slice", data := .fields #[vl, vu, vs] } } := I4.kept (t' := s4.toks) fun b ob q => Heap.get?_push_of_some _ q
  show wpAny (model X.prog X.w) X.A (subscriptTail e (.Slice none none (some (.UnaryOp .USub (.Constant (.int 1) k p1) p2)) p3) (.ref a) (.ref s4.heap.objs.size)) (EP X pins σ Q) X.xe { s4 with heap := s4.heap.push { cls := .type "slice", data := .fields #[vl, vu, vs] } }
  rcases q1 with ⟨hx, q⟩ | ⟨hx, q⟩
  · obtain ⟨its, r, ht, hz⟩ := I5.tuple hx
    have hlen := r.length
    refine tail_any (ops := [.ref a, .ref s4.heap.objs.size]) ht.typeIs (PyProof.Rows.slot_tuple_getitem.lookup) ?_ (by with_unfolding_all rfl)
    refine getItem_tuple_rev ht (Heap.IsSliceOf.new _ vl vu vs) pl pu ps ?_ (by rw [List.size_toArray]; omega)
    exact layT I5 (fun _ _ e => e) r.reverse (by rw [List.length_reverse]; exact hz) (Nat.le_refl _) q
  · obtain ⟨its, r, ht, hz⟩ := I5.list hx
    have hlen := r.length
    refine tail_any (ops := [.ref a, .ref s4.heap.objs.size]) ht.isList.typeIs (PySem.slot_list_getitem.lookup) ?_ (by with_unfolding_all rfl)
    refine wpAny_getItem_list_slice ht.isList (Heap.IsSliceOf.new _ vl vu vs) pl pu ps (by decide) ?_ (by rw [List.size_toArray]; omega)
    rw [PySem.W.krv_pick]
    refine ⟨.ref _, _, I5.laid (t' := s4.toks) (o := .lst xs.reverse) (fun b ob q => Heap.get?_push_of_some _ q) (Nat.le_refl _) ?_, rfl, q _ (I5.hok.fresh (Nat.le_refl _))⟩
    exact ⟨by rw [List.length_reverse]; exact hz, _, 0, r.reverse, Heap.get?_push_size _ rfl⟩
end
end DL

set_option Elab.async false
set_option linter.all false
set_option maxRecDepth 100000
set_option maxHeartbeats 4000000
/-! DE: judgements; expressions -/
namespace DL
open PySem PySem.Spec PyProof.Rows L2
/-! ## the judgements -/
def KQ (c : Cn) (H : Hp) (Qd : KD) (Q : VK) : Prop := ∀ d M' v H', Qd d M' → Rep c.K H' v d → R c M' H' → Tups c.K H H' → Q v H'
def RepX (c : Cn) (H : Hp) (oa : Option Addr) (fs : List (Str × D)) : Prop := (oa = none ∧ fs = []) ∨ ∃ d vs, oa = some d ∧ H d = some (.xd vs) ∧ PFs c.K H vs fs
def KX (c : Cn) (H : Hp) (Ed : XW) (XE : XK) : Prop := ∀ C fs M' oa H', Ed C fs M' → RepX c H' oa fs → R c M' H' → Tups c.K H H' → XE (.ref (c.CA C)) oa H'
theorem KX.mono {c : Cn} {H H' : Hp} {Ed : XW} {XE : XK} (k : KX c H Ed XE) (t : Tups c.K H H') : KX c H' Ed XE := fun C fs M' oa H2 e x r t2 => k C fs M' oa H2 e x r (t.trans t2)
theorem KX.no {c : Cn} {H : Hp} {XE : XK} : KX c H X0 XE := fun _ _ _ _ _ e => e.elim
structure Pre (c : Cn) (XE : XK) (σ : L2.St) (H : Hp) (env : Ev) (M : Sto) (Ed : XW) : Prop where
  e : RelEnv c.K H σ env
  r : R c M H
  x : KX c H Ed XE
theorem Pre.to {c : Cn} {XE : XK} {σ : L2.St} {H H' : Hp} {env : Ev} {M M' : Sto} {Ed : XW} (p : Pre c XE σ H env M Ed) (t : Tups c.K H H') (r : R c M' H') : Pre c XE σ H' env M' Ed := ⟨p.e.mono t, r, p.x.mono t⟩
def tOf (c : Cn) (XE : XK) (f : WE) : TE := fun σ H Q => ∃ env M Ed Qd, Pre c XE σ H env M Ed ∧ f Ed env M Qd ∧ KQ c H Qd Q
def SE (X : Cx) (CA : String → Addr) (XE : XK) (e : Expr) (f : WE) : Prop := PE X e (tOf (cn X CA) XE f)
def tOfT (c : Cn) (XE : XK) (f : WT) : TT := fun σ H Q => ∃ env M Ed Qd, Pre c XE σ H env M Ed ∧ f Ed env M Qd ∧ ∀ b M' H', Qd b M' → R c M' H' → Tups c.K H H' → Q b H'
def ST (X : Cx) (CA : String → Addr) (XE : XK) (e : Expr) (f : WT) : Prop := PT X e (tOfT (cn X CA) XE f)
def SW (X : Cx) (CA : String → Addr) (XE : XK) (e : Expr) (f : WT) : Prop := PW X e (tOfT (cn X CA) XE f)
def tOfA (c : Cn) (XE : XK) (fs : List WE) : TA := fun σ H Q => ∃ env M Ed Qd, Pre c XE σ H env M Ed ∧ argsW fs Ed env M Qd ∧ ∀ ds M' vs H', Qd ds M' → Reps c.K H' vs ds → R c M' H' → Tups c.K H H' → vs.length = fs.length → Q vs H'
section
variable {X : Cx} {e : Expr} {es : List Expr}
theorem PE_weak {t t' : TE} (h : PE X e t) (w : ∀ σ H Q, t' σ H Q → t σ H Q) : PE X e t' := ⟨fun pins s σ H Q I q => h.run pins s σ H Q I (w σ H Q q)⟩
theorem PT_weak {t t' : TT} (h : PT X e t) (w : ∀ σ H Q, t' σ H Q → t σ H Q) : PT X e t' := ⟨fun pins s σ H Q I q => h.run pins s σ H Q I (w σ H Q q)⟩
theorem PW_weak {t t' : TT} (h : PW X e t) (w : ∀ σ H Q, t' σ H Q → t σ H Q) : PW X e t' := ⟨fun wh pins s σ H Q I q => h.run wh pins s σ H Q I (w σ H Q q)⟩
theorem PA_weak {t t' : TA} (h : PA X es t) (w : ∀ σ H Q, t' σ H Q → t σ H Q) : PA X es t' := ⟨fun pos pins s σ H Q I q => h.run pos pins s σ H Q I (w σ H Q q)⟩
end
section
variable {X : Cx} {CA : String → Addr} {XE : XK} {a b e : Expr} {es : List Expr} {f g h : WE} {fs : List WE} {pos : Pos}
/-! ## names and constants -/
theorem d_var (i : Nat) {x : Str} (hN : X.N[i]? = some x := by rfl) (hv : Vis X.env.scope x := by first | exact Or.inl rfl | exact Or.inr (Or.inl rfl) | exact Or.inr (Or.inr rfl)) (hd : (x == ("__debug__" : Str)) = false := by decide)
    (hcd : (x == ("__classdict__" : Str)) = false := by decide) : SE X CA XE (.Name x pos) (eVar i) :=
  PE_weak (pe_var hN hv hd hcd) fun σ H Q ⟨env, M, Ed, Qd, p, q, k⟩ => by
    unfold eVar at q
    split at q
    · rename_i d e
      obtain ⟨v, e1, r1⟩ := p.e.get e
      exact ⟨v, e1, k _ _ _ _ q r1 p.r .refl⟩
    · exact q.elim
theorem d_of {v : V} {d : D} (h : PE X e (tC v)) (r : ∀ H, Rep X.K H v d) : SE X CA XE e (eC d) :=
  PE_weak h fun σ H Q ⟨env, M, Ed, Qd, p, q, k⟩ => k _ _ _ _ q (r H) p.r .refl
theorem d_int {i j} : SE X CA XE (.Constant (.int i) j pos) (eC (.int i)) := d_of pe_int fun _ => .int i
theorem d_bl {b j} : SE X CA XE (.Constant (.bool b) j pos) (eC (.bl b)) := d_of pe_bl fun _ => .bl b
theorem d_non {j} : SE X CA XE (.Constant .none j pos) (eC .non) := d_of pe_non fun _ => .non
theorem d_str {x j} : SE X CA XE (.Constant (.str x) j pos) (eC (.str x)) := d_of pe_str fun _ => .str x
/-- a constant of the module -/
structure GRep (K : PySem.W.Frag) (mg : Str → Option Value) (x : Str) (d : D) : Prop where
  h : ∃ u v, mg x = some u ∧ RelV v u ∧ ∀ H, Rep K H v d
theorem d_glob {x : Str} {d : D} (G : GRep X.K X.mg x d) (hg : Gl X x := by rfl) (hd : (x == ("__debug__" : Str)) = false := by decide) : SE X CA XE (.Name x pos) (eC d) :=
  let ⟨_, _, hm, r, k⟩ := G.h
  d_of (pe_glob hg hm r hd) k
/-! ## argument lists, displays -/
inductive SAs (X : Cx) (CA : String → Addr) (XE : XK) : List Expr → List WE → Prop
  | nil : SAs X CA XE [] []
  | cons {e : Expr} {es : List Expr} {f : WE} {fs : List WE} (h : SE X CA XE e f) (r : SAs X CA XE es fs) (hs : starEach (e :: es) X.env = (false, eval e X.env) :: starEach es X.env) : SAs X CA XE (e :: es) (f :: fs)
theorem a_cons (h : SE X CA XE e f) (r : SAs X CA XE es fs) (hs : starEach (e :: es) X.env = (false, eval e X.env) :: starEach es X.env := by rfl) : SAs X CA XE (e :: es) (f :: fs) := .cons h r hs
theorem SAs.pa : ∀ {es : List Expr} {fs : List WE}, SAs X CA XE es fs → PA X es (tOfA (cn X CA) XE fs)
  | _, _, .nil => PA_weak pa_nil fun σ H Q ⟨env, M, Ed, Qd, p, q, k⟩ => k _ _ _ _ q .nil p.r .refl rfl
  | _, _, .cons h r hs => PA_weak (pa_cons h (SAs.pa r) hs) fun σ H Q ⟨env, M, Ed, Qd, p, q, k⟩ =>
    ⟨env, M, Ed, _, p, q, fun d1 M1 v1 H1 q1 r1 R1 T1 => ⟨env, M1, Ed, _, p.to T1 R1, q1, fun ds M2 vs H2 q2 r2 R2 T2 hl => k _ _ _ _ q2 (.cons (r1.m T2) r2) R2 (T1.trans T2) (by rw [List.length_cons, List.length_cons, hl])⟩⟩
theorem argsW_len : ∀ {fs : List WE} {E : XW} {env : Ev} {M : Sto} {Q : List D → Sto → Prop}, (∀ f ∈ fs, ∀ E env M Q Q', (∀ d M, Q d M → Q' d M) → f E env M Q → f E env M Q') → argsW fs E env M Q → argsW fs E env M fun ds M' => ds.length = fs.length ∧ Q ds M'
  | [], _, _, _, _, _, h => ⟨rfl, h⟩
  | f :: fs, E, env, M, Q, m, h => m f List.mem_cons_self _ _ _ _ _ (fun d M1 q => by
      have ih := argsW_len (fun f hf => m f (List.mem_cons_of_mem _ hf)) q
      simpa using ih) h
theorem lay_tup {c : Cn} {M : Sto} {H : Hp} {p : Addr} {xs : List V} {its : List Value} {ds : List D} (hp : H p = none) (r : Reps c.K H xs ds) (hR : R c M H) : Rep c.K (upd H p (.frz (TupO its) (.tup xs))) (.ref p) (.tup ds) ∧ R c M (upd H p (.frz (TupO its) (.tup xs))) ∧ Tups c.K H (upd H p (.frz (TupO its) (.tup xs))) :=
  ⟨.tup (.inl ⟨its, upd_same⟩) (r.m (Tups.new hp)), hR.keep hp, Tups.new hp⟩
theorem lay_lst {c : Cn} {M : Sto} {H : Hp} {p : Addr} {xs : List V} {ds : List D} (hp : H p = none) (r : Reps c.K H xs ds) (hR : R c M H) : R c (M.set p (.lst ds)) (upd H p (.lst xs)) ∧ Tups c.K H (upd H p (.lst xs)) :=
  ⟨hR.at (Tups.new hp) ⟨xs, upd_same, r.m (Tups.new hp)⟩, Tups.new hp⟩
theorem few {n : Nat} (h : n ≤ 1000) : n ≤ sizeLine := Nat.le_of_lt (small1000 h)
theorem d_tup {k : Nat} (h : SAs X CA XE es fs) (hl : fs.length ≤ 1000 := by exact Nat.le_of_ble_eq_true rfl) : SE X CA XE (.Tuple es k pos) (eTup fs) :=
  PE_weak (pe_tupF h.pa) fun σ H Q ⟨env, M, Ed, Qd, p, q, k⟩ => ⟨env, M, Ed, _, p, q, fun ds M1 vs H1 q1 r1 R1 T1 hn => ⟨by rw [hn]; exact few hl, fun a its ha => by
    obtain ⟨x, y, z⟩ := lay_tup ha r1 R1
    exact k _ _ _ _ q1 x y (T1.trans z)⟩⟩
theorem d_lst (h : SAs X CA XE es fs) (hl : fs.length ≤ 1000 := by exact Nat.le_of_ble_eq_true rfl) : SE X CA XE (.List es pos) (eLst fs) :=
  PE_weak (pe_lst h.pa) fun σ H Q ⟨env, M, Ed, Qd, p, q, k⟩ => ⟨env, M, Ed, _, p, q, fun ds M1 vs H1 q1 r1 R1 T1 hn => ⟨by rw [hn]; exact few hl, fun a ha => by
    obtain ⟨x, y⟩ := lay_lst ha r1 R1
    exact k _ _ _ _ (q1 a (R1.fresh ha)) (.ref a) x (T1.trans y)⟩⟩
/-! ## operators -/
def OpS (c : Cn) (op : B2) (r : R2) : Prop := ∀ v1 v2 d1 d2 M H Qd Q, Rep c.K H v1 d1 → Rep c.K H v2 d2 → R c M H → op d1 d2 M Qd → KQ c H Qd Q → r v1 v2 H Q
theorem KQ.mono {c : Cn} {H H' : Hp} {Qd : KD} {Q : VK} (k : KQ c H Qd Q) (t : Tups c.K H H') : KQ c H' Qd Q := fun d M v H2 q r R T => k d M v H2 q r R (t.trans T)
theorem d_bin {op : Operator} {r : R2} {b2 : B2} (ho : OpR X (binaryOp op) r) (hs : OpS (cn X CA) b2 r) (ha : SE X CA XE a f) (hb : SE X CA XE b g) : SE X CA XE (.BinOp a op b pos) (eBin b2 f g) :=
  PE_weak (pe_op ho ha hb) fun σ H Q ⟨env, M, Ed, Qd, p, q, k⟩ => ⟨env, M, Ed, _, p, q, fun d1 M1 v1 H1 q1 r1 R1 T1 => ⟨env, M1, Ed, _, p.to T1 R1, q1, fun d2 M2 v2 H2 q2 r2 R2 T2 => hs _ _ _ _ _ _ _ _ (r1.m T2) r2 R2 q2 (k.mono (T1.trans T2))⟩⟩
def rAddA (K : PySem.W.Frag) : R2 := fun x y H Q => rI0 (fun i j => .int (i + j)) x y H Q ∨ ((∃ i j, x = .str i ∧ y = .str j ∧ i.length + j.length ≤ sizeLine ∧ Q (.str (i ++ j)) H) ∨ (rCatF K x y H Q ∨ rCat x y H Q))
theorem op_addA : OpR X (binaryOp .Add) (rAddA X.K) := op_add.or (op_add_str.or (op_catF.or op_cat))
theorem addS {c : Cn} : OpS c opAdd (rAddA c.K) := by
  intro v1 v2 d1 d2 M H Qd Q r1 r2 hR h k
  unfold opAdd at h
  split at h
  · cases r1; cases r2
    exact .inl ⟨_, _, rfl, rfl, k _ _ _ _ h (.int _) hR .refl⟩
  · cases r1; cases r2
    exact .inr (.inl ⟨_, _, rfl, rfl, h.1, k _ _ _ _ h.2 (.str _) hR .refl⟩)
  · cases r1 with
    | @tup a1 vs1 _ s1 p1 =>
      cases r2 with
      | @tup a2 vs2 _ s2 p2 =>
        refine .inr (.inr (.inl ⟨_, _, _, _, rfl, rfl, s1.s, s2.s, by rw [p1.length, p2.length]; exact h.1, fun e => ?_, fun e1 e2 => ?_, fun e1 e2 p its hp => ?_⟩))
        · subst e
          cases p1
          exact k _ _ _ _ h.2 (.tup s2 p2) hR .refl
        · subst e2
          cases p2
          exact k _ _ _ _ h.2 (by rw [List.append_nil]; exact .tup s1 p1) hR .refl
        · obtain ⟨x, y, z⟩ := lay_tup hp (p1.append p2) hR
          exact k _ _ _ _ h.2 x y z
  · split at h
    · rename_i xs ys e1 e2
      cases r1; cases r2
      obtain ⟨vs, h1, p1⟩ := hR _ _ e1
      obtain ⟨ws, h2, p2⟩ := hR _ _ e2
      refine .inr (.inr (.inr ⟨_, _, _, _, rfl, rfl, h1, h2, by rw [p1.length, p2.length]; exact h.1, fun p hp => ?_⟩))
      obtain ⟨x, y⟩ := lay_lst hp (p1.append p2) hR
      exact k _ _ _ _ (h.2 p (hR.fresh hp)) (.ref p) x y
    · exact h.elim
  · exact h.elim
theorem d_add (ha : SE X CA XE a f) (hb : SE X CA XE b g) : SE X CA XE (.BinOp a .Add b pos) (eBin opAdd f g) := d_bin op_addA addS ha hb
theorem subS {c : Cn} : OpS c opSub (rI0 fun i j => .int (i - j)) := by
  intro v1 v2 d1 d2 M H Qd Q r1 r2 hR h k
  unfold opSub at h
  split at h
  · cases r1; cases r2
    exact ⟨_, _, rfl, rfl, k _ _ _ _ h (.int _) hR .refl⟩
  · exact h.elim
theorem d_sub (ha : SE X CA XE a f) (hb : SE X CA XE b g) : SE X CA XE (.BinOp a .Sub b pos) (eBin opSub f g) := d_bin op_sub subS ha hb
theorem op_mulX : OpR X (binaryOp .Mult) (rI IntMulOk fun i j => .int (i * j)) := opI fun _ _ _ _ _ _ _ hc q => mul_int q hc
theorem mulS {c : Cn} : OpS c opMul (rI IntMulOk fun i j => .int (i * j)) := by
  intro v1 v2 d1 d2 M H Qd Q r1 r2 hR h k
  unfold opMul at h
  split at h
  · cases r1; cases r2
    exact ⟨_, _, rfl, rfl, h.1, k _ _ _ _ h.2 (.int _) hR .refl⟩
  · exact h.elim
theorem d_mul (ha : SE X CA XE a f) (hb : SE X CA XE b g) : SE X CA XE (.BinOp a .Mult b pos) (eBin opMul f g) := d_bin op_mulX mulS ha hb
def CDivX (i j : Int) : Prop := j ≠ 0 ∧ Builtin.divisionGoesByPylong i j = false
theorem op_divX : OpR X (binaryOp .FloorDiv) (rI CDivX fun i j => .int (i.fdiv j)) := opI fun _ _ _ _ _ _ _ hc q => floordiv_int hc.1 q (.inl hc.2)
theorem divS {c : Cn} : OpS c opDiv (rI CDivX fun i j => .int (i.fdiv j)) := by
  intro v1 v2 d1 d2 M H Qd Q r1 r2 hR h k
  unfold opDiv at h
  split at h
  · cases r1; cases r2
    exact ⟨_, _, rfl, rfl, ⟨h.1, h.2.1⟩, k _ _ _ _ h.2.2 (.int _) hR .refl⟩
  · exact h.elim
theorem d_div (ha : SE X CA XE a f) (hb : SE X CA XE b g) : SE X CA XE (.BinOp a .FloorDiv b pos) (eBin opDiv f g) := d_bin op_divX divS ha hb
theorem modS {c : Cn} : OpS c opMod (rI (fun _ j => j ≠ 0) fun i j => .int (i.fmod j)) := by
  intro v1 v2 d1 d2 M H Qd Q r1 r2 hR h k
  unfold opMod at h
  split at h
  · cases r1; cases r2
    exact ⟨_, _, rfl, rfl, h.1, k _ _ _ _ h.2 (.int _) hR .refl⟩
  · exact h.elim
theorem d_mod (ha : SE X CA XE a f) (hb : SE X CA XE b g) : SE X CA XE (.BinOp a .Mod b pos) (eBin opMod f g) := d_bin op_modN modS ha hb
theorem powS {c : Cn} : OpS c opPow (rI CPow fun i j => .int (i ^ j.toNat)) := by
  intro v1 v2 d1 d2 M H Qd Q r1 r2 hR h k
  unfold opPow at h
  split at h
  · cases r1; cases r2
    exact ⟨_, _, rfl, rfl, ⟨h.1, h.2.1, h.2.2.1⟩, k _ _ _ _ h.2.2.2 (.int _) hR .refl⟩
  · exact h.elim
theorem d_pow (ha : SE X CA XE a f) (hb : SE X CA XE b g) : SE X CA XE (.BinOp a .Pow b pos) (eBin opPow f g) := d_bin op_pow powS ha hb
theorem d_neg (ha : SE X CA XE a f) : SE X CA XE (.UnaryOp .USub a pos) (eNeg f) :=
  PE_weak (pe_un un_neg ha) fun σ H Q ⟨env, M, Ed, Qd, p, q, k⟩ => ⟨env, M, Ed, _, p, q, fun d1 M1 v1 H1 q1 r1 R1 T1 => by
    split at q1
    · cases r1
      exact ⟨_, rfl, k _ _ _ _ q1 (.int _) R1 T1⟩
    · exact q1.elim⟩
/-! ## comparisons -/
def CmpS (c : Cn) (op : C2) (r : R2) : Prop := ∀ v1 v2 d1 d2 M H (kd : Bool → Prop) Q, Rep c.K H v1 d1 → Rep c.K H v2 d2 → R c M H → op d1 d2 M kd → (∀ b, kd b → Q (.bl b) H) → r v1 v2 H Q
theorem d_cmp {op : CmpOp} {r : R2} {c2 : C2} (ho : OpR X (compareOp op) r) (hs : CmpS (cn X CA) c2 r) (ha : SE X CA XE a f) (hb : SE X CA XE b g) (hm : behindInMarks op b = false) : SE X CA XE (.Compare a [op] [b] pos) (eCmp c2 f g) :=
  PE_weak (pe_cmpR ho ha hb hm) fun σ H Q ⟨env, M, Ed, Qd, p, q, k⟩ => ⟨env, M, Ed, _, p, q, fun d1 M1 v1 H1 q1 r1 R1 T1 => ⟨env, M1, Ed, _, p.to T1 R1, q1, fun d2 M2 v2 H2 q2 r2 R2 T2 =>
    hs _ _ _ _ _ _ _ _ (r1.m T2) r2 R2 q2 fun b q3 => k _ _ _ _ q3 (.bl b) R2 (T1.trans T2)⟩⟩
theorem t_cmp {op : CmpOp} {r : R2} {c2 : C2} (ho : OpR X (compareOp op) r) (hs : CmpS (cn X CA) c2 r) (ha : SE X CA XE a f) (hb : SE X CA XE b g) (hm : behindInMarks op b = false) : ST X CA XE (.Compare a [op] [b] pos) (tCmp c2 f g) :=
  PT_weak (pt_cmpR ho ha hb hm) fun σ H Q ⟨env, M, Ed, Qd, p, q, k⟩ => ⟨env, M, Ed, _, p, q, fun d1 M1 v1 H1 q1 r1 R1 T1 => ⟨env, M1, Ed, _, p.to T1 R1, q1, fun d2 M2 v2 H2 q2 r2 R2 T2 =>
    hs _ _ _ _ _ _ _ _ (r1.m T2) r2 R2 q2 fun b q3 => ⟨b, rfl, k _ _ _ q3 R2 (T1.trans T2)⟩⟩⟩
mutual
theorem Rep.dp {K : PySem.W.Frag} {H : Hp} : ∀ (d : D) {v : V}, Rep K H v d → SeqAt.shaped d.py = true → Dp K H v d.py
  | .non, _, h, _ => by cases h; exact .non
  | .bl b, _, h, _ => by cases h; exact .bl b
  | .int b, _, h, _ => by cases h; exact .int b
  | .str b, _, h, _ => by cases h; exact .str b
  | .ref b, _, h, z => by simp [D.py, SeqAt.shaped, PyData.canLay0] at z
  | .ty b, _, h, z => by simp [D.py, SeqAt.shaped, PyData.canLay0] at z
  | .lro b, _, h, z => by simp [D.py, SeqAt.shaped, PyData.canLay0] at z
  | .tup ds, _, h, z => by
    cases h with
    | tup s r =>
      refine .tup s.s (Reps.dp ds r ?_)
      simp only [D.py, SeqAt.shaped, PyData.canLay0, Bool.and_eq_true, decide_eq_true_eq, PyData.depth] at z
      exact ⟨z.1, by omega⟩
theorem Reps.dp {K : PySem.W.Frag} {H : Hp} : ∀ (ds : List D) {vs : List V}, Reps K H vs ds → PyData.canLayAll0 (D.pys ds) = true ∧ PyData.depthAll (D.pys ds) ≤ 64 → DpAll K H vs (D.pys ds)
  | [], _, h, _ => by cases h; exact .nil
  | d :: ds, _, h, z => by
    cases h with
    | cons a b =>
      simp only [D.pys, PyData.canLayAll0, PyData.depthAll, Bool.and_eq_true] at z
      exact .cons (Rep.dp d a (by simp only [SeqAt.shaped, Bool.and_eq_true, decide_eq_true_eq]; exact ⟨z.1.1, by omega⟩)) (Reps.dp ds b ⟨z.1.2, by omega⟩)
end
def rEqA (K : PySem.W.Frag) : R2 := fun x y H Q => rEq x y H Q ∨ rEqD K x y H Q
def rNeA (K : PySem.W.Frag) : R2 := fun x y H Q => rNe x y H Q ∨ rNeD K x y H Q
theorem eqS {c : Cn} : CmpS c cEq (rEqA c.K) := by
  intro v1 v2 d1 d2 M H kd Q r1 r2 hR h k
  unfold cEq at h
  split at h
  · cases r1; cases r2
    exact .inl ⟨rfl, by rw [dec_int, Bool.beq_eq_decide_eq]; exact k _ h⟩
  · cases r1; cases r2
    exact .inl ⟨rfl, by rw [dec_str, Bool.beq_eq_decide_eq]; exact k _ h⟩
  · cases r1; cases r2
    exact .inl ⟨rfl, by rw [dec_bl]; exact k _ h⟩
  · exact .inr ⟨_, _, r1.dp _ h.1, r2.dp _ h.2.1, h.1, h.2.1, k _ h.2.2⟩
theorem neS {c : Cn} : CmpS c cNe (rNeA c.K) := by
  intro v1 v2 d1 d2 M H kd Q r1 r2 hR h k
  unfold cNe cEq at h
  split at h
  · cases r1; cases r2
    exact .inl ⟨rfl, by rw [dec_int, Bool.beq_eq_decide_eq]; exact k _ h⟩
  · cases r1; cases r2
    exact .inl ⟨rfl, by rw [dec_str, Bool.beq_eq_decide_eq]; exact k _ h⟩
  · cases r1; cases r2
    exact .inl ⟨rfl, by rw [dec_bl]; exact k _ h⟩
  · exact .inr ⟨_, _, r1.dp _ h.1, r2.dp _ h.2.1, h.1, h.2.1, k _ h.2.2⟩
theorem op_eqA {k : Nat} (hr : Room k X.A) : OpR X (compareOp .Eq) (rEqA X.K) := op_eq.or (op_eqD hr.units)
theorem op_neA {k : Nat} (hr : Room k X.A) : OpR X (compareOp .NotEq) (rNeA X.K) := op_ne.or (op_neD hr.units)
theorem intCmp {c : Cn} {p : Int → Int → Bool} {c2 : C2} (h : ∀ x y M k, c2 x y M k → ∃ i j, x = .int i ∧ y = .int j ∧ k (p i j)) : CmpS c c2 (rI0 fun i j => .bl (p i j)) := by
  intro v1 v2 d1 d2 M H kd Q r1 r2 hR q k
  obtain ⟨i, j, rfl, rfl, q'⟩ := h _ _ _ _ q
  cases r1; cases r2
  exact ⟨_, _, rfl, rfl, k _ q'⟩
theorem ltS {c : Cn} : CmpS c cLt (rI0 fun i j => .bl (decide (i < j))) := intCmp fun x y M k h => by
  unfold cLt at h; split at h
  · exact ⟨_, _, rfl, rfl, h⟩
  · exact h.elim
theorem leS {c : Cn} : CmpS c cLe (rI0 fun i j => .bl (decide (i ≤ j))) := intCmp fun x y M k h => by
  unfold cLe at h; split at h
  · exact ⟨_, _, rfl, rfl, h⟩
  · exact h.elim
theorem gtS {c : Cn} : CmpS c cGt (rI0 fun i j => .bl (decide (j < i))) := intCmp fun x y M k h => by
  unfold cGt at h; split at h
  · exact ⟨_, _, rfl, rfl, h⟩
  · exact h.elim
theorem geS {c : Cn} : CmpS c cGe (rI0 fun i j => .bl (decide (j ≤ i))) := intCmp fun x y M k h => by
  unfold cGe at h; split at h
  · exact ⟨_, _, rfl, rfl, h⟩
  · exact h.elim
theorem Rep.isNon {K : PySem.W.Frag} {H : Hp} {v : V} {d : D} (r : Rep K H v d) : decide (v = .non) = decide (d = .non) := by
  cases r <;> simp
theorem isNS {c : Cn} : CmpS c cIsN (fun x y H Q => y = .non ∧ Q (.bl (decide (x = .non))) H) := by
  intro v1 v2 d1 d2 M H kd Q r1 r2 hR h k
  unfold cIsN at h
  split at h
  · cases r2
    exact ⟨rfl, by rw [r1.isNon]; exact k _ h⟩
  · exact h.elim
theorem notNS {c : Cn} : CmpS c cNotN (fun x y H Q => y = .non ∧ Q (.bl (!decide (x = .non))) H) := by
  intro v1 v2 d1 d2 M H kd Q r1 r2 hR h k
  unfold cNotN at h
  split at h
  · cases r2
    exact ⟨rfl, by rw [r1.isNon]; exact k _ h⟩
  · exact h.elim
end
end DL

set_option Elab.async false
set_option linter.all false
set_option maxRecDepth 100000
set_option maxHeartbeats 4000000
/-! DE2: truth, subscripts, calls of built-ins, dicts -/
namespace DL
open PySem PySem.Spec PyProof.Rows L2
section
variable {X : Cx} {CA : String → Addr} {XE : XK} {a b e : Expr} {es : List Expr} {f g h : WE} {fs : List WE} {pos : Pos}
/-! ## membership -/
theorem Rep.flat {K : PySem.W.Frag} {H : Hp} {v : V} {d : D} (r : Rep K H v d) (h : flat d = true) : flatV v = true := by
  cases r <;> first | rfl | (simp [DL.flat] at h)
theorem Reps.flat {K : PySem.W.Frag} {H : Hp} : ∀ {vs : List V} {ds : List D}, Reps K H vs ds → ds.all DL.flat = true → vs.all flatV = true
  | _, _, .nil, _ => rfl
  | _, _, .cons r t, h => by
    simp only [List.all_cons, Bool.and_eq_true] at h ⊢
    exact ⟨r.flat h.1, Reps.flat t h.2⟩
theorem Rep.eqF {K : PySem.W.Frag} {H : Hp} {v w : V} {d e : D} (r : Rep K H v d) (q : Rep K H w e) (h1 : DL.flat d = true) (h2 : DL.flat e = true) : eqV v w = eqF d e := by
  cases r <;> first | (simp [DL.flat] at h1; done) | (cases q <;> first | (simp [DL.flat] at h2; done) | (simp [eqV, DL.eqF]; done) | (simp [eqV, DL.eqF, Bool.beq_eq_decide_eq]; done))
theorem Reps.inV {K : PySem.W.Frag} {H : Hp} {v : V} {d : D} (r : Rep K H v d) (h1 : DL.flat d = true) : ∀ {vs : List V} {ds : List D}, Reps K H vs ds → ds.all DL.flat = true → L2.inV v vs = ds.any fun z => DL.eqF z d
  | _, _, .nil, _ => rfl
  | _, _, .cons q t, h => by
    simp only [List.all_cons, Bool.and_eq_true] at h
    have ih := Reps.inV r h1 t h.2
    unfold L2.inV at ih ⊢
    rw [List.any_cons, List.any_cons, ih, q.eqF r h.1 h1]
theorem Rep.key {K : PySem.W.Frag} {H : Hp} {v : V} {d : D} {κ : Key} (r : Rep K H v d) (h : keyD d = some κ) : v = kV κ := by
  cases r <;> simp [keyD] at h <;> subst h <;> rfl
theorem lk_val {K : PySem.W.Frag} {H : Hp} : ∀ {vs : List (L2.Key × V)} {kvs : List (Key × D)} (κ : Key), PKV K H vs kvs → (∀ d, lk kvs κ = some d → ∃ v, valV vs κ = some v ∧ Rep K H v d) ∧ (lk kvs κ = none → valV vs κ = none)
  | _, _, κ, .nil => ⟨fun _ e => by simp [lk] at e, fun _ => rfl⟩
  | _, _, κ, .cons (a := p) (b := q) r t => by
    have ih := lk_val κ t
    unfold lk
    by_cases e : q.1 = κ
    · rw [if_pos e, valV_pos (by rw [r.1]; exact e)]
      exact ⟨fun d z => ⟨_, rfl, by cases z; exact r.2⟩, nofun⟩
    · rw [if_neg e, valV_neg (by rw [r.1]; exact e)]
      exact ih
def rInDK : R2 := fun x y H Q => ∃ a kvs k, y = .ref a ∧ Rd H a (.dK kvs) ∧ x = kV k ∧ Q (.bl (valV kvs k).isSome) H
def rNotInDK : R2 := fun x y H Q => ∃ a kvs k, y = .ref a ∧ Rd H a (.dK kvs) ∧ x = kV k ∧ Q (.bl (!(valV kvs k).isSome)) H
theorem op_inDK (hu : X.A.units + 1 < cLine) : OpR X (compareOp .In) rInDK := by
  intro pins s σ H x y v u Q I rx ry h
  obtain ⟨a, kvs, k, rfl, e, rfl, q⟩ := h
  cases ry
  exact d_in hu I (.inl ⟨kvs, k, e, rfl, rfl⟩) rx fun s' I' => ⟨.bl _, H, I', rfl, q⟩
theorem op_notInDK (hu : X.A.units + 1 < cLine) : OpR X (compareOp .NotIn) rNotInDK := by
  intro pins s σ H x y v u Q I rx ry h
  obtain ⟨a, kvs, k, rfl, e, rfl, q⟩ := h
  cases ry
  exact d_notIn hu I (.inl ⟨kvs, k, e, rfl, rfl⟩) rx fun s' I' => ⟨.bl _, H, I', rfl, q⟩
/-! nested keys -/
section
variable {K : PySem.W.Frag}
mutual
theorem nk_depth : ∀ (d : D) (n : Nat), nest d = some n → (nkD d).depth = n
  | .non, n, h => by simp [nest] at h; subst h; rfl
  | .int _, n, h => by simp [nest] at h; subst h; rfl
  | .str _, n, h => by simp [nest] at h; subst h; rfl
  | .tup xs, n, h => by
    simp only [nest, Option.map_eq_some_iff] at h
    obtain ⟨m, e, rfl⟩ := h
    rw [nkD, NestedKey.depth, nks_depth xs m e]
  | .bl _, n, h => by simp [nest] at h
  | .ref _, n, h => by simp [nest] at h
  | .ty _, n, h => by simp [nest] at h
  | .lro _, n, h => by simp [nest] at h
theorem nks_depth : ∀ (ds : List D) (n : Nat), nests ds = some n → NestedKey.depthAll (nkDs ds) = n
  | [], n, h => by simp [nests] at h; subst h; rfl
  | d :: ds, n, h => by
    unfold nests at h
    split at h
    · rename_i x y e1 e2
      cases h
      rw [nkDs, NestedKey.depthAll, nk_depth d _ e1, nks_depth ds _ e2]
    · cases h
end
mutual
theorem nk_is {pins : List (Addr × Obj)} {σ : L2.St} {H : Hp} {s : Shared} (I : Inv X pins σ H s) : ∀ (d : D) {v : V} {u : Value} {n : Nat}, Rep X.K H v d → RelV v u → nest d = some n → NestedIs s.heap (nkD d) u
  | .non, _, _, _, r, q, _ => by cases r; cases q; exact .none
  | .int i, _, _, _, r, q, _ => by cases r; obtain ⟨t, rfl⟩ := q; exact .int i t
  | .str x, _, _, _, r, q, _ => by cases r; obtain ⟨t, rfl⟩ := q; exact .text x t
  | .tup ds, _, _, _, r, q, h => by
    cases r with
    | tup s1 r1 =>
      cases q
      obtain ⟨its, rv, ⟨o, ho, hc, n, hd⟩, _⟩ := I.tuple s1.s
      simp only [nest, Option.map_eq_some_iff] at h
      obtain ⟨m, e, _⟩ := h
      exact .tup ho hc hd (nks_is I ds r1 rv e)
  | .bl _, _, _, _, _, _, h => by simp [nest] at h
  | .ref _, _, _, _, _, _, h => by simp [nest] at h
  | .ty _, _, _, _, _, _, h => by simp [nest] at h
  | .lro _, _, _, _, _, _, h => by simp [nest] at h
theorem nks_is {pins : List (Addr × Obj)} {σ : L2.St} {H : Hp} {s : Shared} (I : Inv X pins σ H s) : ∀ (ds : List D) {vs : List V} {us : List Value} {n : Nat}, Reps X.K H vs ds → Vals vs us → nests ds = some n → NestedAll s.heap (nkDs ds) us
  | [], _, _, _, r, q, _ => by cases r; cases q; exact .nil
  | d :: ds, _, _, _, r, q, h => by
    cases r with
    | cons r1 r2 =>
      cases q with
      | cons q1 q2 =>
        unfold nests at h
        split at h
        · rename_i x y e1 e2
          exact .cons (nk_is I d r1 q1 e1) (nks_is I ds r2 q2 e2)
        · cases h
end
mutual
theorem nkD_inj : ∀ (d e : D) (m n : Nat), nest d = some m → nest e = some n → nkD d = nkD e → d = e
  | .non, e, _, _, _, h2, h => by cases e <;> simp [nkD, nest] at h h2 ⊢
  | .int _, e, _, _, _, h2, h => by cases e <;> simp [nkD, nest] at h h2 ⊢; exact h
  | .str _, e, _, _, _, h2, h => by cases e <;> simp [nkD, nest] at h h2 ⊢; exact h
  | .tup xs, e, _, _, h1, h2, h => by
    cases e <;> simp [nkD] at h
    rename_i ys
    simp only [nest, Option.map_eq_some_iff] at h1 h2
    obtain ⟨m, e1, _⟩ := h1
    obtain ⟨n, e2, _⟩ := h2
    rw [nkDs_inj xs ys m n e1 e2 h]
  | .bl _, _, _, _, h, _, _ => by simp [nest] at h
  | .ref _, _, _, _, h, _, _ => by simp [nest] at h
  | .ty _, _, _, _, h, _, _ => by simp [nest] at h
  | .lro _, _, _, _, h, _, _ => by simp [nest] at h
theorem nkDs_inj : ∀ (ds es : List D) (m n : Nat), nests ds = some m → nests es = some n → nkDs ds = nkDs es → ds = es
  | [], es, _, _, _, _, h => by cases es <;> simp [nkDs] at h ⊢
  | d :: ds, es, _, _, h1, h2, h => by
    cases es with
    | nil => simp [nkDs] at h
    | cons e es =>
      simp only [nkDs, List.cons.injEq] at h
      unfold nests at h1 h2
      split at h1
      · rename_i x y e1 e2
        split at h2
        · rename_i x' y' e1' e2'
          rw [nkD_inj d e _ _ e1 e1' h.1, nkDs_inj ds es _ _ e2 e2' h.2]
        · cases h2
      · cases h1
end
theorem nkOk_nest {d : D} (h : nkOk d = true) : ∃ xs n, d = .tup xs ∧ nest d = some n ∧ n ≤ 8 := by
  unfold nkOk at h
  split at h
  · split at h
    · rename_i n e
      exact ⟨_, n, rfl, e, of_decide_eq_true h⟩
    · cases h
  · cases h
end
/-- a key in hand, as the library wants it -/
theorem nk_at {pins : List (Addr × Obj)} {σ : L2.St} {H : Hp} {s : Shared} (I : Inv X pins σ H s) {d : D} {a : Addr} (r : Rep X.K H (.ref a) d) (h : nkOk d = true) : (nestedKind X.prog X.w).is s.heap (nkD d) a := by
  obtain ⟨xs, n, rfl, e, hn⟩ := nkOk_nest h
  exact ⟨nk_is I _ r rfl e, by rw [nk_depth _ _ e]; exact hn⟩
abbrev PDn (c : Cn) (H : Hp) : List Ent → List (D × D) → Prop := Paired fun p q => p.1 = nkD q.1 ∧ nkOk q.1 = true ∧ Rep c.K H (.ref p.2.1) q.1 ∧ Rep c.K H p.2.2 q.2
/-- the dict in hand, as the library wants it -/
theorem nd_of {pins : List (Addr × Obj)} {σ : L2.St} {H : Hp} {s : Shared} (I : Inv X pins σ H s) {a : Addr} {es : List Ent} {kvs : List (D × D)} (e : Rd H a (NDict (cn X CA) a es)) (p : PDn (cn X CA) H es kvs) :
    es.length ≤ sizeLine ∧ (a == sysModules) = false ∧ ∃ xs : List (NestedKey × Addr × Value), Paired (fun (p : Ent) (q : NestedKey × Addr × Value) => p.1 = q.1 ∧ p.2.1 = q.2.1 ∧ RelV p.2.2 q.2.2) es xs ∧ s.heap.DictOfH (nestedKind X.prog X.w) a xs := by
  obtain ⟨⟨z, hd, xs, pr, ⟨o, es', ep, ho, ex, hdat, hent⟩, nd⟩, _⟩ := e.ok I.hok
  refine ⟨z, hd, xs, pr, o, es', ep, ho, ex, hdat, hent, ?_, nd⟩
  have key : ∀ {es : List Ent} {xs : List (NestedKey × Addr × Value)} {kvs : List (D × D)}, Paired (fun (p : Ent) (q : NestedKey × Addr × Value) => p.1 = q.1 ∧ p.2.1 = q.2.1 ∧ RelV p.2.2 q.2.2) es xs → PDn (cn X CA) H es kvs → ∀ x ∈ xs, (nestedKind X.prog X.w).is s.heap x.1 x.2.1 := by
    intro es xs kvs h1
    induction h1 generalizing kvs with
    | nil => intro _ x hx; cases hx
    | cons a1 t ih =>
      intro h2 x hx
      cases h2 with
      | cons b1 t2 =>
        rcases List.mem_cons.mp hx with rfl | hx
        · rw [← a1.1, ← a1.2.1, b1.1]
          exact nk_at I b1.2.2.1 b1.2.1
        · exact ih t2 x hx
  exact key pr p
end
end DL

set_option Elab.async false
set_option linter.all false
set_option maxRecDepth 100000
set_option maxHeartbeats 4000000
/-! DE3: dicts by values; membership; subscripts; slices -/
namespace DL
open PySem PySem.Spec PyProof.Rows L2
section
variable {X : Cx} {CA : String → Addr} {XE : XK} {a b e : Expr} {es : List Expr} {f g h : WE} {fs : List WE} {pos : Pos}
abbrev PEx : List Ent → List (NestedKey × Addr × Value) → Prop := Paired fun (p : Ent) (q : NestedKey × Addr × Value) => p.1 = q.1 ∧ p.2.1 = q.2.1 ∧ RelV p.2.2 q.2.2
/-- what stands at a key -/
theorem nd_at {c : Cn} {H : Hp} {k : D} (hk : nkOk k = true) : ∀ {es : List Ent} {xs : List (NestedKey × Addr × Value)} {kvs : List (D × D)}, PEx es xs → PDn c H es kvs →
    (∀ d, lk kvs k = some d → ∃ b v u, atKey xs (nkD k) = some (b, u) ∧ RelV v u ∧ Rep c.K H v d) ∧ (lk kvs k = none → atKey xs (nkD k) = none)
  | _, _, _, .nil, .nil => ⟨fun _ e => by simp [lk] at e, fun _ => rfl⟩
  | _, _, _, .cons (a := p) (b := x) h1 t1, .cons (b := q) h2 t2 => by
    have ih := nd_at hk t1 t2
    obtain ⟨_, m, _, em, _⟩ := nkOk_nest hk
    obtain ⟨_, n, _, en, _⟩ := nkOk_nest h2.2.1
    have hx : x.1 = nkD q.1 := by rw [← h1.1, h2.1]
    unfold lk
    by_cases e : q.1 = k
    · rw [if_pos e]
      have e' : x.1 = nkD k := by rw [hx, e]
      refine ⟨fun d z => ⟨x.2.1, p.2.2, x.2.2, ?_, h1.2.2, ?_⟩, nofun⟩
      · simp [atKey, e']
      · cases z; exact h2.2.2.2
    · rw [if_neg e]
      have e' : ¬ x.1 = nkD k := fun z => e (nkD_inj q.1 k _ _ en em (by rw [← hx, z]))
      have e2 : ∀ r, atKey (x :: r) (nkD k) = atKey r (nkD k) := fun r => by simp [atKey, e']
      rw [e2]
      exact ih
/-- a nested dict is asked -/
def rInDN (c : Cn) : R2 := fun x y H Q => ∃ a b es kvs k, y = .ref a ∧ x = .ref b ∧ Rd H a (NDict c a es) ∧ PDn c H es kvs ∧ Rep c.K H (.ref b) k ∧ nkOk k = true ∧ Q (.bl (lk kvs k).isSome) H
def rNotInDN (c : Cn) : R2 := fun x y H Q => ∃ a b es kvs k, y = .ref a ∧ x = .ref b ∧ Rd H a (NDict c a es) ∧ PDn c H es kvs ∧ Rep c.K H (.ref b) k ∧ nkOk k = true ∧ Q (.bl (!(lk kvs k).isSome)) H
theorem room_n {A : Around} {k : Nat} (hr : Room k A) : (nestedKind X.prog X.w).room A.in1 := by
  show A.units + 1 + 8 < cLine
  have := hr.units
  omega
theorem isSome_nd {c : Cn} {H : Hp} {k : D} {es : List Ent} {xs : List (NestedKey × Addr × Value)} {kvs : List (D × D)} (hk : nkOk k = true) (h1 : PEx es xs) (h2 : PDn c H es kvs) : (atKey xs (nkD k)).isSome = (lk kvs k).isSome := by
  have q := nd_at hk h1 h2
  cases e : lk kvs k with
  | none => rw [q.2 e]; rfl
  | some d => obtain ⟨_, _, _, z, _⟩ := q.1 d e; rw [z]; rfl
theorem op_inDN {k : Nat} (hr : Room k X.A) : OpR X (compareOp .In) (rInDN (cn X CA)) := by
  intro pins s σ H x y v u Q I rx ry h
  obtain ⟨a, b, es, kvs, k, rfl, rfl, e, p, r, hk, q⟩ := h
  cases ry; cases rx
  obtain ⟨z, hd, xs, pr, dd⟩ := nd_of I e p
  refine wpAny_in_heap (room_n hr) (nk_at I r hk) hd dd ?_
  rw [isSome_nd hk pr p]
  exact ⟨.bl _, H, I.tok _, rfl, q⟩
theorem op_notInDN {k : Nat} (hr : Room k X.A) : OpR X (compareOp .NotIn) (rNotInDN (cn X CA)) := by
  intro pins s σ H x y v u Q I rx ry h
  obtain ⟨a, b, es, kvs, k, rfl, rfl, e, p, r, hk, q⟩ := h
  cases ry; cases rx
  obtain ⟨z, hd, xs, pr, dd⟩ := nd_of I e p
  refine PySem.notIn_keyed (kvs := pairsH xs) (room_n hr) (nk_at I r hk) hd ⟨xs, dd, rfl⟩ ?_
  rw [valueAt_pairsH, Option.isSome_map, isSome_nd hk pr p]
  exact ⟨.bl _, H, I.tok _, rfl, q⟩
def rInA (c : Cn) : R2 := fun x y H Q => rIn c.K false x y H Q ∨ ((∃ i j, x = .str i ∧ y = .str j ∧ Q (.bl (!(Builtin.Str.occurrences j i 0 j.length 1).isEmpty)) H) ∨ (rInDK x y H Q ∨ rInDN c x y H Q))
def rNotInA (c : Cn) : R2 := fun x y H Q => rIn c.K true x y H Q ∨ ((∃ i j, x = .str i ∧ y = .str j ∧ Q (.bl (!(!(Builtin.Str.occurrences j i 0 j.length 1).isEmpty))) H) ∨ (rNotInDK x y H Q ∨ rNotInDN c x y H Q))
theorem op_inA {k : Nat} (hr : Room k X.A) : OpR X (compareOp .In) (rInA (cn X CA)) := op_in_seq.or (op_in_str.or ((op_inDK (hu_of hr)).or (op_inDN hr)))
theorem op_notInA {k : Nat} (hr : Room k X.A) : OpR X (compareOp .NotIn) (rNotInA (cn X CA)) := op_notIn_seq.or (L2.op_notIn_str.or ((op_notInDK (hu_of hr)).or (op_notInDN hr)))
theorem inS0 {c : Cn} {v1 v2 : V} {d1 d2 : D} {M : Sto} {H : Hp} {kd : Bool → Prop} {Q1 Q2 Q3 Q4 : Bool → Prop} (r1 : Rep c.K H v1 d1) (r2 : Rep c.K H v2 d2) (hR : R c M H) (h : cIn d1 d2 M kd) :
    (∃ p xs, v2 = .ref p ∧ (SqL c.K H p xs ∨ SqT c.K H p xs) ∧ flatV v1 = true ∧ xs.all flatV = true ∧ kd (L2.inV v1 xs)) ∨
    (∃ i j, v1 = .str i ∧ v2 = .str j ∧ kd (!(Builtin.Str.occurrences j i 0 j.length 1).isEmpty)) ∨
    (∃ a kvs k, v2 = .ref a ∧ Rd H a (.dK kvs) ∧ v1 = kV k ∧ kd (valV kvs k).isSome) ∨
    (∃ a b es kvs k, v2 = .ref a ∧ v1 = .ref b ∧ Rd H a (NDict c a es) ∧ PDn c H es kvs ∧ Rep c.K H (.ref b) k ∧ nkOk k = true ∧ kd (lk kvs k).isSome) := by
  unfold cIn at h
  split at h
  · cases r2 with
    | tup s2 p2 => exact .inl ⟨_, _, rfl, .inr s2.s, r1.flat h.1, p2.flat h.2.1, by rw [p2.inV r1 h.1 h.2.1]; exact h.2.2⟩
  · split at h
    · cases r1; cases r2
      exact .inr (.inl ⟨_, _, rfl, rfl, h⟩)
    · exact h.elim
  · cases r2
    split at h
    · rename_i xs e
      obtain ⟨vs, h1, p1⟩ := hR _ _ e
      exact .inl ⟨_, _, rfl, .inl (SqL.of h1), r1.flat h.1, p1.flat h.2.1, by rw [p1.inV r1 h.1 h.2.1]; exact h.2.2⟩
    · rename_i o _ e
      unfold dLk at h
      split at h
      · split at h
        · rename_i κ ek
          obtain ⟨vs, h1, p1⟩ := (hR _ _ e).dk_rd (by assumption)
          refine .inr (.inr (.inl ⟨_, vs, κ, rfl, h1, r1.key ek, ?_⟩))
          have q := lk_val κ p1
          cases el : lk _ κ with
          | none => rw [q.2 el]; rw [el] at h; exact h
          | some d => obtain ⟨v, ev, _⟩ := q.1 d el; rw [ev]; rw [el] at h; exact h
        · exact h.elim
      · obtain ⟨es, h1, p1⟩ := (hR _ _ e).dn_rd (by assumption)
        obtain ⟨hk, h⟩ := h
        obtain ⟨xs, n, rfl, _, _⟩ := nkOk_nest hk
        cases r1 with
        | tup s1 q1 => exact .inr (.inr (.inr ⟨_, _, es, _, _, rfl, rfl, h1, p1, .tup s1 q1, hk, h⟩))
      · exact h.elim
    · exact h.elim
  · exact h.elim
theorem inS {c : Cn} : CmpS c cIn (rInA c) := by
  intro v1 v2 d1 d2 M H kd Q r1 r2 hR h k
  rcases inS0 (Q1 := fun _ => True) (Q2 := fun _ => True) (Q3 := fun _ => True) (Q4 := fun _ => True) r1 r2 hR h with ⟨p, xs, e, s, x, y, z⟩ | ⟨i, j, e1, e2, z⟩ | ⟨a, kvs, k', e1, e2, e3, z⟩ | ⟨a, b, es, kvs, k', e1, e2, e3, e4, e5, e6, z⟩
  · exact .inl ⟨p, xs, e, s, x, y, k _ z⟩
  · exact .inr (.inl ⟨i, j, e1, e2, k _ z⟩)
  · exact .inr (.inr (.inl ⟨a, kvs, k', e1, e2, e3, k _ z⟩))
  · exact .inr (.inr (.inr ⟨a, b, es, kvs, k', e1, e2, e3, e4, e5, e6, k _ z⟩))
theorem notInS {c : Cn} : CmpS c cNotIn (rNotInA c) := by
  intro v1 v2 d1 d2 M H kd Q r1 r2 hR h k
  rcases inS0 (Q1 := fun _ => True) (Q2 := fun _ => True) (Q3 := fun _ => True) (Q4 := fun _ => True) r1 r2 hR (show cIn d1 d2 M fun b => kd (!b) from h) with ⟨p, xs, e, s, x, y, z⟩ | ⟨i, j, e1, e2, z⟩ | ⟨a, kvs, k', e1, e2, e3, z⟩ | ⟨a, b, es, kvs, k', e1, e2, e3, e4, e5, e6, z⟩
  · exact .inl ⟨p, xs, e, s, x, y, k _ z⟩
  · exact .inr (.inl ⟨i, j, e1, e2, k _ z⟩)
  · exact .inr (.inr (.inl ⟨a, kvs, k', e1, e2, e3, k _ z⟩))
  · exact .inr (.inr (.inr ⟨a, b, es, kvs, k', e1, e2, e3, e4, e5, e6, k _ z⟩))
/-! ## subscripts -/
theorem atI_rep {K : PySem.W.Frag} {H : Hp} {vs : List V} {ds : List D} {i : Int} {d : D} (r : Reps K H vs ds) (h : atI ds i = some d) : ∃ v, atI vs i = some v ∧ Rep K H v d := by
  unfold atI at h ⊢
  rw [r.length]
  cases e : ixN ds.length i with
  | none => rw [e] at h; cases h
  | some j =>
    rw [e] at h
    obtain ⟨v, e1, r1⟩ := r.get (show ds[j]? = some d from h)
    exact ⟨v, e1, r1⟩
theorem ix_dk (hu : X.A.units + 1 < cLine) : IxR X (fun x y H Q => ∃ a kvs k v, x = .ref a ∧ y = kV k ∧ Rd H a (.dK kvs) ∧ valV kvs k = some v ∧ Q v H) := by
  intro value slice pins s σ H x y v u Q I rx ry h hs
  obtain ⟨a, kvs, k, z, rfl, rfl, e, el, q⟩ := h
  cases rx
  refine tail_any (dict_typeIs I ((.inl ⟨kvs, k, e, rfl, rfl⟩ : DGet H a (kV k) (valV kvs k)))) PySem.slot_dict_getitem.lookup (d_getItem hu I (by rw [← el]; exact .inl ⟨kvs, k, e, rfl, rfl⟩) ry fun w' s' I' rw' => ⟨z, H, I', rw', q⟩) hs
theorem ix_dn {k : Nat} (hr : Room k X.A) : IxR X (fun x y H Q => ∃ a b es kvs k, x = .ref a ∧ y = .ref b ∧ Rd H a (NDict (cn X CA) a es) ∧ PDn (cn X CA) H es kvs ∧ Rep X.K H (.ref b) k ∧ nkOk k = true ∧ ∃ d, lk kvs k = some d ∧ ∀ v, Rep X.K H v d → Q v H) := by
  intro value slice pins s σ H x y v u Q I rx ry h hs
  obtain ⟨a, b, es, kvs, k, rfl, rfl, e, p, r, hk, d, el, q⟩ := h
  cases rx; cases ry
  obtain ⟨z, hd, xs, pr, dd⟩ := nd_of I e p
  obtain ⟨b', v', u', e1, rv, rd⟩ := (nd_at hk pr p).1 d el
  refine tail_any dd.typeIs PySem.slot_dict_getitem.lookup (PySem.getItem_keyed (kvs := pairsH xs) (room_n hr) (nk_at I r hk) ⟨xs, dd, rfl⟩ (v := u') (by rw [valueAt_pairsH, e1]; rfl) ?_) hs
  exact ⟨v', H, I.tok _, rv, q v' rd⟩
theorem IxR.or {r r' : R2} (h : IxR X r) (h' : IxR X r') : IxR X fun x y H Q => r x y H Q ∨ r' x y H Q := by
  intro value slice pins s σ H x y v u Q I rx ry q hs
  rcases q with q | q
  · exact h value slice pins s σ H x y v u Q I rx ry q hs
  · exact h' value slice pins s σ H x y v u Q I rx ry q hs
def rSubA (c : Cn) : R2 := fun x y H Q => rIx c.K x y H Q ∨ ((∃ a kvs k v, x = .ref a ∧ y = kV k ∧ Rd H a (.dK kvs) ∧ valV kvs k = some v ∧ Q v H) ∨
  ∃ a b es kvs k, x = .ref a ∧ y = .ref b ∧ Rd H a (NDict c a es) ∧ PDn c H es kvs ∧ Rep c.K H (.ref b) k ∧ nkOk k = true ∧ ∃ d, lk kvs k = some d ∧ ∀ v, Rep c.K H v d → Q v H)
theorem ix_A {k : Nat} (hr : Room k X.A) : IxR X (rSubA (cn X CA)) := IxR.or ix_seq (IxR.or (ix_dk (hu_of hr)) (ix_dn hr))
theorem subDS {c : Cn} {v1 v2 : V} {d1 d2 : D} {M : Sto} {H : Hp} {kd : D → Prop} {Q : VK} (r1 : Rep c.K H v1 d1) (r2 : Rep c.K H v2 d2) (hR : R c M H) (h : subD d1 d2 M kd) (k : ∀ d v, kd d → Rep c.K H v d → Q v H) : rSubA c v1 v2 H Q := by
  unfold subD at h
  split at h
  · split at h
    · unfold at' at h
      split at h
      · rename_i xs i d e
        cases r2
        cases r1 with
        | tup s1 p1 =>
          obtain ⟨v, e1, rv⟩ := atI_rep p1 e
          exact .inl (.inr (.inl ⟨_, _, _, v, rfl, rfl, s1.s, e1, k d v h rv⟩))
      · exact h.elim
    · exact h.elim
  · split at h
    · unfold at' at h
      split at h
      · rename_i xs i d e
        cases r2
        cases r1 with
        | lro s1 p1 =>
          obtain ⟨v, e1, rv⟩ := atI_rep p1 e
          exact .inl (.inl ⟨_, _, _, v, rfl, rfl, s1.l, e1, k d v h rv⟩)
      · exact h.elim
    · exact h.elim
  · split at h
    · obtain ⟨hz, h⟩ := h
      split at h
      · cases r1; cases r2
        exact .inl (.inr (.inr ⟨_, _, _, rfl, rfl, hz, by assumption, k _ _ h (.str _)⟩))
      · exact h.elim
    · exact h.elim
  · split at h
    · rename_i xs e
      split at h
      · unfold at' at h
        split at h
        · rename_i i d el
          cases r1; cases r2
          obtain ⟨vs, h1, p1⟩ := hR _ _ e
          obtain ⟨v, e1, rv⟩ := atI_rep p1 el
          exact .inl (.inl ⟨_, _, _, v, rfl, rfl, SqL.of h1, e1, k d v h rv⟩)
        · exact h.elim
      · exact h.elim
    · rename_i o _ e
      unfold dLk at h
      split at h
      · split at h
        · rename_i κ ek
          split at h
          · rename_i d el
            obtain ⟨vs, h1, p1⟩ := (hR _ _ e).dk_rd (by assumption)
            obtain ⟨v, ev, rv⟩ := (lk_val κ p1).1 d el
            cases r1
            exact .inr (.inl ⟨_, vs, κ, v, rfl, r2.key ek, h1, ev, k d v h rv⟩)
          · exact h.elim
        · exact h.elim
      · obtain ⟨hk, h⟩ := h
        split at h
        · rename_i d el
          obtain ⟨es, h1, p1⟩ := (hR _ _ e).dn_rd (by assumption)
          obtain ⟨xs, n, rfl, _, _⟩ := nkOk_nest hk
          cases r1
          cases r2 with
          | tup s1 q1 => exact .inr (.inr ⟨_, _, es, _, _, rfl, rfl, h1, p1, .tup s1 q1, hk, d, el, fun v rv => k d v h rv⟩)
        · exact h.elim
      · exact h.elim
    · exact h.elim
  · exact h.elim
theorem d_sub_ {k : Nat} (hr : Room k X.A) (ha : SE X CA XE a f) (hb : SE X CA XE b g) (hs : PlainIx b := by exact fun _ _ => rfl) : SE X CA XE (.Subscript a b pos) (eSub f g) :=
  PE_weak (pe_ix (ix_A hr) ha hb hs) fun σ H Q ⟨env, M, Ed, Qd, p, q, kq⟩ => ⟨env, M, Ed, _, p, q, fun d1 M1 v1 H1 q1 r1 R1 T1 => ⟨env, M1, Ed, _, p.to T1 R1, q1, fun d2 M2 v2 H2 q2 r2 R2 T2 =>
    subDS (r1.m T2) r2 R2 q2 fun d v q3 r3 => kq _ _ _ _ q3 r3 R2 (T1.trans T2)⟩⟩
end
end DL

set_option Elab.async false
set_option linter.all false
set_option maxRecDepth 100000
set_option maxHeartbeats 4000000
/-! DE4: tests; slices; built-ins; lists; dicts -/
namespace DL
open PySem PySem.Spec PyProof.Rows L2
section
variable {X : Cx} {CA : String → Addr} {XE : XK} {a b e : Expr} {es rest : List Expr} {f g h : WE} {fs : List WE} {pos p : Pos} {t u : WT} {x : Str}
/-! ## tests -/
theorem truS {c : Cn} {v : V} {d : D} {M : Sto} {H : Hp} {kd : Bool → Prop} {Q : Bool → Hp → Prop} (r : Rep c.K H v d) (hR : R c M H) (h : truD d M kd) (k : ∀ b, kd b → Q b H) : ∃ b, TruV c.K v H b ∧ Q b H := by
  unfold truD at h
  split at h
  · cases r; exact ⟨_, rfl, k _ h⟩
  · cases r; exact ⟨_, rfl, k _ h⟩
  · cases r; exact ⟨_, rfl, k _ h⟩
  · cases r; exact ⟨_, ⟨h.1, rfl⟩, k _ h.2⟩
  · cases r with
    | tup s q => exact ⟨_, .inr (.inl ⟨_, s.s, by cases q <;> rfl⟩), k _ h⟩
  · cases r with
    | lro s q => exact ⟨_, .inl ⟨_, s.l, by cases q <;> rfl⟩, k _ h⟩
  · cases r
    split at h
    · obtain ⟨vs, h1, q⟩ := hR _ _ (by assumption)
      exact ⟨_, .inl ⟨_, SqL.of h1, by cases q <;> rfl⟩, k _ h⟩
    · obtain ⟨vs, h1, q⟩ := hR _ _ (by assumption)
      exact ⟨_, .inr (.inr ⟨_, h1, by cases q <;> rfl⟩), k _ h⟩
    · exact h.elim
  · exact h.elim
theorem t_tru (ha : SE X CA XE a f) (he : ∀ whole, isTrue a X.env whole = (do let v ← whole; standAt a.pos; holding [v] (truthy v)) := by intro _; rfl) : ST X CA XE a (tTru f) :=
  PT_weak (pt_truth ha he) fun σ H Q ⟨env, M, Ed, Qd, p, q, k⟩ => ⟨env, M, Ed, _, p, q, fun d M1 v H1 q1 r1 R1 T1 => truS (c := cn X CA) r1 R1 q1 fun b q2 => k _ _ _ q2 R1 T1⟩
theorem t_w (h : SW X CA XE a t) : ST X CA XE a t := ⟨h.run _⟩
theorem w_and1 (ha : ST X CA XE a t) : SW X CA XE (.BoolOp .And [a] pos) t := pw_and1 ha
theorem w_or1 (ha : ST X CA XE a t) : SW X CA XE (.BoolOp .Or [a] pos) t := pw_or1 ha
theorem w_and (ha : ST X CA XE a t) (hb : SW X CA XE (.BoolOp .And (b :: rest) pos) u) : SW X CA XE (.BoolOp .And (a :: b :: rest) pos) (tAnd t u) :=
  PW_weak (pw_and ha hb) fun σ H Q ⟨env, M, Ed, Qd, p, q, k⟩ => ⟨env, M, Ed, _, p, q, fun c M1 H1 q1 R1 T1 => by
    cases c with
    | true => exact ⟨env, M1, Ed, _, p.to T1 R1, q1, fun b M2 H2 q2 R2 T2 => k _ _ _ q2 R2 (T1.trans T2)⟩
    | false => exact k _ _ _ q1 R1 T1⟩
theorem w_or (ha : ST X CA XE a t) (hb : SW X CA XE (.BoolOp .Or (b :: rest) pos) u) : SW X CA XE (.BoolOp .Or (a :: b :: rest) pos) (tOr t u) :=
  PW_weak (pw_or ha hb) fun σ H Q ⟨env, M, Ed, Qd, p, q, k⟩ => ⟨env, M, Ed, _, p, q, fun c M1 H1 q1 R1 T1 => by
    cases c with
    | false => exact ⟨env, M1, Ed, _, p.to T1 R1, q1, fun b M2 H2 q2 R2 T2 => k _ _ _ q2 R2 (T1.trans T2)⟩
    | true => exact k _ _ _ q1 R1 T1⟩
theorem t_not (ha : ST X CA XE a t) : ST X CA XE (.UnaryOp .Not a pos) (tNot t) :=
  PT_weak (pt_not ha) fun σ H Q ⟨env, M, Ed, Qd, p, q, k⟩ => ⟨env, M, Ed, _, p, q, fun c M1 H1 q1 R1 T1 => k _ _ _ q1 R1 T1⟩
theorem t_chain {op op' : CmpOp} {r r' : R2} {c2 c2' : C2} {c : Expr} (ho : OpR X (compareOp op) r) (hs : CmpS (cn X CA) c2 r) (ho' : OpR X (compareOp op') r') (hs' : CmpS (cn X CA) c2' r') (ha : SE X CA XE a f) (hb : SE X CA XE b g) (hc : SE X CA XE c h)
    (hm : lastMarks [op, op'] [b, c] = false := by rfl) : ST X CA XE (.Compare a [op, op'] [b, c] pos) (tChain c2 c2' f g h) :=
  PT_weak (pt_chain ho ho' ha hb hc hm) fun σ H Q ⟨env, M, Ed, Qd, p, q, k⟩ => ⟨env, M, Ed, _, p, q, fun d1 M1 v1 H1 q1 r1 R1 T1 => ⟨env, M1, Ed, _, p.to T1 R1, q1, fun d2 M2 v2 H2 q2 r2 R2 T2 =>
    hs _ _ _ _ _ _ _ _ (r1.m T2) r2 R2 q2 fun b q3 => ⟨b, rfl, by
      cases b with
      | true => exact ⟨env, M2, Ed, _, p.to (T1.trans T2) R2, q3, fun d3 M3 v3 H3 q4 r3 R3 T3 => hs' _ _ _ _ _ _ _ _ (r2.m T3) r3 R3 q4 fun b' q5 => ⟨b', rfl, k _ _ _ q5 R3 (T1.trans (T2.trans T3))⟩⟩
      | false => exact ⟨false, rfl, k _ _ _ q3 R2 (T1.trans T2)⟩⟩⟩⟩
/-! as values -/
theorem d_one {op} (h : SE X CA XE a f) : SE X CA XE (.BoolOp op [a] pos) f := pe_one h
theorem d_and (ha : SE X CA XE a f) (hb : SE X CA XE (.BoolOp .And (b :: rest) pos) g) : SE X CA XE (.BoolOp .And (a :: b :: rest) pos) (eAnd f g) :=
  PE_weak (pe_and ha hb) fun σ H Q ⟨env, M, Ed, Qd, p, q, k⟩ => ⟨env, M, Ed, _, p, q, fun d M1 v H1 q1 r1 R1 T1 => by
    split at q1
    · rename_i c
      cases r1
      refine ⟨c, rfl, ?_⟩
      cases c with
      | true => exact ⟨env, M1, Ed, _, p.to T1 R1, q1, k.mono T1⟩
      | false => exact k _ _ _ _ q1 (.bl _) R1 T1
    · exact q1.elim⟩
theorem d_or (ha : SE X CA XE a f) (hb : SE X CA XE (.BoolOp .Or (b :: rest) pos) g) : SE X CA XE (.BoolOp .Or (a :: b :: rest) pos) (eOr f g) :=
  PE_weak (pe_or ha hb) fun σ H Q ⟨env, M, Ed, Qd, p, q, k⟩ => ⟨env, M, Ed, _, p, q, fun d M1 v H1 q1 r1 R1 T1 => by
    split at q1
    · rename_i c
      cases r1
      refine ⟨c, rfl, ?_⟩
      cases c with
      | false => exact ⟨env, M1, Ed, _, p.to T1 R1, q1, k.mono T1⟩
      | true => exact k _ _ _ _ q1 (.bl _) R1 T1
    · exact q1.elim⟩
/-- and, or of truths as a value: a value that is a bool -/
theorem d_notB (ha : SE X CA XE a f) : SE X CA XE (.UnaryOp .Not a pos) (eNotB f) :=
  PE_weak (pe_not ha) fun σ H Q ⟨env, M, Ed, Qd, p, q, k⟩ => ⟨env, M, Ed, _, p, q, fun d M1 v H1 q1 r1 R1 T1 => by
    split at q1
    · cases r1
      exact ⟨_, rfl, k _ _ _ _ q1 (.bl _) R1 T1⟩
    · exact q1.elim⟩
theorem d_ifE {c : Expr} (hc : ST X CA XE c t) (ha : SE X CA XE a f) (hb : SE X CA XE b g) : SE X CA XE (.IfExp c a b pos) (eIf t f g) :=
  PE_weak (pe_ifExp hc ha hb) fun σ H Q ⟨env, M, Ed, Qd, p, q, k⟩ => ⟨env, M, Ed, _, p, q, fun d M1 H1 q1 R1 T1 => by
    cases d with
    | true => exact ⟨env, M1, Ed, _, p.to T1 R1, q1, k.mono T1⟩
    | false => exact ⟨env, M1, Ed, _, p.to T1 R1, q1, k.mono T1⟩⟩
/-! ## slices -/
def tOfO (c : Cn) (XE : XK) (o : Option WE) : TO := fun σ H Q => ∃ env M Ed Qd, Pre c XE σ H env M Ed ∧ optW o Ed env M Qd ∧ ∀ i M' H', Qd i M' → R c M' H' → Tups c.K H H' → Q i H'
def SO (X : Cx) (CA : String → Addr) (XE : XK) (e : Option Expr) (o : Option WE) : Prop := PO X e (tOfO (cn X CA) XE o)
theorem PO_weak {o : Option Expr} {t t' : TO} (h : PO X o t) (w : ∀ σ H Q, t' σ H Q → t σ H Q) : PO X o t' := ⟨fun pins s σ H Q I q => h.run pins s σ H Q I (w σ H Q q)⟩
theorem o_none : SO X CA XE none none := PO_weak po_none fun σ H Q ⟨env, M, Ed, Qd, p, q, k⟩ => k _ _ _ q p.r .refl
theorem o_some (ha : SE X CA XE a f) : SO X CA XE (some a) (some f) :=
  PO_weak (po_some ha) fun σ H Q ⟨env, M, Ed, Qd, p, q, k⟩ => ⟨env, M, Ed, _, p, q, fun d M1 v H1 q1 r1 R1 T1 => by
    split at q1
    · cases r1
      exact ⟨_, rfl, k _ _ _ q1 R1 T1⟩
    · exact q1.elim⟩
def rSlAll (K : PySem.W.Frag) : V → Option Int → Option Int → Hp → VK → Prop := fun x lo hi H Q => rSlL K x lo hi H Q ∨ rSlF K x lo hi H Q
theorem sl_all : SlR X (rSlAll X.K) := SlR.or sl_list sl_tupF
theorem cut_reps {K : PySem.W.Frag} {H : Hp} {vs : List V} {ds : List D} (r : Reps K H vs ds) (lo hi : Option Int) : Reps K H (cutV vs lo hi) (cut ds lo hi) := by
  unfold cutV cut
  rw [r.length]
  exact (r.drop _).take _
theorem slS {c : Cn} {v : V} {d : D} {M : Sto} {H : Hp} {lo hi : Option Int} {Qd : KD} {Q : VK} (r : Rep c.K H v d) (hR : R c M H) (h : slD d lo hi M Qd) (k : KQ c H Qd Q) : rSlAll c.K v lo hi H Q := by
  unfold slD at h
  split at h
  · rename_i ds
    cases r with
    | @tup a vs _ s q =>
      refine .inr ⟨_, _, rfl, s.s, fun hw => ?_, fun hw p its hp => ?_⟩
      · have e : cut ds lo hi = ds := by
          unfold cut
          rw [← q.length, hw.1, hw.2, List.drop_zero, Nat.sub_zero, q.length, List.take_length]
        rw [e] at h
        exact k _ _ _ _ h (.tup s q) hR .refl
      · obtain ⟨x, y, z⟩ := lay_tup hp (cut_reps q lo hi) hR
        exact k _ _ _ _ h x y z
  · cases r with
    | lro s q =>
      refine .inl ⟨_, _, rfl, s.l, fun p hp => ?_⟩
      obtain ⟨x, y⟩ := lay_lst hp (cut_reps q lo hi) hR
      exact k _ _ _ _ (h p (hR.fresh hp)) (.ref p) x y
  · cases r
    split at h
    · obtain ⟨vs, h1, q⟩ := hR _ _ (by assumption)
      refine .inl ⟨_, _, rfl, SqL.of h1, fun p hp => ?_⟩
      obtain ⟨x, y⟩ := lay_lst hp (cut_reps q lo hi) hR
      exact k _ _ _ _ (h p (hR.fresh hp)) (.ref p) x y
    · exact h.elim
  · exact h.elim
theorem d_slice {lo hi : Option Expr} {l u : Option WE} {p2 : Pos} (ha : SE X CA XE a f) (hl : SO X CA XE lo l) (hu : SO X CA XE hi u) : SE X CA XE (.Subscript a (.Slice lo hi none p2) pos) (eSl f l u) :=
  PE_weak (pe_slice sl_all ha hl hu) fun σ H Q ⟨env, M, Ed, Qd, p, q, k⟩ => ⟨env, M, Ed, _, p, q, fun d M1 v H1 q1 r1 R1 T1 => ⟨env, M1, Ed, _, p.to T1 R1, q1, fun i M2 H2 q2 R2 T2 =>
    ⟨env, M2, Ed, _, p.to (T1.trans T2) R2, q2, fun j M3 H3 q3 R3 T3 => slS (c := cn X CA) (r1.m (T2.trans T3)) R3 q3 (k.mono (T1.trans (T2.trans T3)))⟩⟩⟩
theorem d_rev {k : Nat} {p1 p2 p3 : Pos} (ha : SE X CA XE a f) : SE X CA XE (.Subscript a (.Slice none none (some (.UnaryOp .USub (.Constant (.int 1) k p1) p2)) p3) pos) (eRev f) :=
  PE_weak (pe_revF ha) fun σ H Q ⟨env, M, Ed, Qd, p, q, k⟩ => ⟨env, M, Ed, _, p, q, fun d M1 v H1 q1 r1 R1 T1 => by
    unfold revD at q1
    split at q1
    · cases r1 with
      | tup s r =>
        refine ⟨_, _, rfl, .inl ⟨s.s, fun p its hp => ?_⟩⟩
        obtain ⟨x, y, z⟩ := lay_tup hp r.reverse R1
        exact k _ _ _ _ q1 x y (T1.trans z)
    · cases r1
      split at q1
      · obtain ⟨vs, h1, r⟩ := R1 _ _ (by assumption)
        refine ⟨_, _, rfl, .inr ⟨SqL.of h1, fun p hp => ?_⟩⟩
        obtain ⟨x, y⟩ := lay_lst hp r.reverse R1
        exact k _ _ _ _ (q1 p (R1.fresh hp)) (.ref p) x (T1.trans y)
      · exact q1.elim
    · exact q1.elim⟩
/-! ## calls of built-ins by one argument -/
theorem d_b1 {G : D → Sto → KD → Prop} {id : String} {r : List V → Hp → VK → Prop} (hc : CallR X (.builtin id) r) (hs : ∀ v d M H Qd Q, Rep X.K H v d → R (cn X CA) M H → G d M Qd → KQ (cn X CA) H Qd Q → r [v] H Q)
    (hg : Gl X x) (hm : X.mg x = none) (hv : bootBuiltins x = some (.builtin id)) (ha : SE X CA XE a f) (hn : x ≠ "__name__" := by decide) (hdb : (x == ("__debug__" : Str)) = false := by decide)
    (he : starEach [a] X.env = (false, eval a X.env) :: starEach [] X.env := by rfl) (hpl : (backTo pos (starEach [] X.env)).any (·.1) = false := by rfl) :
    SE X CA XE (.Call (.Name x p) [a] [] pos) (fun E env M Q => f E env M fun d M1 => G d M1 Q) :=
  PE_weak (pe_callB hc hg hm hv (pa_cons ha pa_nil he) hn hdb he hpl) fun σ H Q ⟨env, M, Ed, Qd, p, q, k⟩ => ⟨env, M, Ed, _, p, q, fun d M1 v H1 q1 r1 R1 T1 => hs _ _ _ _ _ _ r1 R1 q1 (k.mono T1)⟩
theorem d_ty1 {G : D → Sto → KD → Prop} {id : String} {r : List V → Hp → VK → Prop} (hc : CallR X (.type id) r) (hs : ∀ v d M H Qd Q, Rep X.K H v d → R (cn X CA) M H → G d M Qd → KQ (cn X CA) H Qd Q → r [v] H Q)
    (hg : Gl X x) (hm : X.mg x = none) (hv : bootBuiltins x = some (.type id)) (ha : SE X CA XE a f) (hn : x ≠ "__name__" := by decide) (hdb : (x == ("__debug__" : Str)) = false := by decide)
    (he : starEach [a] X.env = (false, eval a X.env) :: starEach [] X.env := by rfl) (hpl : (backTo pos (starEach [] X.env)).any (·.1) = false := by rfl) :
    SE X CA XE (.Call (.Name x p) [a] [] pos) (fun E env M Q => f E env M fun d M1 => G d M1 Q) :=
  PE_weak (pe_callTy hc hg hm hv (pa_cons ha pa_nil he) hn hdb he hpl) fun σ H Q ⟨env, M, Ed, Qd, p, q, k⟩ => ⟨env, M, Ed, _, p, q, fun d M1 v H1 q1 r1 R1 T1 => hs _ _ _ _ _ _ r1 R1 q1 (k.mono T1)⟩
theorem d_len (hm : X.mg "len" = none) (ha : SE X CA XE a f) (hg : Gl X "len" := by rfl) (he : starEach [a] X.env = (false, eval a X.env) :: starEach [] X.env := by rfl) (hpl : (backTo pos (starEach [] X.env)).any (·.1) = false := by rfl) : SE X CA XE (.Call (.Name "len" p) [a] [] pos) (eLen f) :=
  d_b1 (G := fun d M Q => lenD d M fun n => Q (.int n) M) call_len (fun v d M H Qd Q r1 hR h k => by
    unfold lenD at h
    split at h
    · cases r1; exact ⟨_, _, rfl, ⟨h.1, rfl⟩, k _ _ _ _ h.2 (.int _) hR .refl⟩
    · cases r1 with
      | tup s q => exact ⟨_, _, rfl, .inr ⟨_, s.s, rfl⟩, k _ _ _ _ (by rw [q.length]; exact h) (.int _) hR .refl⟩
    · cases r1 with
      | lro s q => exact ⟨_, _, rfl, .inl ⟨_, s.l, rfl⟩, k _ _ _ _ (by rw [q.length]; exact h) (.int _) hR .refl⟩
    · cases r1
      split at h
      · obtain ⟨vs, h1, q⟩ := hR _ _ (by assumption)
        exact ⟨_, _, rfl, .inl ⟨_, SqL.of h1, rfl⟩, k _ _ _ _ (by rw [q.length]; exact h) (.int _) hR .refl⟩
      · exact h.elim
    · exact h.elim) hg hm PySem.boot_len ha (he := he) (hpl := hpl)
theorem d_abs (hm : X.mg "abs" = none) (ha : SE X CA XE a f) (hg : Gl X "abs" := by rfl) (he : starEach [a] X.env = (false, eval a X.env) :: starEach [] X.env := by rfl) (hpl : (backTo pos (starEach [] X.env)).any (·.1) = false := by rfl) : SE X CA XE (.Call (.Name "abs" p) [a] [] pos) (eAbs f) :=
  d_b1 (G := fun d M Q => match d with | .int i => Q (.int (if i < 0 then -i else i)) M | _ => False) call_abs (fun v d M H Qd Q r1 hR h k => by
    split at h
    · cases r1; exact ⟨_, rfl, k _ _ _ _ h (.int _) hR .refl⟩
    · exact h.elim) hg hm (by decide +kernel) ha (he := he) (hpl := hpl)
theorem d_intC (hm : X.mg "int" = none) (ha : SE X CA XE a f) (hg : Gl X "int" := by rfl) (he : starEach [a] X.env = (false, eval a X.env) :: starEach [] X.env := by rfl) (hpl : (backTo pos (starEach [] X.env)).any (·.1) = false := by rfl) : SE X CA XE (.Call (.Name "int" p) [a] [] pos) (eInt f) :=
  d_ty1 (G := fun d M Q => match d with | .int i => Q (.int i) M | .bl b => Q (.int (if b then 1 else 0)) M | _ => False) call_int1 (fun v d M H Qd Q r1 hR h k => by
    split at h
    · cases r1; exact .inl ⟨_, rfl, k _ _ _ _ h (.int _) hR .refl⟩
    · cases r1; exact .inr ⟨_, rfl, k _ _ _ _ h (.int _) hR .refl⟩
    · exact h.elim) hg hm (by decide +kernel) ha (he := he) (hpl := hpl)
theorem d_tupOf (hm : X.mg "tuple" = none) (ha : SE X CA XE a f) (hg : Gl X "tuple" := by rfl) (he : starEach [a] X.env = (false, eval a X.env) :: starEach [] X.env := by rfl) (hpl : (backTo pos (starEach [] X.env)).any (·.1) = false := by rfl) : SE X CA XE (.Call (.Name "tuple" p) [a] [] pos) (eTupOf f) :=
  d_ty1 (G := fun d M Q => match d with
    | .tup xs => Q (.tup xs) M
    | .ref a => match M a with
      | some (.lst xs) => Q (.tup xs) M
      | _ => False
    | _ => False) call_tupleF (fun v d M H Qd Q r1 hR h k => by
    split at h
    · cases r1 with
      | tup s q => exact ⟨_, _, rfl, .inr ⟨s.s, k _ _ _ _ h (.tup s q) hR .refl⟩⟩
    · cases r1
      split at h
      · obtain ⟨vs, h1, q⟩ := hR _ _ (by assumption)
        refine ⟨_, _, rfl, .inl ⟨SqL.of h1, fun l its hl => ?_⟩⟩
        obtain ⟨x, y, z⟩ := lay_tup hl q hR
        exact k _ _ _ _ h x y z
      · exact h.elim
    · exact h.elim) hg hm (by decide +kernel) ha (he := he) (hpl := hpl)
theorem CallR.or {v : Value} {r r' : List V → Hp → VK → Prop} (h : CallR X v r) (h' : CallR X v r') : CallR X v fun xs H Q => r xs H Q ∨ r' xs H Q := by
  intro pins s σ H xs us Q I rv q
  rcases q with q | q
  · exact h pins s σ H xs us Q I rv q
  · exact h' pins s σ H xs us Q I rv q
theorem keys_reps {K : PySem.W.Frag} {H : Hp} : ∀ {vs : List (L2.Key × V)} {kvs : List (Key × D)}, PKV K H vs kvs → Reps K H (vs.map fun kv => kV kv.1) (kvs.map fun kv => dKey kv.1)
  | _, _, .nil => .nil
  | _, _, .cons (a := p) (b := q) r t => by
    rw [List.map_cons, List.map_cons, r.1]
    refine .cons ?_ (keys_reps t)
    cases q.1 with
    | inl i => exact .int i
    | inr y => exact .str y
theorem d_lstOf (hc : X.calm = true) (hm : X.mg "list" = none) (ha : SE X CA XE a f) (hg : Gl X "list" := by rfl) (he : starEach [a] X.env = (false, eval a X.env) :: starEach [] X.env := by rfl) (hpl : (backTo pos (starEach [] X.env)).any (·.1) = false := by rfl) : SE X CA XE (.Call (.Name "list" p) [a] [] pos) (eLstOf f) :=
  d_ty1 (G := fun d M Q => match d with
    | .tup xs => ∀ p, M p = none → Q (.ref p) (M.set p (.lst xs))
    | .ref a => match M a with
      | some (.lst xs) => ∀ p, M p = none → Q (.ref p) (M.set p (.lst xs))
      | some (.dk kvs) => ∀ p, M p = none → Q (.ref p) (M.set p (.lst (kvs.map fun kv => dKey kv.1)))
      | _ => False
    | _ => False) (CallR.or call_list_of (call_list_dK hc)) (fun v d M H Qd Q r1 hR h k => by
    split at h
    · cases r1 with
      | tup s q =>
        refine .inl ⟨_, _, rfl, .inr s.s, fun l hl => ?_⟩
        obtain ⟨x, y⟩ := lay_lst hl q hR
        exact k _ _ _ _ (h l (hR.fresh hl)) (.ref l) x y
    · cases r1
      split at h
      · obtain ⟨vs, h1, q⟩ := hR _ _ (by assumption)
        refine .inl ⟨_, _, rfl, .inl (SqL.of h1), fun l hl => ?_⟩
        obtain ⟨x, y⟩ := lay_lst hl q hR
        exact k _ _ _ _ (h l (hR.fresh hl)) (.ref l) x y
      · obtain ⟨vs, h1, q⟩ := hR _ _ (by assumption)
        refine .inr ⟨_, _, rfl, h1, fun l hl => ?_⟩
        obtain ⟨x, y⟩ := lay_lst hl (keys_reps q) hR
        exact k _ _ _ _ (h l (hR.fresh hl)) (.ref l) x y
      · exact h.elim
    · exact h.elim) hg hm (by decide +kernel) ha (he := he) (hpl := hpl)
theorem bools_rep {K : PySem.W.Frag} {H : Hp} : ∀ {vs : List V} {ds : List D} {bs : List Bool}, Reps K H vs ds → asBools ds = some bs → vs = bs.map V.bl
  | _, _, _, .nil, h => by simp [asBools] at h; subst h; rfl
  | _, _, _, .cons (d := d) r t, h => by
    cases r <;> simp only [asBools] at h <;> first | (cases h; done) | skip
    rename_i b
    rw [Option.map_eq_some_iff] at h
    obtain ⟨bs, e, rfl⟩ := h
    rw [List.map_cons, bools_rep t e]
theorem ints_rep {K : PySem.W.Frag} {H : Hp} : ∀ {vs : List V} {ds : List D} {bs : List Int}, Reps K H vs ds → asInts ds = some bs → vs = bs.map V.int
  | _, _, _, .nil, h => by simp [asInts] at h; subst h; rfl
  | _, _, _, .cons (d := d) r t, h => by
    cases r <;> simp only [asInts] at h <;> first | (cases h; done) | skip
    rename_i b
    rw [Option.map_eq_some_iff] at h
    obtain ⟨bs, e, rfl⟩ := h
    rw [List.map_cons, ints_rep t e]
theorem d_all (hc : X.calm = true) (hm : X.mg "all" = none) (ha : SE X CA XE a f) (hg : Gl X "all" := by rfl) (he : starEach [a] X.env = (false, eval a X.env) :: starEach [] X.env := by rfl) (hpl : (backTo pos (starEach [] X.env)).any (·.1) = false := by rfl) : SE X CA XE (.Call (.Name "all" p) [a] [] pos) (eAll f) :=
  d_b1 (G := fun d M Q => match d with
    | .ref a => match M a with
      | some (.lst xs) => match asBools xs with
        | some bs => Q (.bl (bs.all id)) M
        | none => False
      | _ => False
    | _ => False) (cr_all hc) (fun v d M H Qd Q r1 hR h k => by
    split at h
    · cases r1
      split at h
      · split at h
        · obtain ⟨vs, h1, q⟩ := hR _ _ (by assumption)
          have e := bools_rep q (by assumption)
          subst e
          exact ⟨_, _, rfl, SqL.of h1, k _ _ _ _ h (.bl _) hR .refl⟩
        · exact h.elim
      · exact h.elim
    · exact h.elim) hg hm (by decide +kernel) ha (he := he) (hpl := hpl)
theorem d_any (hc : X.calm = true) (hm : X.mg "any" = none) (ha : SE X CA XE a f) (hg : Gl X "any" := by rfl) (he : starEach [a] X.env = (false, eval a X.env) :: starEach [] X.env := by rfl) (hpl : (backTo pos (starEach [] X.env)).any (·.1) = false := by rfl) : SE X CA XE (.Call (.Name "any" p) [a] [] pos) (eAny f) :=
  d_b1 (G := fun d M Q => match d with
    | .ref a => match M a with
      | some (.lst xs) => match asBools xs with
        | some bs => Q (.bl (bs.any id)) M
        | none => False
      | _ => False
    | _ => False) (cr_any hc) (fun v d M H Qd Q r1 hR h k => by
    split at h
    · cases r1
      split at h
      · split at h
        · obtain ⟨vs, h1, q⟩ := hR _ _ (by assumption)
          have e := bools_rep q (by assumption)
          subst e
          exact ⟨_, _, rfl, SqL.of h1, k _ _ _ _ h (.bl _) hR .refl⟩
        · exact h.elim
      · exact h.elim
    · exact h.elim) hg hm (by decide +kernel) ha (he := he) (hpl := hpl)
theorem d_sum (hc : X.calm = true) (hm : X.mg "sum" = none) (ha : SE X CA XE a f) (hg : Gl X "sum" := by rfl) (he : starEach [a] X.env = (false, eval a X.env) :: starEach [] X.env := by rfl) (hpl : (backTo pos (starEach [] X.env)).any (·.1) = false := by rfl) : SE X CA XE (.Call (.Name "sum" p) [a] [] pos) (eSum f) :=
  d_b1 (G := fun d M Q => match d with
    | .ref a => match M a with
      | some (.lst xs) => match asInts xs with
        | some bs => Q (.int bs.sum) M
        | none => False
      | _ => False
    | _ => False) (cr_sum hc) (fun v d M H Qd Q r1 hR h k => by
    split at h
    · cases r1
      split at h
      · split at h
        · obtain ⟨vs, h1, q⟩ := hR _ _ (by assumption)
          have e := ints_rep q (by assumption)
          subst e
          exact ⟨_, _, rfl, SqL.of h1, k _ _ _ _ h (.int _) hR .refl⟩
        · exact h.elim
      · exact h.elim
    · exact h.elim) hg hm (by decide +kernel) ha (he := he) (hpl := hpl)
/-! ## isinstance -/
theorem ty_of {c : Cn} {v : V} {d : D} {M : Sto} {H : Hp} {k : String → Prop} (r : Rep c.K H v d) (hR : R c M H) (h : tyD d M k) : ∃ t ∈ ["NoneType", "bool", "int", "str", "tuple", "list", "dict"], TyX c.K H v (.type t) ∧ k t := by
  unfold tyD at h
  split at h
  · cases r; exact ⟨_, by simp, .base .non, h⟩
  · cases r; exact ⟨_, by simp, .base (.bl _), h⟩
  · cases r; exact ⟨_, by simp, .base (.int _), h⟩
  · cases r; exact ⟨_, by simp, .base (.str _), h⟩
  · cases r with
    | tup s q =>
      refine ⟨"tuple", by simp, ?_, h⟩
      rcases s with ⟨its, s⟩ | ⟨o, its, n, e, cl, _⟩
      · exact .fTuple s
      · exact .kTuple e cl
  · cases r
    split at h
    · obtain ⟨vs, h1, q⟩ := hR _ _ (by assumption)
      exact ⟨"list", by simp, .base (.lst h1), h⟩
    · obtain ⟨vs, h1, q⟩ := hR _ _ (by assumption)
      exact ⟨"dict", by simp, .base (.dK h1), h⟩
    · exact h.elim
  · cases r with
    | lro s q =>
      refine ⟨"list", by simp, ?_, h⟩
      rcases s with ⟨o, s⟩ | ⟨o, its, n, e, cl, _⟩
      · exact .base (.frz s)
      · exact .kList e cl
  · exact h.elim
theorem kit_all : (["NoneType", "bool", "int", "str", "tuple", "list", "dict"].all fun t => ["int", "str", "bool", "tuple", "list", "dict"].all fun c => kitB t c == some (isTy t c)) = true := by decide +kernel
theorem kit_at {K : PySem.W.Frag} {t c : String} (ht : t ∈ ["NoneType", "bool", "int", "str", "tuple", "list", "dict"]) (hc : c ∈ ["int", "str", "bool", "tuple", "list", "dict"]) : PySem.W.kitOne K (.type t) (.type c) = some (isTy t c) :=
  kit_ty (beq_iff_eq.mp (List.all_eq_true.mp (List.all_eq_true.mp kit_all t ht) c hc))
theorem d_isi1 {c : String} {y : Str} {py : Pos} (hm : X.mg "isinstance" = none) (hmy : X.mg y = none) (hvy : bootBuiltins y = some (.type c)) (hc : c ∈ ["int", "str", "bool", "tuple", "list", "dict"]) (ha : SE X CA XE a f) (hg : Gl X "isinstance" := by rfl) (hgy : Gl X y := by rfl)
    (hny : y ≠ "__name__" := by decide) (hdy : (y == ("__debug__" : Str)) = false := by decide)
    (he : starEach [a, .Name y py] X.env = (false, eval a X.env) :: starEach [.Name y py] X.env := by rfl) (he2 : starEach [.Name y py] X.env = (false, eval (.Name y py) X.env) :: starEach [] X.env := by rfl) (hpl : (backTo pos (starEach [.Name y py] X.env)).any (·.1) = false := by rfl) :
    SE X CA XE (.Call (.Name "isinstance" p) [a, .Name y py] [] pos) (eIsi f [c]) :=
  PE_weak (pe_callB call_isi hg hm (by decide +kernel) (pa_cons ha (pa_cons (pe_bltn (v := .ty c) hgy hmy hvy rfl hny hdy) pa_nil he2) he) (by decide) (by decide) he hpl) fun σ H Q ⟨env, M, Ed, Qd, p, q, k⟩ => ⟨env, M, Ed, _, p, q, fun d M1 v H1 q1 r1 R1 T1 => by
    obtain ⟨t, ht, ty, q2⟩ := ty_of (c := cn X CA) r1 R1 q1
    exact ⟨_, _, _, _, _, rfl, .ty c, ty, kit_at ht hc, k _ _ _ _ (by simpa using q2) (.bl _) R1 T1⟩⟩
theorem d_isi2 {c c' : String} {y y' : Str} {py py' pt : Pos} {kt : Nat} (hm : X.mg "isinstance" = none) (hmy : X.mg y = none) (hvy : bootBuiltins y = some (.type c)) (hc : c ∈ ["int", "str", "bool", "tuple", "list", "dict"])
    (hmy' : X.mg y' = none) (hvy' : bootBuiltins y' = some (.type c')) (hc' : c' ∈ ["int", "str", "bool", "tuple", "list", "dict"]) (ha : SE X CA XE a f) (hg : Gl X "isinstance" := by rfl) (hgy : Gl X y := by rfl) (hgy' : Gl X y' := by rfl)
    (hny : y ≠ "__name__" := by decide) (hdy : (y == ("__debug__" : Str)) = false := by decide) (hny' : y' ≠ "__name__" := by decide) (hdy' : (y' == ("__debug__" : Str)) = false := by decide)
    (he : starEach [a, .Tuple [.Name y py, .Name y' py'] kt pt] X.env = (false, eval a X.env) :: starEach [.Tuple [.Name y py, .Name y' py'] kt pt] X.env := by rfl) (he2 : starEach [.Tuple [.Name y py, .Name y' py'] kt pt] X.env = (false, eval (.Tuple [.Name y py, .Name y' py'] kt pt) X.env) :: starEach [] X.env := by rfl)
    (he3 : starEach [.Name y py, .Name y' py'] X.env = (false, eval (.Name y py) X.env) :: starEach [.Name y' py'] X.env := by rfl) (he4 : starEach [.Name y' py'] X.env = (false, eval (.Name y' py') X.env) :: starEach [] X.env := by rfl)
    (hpl : (backTo pos (starEach [.Tuple [.Name y py, .Name y' py'] kt pt] X.env)).any (·.1) = false := by rfl) :
    SE X CA XE (.Call (.Name "isinstance" p) [a, .Tuple [.Name y py, .Name y' py'] kt pt] [] pos) (eIsi f [c, c']) :=
  PE_weak (pe_callB call_isiT hg hm (by decide +kernel) (pa_cons ha (pa_cons (pe_tup (pa_cons (pe_bltn (v := .ty c) hgy hmy hvy rfl hny hdy) (pa_cons (pe_bltn (v := .ty c') hgy' hmy' hvy' rfl hny' hdy') pa_nil he4) he3)) pa_nil he2) he) (by decide) (by decide) he hpl) fun σ H Q ⟨env, M, Ed, Qd, p, q, k⟩ => ⟨env, M, Ed, _, p, q, fun d M1 v H1 q1 r1 R1 T1 => by
    refine ⟨by show 2 ≤ sizeLine; decide, fun l hl => ?_⟩
    obtain ⟨t, ht, ty, q2⟩ := ty_of (c := cn X CA) (r1.m (Tups.new (ho := .tup [.ty c, .ty c']) hl)) (R1.keep (ho := .tup [.ty c, .ty c']) hl) q1
    refine ⟨_, l, _, _, [.type c, .type c'], isTy t c || isTy t c', rfl, upd_same, .cons (.ty c) (.cons (.ty c') .nil), ty, ?_, k _ _ _ _ (by simpa using q2) (.bl _) (R1.keep hl) (T1.trans (Tups.new hl))⟩
    refine kitAny_cons (kit_at ht hc) (fun e => ?_) (fun e => by rw [e]; rfl)
    rw [e, Bool.false_or]
    refine kitAny_cons (kit_at ht hc') (fun e => ?_) (fun e => e)
    rw [e]
    rfl⟩
end
end DL

set_option Elab.async false
set_option linter.all false
set_option maxRecDepth 100000
set_option maxHeartbeats 4000000
/-! DE5: dicts and lists that are made and changed -/
namespace DL
open PySem PySem.Spec PyProof.Rows L2
section
variable {X : Cx} {CA : String → Addr} {XE : XK} {a b e : Expr} {es rest : List Expr} {f g h : WE} {fs : List WE} {pos p apos cpos : Pos} {t u : WT} {x : Str}
theorem d_dk : SE X CA XE (.Dict [] [] pos) eDk :=
  PE_weak pe_dnewK fun σ H Q ⟨env, M, Ed, Qd, p, q, k⟩ l hl => k _ _ _ _ (q l (p.r.fresh hl)) (.ref l) (p.r.at (Tups.new hl) ⟨[], upd_same, .nil⟩) (Tups.new hl)
def tDNewN (c : Cn) : TE := fun _ H Q => ∀ p, H p = none → Q (.ref p) (upd H p (NDict c p []))
theorem pe_dnewN : PE X (.Dict [] [] pos) (tDNewN (cn X CA)) := ⟨fun pins s σ H Q I h =>
  wpAny_Dict_empty ⟨.ref s.heap.objs.size, _, I.laid (a := s.heap.objs.size) (o := NDict (cn X CA) s.heap.objs.size []) (t' := s.toks) (fun _ _ q => Heap.get?_push_of_some _ q) (Nat.le_refl _)
    ⟨⟨Nat.zero_le _, beq_eq_false_iff_ne.mpr (Ne.symm (Nat.ne_of_lt I.big)), [], .nil, ⟨_, #[], 0, Heap.get?_push_size _ rfl, ⟨rfl, rfl, rfl⟩, rfl, rfl⟩, List.nodup_nil⟩, ⟨_, Heap.get?_push_size _ rfl⟩,
      fun h1 h2 ⟨a, b, xs, c, ⟨o, es, ep, d, e⟩, f⟩ k => ⟨a, b, xs, c, ⟨o, es, ep, k _ d, e⟩, f⟩⟩, rfl, h _ (I.hok.fresh (Nat.le_refl _))⟩⟩
theorem d_dn : SE X CA XE (.Dict [] [] pos) eDn :=
  PE_weak (pe_dnewN (CA := CA)) fun σ H Q ⟨env, M, Ed, Qd, p, q, k⟩ l hl => k _ _ _ _ (q l (p.r.fresh hl)) (.ref l) (p.r.at (Tups.new hl) ⟨[], upd_same, .nil⟩) (Tups.new hl)
/-! ## d.get -/
def IsDA (c : Cn) (H : Hp) (a : Addr) : Prop := (∃ kvs, H a = some (.dK kvs)) ∨ ∃ es, H a = some (NDict c a es)
theorem isDA_at {pins : List (Addr × Obj)} {σ : L2.St} {H : Hp} {s : Shared} {a : Addr} (I : Inv X pins σ H s) (d : IsDA (cn X CA) H a) :
    s.TypeIs (.ref a) "dict" ∧ (∀ b, Value.ref a = .ref b → ∃ ob, s.heap.get? b = some ob ∧ ob.dict = none) := by
  rcases d with ⟨kvs, e⟩ | ⟨es, e⟩
  · obtain ⟨x, y, _⟩ := isD_at I (.inl ⟨kvs, .inl e⟩)
    exact ⟨x, y⟩
  · obtain ⟨⟨_, _, _, _, ⟨o, es', ep, h1, h2, _⟩, _⟩, _⟩ := I.hok a _ e
    refine ⟨⟨o, h1, h2.1⟩, fun b q => ?_⟩
    cases q
    exact ⟨o, h1, h2.2.1⟩
/-- what d.get(y, z) hands on -/
def GetA (c : Cn) (a : Addr) (y z : V) (H : Hp) (Q : VK) : Prop := (∃ o, DGet H a y o ∧ Q (o.getD z) H) ∨
  ∃ b es kvs k, y = .ref b ∧ Rd H a (NDict c a es) ∧ PDn c H es kvs ∧ Rep c.K H (.ref b) k ∧ nkOk k = true ∧ (∀ d v, lk kvs k = some d → Rep c.K H v d → Q v H) ∧ (lk kvs k = none → Q z H)
def tGet1A (c : Cn) (td ty : TE) : TE := fun σ H Q => td σ H fun x H1 => ∃ a, x = .ref a ∧ IsDA c H1 a ∧ ty σ H1 fun y H2 => GetA c a y .non H2 Q
def tGet2A (c : Cn) (td ty tz : TE) : TE := fun σ H Q => td σ H fun x H1 => ∃ a, x = .ref a ∧ IsDA c H1 a ∧ ty σ H1 fun y H2 => tz σ H2 fun z H3 => GetA c a y z H3 Q
theorem pe_get1A {k : Nat} {td ty : TE} (hr : Room k X.A) (ho : PE X a td) (he : PE X b ty) (m : M1 X a "get" apos b cpos) : PE X (.Call (.Attribute a "get" apos) [b] [] cpos) (tGet1A (cn X CA) td ty) := by
  refine ⟨fun pins s σ H Q I h => ?_⟩
  refine wpAny_Call_method m.base m.few m.line PySem.F.plainAttrs_dict PySem.F.slot_dict_get PySem.F.type_dict_get (thn (ho.run pins s σ H _ I h) fun u s1 ⟨x, H1, I1, rx, a, ex, d, q1⟩ => ?_)
  subst ex
  obtain rfl : u = Value.ref a := rx
  obtain ⟨t1, t2⟩ := isDA_at I1 d
  refine ⟨t1, t2, ?_⟩
  rw [m.trees]
  refine Calls.callWith_builtin rfl (Calls.evalArgs_plain (Calls.spliced_cons (thn (he.run pins s1 σ H1 _ I1 q1) fun iv s2 ⟨y, H2, I2, ry, q2⟩ => Calls.spliced_nil ?_)))
  rcases q2 with ⟨ov, g, q2⟩ | ⟨bb, es, kvs, k', ey, e, p, r, hk, h1, h2⟩
  · exact d_get1 (hu_of hr) I2 g ry fun w' s3 I3 rw' => ⟨_, H2, I3, rw', q2⟩
  · subst ey
    cases ry
    obtain ⟨z, hd, xs, pr, dd⟩ := nd_of I2 e p
    refine PySem.get_keyed (kvs := pairsH xs) (room_n hr) (nk_at I2 r hk) hd ⟨xs, dd, rfl⟩ ?_
    rw [valueAt_pairsH]
    have q := nd_at hk pr p
    cases el : lk kvs k' with
    | none => rw [q.2 el]; exact ⟨.non, H2, I2.tok _, rfl, h2 el⟩
    | some d => obtain ⟨b', v', u', e1, rv, rd⟩ := q.1 d el; rw [e1]; exact ⟨v', H2, I2.tok _, rv, h1 d v' el rd⟩
theorem pe_get2A {k : Nat} {td ty tz : TE} (hr : Room k X.A) (ho : PE X a td) (he : PE X b ty) (hf : PE X e tz) (m : M2 X a "get" apos b e cpos) : PE X (.Call (.Attribute a "get" apos) [b, e] [] cpos) (tGet2A (cn X CA) td ty tz) := by
  refine ⟨fun pins s σ H Q I h => ?_⟩
  refine wpAny_Call_method m.base m.few m.line PySem.F.plainAttrs_dict PySem.F.slot_dict_get PySem.F.type_dict_get (thn (ho.run pins s σ H _ I h) fun u s1 ⟨x, H1, I1, rx, a, ex, d, q1⟩ => ?_)
  subst ex
  obtain rfl : u = Value.ref a := rx
  obtain ⟨t1, t2⟩ := isDA_at I1 d
  refine ⟨t1, t2, ?_⟩
  rw [m.trees]
  refine Calls.callWith_builtin rfl (Calls.evalArgs_plain (Calls.spliced_cons (thn (he.run pins s1 σ H1 _ I1 q1) fun iv s2 ⟨y, H2, I2, ry, q2⟩ =>
    Calls.spliced_cons (thn (hf.run pins s2 σ H2 _ I2 q2) fun zv s3 ⟨z, H3, I3, rz, q3⟩ => Calls.spliced_nil ?_))))
  rcases q3 with ⟨ov, g, q2⟩ | ⟨bb, es, kvs, k', ey, e, p, r, hk, h1, h2⟩
  · exact d_get2 (hu_of hr) I3 g ry rz fun w' s4 I4 rw' => ⟨_, H3, I4, rw', q2⟩
  · subst ey
    cases ry
    obtain ⟨z', hd, xs, pr, dd⟩ := nd_of I3 e p
    refine PySem.getOr_keyed (kvs := pairsH xs) (room_n hr) (nk_at I3 r hk) hd ⟨xs, dd, rfl⟩ ?_
    rw [valueAt_pairsH]
    have q := nd_at hk pr p
    cases el : lk kvs k' with
    | none => rw [q.2 el]; exact ⟨z, H3, I3.tok _, rz, h2 el⟩
    | some d => obtain ⟨b', v', u', e1, rv, rd⟩ := q.1 d el; rw [e1]; exact ⟨v', H3, I3.tok _, rv, h1 d v' el rd⟩
theorem isDA_of {c : Cn} {v : V} {d : D} {M : Sto} {H : Hp} {k : Prop} (r : Rep c.K H v d) (hR : R c M H) (h : isDct d M k) : ∃ a, v = .ref a ∧ d = .ref a ∧ IsDA c H a ∧ k := by
  unfold isDct at h
  split at h
  · cases r
    split at h
    · obtain ⟨vs, h1, _⟩ := hR _ _ (by assumption)
      exact ⟨_, rfl, rfl, .inl ⟨_, h1⟩, h⟩
    · obtain ⟨vs, h1, _⟩ := hR _ _ (by assumption)
      exact ⟨_, rfl, rfl, .inr ⟨_, h1⟩, h⟩
    · exact h.elim
  · exact h.elim
theorem getA_of {c : Cn} {a : Addr} {y z : V} {dy : D} {M : Sto} {H : Hp} {Q : VK} {k : Option D → Prop} (ry : Rep c.K H y dy) (hR : R c M H) (h : refD (.ref a) M fun o => dLk o dy k) (h1 : ∀ d v, k (some d) → Rep c.K H v d → Q v H) (h2 : k none → Q z H) : GetA c a y z H Q := by
  unfold refD at h
  simp only at h
  split at h
  · rename_i o e
    unfold dLk at h
    split at h
    · split at h
      · rename_i κ ek
        obtain ⟨vs, e1, p1⟩ := (hR _ _ e).dk_rd (by assumption)
        have q := lk_val κ p1
        refine .inl ⟨valV vs κ, by rw [ry.key ek]; exact .inl ⟨vs, κ, e1, rfl, rfl⟩, ?_⟩
        cases el : lk _ κ with
        | none => rw [q.2 el]; rw [el] at h; exact h2 h
        | some d => obtain ⟨v, ev, rv⟩ := q.1 d el; rw [ev]; rw [el] at h; exact h1 d v h rv
      · exact h.elim
    · obtain ⟨es, e1, p1⟩ := (hR _ _ e).dn_rd (by assumption)
      obtain ⟨hk, h⟩ := h
      obtain ⟨xs, n, rfl, _, _⟩ := nkOk_nest hk
      cases ry with
      | tup s1 q1 => exact .inr ⟨_, es, _, _, rfl, e1, p1, .tup s1 q1, hk, fun d v el rv => h1 d v (by rw [el] at h; exact h) rv, fun el => h2 (by rw [el] at h; exact h)⟩
    · exact h.elim
  · exact h.elim
theorem d_get1 {k : Nat} (hr : Room k X.A) (ha : SE X CA XE a f) (hb : SE X CA XE b g) (m : M1 X a "get" apos b cpos := by exact ⟨rfl, rfl, rfl, rfl⟩) : SE X CA XE (.Call (.Attribute a "get" apos) [b] [] cpos) (eGet1 f g) :=
  PE_weak (pe_get1A (CA := CA) hr ha hb m) fun σ H Q ⟨env, M, Ed, Qd, p, q, k⟩ => ⟨env, M, Ed, _, p, q, fun d1 M1 v1 H1 q1 r1 R1 T1 => by
    obtain ⟨a', e1, e2, i, q1⟩ := isDA_of (c := cn X CA) r1 R1 q1
    subst e2
    exact ⟨a', e1, i, env, M1, Ed, _, p.to T1 R1, q1, fun d2 M2 v2 H2 q2 r2 R2 T2 => getA_of (c := cn X CA) r2 R2 q2 (fun d v q rv => k _ _ _ _ q rv R2 (T1.trans T2)) fun q => k _ _ _ _ q .non R2 (T1.trans T2)⟩⟩
theorem d_get2 {k : Nat} (hr : Room k X.A) (ha : SE X CA XE a f) (hb : SE X CA XE b g) (he : SE X CA XE e h) (m : M2 X a "get" apos b e cpos := by exact ⟨rfl, rfl, rfl, rfl⟩) : SE X CA XE (.Call (.Attribute a "get" apos) [b, e] [] cpos) (eGet2 f g h) :=
  PE_weak (pe_get2A (CA := CA) hr ha hb he m) fun σ H Q ⟨env, M, Ed, Qd, p, q, k⟩ => ⟨env, M, Ed, _, p, q, fun d1 M1 v1 H1 q1 r1 R1 T1 => by
    obtain ⟨a', e1, e2, i, q1⟩ := isDA_of (c := cn X CA) r1 R1 q1
    subst e2
    exact ⟨a', e1, i, env, M1, Ed, _, p.to T1 R1, q1, fun d2 M2 v2 H2 q2 r2 R2 T2 => ⟨env, M2, Ed, _, p.to (T1.trans T2) R2, q2, fun d3 M3 v3 H3 q3 r3 R3 T3 =>
      getA_of (c := cn X CA) (r2.m T3) R3 q3 (fun d v q rv => k _ _ _ _ q rv R3 (T1.trans (T2.trans T3))) fun q => k _ _ _ _ q r3 R3 (T1.trans (T2.trans T3))⟩⟩⟩
/-! ## d[k] = v -/
theorem ins_len {κ : Type} [DecidableEq κ] (kvs : List (κ × D)) (k : κ) (d : D) : (ins kvs k d).length ≤ kvs.length + 1 := by
  unfold ins
  split
  · rw [List.length_map]; omega
  · rw [List.length_append, List.length_singleton]; omega
theorem valV_none_notin {κ : Type} [DecidableEq κ] {vs : List (κ × V)} {k : κ} (h : valV vs k = none) : ∀ p ∈ vs, ¬ p.1 = k := fun p hp e => by
  have := (valV_any k vs)
  rw [h] at this
  have h2 : (vs.any fun kv => decide (kv.1 = k)) = true := List.any_eq_true.mpr ⟨p, hp, by simp [e]⟩
  rw [h2] at this; cases this
theorem paired_map {α β γ δ : Type} {F : α → β → Prop} {G : γ → δ → Prop} {f : α → γ} {g : β → δ} {l : List α} {r : List β} (h : Paired F l r) (k : ∀ a b, F a b → G (f a) (g b)) : Paired G (l.map f) (r.map g) := by
  induction h with
  | nil => exact .nil
  | cons r t ih => exact .cons (k _ _ r) ih
theorem paired_app {α β : Type} {F : α → β → Prop} {l l' : List α} {r r' : List β} (h : Paired F l r) (h' : Paired F l' r') : Paired F (l ++ l') (r ++ r') := by
  induction h with
  | nil => exact h'
  | cons r t ih => exact .cons r ih
theorem paired_any {α β : Type} {F : α → β → Prop} {l : List α} {r : List β} {f : α → Bool} {g : β → Bool} (h : Paired F l r) (k : ∀ a b, F a b → f a = g b) : l.any f = r.any g := by
  induction h with
  | nil => rfl
  | cons r t ih => rw [List.any_cons, List.any_cons, ih, k _ _ r]
theorem put_ins {K : PySem.W.Frag} {H : Hp} {κ : Key} {v : V} {d : D} (rv : Rep K H v d) {vs : List (L2.Key × V)} {kvs : List (Key × D)} (h : PKV K H vs kvs) : PKV K H (putK vs κ v) (ins kvs κ d) := by
  unfold putK ins
  rw [paired_any (g := fun kv => decide (kv.1 = κ)) h fun a b r => by rw [r.1]]
  split
  · refine paired_map h fun a b r => ?_
    by_cases e : b.1 = κ
    · rw [if_pos (by rw [r.1]; exact e), if_pos e]; exact ⟨r.1, rv⟩
    · rw [if_neg (by rw [r.1]; exact e), if_neg e]; exact r
  · exact paired_app h (.cons ⟨rfl, rv⟩ .nil)
/-- the nested one -/
def putN (es : List Ent) (k : NestedKey) (b : Addr) (v : V) : List Ent := if (es.any fun x => decide (x.1 = k)) = true then es.map fun x => if x.1 = k then (x.1, x.2.1, v) else x else es ++ [(k, b, v)]
theorem putN_x {es : List Ent} {xs : List (NestedKey × Addr × Value)} {k : NestedKey} {b : Addr} {v : V} {u : Value} (rv : RelV v u) (h : PEx es xs) : PEx (putN es k b v) (storedH xs k b u) := by
  have e1 : (atKey xs k).isSome = (es.any fun x => decide (x.1 = k)) := by
    induction h with
    | nil => rfl
    | @cons p q es xs r t ih =>
      rw [List.any_cons, ← ih, r.1]
      by_cases e : q.1 = k
      · simp [atKey, e]
      · simp [atKey, e]
  unfold putN storedH
  rw [e1]
  split
  · refine paired_map h fun a c r => ?_
    unfold putAt
    by_cases e : c.1 = k
    · rw [if_pos (by rw [r.1]; exact e), if_pos e]; exact ⟨r.1, r.2.1, rv⟩
    · rw [if_neg (by rw [r.1]; exact e), if_neg e]; exact r
  · exact paired_app h (.cons ⟨rfl, rfl, rv⟩ .nil)
theorem putN_d {c : Cn} {H : Hp} {es : List Ent} {kvs : List (D × D)} {k : D} {b : Addr} {v : V} {d : D} (hk : nkOk k = true) (rk : Rep c.K H (.ref b) k) (rv : Rep c.K H v d) (h : PDn c H es kvs) : PDn c H (putN es (nkD k) b v) (ins kvs k d) := by
  obtain ⟨_, m, _, em, _⟩ := nkOk_nest hk
  have key : ∀ (p : Ent) (q : D × D), (p.1 = nkD q.1 ∧ nkOk q.1 = true ∧ Rep c.K H (.ref p.2.1) q.1 ∧ Rep c.K H p.2.2 q.2) → (p.1 = nkD k ↔ q.1 = k) := fun p q r => by
    obtain ⟨_, n, _, en, _⟩ := nkOk_nest r.2.1
    exact ⟨fun z => nkD_inj q.1 k _ _ en em (by rw [← r.1, z]), fun z => by rw [r.1, z]⟩
  unfold putN ins
  rw [paired_any (g := fun kv => decide (kv.1 = k)) h fun a b r => by rw [decide_eq_decide]; exact key a b r]
  split
  · refine paired_map h fun a q r => ?_
    by_cases e : q.1 = k
    · rw [if_pos ((key a q r).mpr e), if_pos e]; exact ⟨r.1, r.2.1, r.2.2.1, rv⟩
    · rw [if_neg (fun z => e ((key a q r).mp z)), if_neg e]; exact r
  · exact paired_app h (.cons ⟨rfl, hk, rk, rv⟩ .nil)
theorem putN_len (es : List Ent) (k : NestedKey) (b : Addr) (v : V) : (putN es k b v).length ≤ es.length + 1 := by
  unfold putN
  split
  · rw [List.length_map]; omega
  · rw [List.length_append, List.length_singleton]; omega
/-- o[i] = v, by values: a list, a dict of either kind -/
def rSetA (c : Cn) : TSet := fun o i v H Q => rSetL o i v H Q ∨ ((∃ a kvs k, o = .ref a ∧ i = kV k ∧ H a = some (.dK kvs) ∧ kvs.length < sizeLine ∧ Q (upd H a (.dK (putK kvs k v)))) ∨
  ∃ a b es kvs k, o = .ref a ∧ i = .ref b ∧ H a = some (NDict c a es) ∧ PDn c H es kvs ∧ Rep c.K H (.ref b) k ∧ nkOk k = true ∧ es.length < sizeLine ∧ Q (upd H a (NDict c a (putN es (nkD k) b v))))
theorem set_A {k : Nat} (hr : Room k X.A) : PSet X (rSetA (cn X CA)) := by
  intro pins s σ H o i v ov iv u Q I ro ri rv h
  rcases h with h | ⟨a, kvs, k, rfl, rfl, e, hz, q⟩ | ⟨a, b, es, kvs, k, rfl, rfl, e, p, r, hk, hz, q⟩
  · exact set_list pins s σ H o i v ov iv u Q I ro ri rv h
  · cases ro
    exact d_setItem (hu_of hr) I (DPut.k e hz) ri rv fun s' I' => ⟨_, I', q⟩
  · cases ro; cases ri
    obtain ⟨z, hd, xs, pr, dd⟩ := nd_of I (.inl e) p
    have hl : es.length = xs.length := Paired.length pr
    refine wpAny_setItem_heap (knd := nestedKind X.prog X.w) (room_n hr) (nk_at I r hk) dd (fun h' hm' hs => ?_) (hsz := by rw [← hl]; exact z)
    obtain ⟨o', es', ep, h1, h2, h3, h4, _, h6⟩ := hm'
    refine ⟨_, d_write I (by rw [e]; exact trivial) hs ⟨o', h1⟩ ?_, q⟩
    refine ⟨⟨Nat.le_trans (putN_len _ _ _ _) hz, hd, _, putN_x rv pr, ⟨o', es', ep, h1, h2, h3, h4⟩, h6⟩, ⟨o', h1⟩, fun h1 h2 ⟨a, b, xs, c, ⟨o, es, ep, d, e⟩, f⟩ k => ⟨a, b, xs, c, ⟨o, es, ep, k _ d, e⟩, f⟩⟩
end
end DL

set_option Elab.async false
set_option linter.all false
set_option maxRecDepth 100000
set_option maxHeartbeats 4000000
/-! DE6: methods of lists, dict(pairs), calls of the text's defs -/
namespace DL
open PySem PySem.Spec PyProof.Rows L2
section
variable {X : Cx} {CA : String → Addr} {XE : XK} {a b e o : Expr} {es rest : List Expr} {f g h : WE} {fs : List WE} {pos p apos cpos : Pos} {t u : WT} {x m : Str}
theorem lstAt_of {c : Cn} {v : V} {d : D} {M : Sto} {H : Hp} {k : Addr → List D → Prop} (r : Rep c.K H v d) (hR : R c M H) (h : lstAt d M k) : ∃ a xs vs, v = .ref a ∧ d = .ref a ∧ M a = some (.lst xs) ∧ H a = some (.lst vs) ∧ Reps c.K H vs xs ∧ k a xs := by
  unfold lstAt at h
  split at h
  · cases r
    split at h
    · rename_i xs e
      obtain ⟨vs, h1, q⟩ := hR _ _ e
      exact ⟨_, xs, vs, rfl, rfl, e, h1, q, h⟩
    · exact h.elim
  · exact h.elim
theorem wr_lst {c : Cn} {M : Sto} {H : Hp} {a : Addr} {xs ys : List D} {vs ws : List V} (hR : R c M H) (hM : M a = some (.lst xs)) (h1 : H a = some (.lst vs)) (r : Reps c.K H ws ys) : R c (M.set a (.lst ys)) (upd H a (.lst ws)) ∧ Tups c.K H (upd H a (.lst ws)) := by
  have T : Tups c.K H (upd H a (.lst ws)) := Tups.wr h1 (ne_frz trivial)
  exact ⟨hR.at T ⟨ws, upd_same, r.m T⟩, T⟩
theorem d_append (ha : SE X CA XE a f) (hb : SE X CA XE b g) (hbase : attributeBase a "append" X.env (eval a X.env) = eval a X.env := by rfl)
    (hfew : ((backTo cpos (starEach [b] X.env)).all (fun x => !x.1) && (backToKw cpos (keywordEach [] X.env)).all (fun x => x.1.isSome) && decide ([b].length + ([] : List Keyword).length + (if ([] : List Keyword).isEmpty then 0 else 1) < 30)) = true := by rfl)
    (hline : (apos.endLine == cpos.line) = true := by rfl) (hs : starEach [b] X.env = (false, eval b X.env) :: starEach [] X.env := by rfl) (hplain : (backTo cpos (starEach [] X.env)).any (·.1) = false := by rfl) :
    SE X CA XE (.Call (.Attribute a "append" apos) [b] [] cpos) (eAppend f g) :=
  PE_weak (pe_bm PySem.F.plainAttrs_list PySem.F.slot_list_append PySem.F.type_list_append mt_append ha (pa_cons hb pa_nil hs) hbase hfew hline hs hplain) fun σ H Q ⟨env, M, Ed, Qd, p, q, k⟩ => ⟨env, M, Ed, _, p, q, fun d1 M1 v1 H1 q1 r1 R1 T1 => by
    obtain ⟨l, xs, vs, e1, e2, _, h1, _, q1⟩ := lstAt_of (c := cn X CA) r1 R1 q1
    subst e1 e2
    refine ⟨.inl ⟨rfl, _, SqL.of h1⟩, env, M1, Ed, _, p.to T1 R1, q1, fun d2 M2 v2 H2 q2 r2 R2 T2 => ?_⟩
    obtain ⟨l', ys, ws, e3, e4, hM, h2, rr, hz, q2⟩ := lstAt_of (c := cn X CA) (.ref l) R2 q2
    cases e3
    obtain ⟨x, y⟩ := wr_lst R2 hM h2 (rr.append (.cons r2 .nil))
    exact ⟨l, ws, v2, rfl, rfl, h2, by rw [rr.length]; exact hz, k _ _ _ _ q2 .non x (T1.trans (T2.trans y))⟩⟩
theorem d_extend (ha : SE X CA XE a f) (hb : SE X CA XE b g) (hbase : attributeBase a "extend" X.env (eval a X.env) = eval a X.env := by rfl)
    (hfew : ((backTo cpos (starEach [b] X.env)).all (fun x => !x.1) && (backToKw cpos (keywordEach [] X.env)).all (fun x => x.1.isSome) && decide ([b].length + ([] : List Keyword).length + (if ([] : List Keyword).isEmpty then 0 else 1) < 30)) = true := by rfl)
    (hline : (apos.endLine == cpos.line) = true := by rfl) (hs : starEach [b] X.env = (false, eval b X.env) :: starEach [] X.env := by rfl) (hplain : (backTo cpos (starEach [] X.env)).any (·.1) = false := by rfl) :
    SE X CA XE (.Call (.Attribute a "extend" apos) [b] [] cpos) (eExtend f g) :=
  PE_weak (pe_bm PySem.F.plainAttrs_list PySem.F.slot_list_extend PySem.F.type_list_extend mt_extend ha (pa_cons hb pa_nil hs) hbase hfew hline hs hplain) fun σ H Q ⟨env, M, Ed, Qd, p, q, k⟩ => ⟨env, M, Ed, _, p, q, fun d1 M1 v1 H1 q1 r1 R1 T1 => by
    obtain ⟨l, xs, vs, e1, e2, _, h1, _, q1⟩ := lstAt_of (c := cn X CA) r1 R1 q1
    subst e1 e2
    refine ⟨.inl ⟨rfl, _, SqL.of h1⟩, env, M1, Ed, _, p.to T1 R1, q1, fun d2 M2 v2 H2 q2 r2 R2 T2 => ?_⟩
    obtain ⟨l', ys, ws, e3, e4, hM, h2, rr, q2⟩ := lstAt_of (c := cn X CA) (.ref l) R2 q2
    cases e3
    obtain ⟨b', zs, us, e5, e6, hM3, h3, rr3, hz, q3⟩ := lstAt_of (c := cn X CA) r2 R2 q2
    subst e5
    obtain ⟨x, y⟩ := wr_lst R2 hM h2 (rr.append rr3)
    exact ⟨l, b', ws, us, rfl, rfl, h2, h3, by rw [rr.length, rr3.length]; exact hz, k _ _ _ _ q3 .non x (T1.trans (T2.trans y))⟩⟩
theorem last_get {α : Type} (xs : List α) : xs.getLast? = xs[xs.length - 1]? := List.getLast?_eq_getElem?
theorem d_pop (ha : SE X CA XE a f) (hbase : attributeBase a "pop" X.env (eval a X.env) = eval a X.env := by rfl) (hline : (apos.endLine == cpos.line) = true := by rfl) :
    SE X CA XE (.Call (.Attribute a "pop" apos) [] [] cpos) (ePop f) :=
  PE_weak (pe_bm0 PySem.F.plainAttrs_list PySem.F.slot_list_pop PySem.F.type_list_pop mt_pop ha hbase hline) fun σ H Q ⟨env, M, Ed, Qd, p, q, k⟩ => ⟨env, M, Ed, _, p, q, fun d1 M1 v1 H1 q1 r1 R1 T1 => by
    obtain ⟨l, xs, vs, e1, e2, hM, h1, rr, q2⟩ := lstAt_of (c := cn X CA) r1 R1 q1
    clear q1
    subst e1 e2
    split at q2
    · rename_i d e
      obtain ⟨v, ev, rv⟩ := rr.get (i := vs.length - 1) (by rw [rr.length, ← last_get]; exact e)
      obtain ⟨x, y⟩ := wr_lst R1 hM h1 rr.dropLast
      exact ⟨.inl ⟨rfl, _, SqL.of h1⟩, l, vs, v, rfl, rfl, h1, ev, k _ _ _ _ q2 (rv.m y) x (T1.trans y)⟩
    · exact q2.elim⟩
/-! ## dict(pairs) -/
theorem pairsK_at {pins : List (Addr × Obj)} {σ : L2.St} {H : Hp} {s : Shared} (I : Inv X pins σ H s) : ∀ {vs : List V} {us : List Value} {ds : List D} {kvs : List (Key × D)}, Reps X.K H vs ds → Vals vs us → pairsK ds = some kvs →
    ∃ (Ts : List Addr) (prs : List (Value × Value)) (vk : List (Key × Value)) (vkv : List (L2.Key × V)), us = Ts.map Value.ref ∧ Ts.length = prs.length ∧ prs.length = kvs.length ∧ vk.length = kvs.length ∧ KV vkv vk ∧ PKV X.K H vkv kvs ∧
      (∀ (j : Nat) (k v : Value), prs[j]? = some (k, v) → ∃ T : Addr, Ts[j]? = some T ∧ PairAt s.heap T k v) ∧ (∀ (j : Nat) (k v : Value), prs[j]? = some (k, v) → ∃ κ : L2.Key, vk[j]? = some (κ, v) ∧ keyIs κ k = true)
  | _, _, _, _, .nil, .nil, h => by
    simp [pairsK] at h; subst h
    exact ⟨[], [], [], [], rfl, rfl, rfl, rfl, .nil, .nil, fun j k v e => by simp at e, fun j k v e => by simp at e⟩
  | _, _, _, kvs, .cons (d := d) r t, .cons rv tv, h => by
    unfold pairsK at h
    split at h
    · rename_i e
      cases e
    · rename_i k v r' e
      cases e
      split at h
      · rename_i κ s' ek es
        cases h
        obtain ⟨Ts, prs, vk, vkv, e1, e2, e3, e4, e5, e6, e7, e8⟩ := pairsK_at I t tv es
        cases r with
        | @tup a vs _ s1 p1 =>
          cases rv
          obtain ⟨its, rr, ht, hz⟩ := I.tuple s1.s
          cases p1 with
          | @cons v1 _ _ _ q1 p2 =>
            cases p2 with
            | @cons v2 _ _ _ q2 p3 =>
              cases p3
              obtain ⟨u1, u2, rfl, w1, w2⟩ := vals2 rr
              refine ⟨a :: Ts, (u1, u2) :: prs, (κ, u2) :: vk, (κ, v2) :: vkv, by rw [e1]; rfl, by simp [e2], by simp [e3], by simp [e4], .cons ⟨rfl, w2⟩ e5, .cons ⟨rfl, q2⟩ e6, ?_, ?_⟩
              · intro j k' v' e
                cases j with
                | zero =>
                  simp at e
                  obtain ⟨rfl, rfl⟩ := e
                  exact ⟨a, rfl, .inl ht⟩
                | succ j => exact e7 j k' v' (by simpa using e)
              · intro j k' v' e
                cases j with
                | zero =>
                  simp at e
                  obtain ⟨rfl, rfl⟩ := e
                  refine ⟨κ, rfl, ?_⟩
                  have := q1.key ek
                  subst this
                  exact kV_is (P := X.prog) (w := X.w) w1
                | succ j => exact e8 j k' v' (by simpa using e)
      · cases h
    · cases h
theorem merge_ins {K : PySem.W.Frag} {H : Hp} : ∀ {vs : List (L2.Key × V)} {kvs : List (Key × D)} {as : List (L2.Key × V)} {bs : List (Key × D)}, PKV K H vs kvs → PKV K H as bs → PKV K H (mergeK as vs) (insAll bs kvs)
  | _, _, _, _, .nil, h => h
  | _, _, _, _, .cons (a := p) (b := q) r t, h => by
    unfold mergeK insAll
    rw [List.foldl_cons, List.foldl_cons, r.1]
    exact merge_ins t (put_ins r.2 h)
def rDictA (K : PySem.W.Frag) : List V → Hp → VK → Prop := fun xs H Q => ∃ a vs ds kvs, xs = [.ref a] ∧ (SqD K H a vs ∨ H a = some (.lst vs)) ∧ Reps K H vs ds ∧ pairsK ds = some kvs ∧ ∀ p vkv, H p = none → PKV K H vkv kvs → Q (.ref p) (upd H p (.dK (mergeK [] vkv)))
theorem call_dictA (hcalm : X.calm = true) : CallR X (.type "dict") (rDictA X.K) := by
  intro pins s σ H xs us Q I r q
  obtain ⟨a, vs, ds, kvs, rfl, hs, rp, hp, q⟩ := q
  obtain ⟨u, rfl, rx⟩ := vals1 r
  cases rx
  have fin : ∀ (T : String) (its : List Value), (T = "tuple" ∨ T = "list") → Vals vs its → vs.length ≤ sizeLine → (∃ o n, s.heap.get? a = some o ∧ o.cls = .type T ∧ o.dict = none ∧ o.data = .seq its.toArray n) →
      wpAny (model X.prog X.w) X.A (call (.type "dict") [.ref a]) (EP X pins σ Q) X.xe s := by
    intro T its hT rv hz hpl
    obtain ⟨Ts, prs, vk, vkv, e1, e2, e3, e4, e5, e6, e7, e8⟩ := pairsK_at I rp rv hp
    have hlen : its.length = prs.length := by rw [e1, List.length_map, e2]
    have ok : PlainSeq T s.heap a its.toArray ∧ PairItems s.heap its.toArray (fun j => Ts.getD j 0) prs := by
      refine ⟨hpl, by rw [List.size_toArray]; exact hlen, fun j k v e => ?_⟩
      obtain ⟨T', h1, h2⟩ := e7 j k v e
      have h3 : Ts.getD j 0 = T' := by rw [List.getD_eq_getElem?_getD, h1]; rfl
      refine ⟨?_, by show PairAt s.heap (Ts.getD j 0) k v; rw [h3]; exact h2⟩
      show its.toArray[j]? = some (Value.ref (Ts.getD j 0))
      rw [List.getElem?_toArray, e1, List.getElem?_map, h1, h3]
      rfl
    have hv : PairsHave (mixKind X.prog X.w) prs.length (PairRel prs) vk := ⟨by rw [e4, e3], fun j k v e => e8 j k v e⟩
    have hz' : prs.length ≤ sizeLine := by rw [← hlen, ← rv.length]; exact hz
    have last : ∀ (h' : Heap) (tk : Nat), h'.DictOf (mixKind X.prog X.w) s.heap.objs.size (merged [] vk) → (∀ (b : Addr) (o : Obj), ¬b ∈ ([] : List Addr) → s.heap.get? b = some o → h'.get? b = some o) → EP X pins σ Q (.ref s.heap.objs.size) { s with heap := h', toks := tk } := by
      intro h' tk hd' k
      have hm : (s.heap.objs.size == sysModules) = false := beq_eq_false_iff_ne.mpr (Nat.ne_of_gt I.big)
      have hl2 : (mergeK [] vkv).length ≤ sizeLine := by
        refine Nat.le_trans (length_mergeK vkv []) ?_
        rw [List.length_nil, Nat.zero_add, Paired.length e6, ← e3]
        exact hz'
      exact ⟨.ref s.heap.objs.size, upd H s.heap.objs.size (.dK (mergeK [] vkv)), I.laid (t' := tk) (fun b o e => k b o (by simp) e) (Nat.le_refl _) (show ObjOk X.prog X.w _ _ _ (.dK (mergeK [] vkv)) from ⟨hl2, hm, merged [] vk, KV.merge e5 .nil, hd'⟩), rfl, q _ _ (I.hok.fresh (Nat.le_refl _)) e6⟩
    rcases hT with rfl | rfl
    · exact PySem.call_dict_pairs (PairArg.tuple a its.toArray (fun j => Ts.getD j 0) prs) (I.ok.hd hcalm) ok hv hz' last
    · exact PySem.call_dict_pairs (PairArg.list a its.toArray (fun j => Ts.getD j 0) prs) (I.ok.hd hcalm) ok hv hz' last
  rcases hs with (⟨its, h1⟩ | ⟨o, its, n, h1, h2, h3, h4, h5, h6⟩) | h1
  · obtain ⟨e, z, its', rv, o', e', c, n, d⟩ := (show ObjOk X.prog X.w H s.heap a (.frz (TupO its) (.tup vs)) from I.hok a _ h1)
    rw [e] at e'
    cases e'
    have ee : its = its' := by
      have d' : Data.seq its.toArray _ = Data.seq its'.toArray n := d
      injection d' with d1 _
      simpa using congrArg Array.toList d1
    subst ee
    exact fin "tuple" its (.inl rfl) rv z ⟨_, _, e, rfl, rfl, rfl⟩
  · have el := h6.length
    exact fin "tuple" its.toList (.inl rfl) h6 (by rw [el, Array.length_toList]; exact h5) ⟨o, n, I.kIn a o h1, h2, h3, by rw [h4, Array.toArray_toList]⟩
  · obtain ⟨z, its, n, rv, e⟩ := (show ObjOk X.prog X.w H s.heap a (.lst vs) from I.hok a _ h1)
    exact fin "list" its (.inr rfl) rv z ⟨_, n, e, rfl, rfl, rfl⟩
theorem d_dict (hc : X.calm = true) (hm : X.mg "dict" = none) (ha : SE X CA XE a f) (hg : Gl X "dict" := by rfl) (he : starEach [a] X.env = (false, eval a X.env) :: starEach [] X.env := by rfl) (hpl : (backTo pos (starEach [] X.env)).any (·.1) = false := by rfl) : SE X CA XE (.Call (.Name "dict" p) [a] [] pos) (eDict f) :=
  d_ty1 (G := fun d M Q => itemsD d M fun xs => match pairsK xs with
    | some kvs => ∀ p, M p = none → Q (.ref p) (M.set p (.dk (insAll [] kvs)))
    | none => False) (call_dictA hc) (fun v d M H Qd Q r1 hR h k => by
    unfold itemsD at h
    split at h
    · split at h
      · cases r1 with
        | tup s q =>
          refine ⟨_, _, _, _, rfl, .inl s, q, by assumption, fun p vkv hp hv => ?_⟩
          exact k _ _ _ _ (h p (hR.fresh hp)) (.ref p) (hR.at (Tups.new hp) ⟨_, upd_same, paired_mono (merge_ins hv .nil) fun _ _ z => ⟨z.1, z.2.m (Tups.new hp)⟩⟩) (Tups.new hp)
      · exact h.elim
    · cases r1
      split at h
      · split at h
        · obtain ⟨vs, h1, q⟩ := hR _ _ (by assumption)
          refine ⟨_, _, _, _, rfl, .inr h1, q, by assumption, fun p vkv hp hv => ?_⟩
          exact k _ _ _ _ (h p (hR.fresh hp)) (.ref p) (hR.at (Tups.new hp) ⟨_, upd_same, paired_mono (merge_ins hv .nil) fun _ _ z => ⟨z.1, z.2.m (Tups.new hp)⟩⟩) (Tups.new hp)
        · exact h.elim
      · exact h.elim
    · exact h.elim) hg hm (by decide +kernel) ha (he := he) (hpl := hpl)
end
end DL

set_option Elab.async false
set_option linter.all false
set_option maxRecDepth 100000
set_option maxHeartbeats 4000000
/-! DSt: statements, targets, loops, comprehensions, defs -/
namespace DL
open PySem PySem.Spec PyProof.Rows L2
structure KE (c : Cn) (H : Hp) (Dd : DL.Ends) (D : L2.Ends) : Prop where
  nx : ∀ env' M' σ' H', Dd.nx env' M' → RelEnv c.K H' σ' env' → R c M' H' → Tups c.K H H' → D.nx σ' H'
  rt : KQ c H Dd.rt D.rt
  bk : ∀ env' M' σ' H', Dd.bk env' M' → RelEnv c.K H' σ' env' → R c M' H' → Tups c.K H H' → D.bk σ' H'
  ct : ∀ env' M' σ' H', Dd.ct env' M' → RelEnv c.K H' σ' env' → R c M' H' → Tups c.K H H' → D.ct σ' H'
theorem KE.mono {c : Cn} {H H' : Hp} {Dd : DL.Ends} {D : L2.Ends} (k : KE c H Dd D) (t : Tups c.K H H') : KE c H' Dd D :=
  ⟨fun e m σ h q r a b => k.nx e m σ h q r a (t.trans b), k.rt.mono t, fun e m σ h q r a b => k.bk e m σ h q r a (t.trans b), fun e m σ h q r a b => k.ct e m σ h q r a (t.trans b)⟩
def tOfS (c : Cn) (XE : XK) (g : WS) : TS := fun D σ H => ∃ env M Ed Dd, Pre c XE σ H env M Ed ∧ g Ed Dd env M ∧ KE c H Dd D
def SS (X : Cx) (CA : String → Addr) (XE : XK) (st : Stmt) (g : WS) : Prop := PS X st (tOfS (cn X CA) XE g)
def SSs (X : Cx) (CA : String → Addr) (XE : XK) (st : List Stmt) (g : WS) : Prop := PSs X st (tOfS (cn X CA) XE g)
def OwnW (vs : List Nat) (σ σ1 : L2.St) : Prop := σ1.length = σ.length ∧ ∀ j, j ∉ vs → σ1[j]? = σ[j]?
theorem OwnW.refl {vs : List Nat} {σ : L2.St} : OwnW vs σ σ := ⟨rfl, fun _ _ => rfl⟩
theorem OwnW.trans {vs : List Nat} {σ σ1 σ2 : L2.St} (a : OwnW vs σ σ1) (b : OwnW vs σ1 σ2) : OwnW vs σ σ2 := ⟨b.1.trans a.1, fun j h => (b.2 j h).trans (a.2 j h)⟩
theorem wipe_get {σ : L2.St} {i : Nat} : ∀ {vs : List Nat}, i ∈ vs → i < σ.length → (L2.wipe σ vs)[i]? = some none
  | v :: vs, h, hl => by
    unfold L2.wipe
    by_cases e : i = v
    · subst e
      rw [List.getElem?_set_self (by rw [wipe_length]; exact hl)]
    · rw [List.getElem?_set_ne (Ne.symm e)]
      exact wipe_get ((List.mem_cons.mp h).resolve_left e) hl
theorem OwnW.wipe {vs : List Nat} {σ σ1 : L2.St} (a : OwnW vs (L2.wipe σ vs) σ1) : L2.wipe σ1 vs = L2.wipe σ vs := by
  have hl : σ1.length = σ.length := by rw [a.1, wipe_length]
  apply List.ext_getElem?
  intro i
  by_cases hi : i ∈ vs
  · by_cases hlt : i < σ.length
    · rw [wipe_get hi (by rw [hl]; exact hlt), wipe_get hi hlt]
    · rw [List.getElem?_eq_none (by rw [wipe_length, hl]; omega), List.getElem?_eq_none (by rw [wipe_length]; omega)]
  · rw [L2.wipe_out hi, a.2 i hi]
theorem RelEnv.wipe {K : PySem.W.Frag} {H : Hp} {σ : L2.St} {env : Ev} (r : RelEnv K H σ env) : ∀ vs : List Nat, RelEnv K H (L2.wipe σ vs) (DL.wipe env vs)
  | [] => r
  | v :: vs => by unfold L2.wipe DL.wipe; exact (RelEnv.wipe r vs).clear v
/-- a yielded pair may be a tuple that is no more than read -/
inductive RepY (K : PySem.W.Frag) (H : Hp) : V → D → Prop
  | rep {v : V} {d : D} : Rep K H v d → RepY K H v d
  | pair {a : Addr} {vs : List V} {ds : List D} : SqT K H a vs → Reps K H vs ds → RepY K H (.ref a) (.tup ds)
def RepB (y : Bool) (K : PySem.W.Frag) (H : Hp) (v : V) (d : D) : Prop := if y = true then RepY K H v d else Rep K H v d
theorem RepB.y {y : Bool} {K : PySem.W.Frag} {H : Hp} {v : V} {d : D} (r : RepB y K H v d) : RepY K H v d := by
  cases y with
  | true => exact r
  | false => exact .rep r
theorem Rep.b {y : Bool} {K : PySem.W.Frag} {H : Hp} {v : V} {d : D} (r : Rep K H v d) : RepB y K H v d := by
  cases y with
  | true => exact RepY.rep r
  | false => exact r
def tOfG (y : Bool) (c : Cn) (XE : XK) (vs : List Nat) (g : WG) : TG := fun v σ H Q => ∃ d env M Ed Qd, RepB y c.K H v d ∧ Pre c XE σ H env M Ed ∧ g d Ed env M Qd ∧
  ∀ env1 M1 σ1 H1, Qd env1 M1 → RelEnv c.K H1 σ1 env1 → R c M1 H1 → Tups c.K H H1 → OwnW vs σ σ1 → Q σ1 H1
def SG (y : Bool) (X : Cx) (CA : String → Addr) (XE : XK) (vs : List Nat) (tg : Expr) (g : WG) : Prop := PG X tg (tOfG y (cn X CA) XE vs g)
def tOfGs (c : Cn) (XE : XK) (vs : List Nat) (gs : List WG) : TGs := fun ws σ H Q => ∃ ds env M Ed Qd, Reps c.K H ws ds ∧ Pre c XE σ H env M Ed ∧ gAll gs ds Ed env M Qd ∧
  ∀ env1 M1 σ1 H1, Qd env1 M1 → RelEnv c.K H1 σ1 env1 → R c M1 H1 → Tups c.K H H1 → OwnW vs σ σ1 → Q σ1 H1
def SGs (X : Cx) (CA : String → Addr) (XE : XK) (vs : List Nat) (ts : List Expr) (gs : List WG) : Prop := PGs X ts (tOfGs (cn X CA) XE vs gs)
structure ItR (c : Cn) (y : Bool) (H1 : Hp) (J : It) (chk : Sto → Prop) (xs : List D) : Prop where
  go : ∀ i H M, Tups c.K H1 H → R c M H → chk M → i < xs.length → J.go i H
  stop : ∀ H M, Tups c.K H1 H → R c M H → chk M → J.stop xs.length H
  yld : ∀ i H x H' M, Tups c.K H1 H → R c M H → chk M → J.yld i H x H' → ∀ d, xs[i]? = some d → RepB y c.K H' x d ∧ R c M H' ∧ Tups c.K H H'
def tOfI (y : Bool) (c : Cn) (XE : XK) (src : WI) : TI := fun σ H Rk => ∃ env M Ed kd, Pre c XE σ H env M Ed ∧ src Ed env M kd ∧ ∀ chk xs M1 H1 J, kd chk xs M1 → R c M1 H1 → Tups c.K H H1 → ItR c y H1 J chk xs → Rk J H1
def SI (y : Bool) (X : Cx) (CA : String → Addr) (XE : XK) (tg iter : Expr) (src : WI) : Prop := PI X tg iter (tOfI y (cn X CA) XE src)
section
variable {X : Cx} {st : Stmt} {sts : List Stmt} {tg iter : Expr} {ts : List Expr}
theorem PS_weak {t t' : TS} (h : PS X st t) (w : ∀ D σ H, t' D σ H → t D σ H) : PS X st t' := ⟨fun pins s σ H D I q => h.run pins s σ H D I (w D σ H q)⟩
theorem PSs_weak {t t' : TS} (h : PSs X sts t) (w : ∀ D σ H, t' D σ H → t D σ H) : PSs X sts t' := ⟨fun pins s σ H D I q => h.run pins s σ H D I (w D σ H q)⟩
theorem PG_weak {t t' : TG} (h : PG X tg t) (w : ∀ v σ H Q, t' v σ H Q → t v σ H Q) : PG X tg t' := ⟨fun pins s σ H v u Q I r q => h.run pins s σ H v u Q I r (w v σ H Q q)⟩
theorem PGs_weak {t t' : TGs} (h : PGs X ts t) (w : ∀ v σ H Q, t' v σ H Q → t v σ H Q) : PGs X ts t' := ⟨fun pins s σ H v u Q I r q => h.run pins s σ H v u Q I r (w v σ H Q q)⟩
theorem PI_weak {t t' : TI} (h : PI X tg iter t) (w : ∀ σ H Q, t' σ H Q → t σ H Q) : PI X tg iter t' := ⟨fun pins s σ H Q I q => h.run pins s σ H Q I (w σ H Q q)⟩
end
section
variable {X : Cx} {CA : String → Addr} {XE : XK} {a b e o : Expr} {es : List Expr} {f g h : WE} {gt gs' : WG} {fs : List WE} {pos : Pos} {t u : WT} {x m : Str} {st : Stmt} {sts sts' : List Stmt} {s s' : WS} {y : Bool} {vs : List Nat} {tg iter : Expr} {ts : List Expr} {gs : List WG} {src : WI}
/-! ## targets -/
theorem g_name (i : Nat) {x : Str} (hN : X.N.Nodup) (hv : i ∈ vs) (hi : X.N[i]? = some x := by rfl) (hx : Loc X.env.scope x := by first | exact Or.inl rfl | exact Or.inr rfl) (hf : X.fn x = true ∨ X.env.scope.names.lookup x = some .local := by first | exact .inl rfl | exact .inr rfl | assumption) : SG false X CA XE vs (.Name x pos) (gName i) :=
  PG_weak (pg_name hN hi hx hf) fun v σ H Q ⟨d, env, M, Ed, Qd, r, p, q, k⟩ => k _ _ _ _ q (p.e.put r i) p.r .refl ⟨List.length_set, fun j hj => List.getElem?_set_ne (fun z => hj (by rw [← z]; exact hv))⟩
theorem gs_nil : SGs X CA XE vs [] [] := PGs_weak pgs_nil fun v σ H Q ⟨ds, env, M, Ed, Qd, r, p, q, k⟩ => by
  cases r with
  | nil => exact ⟨rfl, k _ _ _ _ q p.e p.r .refl .refl⟩
  | cons _ _ => exact q.elim
theorem gs_cons (h1 : SG false X CA XE vs e gt) (h2 : SGs X CA XE vs es gs) (hs : (assignEach (e :: es) X.env).map (·.2) = assign e X.env :: (assignEach es X.env).map (·.2) := by rfl) : SGs X CA XE vs (e :: es) (gt :: gs) :=
  PGs_weak (pgs_cons h1 h2 hs) fun v σ H Q ⟨ds, env, M, Ed, Qd, r, p, q, k⟩ => by
    cases r with
    | nil => exact q.elim
    | @cons v d vs' ds' r1 r2 =>
      exact ⟨v, vs', rfl, d, env, M, Ed, _, r1, p, q, fun env1 M1 σ1 H1 q1 e1 R1 T1 O1 => ⟨ds', env1, M1, Ed, Qd, r2.m T1, ⟨e1, R1, p.x.mono T1⟩, q1, fun env2 M2 σ2 H2 q2 e2 R2 T2 O2 => k _ _ _ _ q2 e2 R2 (T1.trans T2) (O1.trans O2)⟩⟩
theorem g_tup {k n : Nat} (hc : X.calm = true) (h : SGs X CA XE vs es gs) (hl : gs.length = n := by rfl)
    (hn : (assignEach es X.env).length = n := by rfl) (hst : (assignEach es X.env).findIdx? (·.1) = none := by rfl) : SG y X CA XE vs (.Tuple es k pos) (gTup gs) :=
  PG_weak (pg_tup hc h hn hst) fun v σ H Q ⟨d, env, M, Ed, Qd, r, p, q, k⟩ => by
    have r := r.y
    unfold DL.gTup at q
    split at q
    · obtain ⟨hd, q⟩ := q
      cases r with
      | rep r =>
        cases r with
        | tup s r1 => exact ⟨_, _, rfl, s.s, by rw [r1.length, hd, hl], _, env, M, Ed, Qd, r1, p, q, k⟩
      | pair s r1 => exact ⟨_, _, rfl, s, by rw [r1.length, hd, hl], _, env, M, Ed, Qd, r1, p, q, k⟩
    · exact q.elim
theorem g_sub {k : Nat} (hr : Room k X.A) (ha : SE X CA XE a f) (hb : SE X CA XE b g)
    (hq : ∀ v, assign (.Subscript a b pos) X.env v = (do
      let ov ← holding [v] (eval a X.env)
      let iv ← holding [v, ov] (eval b X.env)
      standAt pos
      holding [v, ov, iv] (setItem ov iv v)
      release [v, ov, iv] []) := by intro _; rfl) : SG false X CA XE vs (.Subscript a b pos) (gSub f g) :=
  PG_weak (pg_sub ha hb (set_A (CA := CA) hr) hq) fun v σ H Q ⟨d, env, M, Ed, Qd, r, p, q, k⟩ => by
    refine ⟨env, M, Ed, _, p, q, fun d1 M1 v1 H1 q1 r1 R1 T1 => ⟨env, M1, Ed, _, p.to T1 R1, q1, fun d2 M2 v2 H2 q2 r2 R2 T2 => ?_⟩⟩
    have r0 : Rep (cn X CA).K H2 v d := Rep.m r (T1.trans T2)
    have r1 := r1.m T2
    have T := T1.trans T2
    unfold setD at q2
    split at q2
    · cases r1
      split at q2
      · split at q2
        · split at q2
          · rename_i j ej
            cases r2
            obtain ⟨ws, h1, rr⟩ := R2 _ _ (by assumption)
            have T3 : Tups (cn X CA).K H2 (upd H2 _ (.lst (ws.set j v))) := Tups.wr h1 (ne_frz trivial)
            exact .inl ⟨_, ws, _, j, rfl, rfl, h1, by rw [rr.length]; exact ej, k _ _ _ _ q2 (p.e.mono (T.trans T3)) (R2.at T3 ⟨_, upd_same, (rr.set r0 j).m T3⟩) (T.trans T3) .refl⟩
          · exact q2.elim
        · exact q2.elim
      · split at q2
        · rename_i κ ek
          obtain ⟨ws, h1, rr⟩ := R2 _ _ (by assumption)
          have T3 : Tups (cn X CA).K H2 (upd H2 _ (.dK (putK ws κ v))) := Tups.wr h1 (ne_frz trivial)
          exact .inr (.inl ⟨_, ws, κ, rfl, r2.key ek, h1, by rw [Paired.length rr]; exact q2.1, k _ _ _ _ q2.2 (p.e.mono (T.trans T3)) (R2.at T3 ⟨_, upd_same, paired_mono (put_ins r0 rr) fun _ _ z => ⟨z.1, z.2.m T3⟩⟩) (T.trans T3) .refl⟩)
        · exact q2.elim
      · rename_i aa _ kvs eM
        obtain ⟨ws, h1, rr⟩ := R2 _ _ eM
        obtain ⟨hk, hz, q2⟩ := q2
        obtain ⟨xs, n, rfl, _, _⟩ := nkOk_nest hk
        cases r2 with
        | @tup bb _ _ s1 p1 =>
          have T3 : Tups (cn X CA).K H2 (upd H2 aa (NDict (cn X CA) aa (putN ws (nkD (.tup xs)) bb v))) := Tups.wr h1 (ne_frz trivial)
          exact .inr (.inr ⟨_, bb, ws, _, .tup xs, rfl, rfl, h1, rr, .tup s1 p1, hk, by rw [Paired.length rr]; exact hz, k _ _ _ _ q2 (p.e.mono (T.trans T3)) (R2.at T3 ⟨_, upd_same, paired_mono (putN_d hk (.tup s1 p1) r0 rr) fun _ _ z => ⟨z.1, z.2.1, z.2.2.1.m T3, z.2.2.2.m T3⟩⟩) (T.trans T3) .refl⟩)
      · exact q2.elim
    · exact q2.elim
/-! ## statements -/
theorem ss_nil : SSs X CA XE [] sNil := PSs_weak pss_nil fun D σ H ⟨env, M, Ed, Dd, p, q, k⟩ => k.nx _ _ _ _ q p.e p.r .refl
theorem ss_cons (h1 : SS X CA XE st s) (h2 : SSs X CA XE sts s') : SSs X CA XE (st :: sts) (sSeq s s') :=
  PSs_weak (pss_cons h1 h2) fun D σ H ⟨env, M, Ed, Dd, p, q, k⟩ => ⟨env, M, Ed, _, p, q, ⟨fun e' M' σ' H' q' r' R' T' => ⟨e', M', Ed, Dd, ⟨r', R', p.x.mono T'⟩, q', k.mono T'⟩, k.rt, k.bk, k.ct⟩⟩
theorem ss_one (h1 : SS X CA XE st s) : SSs X CA XE [st] s := pss_one h1
theorem s_asg (ha : SE X CA XE a f) (hg : SG false X CA XE vs tg gt) (hs : swapsWithSole [tg] a pos.line X.env = pure false := by rfl) (hw : swappedStores [tg] a X.env = pure none := by rfl)
    (h1 : (assignEach [tg] X.env).map (·.2) = [assign tg X.env] := by rfl) : SS X CA XE (.Assign [tg] a pos) (sAsg f gt) :=
  PS_weak (ps_asg ha hg hs hw h1) fun D σ H ⟨env, M, Ed, Dd, p, q, k⟩ => ⟨env, M, Ed, _, p, q, fun d M1 v H1 q1 r1 R1 T1 => ⟨d, env, M1, Ed, _, r1, p.to T1 R1, q1, fun e' M' σ' H' q' r' R' T' _ => k.nx _ _ _ _ q' r' R' (T1.trans T')⟩⟩
theorem s_set (i : Nat) {x : Str} {pos' : Pos} (hN : X.N.Nodup) (ha : SE X CA XE a f) (hi : X.N[i]? = some x := by rfl) (hx : Loc X.env.scope x := by first | exact Or.inl rfl | exact Or.inr rfl) (hs : swapsWith a (some (.Name x pos')) pos.line X.env = pure false := by rfl)
    (hf : X.fn x = true ∨ X.env.scope.names.lookup x = some .local := by first | exact .inl rfl | exact .inr rfl | assumption) : SS X CA XE (.Assign [.Name x pos'] a pos) (sAsg f (gName i)) :=
  PS_weak (ps_set hN hi hx ha hs hf) fun D σ H ⟨env, M, Ed, Dd, p, q, k⟩ => ⟨env, M, Ed, _, p, q, fun d M1 v H1 q1 r1 R1 T1 => k.nx _ _ _ _ q1 ((p.e.mono T1).put r1 i) R1 T1⟩
/-- a, b = x, y of local names -/
theorem s_par (i j : Nat) {x y : Str} {px py pt : Pos} {kt k2 pt2} (hc : X.calm = true) (hN : X.N.Nodup) (hij : i ≠ j) (ha : SE X CA XE a f) (hb : SE X CA XE b g)
    (hw : swappedStores [.Tuple [.Name x px, .Name y py] kt pt] (.Tuple [a, b] k2 pt2) X.env = pure (some [x, y])) (hi : X.N[i]? = some x := by rfl) (hj : X.N[j]? = some y := by rfl)
    (hx : X.env.scope.names.lookup x = some .local := by rfl) (hy : X.env.scope.names.lookup y = some .local := by rfl) (he : starEach [a, b] X.env = (false, eval a X.env) :: starEach [b] X.env := by rfl) (he2 : starEach [b] X.env = (false, eval b X.env) :: starEach [] X.env := by rfl)
    (hs : swapsWithSole [.Tuple [.Name x px, .Name y py] kt pt] (.Tuple [a, b] k2 pt2) pos.line X.env = pure false := by rfl) :
    SS X CA XE (.Assign [.Tuple [.Name x px, .Name y py] kt pt] (.Tuple [a, b] k2 pt2) pos) (sAsg (eTup [f, g]) (gTup [gName i, gName j])) :=
  PS_weak (ps_par hc hN hi hj hij hx hy (pa_cons ha (pa_cons hb pa_nil he2) he) hw hs) fun D σ H ⟨env, M, Ed, Dd, p, q, k⟩ => ⟨env, M, Ed, _, p, q, fun d1 M1 v1 H1 q1 r1 R1 T1 => ⟨env, M1, Ed, _, p.to T1 R1, q1, fun d2 M2 v2 H2 q2 r2 R2 T2 =>
    ⟨v1, v2, rfl, k.nx _ _ _ _ q2.2 ((((p.e.mono (T1.trans T2)).put (r1.m T2) i)).put r2 j) R2 (T1.trans T2)⟩⟩⟩
theorem s_par3 (i j l : Nat) {c : Expr} {x y z : Str} {px py pz pt : Pos} {kt k2 pt2} (hc : X.calm = true) (hN : X.N.Nodup) (hij : i ≠ j) (hil : i ≠ l) (hjl : j ≠ l) (ha : SE X CA XE a f) (hb : SE X CA XE b g) (hcc : SE X CA XE c h)
    (hw : swappedStores [.Tuple [.Name x px, .Name y py, .Name z pz] kt pt] (.Tuple [a, b, c] k2 pt2) X.env = pure (some [x, y, z])) (hi : X.N[i]? = some x := by rfl) (hj : X.N[j]? = some y := by rfl) (hl : X.N[l]? = some z := by rfl)
    (hx : X.env.scope.names.lookup x = some .local := by rfl) (hy : X.env.scope.names.lookup y = some .local := by rfl) (hz : X.env.scope.names.lookup z = some .local := by rfl) (he : starEach [a, b, c] X.env = (false, eval a X.env) :: starEach [b, c] X.env := by rfl) (he2 : starEach [b, c] X.env = (false, eval b X.env) :: starEach [c] X.env := by rfl) (he3 : starEach [c] X.env = (false, eval c X.env) :: starEach [] X.env := by rfl)
    (hs : swapsWithSole [.Tuple [.Name x px, .Name y py, .Name z pz] kt pt] (.Tuple [a, b, c] k2 pt2) pos.line X.env = pure false := by rfl) :
    SS X CA XE (.Assign [.Tuple [.Name x px, .Name y py, .Name z pz] kt pt] (.Tuple [a, b, c] k2 pt2) pos) (sAsg (eTup [f, g, h]) (gTup [gName i, gName j, gName l])) :=
  PS_weak (ps_par3 hc hN hi hj hl hij hil hjl hx hy hz (pa_cons ha (pa_cons hb (pa_cons hcc pa_nil he3) he2) he) hw hs) fun D σ H ⟨env, M, Ed, Dd, p, q, k⟩ => ⟨env, M, Ed, _, p, q, fun d1 M1 v1 H1 q1 r1 R1 T1 => ⟨env, M1, Ed, _, p.to T1 R1, q1, fun d2 M2 v2 H2 q2 r2 R2 T2 =>
    ⟨env, M2, Ed, _, p.to (T1.trans T2) R2, q2, fun d3 M3 v3 H3 q3 r3 R3 T3 => ⟨v1, v2, v3, rfl, k.nx _ _ _ _ q3.2 (((((p.e.mono (T1.trans (T2.trans T3))).put (r1.m (T2.trans T3)) i)).put (r2.m T3) j).put r3 l) R3 (T1.trans (T2.trans T3))⟩⟩⟩⟩
theorem s_expr (ha : SE X CA XE a f) (hs : swapsWith a none pos.line X.env = pure false := by rfl) : SS X CA XE (.Expr a pos) (sExpr f) :=
  PS_weak (ps_expr ha hs) fun D σ H ⟨env, M, Ed, Dd, p, q, k⟩ => ⟨env, M, Ed, _, p, q, fun d M1 v H1 q1 r1 R1 T1 => k.nx _ _ _ _ q1 (p.e.mono T1) R1 T1⟩
theorem s_ret (ha : SE X CA XE a f) : SS X CA XE (.Return (some a) pos) (sRet f) :=
  PS_weak (ps_ret ha) fun D σ H ⟨env, M, Ed, Dd, p, q, k⟩ => ⟨env, M, Ed, _, p, q, k.rt⟩
theorem s_retN : SS X CA XE (.Return none pos) sRetN := PS_weak ps_retN fun D σ H ⟨env, M, Ed, Dd, p, q, k⟩ => k.rt _ _ _ _ q .non p.r .refl
theorem s_pass : SS X CA XE (.Pass pos) sNil := PS_weak ps_pass fun D σ H ⟨env, M, Ed, Dd, p, q, k⟩ => k.nx _ _ _ _ q p.e p.r .refl
theorem s_break : SS X CA XE (.Break pos) sBreak := PS_weak ps_break fun D σ H ⟨env, M, Ed, Dd, p, q, k⟩ => k.bk _ _ _ _ q p.e p.r .refl
theorem s_cont : SS X CA XE (.Continue pos) sCont := PS_weak ps_continue fun D σ H ⟨env, M, Ed, Dd, p, q, k⟩ => k.ct _ _ _ _ q p.e p.r .refl
theorem s_never : SS X CA XE st sNever := PS_weak ps_never fun D σ H ⟨env, M, Ed, Dd, p, q, k⟩ => q
theorem s_if {c : Expr} (hc : ST X CA XE c t) (ha : SSs X CA XE sts s) (hb : SSs X CA XE sts' s') : SS X CA XE (.If c sts sts' pos) (sIf t s s') :=
  PS_weak (ps_if hc ha hb) fun D σ H ⟨env, M, Ed, Dd, p, q, k⟩ => ⟨env, M, Ed, _, p, q, fun c M1 H1 q1 R1 T1 => by
    cases c with
    | true => exact ⟨env, M1, Ed, Dd, p.to T1 R1, q1, k.mono T1⟩
    | false => exact ⟨env, M1, Ed, Dd, p.to T1 R1, q1, k.mono T1⟩⟩
theorem s_aug (i : Nat) {x : Str} {op : Operator} {b2 : B2} {ti : TIp} {pos' : Pos} (hN : X.N.Nodup) (ho : PIp X op ti) (hs : ∀ v1 v2 d1 d2 M H Qd Q, Rep X.K H v1 d1 → Rep X.K H v2 d2 → R (cn X CA) M H → b2 d1 d2 M Qd → KQ (cn X CA) H Qd Q → ti v1 v2 H Q) (ha : SE X CA XE a f)
    (hi : X.N[i]? = some x := by rfl) (hx : Loc X.env.scope x := by first | exact Or.inl rfl | exact Or.inr rfl) (hf : X.fn x = true ∨ X.env.scope.names.lookup x = some .local := by first | exact .inl rfl | exact .inr rfl | assumption) :
    SS X CA XE (.AugAssign (.Name x pos') op a pos) (sAug i b2 f) :=
  PS_weak (ps_aug hN hi hx ha ho hf) fun D σ H ⟨env, M, Ed, Dd, p, q, k⟩ => by
    unfold sAug at q
    split at q
    · rename_i d e
      obtain ⟨v, e1, r1⟩ := p.e.get e
      exact ⟨v, e1, env, M, Ed, _, p, q, fun d2 M1 v2 H1 q1 r2 R1 T1 => hs _ _ _ _ _ _ _ _ (r1.m T1) r2 R1 q1 fun d3 M2 v3 H2 q2 r3 R2 T2 => k.nx _ _ _ _ q2 ((p.e.mono (T1.trans T2)).put r3 i) R2 (T1.trans T2)⟩
    · exact q.elim
theorem s_augAdd (i : Nat) {x : Str} {pos' : Pos} (hN : X.N.Nodup) (ha : SE X CA XE a f)
    (hi : X.N[i]? = some x := by rfl) (hx : Loc X.env.scope x := by first | exact Or.inl rfl | exact Or.inr rfl) (hf : X.fn x = true ∨ X.env.scope.names.lookup x = some .local := by first | exact .inl rfl | exact .inr rfl | assumption) :
    SS X CA XE (.AugAssign (.Name x pos') .Add a pos) (sAug i ipAdd f) :=
  s_aug i hN ip_add (fun v1 v2 d1 d2 M H Qd Q r1 r2 hR h k => by
    unfold ipAdd at h
    split at h
    · cases r1; cases r2; exact ⟨_, _, rfl, rfl, k _ _ _ _ h (.int _) hR .refl⟩
    · exact h.elim) ha hi hx hf
theorem s_augSub (i : Nat) {x : Str} {pos' : Pos} (hN : X.N.Nodup) (ha : SE X CA XE a f)
    (hi : X.N[i]? = some x := by rfl) (hx : Loc X.env.scope x := by first | exact Or.inl rfl | exact Or.inr rfl) (hf : X.fn x = true ∨ X.env.scope.names.lookup x = some .local := by first | exact .inl rfl | exact .inr rfl | assumption) :
    SS X CA XE (.AugAssign (.Name x pos') .Sub a pos) (sAug i opSub f) :=
  s_aug i hN ip_sub (fun v1 v2 d1 d2 M H Qd Q r1 r2 hR h k => by
    unfold opSub at h
    split at h
    · cases r1; cases r2; exact ⟨_, _, rfl, rfl, k _ _ _ _ h (.int _) hR .refl⟩
    · exact h.elim) ha hi hx hf
/-! ## loops -/
section
variable {pins : List (Addr × Obj)} {σ : L2.St} {H : Hp} {s1 : Shared} {l : Addr} {xs : List V} {Rk : It → Hp → Prop}
theorem it_list (I1 : Inv X pins σ H s1) (hq : SqL X.K H l xs) (q : Rk (Itl X.K l) H) : wpAny (model X.prog X.w) X.A (pyIter (.ref l)) (PIE X pins σ tg Rk) X.xe s1 := by
  obtain ⟨its, rv, p, hz⟩ := I1.list hq
  refine wpAny_pyIter_list p.isList ?_
  refine ⟨s1.heap.objs.size, [s1.heap.objs.size], _, _, H, rfl, I1.kept (t' := s1.toks) fun b o e => Heap.get?_push_of_some _ e, turn_list l _, ⟨_, Heap.get?_push_size _ rfl, rfl, rfl⟩, fun b hb => ?_, q⟩
  have e : b = s1.heap.objs.size := by simpa using hb
  subst e
  exact I1.fpOk (Nat.le_refl _) (I1.hok.fresh (Nat.le_refl _))
theorem it_tup (I1 : Inv X pins σ H s1) (hq : SqT X.K H l xs) (q : Rk (Itt X.K l) H) : wpAny (model X.prog X.w) X.A (pyIter (.ref l)) (PIE X pins σ tg Rk) X.xe s1 := by
  obtain ⟨its, rv, p, hz⟩ := I1.tuple hq
  refine wpAny_pyIter_tuple (show s1.heap.IsTuple l its.toArray from p) ?_
  refine ⟨s1.heap.objs.size, [s1.heap.objs.size], _, _, H, rfl, I1.kept (t' := s1.toks) fun b o e => Heap.get?_push_of_some _ e, turn_tuple l _, ⟨_, Heap.get?_push_size _ rfl, rfl, rfl⟩, fun b hb => ?_, q⟩
  have e : b = s1.heap.objs.size := by simpa using hb
  subst e
  exact I1.fpOk (Nat.le_refl _) (I1.hok.fresh (Nat.le_refl _))
end
theorem itR_tup {c : Cn} {H1 : Hp} {l : Addr} {ws : List V} {ds : List D} (s : SqD c.K H1 l ws) (r : Reps c.K H1 ws ds) : ItR c false H1 (Itt c.K l) (fun _ => True) ds where
  go := fun i H M T R _ hi => ⟨ws, _, (T.t _ _ s).s, List.getElem?_eq_getElem (by rw [r.length]; exact hi)⟩
  stop := fun H M T R _ => ⟨ws, (T.t _ _ s).s, by rw [r.length]; exact Nat.le_refl _⟩
  yld := fun i H x H' M T R _ h d e => by
    obtain ⟨rfl, h⟩ := h
    obtain ⟨v, e1, rv⟩ := r.get e
    have := h ws (T.t _ _ s).s
    rw [e1] at this
    cases this
    exact ⟨Rep.m rv T, R, .refl⟩
theorem itR_lro {c : Cn} {H1 : Hp} {l : Addr} {ws : List V} {ds : List D} (s : SqF c.K H1 l ws) (r : Reps c.K H1 ws ds) : ItR c false H1 (Itl c.K l) (fun _ => True) ds where
  go := fun i H M T R _ hi => ⟨ws, _, (T.f _ _ s).l, List.getElem?_eq_getElem (by rw [r.length]; exact hi)⟩
  stop := fun H M T R _ => ⟨ws, (T.f _ _ s).l, by rw [r.length]; exact Nat.le_refl _⟩
  yld := fun i H x H' M T R _ h d e => by
    obtain ⟨rfl, h⟩ := h
    obtain ⟨v, e1, rv⟩ := r.get e
    have := h ws (T.f _ _ s).l
    rw [e1] at this
    cases this
    exact ⟨Rep.m rv T, R, .refl⟩
theorem itR_lst {c : Cn} {H1 : Hp} {l : Addr} {ds : List D} : ItR c false H1 (Itl c.K l) (fun M => M l = some (.lst ds)) ds where
  go := fun i H M T hR e hi => by
    obtain ⟨ws, h1, r⟩ := hR _ _ e
    exact ⟨ws, _, SqL.of h1, List.getElem?_eq_getElem (by rw [r.length]; exact hi)⟩
  stop := fun H M T hR e => by
    obtain ⟨ws, h1, r⟩ := hR _ _ e
    exact ⟨ws, SqL.of h1, by rw [r.length]; exact Nat.le_refl _⟩
  yld := fun i H x H' M T hR em h d e => by
    obtain ⟨rfl, h⟩ := h
    obtain ⟨ws, h1, r⟩ := hR _ _ em
    obtain ⟨v, e1, rv⟩ := r.get e
    have := h ws (SqL.of h1)
    rw [e1] at this
    cases this
    exact ⟨rv, hR, .refl⟩
theorem i_val (ha : SE X CA XE a f) : SI false X CA XE tg a (iVal f) := by
  refine ⟨fun pins s σ H Rk I ⟨env, M, Ed, kd, p, q, k⟩ => ?_⟩
  refine thn (ha.run pins s σ H (fun v H1 => ∃ d M1, (match d with
    | .tup xs => kd (fun _ => True) xs M1
    | .lro xs => kd (fun _ => True) xs M1
    | .ref a => match M1 a with
      | some (.lst xs) => kd (fun M' => M' a = some (.lst xs)) xs M1
      | _ => False
    | _ => False) ∧ Rep X.K H1 v d ∧ R (cn X CA) M1 H1 ∧ Tups X.K H H1) I ⟨env, M, Ed, _, p, q, fun d M1 v H1 q1 r1 R1 T1 => ⟨d, M1, q1, r1, R1, T1⟩⟩) fun v s1 ⟨x, H1, I1, rx, d, M1, q1, r1, R1, T1⟩ => ?_
  split at q1
  · cases r1 with
    | tup s1 p1 =>
      cases rx
      exact it_tup I1 s1.s (k _ _ _ _ _ q1 R1 T1 (itR_tup s1 p1))
  · cases r1 with
    | lro s1 p1 =>
      cases rx
      exact it_list I1 s1.l (k _ _ _ _ _ q1 R1 T1 (itR_lro s1 p1))
  · cases r1
    cases rx
    split at q1
    · obtain ⟨ws, h1, r⟩ := R1 _ _ (by assumption)
      exact it_list I1 (SqL.of h1) (k _ _ _ _ _ q1 R1 T1 itR_lst)
    · exact q1.elim
  · exact q1.elim
theorem rangeL_get {lo hi : Int} {i : Nat} {d : D} (h : (rangeL lo hi)[i]? = some d) : d = .int (lo + i) ∧ i < (hi - lo).toNat := by
  unfold rangeL at h
  rw [List.getElem?_map] at h
  by_cases hi' : i < (hi - lo).toNat
  · rw [List.getElem?_range hi'] at h
    cases h
    exact ⟨rfl, hi'⟩
  · rw [List.getElem?_eq_none (by rw [List.length_range]; omega)] at h
    cases h
theorem rangeL_length (lo hi : Int) : (rangeL lo hi).length = (hi - lo).toNat := by unfold rangeL; rw [List.length_map, List.length_range]
theorem itR_range {c : Cn} {H1 : Hp} {lo hi : Int} : ItR c false H1 (Itr lo (hi - lo).toNat) (fun _ => True) (rangeL lo hi) where
  go := fun i H M T hR e h => by rw [rangeL_length] at h; exact h
  stop := fun H M T hR e => by rw [rangeL_length]; exact Nat.le_refl _
  yld := fun i H x H' M T hR em h d e => by
    obtain ⟨rfl, rfl⟩ := h
    obtain ⟨rfl, _⟩ := rangeL_get e
    exact ⟨.int _, hR, .refl⟩
theorem i_range1 {p : Pos} (hm : X.mg "range" = none) (ha : SE X CA XE a f) (hg : Gl X "range" := by rfl) (he : starEach [a] X.env = (false, eval a X.env) :: starEach [] X.env := by rfl) (hs : starEach [a] X.env = [(false, eval a X.env)] := by rfl) : SI false X CA XE tg (.Call (.Name "range" p) [a] [] pos) (iRange1 f) :=
  PI_weak (pi_range1 hg hm (pa_cons ha pa_nil he) hs) fun σ H Rk ⟨env, M, Ed, kd, p, q, k⟩ => ⟨env, M, Ed, _, p, q, fun d M1 v H1 q1 r1 R1 T1 => by
    split at q1
    · rename_i j
      cases r1
      refine ⟨_, rfl, q1.1, q1.2.1, ?_⟩
      have := k _ _ _ _ _ q1.2.2 R1 T1 (itR_range (lo := 0) (hi := j))
      rw [Int.sub_zero] at this
      exact this
    · exact q1.elim⟩
theorem i_range2 {p : Pos} (hm : X.mg "range" = none) (ha : SE X CA XE a f) (hb : SE X CA XE b g) (hg : Gl X "range" := by rfl) (he : starEach [a, b] X.env = (false, eval a X.env) :: starEach [b] X.env := by rfl) (he2 : starEach [b] X.env = (false, eval b X.env) :: starEach [] X.env := by rfl) (hs : starEach [a, b] X.env = [(false, eval a X.env), (false, eval b X.env)] := by rfl) (hs2 : starEach [b] X.env = [(false, eval b X.env)] := by rfl) : SI false X CA XE tg (.Call (.Name "range" p) [a, b] [] pos) (iRange2 f g) :=
  PI_weak (pi_range2 hg hm (pa_cons ha (pa_cons hb pa_nil he2) he) hs hs2) fun σ H Rk ⟨env, M, Ed, kd, p, q, k⟩ => ⟨env, M, Ed, _, p, q, fun d M1 v H1 q1 r1 R1 T1 => ⟨env, M1, Ed, _, p.to T1 R1, q1, fun d2 M2 v2 H2 q2 r2 R2 T2 => by
    split at q2
    · cases r1; cases r2
      exact ⟨_, _, rfl, q2.1, k _ _ _ _ _ q2.2 R2 (T1.trans T2) itR_range⟩
    · exact q2.elim⟩⟩
theorem drop_get {α : Type} {xs : List α} {i : Nat} (h : i < xs.length) : xs.drop i = xs[i] :: xs.drop (i + 1) := List.drop_eq_getElem_cons h
theorem s_for (hp : PassesOwn (model X.prog X.w) X.A X.env X.xe) (hc : X.calm = true) (hi : SI y X CA XE tg iter src) (hg : SG y X CA XE vs tg gt) (hb : SSs X CA XE sts s) (hs : ∀ x, foldedSetIterable iter X.env x = pure x := by intro _; rfl) : SS X CA XE (.For tg iter sts [] pos) (sFor src gt s) :=
  PS_weak (ps_for hp hc hi hg hb hs) fun D σ H ⟨env, M, Ed, Dd, p, q, k⟩ => by
    refine ⟨env, M, Ed, _, p, q, fun chk xs M1 H1 J q1 R1 T1 it => ?_⟩
    refine ⟨fun i m σ' H' => m = xs.length - i ∧ i ≤ xs.length ∧ ∃ env' M', RelEnv X.K H' σ' env' ∧ R (cn X CA) M' H' ∧ Tups X.K H1 H' ∧ forL gt s chk (xs.drop i) Ed Dd env' M', ⟨xs.length, by simp, Nat.zero_le _, env, M1, p.e.mono T1, R1, .refl, by rw [List.drop_zero]; exact q1⟩, ?_⟩
    rintro i m σ' H' ⟨rfl, hi, env', M', e', R', T', q'⟩
    by_cases hlt : i < xs.length
    · rw [drop_get hlt] at q'
      obtain ⟨hck, q'⟩ := q'
      refine .inr ⟨it.go i H' M' T' R' hck hlt, fun σ2 H2 => (xs.length - (i + 1)) = xs.length - (i + 1) ∧ i + 1 ≤ xs.length ∧ ∃ env' M', RelEnv X.K H2 σ2 env' ∧ R (cn X CA) M' H2 ∧ Tups X.K H1 H2 ∧ forL gt s chk (xs.drop (i + 1)) Ed Dd env' M', fun σ2 H2 h2 => ⟨xs.length - (i + 1), by omega, h2⟩, fun x H2 yl => ?_⟩
      obtain ⟨rx, R2, T2⟩ := it.yld i H' x H2 M' T' R' hck yl xs[i] (List.getElem?_eq_getElem hlt)
      refine ⟨xs[i], env', M', Ed, _, rx, ⟨e'.mono T2, R2, p.x.mono (T1.trans (T'.trans T2))⟩, q', fun env3 M3 σ3 H3 q3 e3 R3 T3 _ => ?_⟩
      have T4 : Tups X.K H1 H3 := T'.trans (T2.trans T3)
      refine ⟨env3, M3, Ed, _, ⟨e3, R3, p.x.mono (T1.trans T4)⟩, q3, ⟨?_, k.rt.mono (T1.trans T4), (k.mono (T1.trans T4)).nx, ?_⟩⟩
      · exact fun e5 M5 σ5 H5 q5 r5 R5 T5 => ⟨rfl, hlt, e5, M5, r5, R5, T4.trans T5, q5⟩
      · exact fun e5 M5 σ5 H5 q5 r5 R5 T5 => ⟨rfl, hlt, e5, M5, r5, R5, T4.trans T5, q5⟩
    · have e : i = xs.length := by omega
      subst e
      rw [List.drop_length] at q'
      exact .inl ⟨it.stop H' M' T' R' q'.1, k.nx _ _ _ _ q'.2 e' R' (T1.trans T')⟩
theorem s_while {c : Expr} (hp : PassesOwn (model X.prog X.w) X.A X.env X.xe) (hc : ST X CA XE c t) (hb : SSs X CA XE sts s) : SS X CA XE (.While c sts [] pos) (sWhile t s) :=
  PS_weak (ps_while hp hc hb) fun D σ H ⟨env, M, Ed, Dd, p, q, k⟩ => by
    obtain ⟨W, ⟨m0, w0⟩, turn⟩ := q
    refine ⟨fun m σ' H' => ∃ env' M', RelEnv X.K H' σ' env' ∧ R (cn X CA) M' H' ∧ Tups X.K H H' ∧ W m env' M', ⟨m0, env, M, p.e, p.r, .refl, w0⟩, ?_⟩
    rintro m σ' H' ⟨env', M', e', R', T', w'⟩
    refine ⟨env', M', Ed, _, ⟨e', R', p.x.mono T'⟩, turn m env' M' w', fun b M2 H2 q2 R2 T2 => ?_⟩
    cases b with
    | true =>
      refine ⟨fun σ3 H3 => ∃ m', m' < m ∧ ∃ env' M', RelEnv X.K H3 σ3 env' ∧ R (cn X CA) M' H3 ∧ Tups X.K H H3 ∧ W m' env' M', fun σ3 H3 h => h, ?_⟩
      have T4 : Tups X.K H H2 := T'.trans T2
      refine ⟨env', M2, Ed, _, ⟨e'.mono T2, R2, p.x.mono T4⟩, q2, ⟨?_, k.rt.mono T4, (k.mono T4).nx, ?_⟩⟩
      · exact fun e5 M5 σ5 H5 ⟨m', hm, q5⟩ r5 R5 T5 => ⟨m', hm, e5, M5, r5, R5, T4.trans T5, q5⟩
      · exact fun e5 M5 σ5 H5 ⟨m', hm, q5⟩ r5 R5 T5 => ⟨m', hm, e5, M5, r5, R5, T4.trans T5, q5⟩
    | false => exact k.nx _ _ _ _ q2 (e'.mono T2) R2 (T'.trans T2)
/-! ## comprehensions -/
def STs (X : Cx) (CA : String → Addr) (XE : XK) (es : List Expr) (t : WT) : Prop := PTs X es (tOfT (cn X CA) XE t)
theorem PTs_weak {t t' : TT} (h : PTs X es t) (w : ∀ σ H Q, t' σ H Q → t σ H Q) : PTs X es t' := ⟨fun pins s σ H Q I q => h.run pins s σ H Q I (w σ H Q q)⟩
theorem ts_nil : STs X CA XE [] tYes := PTs_weak pts_nil fun σ H Q ⟨env, M, Ed, Qd, p, q, k⟩ => k _ _ _ q p.r .refl
theorem ts_one {c : Expr} (h : ST X CA XE c t) : STs X CA XE [c] t := pts_one h
theorem comp_of {own : List Nat} {t : WT} {f : WE} {src : WI} {gt : WG} {σ : L2.St} {H : Hp} {Q : VK} {env : Ev} {M : Sto} {Ed : XW} {Qd : KD} (p : Pre (cn X CA) XE σ H env M Ed) (q : eComp src own gt t f Ed env M Qd) (k : KQ (cn X CA) H Qd Q) :
    tLc (tOfI y (cn X CA) XE src) (tOfG y (cn X CA) E0 own gt) (tOfT (cn X CA) E0 t) (tOf (cn X CA) E0 f) own σ H Q := by
  refine ⟨env, M, Ed, _, p, q, fun chk xs M1 H1 J q1 R1 T1 it => fun D hD => ?_⟩
  obtain ⟨Rl, Tl⟩ := lay_lst (c := cn X CA) hD .nil R1
  have q1 := q1 D (R1.fresh hD)
  refine ⟨fun i m H' => m = xs.length - i ∧ i ≤ xs.length ∧ ∃ M', R (cn X CA) M' H' ∧ Tups X.K H1 H' ∧ compL D own gt t f env chk (xs.drop i) M' fun M2 => Qd (.ref D) M2, ⟨xs.length, by simp, Nat.zero_le _, _, Rl, Tl, by rw [List.drop_zero]; exact q1⟩, ?_⟩
  rintro i m H' ⟨rfl, hi, M', R', T', q'⟩
  by_cases hlt : i < xs.length
  · rw [drop_get hlt] at q'
    obtain ⟨hck, q'⟩ := q'
    refine .inr ⟨it.go i H' M' T' R' hck hlt, fun H2 => (xs.length - (i + 1)) = xs.length - (i + 1) ∧ i + 1 ≤ xs.length ∧ ∃ M', R (cn X CA) M' H2 ∧ Tups X.K H1 H2 ∧ compL D own gt t f env chk (xs.drop (i + 1)) M' fun M2 => Qd (.ref D) M2, fun H2 h2 => ⟨xs.length - (i + 1), by omega, h2⟩, fun x H2 yl => ?_⟩
    obtain ⟨rx, R2, T2⟩ := it.yld i H' x H2 M' T' R' hck yl xs[i] (List.getElem?_eq_getElem hlt)
    refine ⟨xs[i], DL.wipe env own, M', X0, _, rx, ⟨(p.e.wipe own).mono (T1.trans (T'.trans T2)), R2, KX.no⟩, q', fun env3 M3 σ3 H3 q3 e3 R3 T3 O3 => ⟨O3.wipe, ?_⟩⟩
    refine ⟨env3, M3, X0, _, ⟨e3, R3, KX.no⟩, q3, fun b M4 H4 q4 R4 T4 => ?_⟩
    have T5 : Tups X.K H1 H4 := T'.trans (T2.trans (T3.trans T4))
    cases b with
    | false => exact ⟨rfl, hlt, M4, R4, T5, q4⟩
    | true =>
      refine ⟨env3, M4, X0, _, ⟨e3.mono T4, R4, KX.no⟩, q4, fun d M6 v H6 q6 r6 R6 T6 => ?_⟩
      split at q6
      · obtain ⟨ws, h1, rr⟩ := R6 _ _ (by assumption)
        obtain ⟨a1, a2⟩ := wr_lst (c := cn X CA) R6 (by assumption) h1 (rr.append (.cons r6 .nil))
        exact ⟨ws, h1, by rw [rr.length]; exact q6.1, rfl, hlt, _, a1, T5.trans (T6.trans a2), q6.2⟩
      · exact q6.elim
  · have e : i = xs.length := by omega
    subst e
    rw [List.drop_length] at q'
    exact .inl ⟨it.stop H' M' T' R' q'.1, k _ _ _ _ q'.2 (.ref D) R' (T1.trans T')⟩
theorem d_comp {elt : Expr} {ifs : List Expr} {scope : Scope} {own : List (Str × Nat)} (hc : X.calm = true) (hN : X.N.Nodup) (hi : SI y X CA XE tg iter src) (ok : BlkOk X.N X.env.scope scope own)
    (hg : ∀ (s : Shared) (H : Hp) (C : Addr) (cl : List (Str × Addr)) (fp : List Addr), SG y (X.blk s H scope (compEnvC scope cl C X.env) fp) CA E0 (own.map (·.2)) tg gt)
    (ht : ∀ (s : Shared) (H : Hp) (C : Addr) (cl : List (Str × Addr)) (fp : List Addr), STs (X.blk s H scope (compEnvC scope cl C X.env) fp) CA E0 ifs t)
    (he : ∀ (s : Shared) (H : Hp) (C : Addr) (cl : List (Str × Addr)) (fp : List Addr), SE (X.blk s H scope (compEnvC scope cl C X.env) fp) CA E0 elt f) (hs : ∀ x, foldedSetIterable iter X.env x = pure x := by intro _; rfl) :
    SE X CA XE (.ListComp elt [⟨tg, iter, ifs, 0⟩] scope pos) (eComp src (own.map (·.2)) gt t f) :=
  PE_weak (pe_lc (g := tOfG y (cn X CA) E0 (own.map fun z : Str × Nat => z.2) gt) (tt := tOfT (cn X CA) E0 t) (te := tOf (cn X CA) E0 f) hc hN hi ok hg ht he hs) fun σ H Q ⟨env, M, Ed, Qd, p, q, k⟩ => comp_of p q k
theorem s_setComp (i : Nat) {v : Str} {py : Pos} {elt : Expr} {ifs : List Expr} {scope : Scope} {own : List (Str × Nat)} {lpos : Pos} (hc : X.calm = true) (hN : X.N.Nodup) (hsw : swapsWith (.ListComp elt [⟨tg, iter, ifs, 0⟩] scope lpos) (some (.Name v py)) pos.line X.env = pure true) (hi : SI y X CA XE tg iter src) (ok : BlkOk X.N X.env.scope scope own)
    (hg : ∀ (s : Shared) (H : Hp) (C : Addr) (cl : List (Str × Addr)) (fp : List Addr), SG y (X.blk s H scope (compEnvC scope cl C X.env) fp) CA E0 (own.map (·.2)) tg gt)
    (ht : ∀ (s : Shared) (H : Hp) (C : Addr) (cl : List (Str × Addr)) (fp : List Addr), STs (X.blk s H scope (compEnvC scope cl C X.env) fp) CA E0 ifs t)
    (he : ∀ (s : Shared) (H : Hp) (C : Addr) (cl : List (Str × Addr)) (fp : List Addr), SE (X.blk s H scope (compEnvC scope cl C X.env) fp) CA E0 elt f)
    (hy : X.N[i]? = some v := by rfl) (hyl : X.env.scope.names.lookup v = some .local := by rfl) (hs : ∀ x, foldedSetIterable iter X.env x = pure x := by intro _; rfl) :
    SS X CA XE (.Assign [.Name v py] (.ListComp elt [⟨tg, iter, ifs, 0⟩] scope lpos) pos) (sAsg (eComp src (own.map (·.2)) gt t f) (gName i)) :=
  PS_weak (ps_setLc (g := tOfG y (cn X CA) E0 (own.map fun z : Str × Nat => z.2) gt) (tt := tOfT (cn X CA) E0 t) (te := tOf (cn X CA) E0 f) hc hN hy hyl hsw hi ok hg ht he hs) fun D σ H ⟨env, M, Ed, Dd, p, q, k⟩ =>
    comp_of (Q := fun x H1 => L2.gName i x σ H1 D.nx) p q fun d M1 v H1 q1 r1 R1 T1 => k.nx _ _ _ _ q1 ((p.e.mono T1).put r1 i) R1 T1
end
end DL

set_option Elab.async false
set_option linter.all false
set_option maxRecDepth 100000
set_option maxHeartbeats 4000000
/-! DU: more rules: texts that are walked, is True -/
namespace DL
open PySem PySem.Spec PyProof.Rows L2
section
variable {X : Cx} {CA : String → Addr} {XE : XK} {a : Expr} {tg : Expr} {f : WE}
theorem itR_str {c : Cn} {H1 : Hp} {x : Str} : ItR c false H1 (Its x) (fun _ => True) (charsOf x) where
  go := fun i H M T hR e h => by show i < x.cps.size; simpa [charsOf] using h
  stop := fun H M T hR e => by show x.cps.size ≤ _; simp [charsOf]
  yld := fun i H v H' M T hR em h d e => by
    obtain ⟨rfl, c, hc, rfl⟩ := h
    have : d = .str ⟨#[c]⟩ := by
      unfold charsOf at e
      rw [List.getElem?_map, Array.getElem?_toList, hc] at e
      exact (Option.some.inj e).symm
    subst this
    exact ⟨.str _, hR, .refl⟩
theorem i_str (ha : SE X CA XE a f) : SI false X CA XE tg a (iChars f) :=
  PI_weak (pi_str ha) fun σ H Rk ⟨env, M, Ed, kd, p, q, k⟩ => ⟨env, M, Ed, _, p, q, fun d M1 v H1 q1 r1 R1 T1 => by
    split at q1
    · cases r1
      exact ⟨_, rfl, k _ _ _ _ _ q1 R1 T1 itR_str⟩
    · exact q1.elim⟩
theorem op_isB : OpR X (compareOp .Is) (fun x y H Q => ∃ a b, x = .bl a ∧ y = .bl b ∧ Q (.bl (a == b)) H) := by
  intro pins s σ H x y v u Q I rx ry h
  obtain ⟨a, b, rfl, rfl, q⟩ := h
  cases rx; cases ry
  show wpAny _ _ ((isSame (Value.bool a) (Value.bool b)) >>= fun z => pure (Value.bool z)) _ _ s
  exact wpAny_bind (wpAny_isSame_plain rfl (wpAny_pure (fin_bl I q (by cases a <;> cases b <;> rfl))))
theorem op_notB : OpR X (compareOp .IsNot) (fun x y H Q => ∃ a b, x = .bl a ∧ y = .bl b ∧ Q (.bl (!(a == b))) H) := by
  intro pins s σ H x y v u Q I rx ry h
  obtain ⟨a, b, rfl, rfl, q⟩ := h
  cases rx; cases ry
  show wpAny _ _ ((isSame (Value.bool a) (Value.bool b)) >>= fun z => pure (Value.bool (!z))) _ _ s
  exact wpAny_bind (wpAny_isSame_plain rfl (wpAny_pure (fin_bl I q (by cases a <;> cases b <;> rfl))))
theorem isBS {c : Cn} : CmpS c cIsB (fun x y H Q => ∃ a b, x = .bl a ∧ y = .bl b ∧ Q (.bl (a == b)) H) := by
  intro v1 v2 d1 d2 M H kd Q r1 r2 hR h k
  unfold cIsB at h
  split at h
  · cases r1; cases r2
    exact ⟨_, _, rfl, rfl, k _ h⟩
  · exact h.elim
theorem notBS {c : Cn} : CmpS c cNotB (fun x y H Q => ∃ a b, x = .bl a ∧ y = .bl b ∧ Q (.bl (!(a == b))) H) := by
  intro v1 v2 d1 d2 M H kd Q r1 r2 hR h k
  unfold cNotB at h
  split at h
  · cases r1; cases r2
    exact ⟨_, _, rfl, rfl, k _ h⟩
  · exact h.elim
end
end DL

set_option Elab.async false
set_option linter.all false
set_option maxRecDepth 100000
/-! DX: what proofs over the clean level lean on -/
namespace DL
open PySem
/-- of a smaller store: what lies in it lies in the other, too -/
def Le (M M' : Sto) : Prop := ∀ x o, M x = some o → M' x = some o
/-- what a def leaves behind beside what was asked may be forgotten -/
def endsL (Q : KD) : Ends := endsOf fun d M' => ∃ M0, Le M0 M' ∧ Q d M0
/-! ## the steps, one at a time -/
/-- what comes after a statement: simp stops here -/
def K (f : Ev → Sto → Prop) : Ev → Sto → Prop := f
theorem go {f : Ev → Sto → Prop} {e : Ev} {m : Sto} (h : f e m) : K f e m := h
def onS (x : Option D) (k : D → Prop) : Prop := match x with
  | some d => k d
  | none => False
@[simp] theorem onS_some {d : D} {k : D → Prop} : onS (some d) k = k d := id rfl
@[simp] theorem onS_none {k : D → Prop} : onS none k = False := id rfl
def subO (o : Option O) (y : D) (k : D → Prop) : Prop := match o with
  | some (.lst xs) => match y with
    | .int i => at' xs i k
    | _ => False
  | some o => dLk o y fun r => match r with
      | some d => k d
      | none => False
  | none => False
def lenO (o : Option O) (k : Nat → Prop) : Prop := match o with
  | some (.lst xs) => k xs.length
  | _ => False
def truO (o : Option O) (k : Bool → Prop) : Prop := match o with
  | some (.lst xs) => k (!xs.isEmpty)
  | some (.dk kvs) => k (!kvs.isEmpty)
  | _ => False
def lstO (o : Option O) (k : List D → Prop) : Prop := match o with
  | some (.lst xs) => k xs
  | _ => False
@[simp] theorem lstO_lst {xs : List D} {k : List D → Prop} : lstO (some (.lst xs)) k = k xs := id rfl
@[simp] theorem lenO_lst {xs : List D} {k : Nat → Prop} : lenO (some (.lst xs)) k = k xs.length := id rfl
@[simp] theorem truO_lst {xs : List D} {k : Bool → Prop} : truO (some (.lst xs)) k = k (!xs.isEmpty) := id rfl
@[simp] theorem truO_dk {xs : List (Key × D)} {k : Bool → Prop} : truO (some (.dk xs)) k = k (!xs.isEmpty) := id rfl
section
variable {E : XW} {env : Ev} {M : Sto} {Q : KD} {f g h : WE} {fs : List WE} {d e : D} {ds : List D} {D' : Ends} {s t : WS} {i j : Int} {n : Nat} {a b : Addr} {k : D → Prop} {xs ys : List D} {u v : WT} {T : Bool → Sto → Prop} {G H : WG} {B : Bool → Prop}
@[simp] theorem eVar_s : eVar n E env M Q = onS (gt env n) fun d => Q d M := id rfl
@[simp] theorem eC_s : eC d E env M Q = Q d M := id rfl
@[simp] theorem argsW_nil {Q : List D → Sto → Prop} : argsW [] E env M Q = Q [] M := id rfl
@[simp] theorem argsW_cons {Q : List D → Sto → Prop} : argsW (f :: fs) E env M Q = f E env M fun d M1 => argsW fs E env M1 fun ds M2 => Q (d :: ds) M2 := id rfl
@[simp] theorem eTup_s : eTup fs E env M Q = argsW fs E env M fun ds M1 => Q (.tup ds) M1 := id rfl
@[simp] theorem eLst_s : eLst fs E env M Q = argsW fs E env M fun ds M1 => ∀ p, M1 p = none → Q (.ref p) (M1.set p (.lst ds)) := id rfl
@[simp] theorem eBin_s {op : B2} : eBin op f g E env M Q = f E env M fun x M1 => g E env M1 fun y M2 => op x y M2 Q := id rfl
def negD (x : D) (k : Int → Prop) : Prop := match x with
  | .int i => k (-i)
  | _ => False
@[simp] theorem negD_int {k : Int → Prop} : negD (.int i) k = k (-i) := id rfl
@[simp] theorem eNeg_s : eNeg f E env M Q = f E env M fun x M1 => negD x fun i => Q (.int i) M1 := id rfl
@[simp] theorem eCmp_s {c : C2} : eCmp c f g E env M Q = f E env M fun x M1 => g E env M1 fun y M2 => c x y M2 fun b => Q (.bl b) M2 := id rfl
@[simp] theorem tCmp_s {c : C2} : tCmp c f g E env M T = f E env M fun x M1 => g E env M1 fun y M2 => c x y M2 fun b => T b M2 := id rfl
@[simp] theorem tChain_s {c c' : C2} : tChain c c' f g h E env M T = f E env M fun x M1 => g E env M1 fun y M2 => c x y M2 fun b =>
  if b = true then h E env M2 fun z M3 => c' y z M3 fun b' => T b' M3 else T false M2 := id rfl
@[simp] theorem tTru_s : tTru f E env M T = f E env M fun x M1 => truD x M1 fun b => T b M1 := id rfl
@[simp] theorem tAnd_s : tAnd u v E env M T = u E env M fun b M1 => if b = true then v E env M1 T else T false M1 := id rfl
@[simp] theorem tOr_s : tOr u v E env M T = u E env M fun b M1 => if b = true then T true M1 else v E env M1 T := id rfl
@[simp] theorem tNot_s : tNot u E env M T = u E env M fun b M1 => T (!b) M1 := id rfl
@[simp] theorem tYes_s : tYes E env M T = T true M := id rfl
def blD (x : D) (k : Bool → Prop) : Prop := match x with
  | .bl b => k b
  | _ => False
@[simp] theorem blD_bl {b : Bool} : blD (.bl b) B = B b := id rfl
@[simp] theorem eAnd_s : eAnd f g E env M Q = f E env M fun x M1 => blD x fun b => if b = true then g E env M1 Q else Q (.bl false) M1 := id rfl
@[simp] theorem eOr_s : eOr f g E env M Q = f E env M fun x M1 => blD x fun b => if b = true then Q (.bl true) M1 else g E env M1 Q := id rfl
@[simp] theorem eNotB_s : eNotB f E env M Q = f E env M fun x M1 => blD x fun b => Q (.bl (!b)) M1 := id rfl
@[simp] theorem eIf_s : eIf u f g E env M Q = u E env M fun b M1 => if b = true then f E env M1 Q else g E env M1 Q := id rfl
@[simp] theorem eSub_s : eSub f g E env M Q = f E env M fun x M1 => g E env M1 fun y M2 => subD x y M2 fun d => Q d M2 := id rfl
@[simp] theorem optW_none {Q : Option Int → Sto → Prop} : optW none E env M Q = Q none M := id rfl
def intD (x : D) (k : Int → Prop) : Prop := match x with
  | .int i => k i
  | _ => False
@[simp] theorem intD_int {k : Int → Prop} : intD (.int i) k = k i := id rfl
@[simp] theorem optW_some {Q : Option Int → Sto → Prop} : optW (some f) E env M Q = f E env M fun x M1 => intD x fun i => Q (some i) M1 := id rfl
@[simp] theorem eSl_s {lo hi : Option WE} : eSl f lo hi E env M Q = f E env M fun x M1 => optW lo E env M1 fun l M2 => optW hi E env M2 fun h M3 => slD x l h M3 Q := id rfl
@[simp] theorem eRev_s : eRev f E env M Q = f E env M fun x M1 => revD x M1 Q := id rfl
@[simp] theorem eCall_s {S : FD} : eCall S fs E env M Q = argsW fs E env M fun ds M1 => S E ds M1 Q := id rfl
@[simp] theorem eLen_s : eLen f E env M Q = f E env M fun x M1 => lenD x M1 fun n => Q (.int n) M1 := id rfl
@[simp] theorem eAbs_s : eAbs f E env M Q = f E env M fun x M1 => intD x fun i => Q (.int (if i < 0 then -i else i)) M1 := id rfl
def int1D (x : D) (k : Int → Prop) : Prop := match x with
  | .int i => k i
  | .bl b => k (if b then 1 else 0)
  | _ => False
@[simp] theorem int1D_int {k : Int → Prop} : int1D (.int i) k = k i := id rfl
@[simp] theorem int1D_bl {b : Bool} {k : Int → Prop} : int1D (.bl b) k = k (if b then 1 else 0) := id rfl
@[simp] theorem eInt_s : eInt f E env M Q = f E env M fun x M1 => int1D x fun i => Q (.int i) M1 := by
  unfold eInt int1D
  first | rfl | (congr 1; done) | (congr 1; funext x M1; cases x <;> rfl)
def itD (x : D) (M : Sto) (k : List D → Prop) : Prop := match x with
  | .tup xs => k xs
  | .ref a => lstO (M a) k
  | _ => False
@[simp] theorem itD_tup {k : List D → Prop} : itD (.tup xs) M k = k xs := id rfl
@[simp] theorem itD_ref {k : List D → Prop} : itD (.ref a) M k = lstO (M a) k := id rfl
@[simp] theorem eTupOf_s : eTupOf f E env M Q = f E env M fun x M1 => itD x M1 fun xs => Q (.tup xs) M1 := by
  unfold eTupOf itD lstO
  first | rfl | (congr 1; done) | (congr 1; funext x M1; cases x <;> rfl)
@[simp] theorem subD_tup : subD (.tup xs) (.int i) M k = at' xs i k := id rfl
@[simp] theorem subD_lro : subD (.lro xs) (.int i) M k = at' xs i k := id rfl
@[simp] theorem subD_ref : subD (.ref a) d M k = subO (M a) d k := id rfl
@[simp] theorem subO_lst : subO (some (.lst xs)) (.int i) k = at' xs i k := id rfl
@[simp] theorem subO_dkS {kvs : List (Key × D)} {z : Str} : subO (some (.dk kvs)) (.str z) k = onS (lk kvs (.inr z)) k := id rfl
@[simp] theorem subO_dkI {kvs : List (Key × D)} {z : Int} : subO (some (.dk kvs)) (.int z) k = onS (lk kvs (.inl z)) k := id rfl
@[simp] theorem at_s : at' xs i k = onS (L2.atI xs i) k := id rfl
@[simp] theorem lenD_tup {k : Nat → Prop} : lenD (.tup xs) M k = k xs.length := id rfl
@[simp] theorem lenD_lro {k : Nat → Prop} : lenD (.lro xs) M k = k xs.length := id rfl
@[simp] theorem lenD_str {z : Str} {k : Nat → Prop} : lenD (.str z) M k = (z.length ≤ sizeLine ∧ k z.length) := id rfl
@[simp] theorem lenD_ref {k : Nat → Prop} : lenD (.ref a) M k = lenO (M a) k := id rfl
@[simp] theorem truD_non : truD .non M B = B false := id rfl
@[simp] theorem truD_bl {b : Bool} : truD (.bl b) M B = B b := id rfl
@[simp] theorem truD_int : truD (.int i) M B = B (i != 0) := id rfl
@[simp] theorem truD_tup : truD (.tup xs) M B = B (!xs.isEmpty) := id rfl
@[simp] theorem truD_ref : truD (.ref a) M B = truO (M a) B := id rfl
@[simp] theorem opAdd_int : opAdd (.int i) (.int j) M Q = Q (.int (i + j)) M := id rfl
@[simp] theorem opAdd_str {a b : Str} : opAdd (.str a) (.str b) M Q = (a.length + b.length ≤ sizeLine ∧ Q (.str (a ++ b)) M) := id rfl
@[simp] theorem opAdd_tup : opAdd (.tup xs) (.tup ys) M Q = (xs.length + ys.length ≤ sizeLine ∧ Q (.tup (xs ++ ys)) M) := id rfl
@[simp] theorem opAdd_ref : opAdd (.ref a) (.ref b) M Q = (lstO (M a) fun xs => lstO (M b) fun ys => xs.length + ys.length ≤ sizeLine ∧ ∀ p, M p = none → Q (.ref p) (M.set p (.lst (xs ++ ys)))) := by
  unfold opAdd lstO
  dsimp only
  generalize M a = x
  generalize M b = y
  rcases x with _ | o <;> rcases y with _ | o' <;> first | rfl | (cases o <;> first | rfl | (cases o' <;> rfl))
@[simp] theorem ipAdd_int : ipAdd (.int i) (.int j) M Q = Q (.int (i + j)) M := id rfl
@[simp] theorem opSub_int : opSub (.int i) (.int j) M Q = Q (.int (i - j)) M := id rfl
@[simp] theorem opMul_int : opMul (.int i) (.int j) M Q = (IntMulOk i j ∧ Q (.int (i * j)) M) := id rfl
@[simp] theorem opDiv_int : opDiv (.int i) (.int j) M Q = (j ≠ 0 ∧ Builtin.divisionGoesByPylong i j = false ∧ Q (.int (i.fdiv j)) M) := id rfl
@[simp] theorem opMod_int : opMod (.int i) (.int j) M Q = (j ≠ 0 ∧ Q (.int (i.fmod j)) M) := id rfl
@[simp] theorem opPow_int : opPow (.int i) (.int j) M Q = (0 ≤ j ∧ j ≤ 1000000 ∧ i.natAbs < 2 ^ 64 ∧ Q (.int (i ^ j.toNat)) M) := id rfl
@[simp] theorem cEq_int : cEq (.int i) (.int j) M B = B (decide (i = j)) := id rfl
@[simp] theorem cEq_str {a b : Str} : cEq (.str a) (.str b) M B = B (decide (a = b)) := id rfl
@[simp] theorem cEq_bl {a b : Bool} : cEq (.bl a) (.bl b) M B = B (a == b) := id rfl
@[simp] theorem cNe_s : cNe d e M B = cEq d e M fun b => B (!b) := id rfl
@[simp] theorem cLt_int : cLt (.int i) (.int j) M B = B (decide (i < j)) := id rfl
@[simp] theorem cLe_int : cLe (.int i) (.int j) M B = B (decide (i ≤ j)) := id rfl
@[simp] theorem cGt_int : cGt (.int i) (.int j) M B = B (decide (j < i)) := id rfl
@[simp] theorem cGe_int : cGe (.int i) (.int j) M B = B (decide (j ≤ i)) := id rfl
@[simp] theorem cIsN_s : cIsN d .non M B = B (decide (d = .non)) := id rfl
@[simp] theorem cNotN_s : cNotN d .non M B = B (!decide (d = .non)) := id rfl
@[simp] theorem cNotIn_s : cNotIn d e M B = cIn d e M fun b => B (!b) := id rfl
@[simp] theorem slD_tup {lo hi : Option Int} : slD (.tup xs) lo hi M Q = Q (.tup (cut xs lo hi)) M := id rfl
@[simp] theorem slD_lro {lo hi : Option Int} : slD (.lro xs) lo hi M Q = ∀ p, M p = none → Q (.ref p) (M.set p (.lst (cut xs lo hi))) := id rfl
@[simp] theorem slD_ref {lo hi : Option Int} : slD (.ref a) lo hi M Q = lstO (M a) fun xs => ∀ p, M p = none → Q (.ref p) (M.set p (.lst (cut xs lo hi))) := id rfl
@[simp] theorem lstAt_s {k : Addr → List D → Prop} : lstAt (.ref a) M k = lstO (M a) fun xs => k a xs := id rfl
@[simp] theorem eAppend_s : eAppend f g E env M Q = f E env M fun x M1 => lstAt x M1 fun _ _ => g E env M1 fun y M2 => lstAt x M2 fun a xs => xs.length < sizeLine ∧ Q .non (M2.set a (.lst (xs ++ [y]))) := id rfl
@[simp] theorem ePop_s : ePop f E env M Q = f E env M fun x M1 => lstAt x M1 fun a xs => onS xs.getLast? fun y => Q y (M1.set a (.lst xs.dropLast)) := id rfl
@[simp] theorem eExtend_s : eExtend f g E env M Q = f E env M fun x M1 => lstAt x M1 fun _ _ => g E env M1 fun y M2 => lstAt x M2 fun a xs => lstAt y M2 fun _ ys => xs.length + ys.length ≤ sizeLine ∧ Q .non (M2.set a (.lst (xs ++ ys))) := id rfl
/-! what is walked -/
@[simp] theorem iRange1_s {k : (Sto → Prop) → List D → Sto → Prop} : iRange1 f E env M k = f E env M fun x M1 => intD x fun j => -(2 ^ 62) ≤ j ∧ j < 2 ^ 62 ∧ k (fun _ => True) (rangeL 0 j) M1 := id rfl
def valI (x : D) (M : Sto) (k : (Sto → Prop) → List D → Sto → Prop) : Prop := match x with
  | .tup xs => k (fun _ => True) xs M
  | .lro xs => k (fun _ => True) xs M
  | .ref a => lstO (M a) fun xs => k (fun M' => M' a = some (.lst xs)) xs M
  | _ => False
@[simp] theorem valI_tup {k : (Sto → Prop) → List D → Sto → Prop} : valI (.tup xs) M k = k (fun _ => True) xs M := id rfl
@[simp] theorem valI_lro {k : (Sto → Prop) → List D → Sto → Prop} : valI (.lro xs) M k = k (fun _ => True) xs M := id rfl
@[simp] theorem valI_ref {k : (Sto → Prop) → List D → Sto → Prop} : valI (.ref a) M k = lstO (M a) fun xs => k (fun M' => M' a = some (.lst xs)) xs M := id rfl
@[simp] theorem iVal_s {k : (Sto → Prop) → List D → Sto → Prop} : iVal f E env M k = f E env M fun x M1 => valI x M1 k := by
  unfold iVal valI lstO
  first | rfl | (congr 1; done) | (congr 1; funext x M1; cases x <;> rfl)
/-! targets, statements -/
@[simp] theorem gName_s {P : Ev → Sto → Prop} : gName n d E env M P = P (put env n d) M := id rfl
@[simp] theorem gAll_nil {P : Ev → Sto → Prop} : gAll [] [] E env M P = P env M := id rfl
@[simp] theorem gAll_cons {P : Ev → Sto → Prop} {gs : List WG} : gAll (G :: gs) (d :: ds) E env M P = G d E env M fun env1 M1 => gAll gs ds E env1 M1 P := id rfl
@[simp] theorem gTup_s {P : Ev → Sto → Prop} {gs : List WG} : gTup gs (.tup ds) E env M P = (ds.length = gs.length ∧ gAll gs ds E env M P) := id rfl
@[simp] theorem gSub_s {P : Ev → Sto → Prop} : gSub f g d E env M P = f E env M fun o M1 => g E env M1 fun i M2 => setD o i d M2 fun M3 => P env M3 := id rfl
def onN (x : Option Nat) (k : Nat → Prop) : Prop := match x with
  | some d => k d
  | none => False
@[simp] theorem onN_some {k : Nat → Prop} : onN (some n) k = k n := id rfl
def setO (o : Option O) (i d : D) (Q : O → Prop) : Prop := match o with
    | some (.lst xs) => match i with
      | .int k => onN (L2.ixN xs.length k) fun j => Q (.lst (xs.set j d))
      | _ => False
    | some (.dk kvs) => match keyD i with
      | some κ => kvs.length < sizeLine ∧ Q (.dk (ins kvs κ d))
      | none => False
    | some (.dn kvs) => nkOk i = true ∧ kvs.length < sizeLine ∧ Q (.dn (ins kvs i d))
    | _ => False
@[simp] theorem setD_ref {P : Sto → Prop} {y : D} : setD (.ref a) y d M P = setO (M a) y d fun o => P (M.set a o) := by
  unfold setD setO
  dsimp only
  generalize M a = x
  rcases x with _ | o
  · rfl
  · cases o with
    | lst xs => cases y <;> first | rfl | (dsimp only; split <;> simp_all [onN])
    | dk _ => first | (dsimp only; done) | (dsimp only; cases keyD y <;> rfl)
    | dn _ => rfl
    | ins _ _ => rfl
    | dkF _ => rfl
    | dnF _ => rfl
@[simp] theorem setO_lst {P : O → Prop} : setO (some (.lst xs)) (.int i) d P = onN (L2.ixN xs.length i) fun j => P (.lst (xs.set j d)) := id rfl
@[simp] theorem setO_dkS {P : O → Prop} {kvs : List (Key × D)} {z : Str} : setO (some (.dk kvs)) (.str z) d P = (kvs.length < sizeLine ∧ P (.dk (ins kvs (.inr z) d))) := id rfl
@[simp] theorem setO_dkI {P : O → Prop} {kvs : List (Key × D)} {z : Int} : setO (some (.dk kvs)) (.int z) d P = (kvs.length < sizeLine ∧ P (.dk (ins kvs (.inl z) d))) := id rfl
@[simp] theorem setO_dn {P : O → Prop} {kvs : List (D × D)} : setO (some (.dn kvs)) e d P = (nkOk e = true ∧ kvs.length < sizeLine ∧ P (.dn (ins kvs e d))) := by
  cases e <;> rfl
@[simp] theorem sNil_s : sNil E D' env M = D'.nx env M := id rfl
@[simp] theorem sSeq_s : sSeq s t E D' env M = s E { D' with nx := K (t E D') } env M := id rfl
@[simp] theorem sAsg_s : sAsg f G E D' env M = f E env M fun d M1 => G d E env M1 D'.nx := id rfl
@[simp] theorem sAug_s {op : B2} : sAug n op f E D' env M = onS (gt env n) fun x => f E env M fun y M1 => op x y M1 fun z M2 => D'.nx (put env n z) M2 := id rfl
@[simp] theorem sExpr_s : sExpr f E D' env M = f E env M fun _ M1 => D'.nx env M1 := id rfl
@[simp] theorem sRet_s : sRet f E D' env M = f E env M D'.rt := id rfl
@[simp] theorem sRetN_s : sRetN E D' env M = D'.rt .non M := id rfl
@[simp] theorem sIf_s : sIf u s t E D' env M = u E env M fun c M1 => if c = true then s E D' env M1 else t E D' env M1 := id rfl
@[simp] theorem sBreak_s : sBreak E D' env M = D'.bk env M := id rfl
@[simp] theorem sCont_s : sCont E D' env M = D'.ct env M := id rfl
@[simp] theorem sFor_s {src : WI} : sFor src G s E D' env M = src E env M fun chk xs M1 => forL G s chk xs E D' env M1 := id rfl
@[simp] theorem eComp_s {src : WI} {vs : List Nat} : eComp src vs G u f E env M Q = src E env M fun chk xs M1 => ∀ p, M1 p = none →
  compL p vs G u f env chk xs (M1.set p (.lst [])) fun M2 => Q (.ref p) M2 := id rfl
/-! loops -/
theorem forL_nil {chk : Sto → Prop} : forL G s chk [] E D' env M = (chk M ∧ D'.nx env M) := id rfl
theorem forL_cons {chk : Sto → Prop} {x : D} : forL G s chk (x :: xs) E D' env M = (chk M ∧ G x E env M fun env1 M1 => s E { D' with nx := K (forL G s chk xs E D'), ct := K (forL G s chk xs E D'), bk := D'.nx } env1 M1) := id rfl
theorem compL_nil {p : Addr} {vs : List Nat} {chk : Sto → Prop} {P : Sto → Prop} : compL p vs G u f env chk [] M P = (chk M ∧ P M) := id rfl
theorem compL_cons {p : Addr} {vs : List Nat} {chk : Sto → Prop} {P : Sto → Prop} {x : D} : compL p vs G u f env chk (x :: xs) M P = (chk M ∧ G x X0 (wipe env vs) M fun env1 M1 => u X0 env1 M1 fun b M2 =>
    if b = true then f X0 env1 M2 fun d M3 => lstO (M3 p) fun acc => acc.length < sizeLine ∧ compL p vs G u f env chk xs (M3.set p (.lst (acc ++ [d]))) P
    else compL p vs G u f env chk xs M2 P) := id rfl
end
theorem Le.refl {M : Sto} : Le M M := fun _ _ h => h
theorem Le.trans {M M' M'' : Sto} (h : Le M M') (h' : Le M' M'') : Le M M'' := fun x o e => h' x o (h x o e)
theorem Le.fresh {M M' : Sto} {p : Addr} {o : O} (h : Le M M') (hp : M p = none) : Le M (M'.set p o) := fun x u e => by
  have : x ≠ p := fun he => by subst he; rw [hp] at e; cases e
  rw [set_ne this]; exact h x u e
theorem Le.set {M M' : Sto} {p : Addr} {o : O} (h : Le M M') : Le (M.set p o) (M'.set p o) := fun x u e => by
  by_cases hx : x = p
  · subst hx; rw [set_same] at e ⊢; exact e
  · rw [set_ne hx] at e ⊢; exact h x u e
/-- beside one place -/
def LeX (a : Addr) (M M' : Sto) : Prop := ∀ x o, x ≠ a → M x = some o → M' x = some o
theorem LeX.refl {a : Addr} {M : Sto} : LeX a M M := fun _ _ _ h => h
theorem LeX.fresh {a : Addr} {M M' : Sto} {p : Addr} {o : O} (h : LeX a M M') (hp : M p = none) : LeX a M (M'.set p o) := fun x u n e => by
  have : x ≠ p := fun he => by subst he; rw [hp] at e; cases e
  rw [set_ne this]; exact h x u n e
theorem LeX.at {a : Addr} {M M' : Sto} {o : O} (h : LeX a M M') : LeX a M (M'.set a o) := fun x u n e => by
  rw [set_ne n]; exact h x u n e
theorem LeX.trans {a : Addr} {M M' M'' : Sto} (h : LeX a M M') (h' : LeX a M' M'') : LeX a M M'' := fun x o n e => h' x o n (h x o n e)
theorem LeX.le {a : Addr} {M M' : Sto} {o : O} (h : LeX a M M') (e : M' a = some o) : Le (M.set a o) M' := fun x u ex => by
  by_cases hx : x = a
  · subst hx; rw [set_same] at ex; rw [e]; exact ex
  · rw [set_ne hx] at ex; exact h x u hx ex
theorem set_none {M : Sto} {a p : Addr} {o : O} : M.set a o p = none ↔ p ≠ a ∧ M p = none := by
  by_cases h : p = a
  · subst h; rw [set_same]; simp
  · rw [set_ne h]; simp [h]
theorem fdiv_pos {a b : Int} (h : 0 < b) : a.fdiv b = a / b := Int.fdiv_eq_ediv_of_nonneg a (Int.le_of_lt h)
theorem fmod_pos {a b : Int} (h : 0 < b) : a.fmod b = a % b := Int.fmod_eq_emod_of_nonneg a (Int.le_of_lt h)
theorem mulOk_small {a b : Int} (h : b.natAbs < 2 ^ 63) : IntMulOk a b := IntMulOk.of_right (intBits_le_64 (by omega) (by omega))
theorem mulOk_small' {a b : Int} (h : a.natAbs < 2 ^ 63) : IntMulOk a b := IntMulOk.of_left (intBits_le_64 (by omega) (by omega))
theorem getElem_map {α : Type} {xs : List α} {f : α → D} {i : Nat} : (xs.map f)[i]? = xs[i]?.map f := by simp
@[simp] theorem atI_s {α : Type} (xs : List α) (i : Int) : L2.atI xs i = (L2.ixN xs.length i).bind fun j => xs[j]? := id rfl
@[simp] theorem ixN_s (n : Nat) (i : Int) : L2.ixN n i = if 0 ≤ i then (if i < n then some i.toNat else none) else if -(n : Int) ≤ i then some (i + n).toNat else none := id rfl
/-! ## how big a number is -/
structure Sm (m : Nat) (x : Int) : Prop where
  h : x.natAbs < 2 ^ m
theorem Sm.bits {m : Nat} {x : Int} (h : Sm m x) : Builtin.Int.intBits x ≤ m := intBits_le_iff.mpr h.h
theorem Sm.of_bits {m : Nat} {x : Int} (h : Builtin.Int.intBits x ≤ m) : Sm m x := ⟨intBits_le_iff.mp h⟩
theorem Sm.mono {m n : Nat} {x : Int} (h : Sm m x) (hl : m ≤ n) : Sm n x := ⟨Nat.lt_of_lt_of_le h.h (Nat.pow_le_pow_right (by decide) hl)⟩
theorem Sm.mul {m n : Nat} {x y : Int} (hx : Sm m x) (hy : Sm n y) : Sm (m + n) (x * y) := .of_bits (intBits_mul_le hx.bits hy.bits)
theorem Sm.add {m n : Nat} {x y : Int} (hx : Sm m x) (hy : Sm n y) : Sm (max m n + 1) (x + y) := .of_bits (intBits_add_le hx.bits hy.bits)
theorem Sm.of_le {m : Nat} {x y : Int} (h : x.natAbs ≤ y.natAbs) (hy : Sm m y) : Sm m x := ⟨Nat.lt_of_le_of_lt h hy.h⟩
theorem Sm.neg {m : Nat} {x : Int} (hx : Sm m x) : Sm m (-x) := hx.of_le (by omega)
theorem Sm.lit {m : Nat} {x : Int} (h : x.natAbs < 2 ^ 60) (hm : 60 ≤ m) : Sm m x := Sm.mono (m := 60) ⟨h⟩ hm
theorem Sm.mulOk {m n : Nat} {x y : Int} (hx : Sm m x) (hy : Sm n y) (h : m + n ≤ 134217728) : IntMulOk x y := IntMulOk.of_le hx.bits hy.bits h
theorem Sm.np {m : Nat} {x y : Int} (h : Sm m y) (hm : m < 9000) : Builtin.divisionGoesByPylong x y = false := by
  refine PyProof.noPylong_of_log2 ?_
  by_cases h0 : y.natAbs = 0
  · rw [h0, Nat.log2_zero]; omega
  · exact Nat.lt_of_lt_of_le ((Nat.log2_lt h0).mpr h.h) (Nat.le_of_lt hm)
theorem np_small {x y : Int} (h : y.natAbs < 1073741824) : Builtin.divisionGoesByPylong x y = false := PyProof.noPylong_small h
theorem fn1_e {g : D → XW → Sto → KD → Prop} {E : XW} {ds : List D} {M : Sto} {Q : KD} (h : fn1 g E ds M Q) : ∃ x, ds = [x] ∧ g x E M Q := by
  unfold fn1 at h; split at h
  · exact ⟨_, rfl, h⟩
  · exact h.elim
theorem fn2_e {g : D → D → XW → Sto → KD → Prop} {E : XW} {ds : List D} {M : Sto} {Q : KD} (h : fn2 g E ds M Q) : ∃ x y, ds = [x, y] ∧ g x y E M Q := by
  unfold fn2 at h; split at h
  · exact ⟨_, _, rfl, h⟩
  · exact h.elim
theorem fn3_e {g : D → D → D → XW → Sto → KD → Prop} {E : XW} {ds : List D} {M : Sto} {Q : KD} (h : fn3 g E ds M Q) : ∃ x y z, ds = [x, y, z] ∧ g x y z E M Q := by
  unfold fn3 at h; split at h
  · exact ⟨_, _, _, rfl, h⟩
  · exact h.elim
theorem fn4_e {g : D → D → D → D → XW → Sto → KD → Prop} {E : XW} {ds : List D} {M : Sto} {Q : KD} (h : fn4 g E ds M Q) : ∃ x y z u, ds = [x, y, z, u] ∧ g x y z u E M Q := by
  unfold fn4 at h; split at h
  · exact ⟨_, _, _, _, rfl, h⟩
  · exact h.elim
theorem fn5_e {g : D → D → D → D → D → XW → Sto → KD → Prop} {E : XW} {ds : List D} {M : Sto} {Q : KD} (h : fn5 g E ds M Q) : ∃ x y z u v, ds = [x, y, z, u, v] ∧ g x y z u v E M Q := by
  unfold fn5 at h; split at h
  · exact ⟨_, _, _, _, _, rfl, h⟩
  · exact h.elim
theorem rt_endsL {Q : KD} {d : D} {M0 M : Sto} (l : Le M0 M) (q : Q d M0) : (endsL Q).rt d M := ⟨M0, l, q⟩
@[simp] theorem endsL_rt {Q : KD} {d : D} {M : Sto} : (endsL Q).rt d M ↔ ∃ M0, Le M0 M ∧ Q d M0 := Iff.rfl
@[simp] theorem endsL_nx {Q : KD} {e : Ev} {M : Sto} : (endsL Q).nx e M ↔ ∃ M0, Le M0 M ∧ Q .non M0 := Iff.rfl
/-! ## loops and comprehensions by what stays -/
section
variable {E : XW} {env : Ev} {M : Sto} {f : WE} {D' : Ends} {s : WS} {G : WG} {p : Addr} {vs : List Nat} {chk : Sto → Prop} {P : Sto → Prop}
theorem for_ind (I : List D → Ev → Sto → Prop)
    (step : ∀ x xs e m, I (x :: xs) e m → chk m ∧ ∀ N : Ev → Sto → Prop, (∀ e' m', I xs e' m' → N e' m') → G x E e m fun e1 m1 => s E { D' with nx := N, ct := N, bk := D'.nx } e1 m1)
    (last : ∀ e m, I [] e m → chk m ∧ D'.nx e m) : ∀ xs e m, I xs e m → forL G s chk xs E D' e m
  | [], e, m, h => by rw [forL_nil]; exact last e m h
  | x :: xs, e, m, h => by
    rw [forL_cons]
    have h' := step x xs e m h
    exact ⟨h'.1, h'.2 _ fun e' m' hi => for_ind I step last xs e' m' hi⟩
theorem comp_ind (I : List D → List D → Sto → Prop)
    (step : ∀ x xs acc m, I acc (x :: xs) m → chk m ∧ acc.length < sizeLine ∧ ∀ T : KD, (∀ d m', m' p = some (.lst acc) → I (acc ++ [d]) xs (m'.set p (.lst (acc ++ [d]))) → T d m') →
      G x X0 (wipe env vs) m fun e1 m1 => f X0 e1 m1 T)
    (last : ∀ acc m, I acc [] m → chk m ∧ P m) : ∀ xs acc m, I acc xs m → compL p vs G tYes f env chk xs m P
  | [], acc, m, h => by rw [compL_nil]; exact last acc m h
  | x :: xs, acc, m, h => by
    rw [compL_cons]
    have h' := step x xs acc m h
    refine ⟨h'.1, ?_⟩
    simp only [tYes_s, if_pos]
    exact h'.2.2 _ fun d m' e hi => by
      rw [e, lstO_lst]; exact ⟨h'.2.1, comp_ind I step last xs _ _ hi⟩
theorem comp_map (val : D → D) (R : Sto → Prop) (hR : ∀ m o, R m → R (m.set p o)) (hc : ∀ m, R m → chk m) : ∀ (xs acc : List D) (M : Sto),
    (∀ x ∈ xs, ∀ m (T : KD), R m → T (val x) m → G x X0 (wipe env vs) m fun e1 m1 => f X0 e1 m1 T) → acc.length + xs.length ≤ sizeLine → M p = some (.lst acc) → R M → P (M.set p (.lst (acc ++ xs.map val))) →
    compL p vs G tYes f env chk xs M P
  | [], acc, M, _, _, e, r, h => by
    rw [compL_nil]; refine ⟨hc M r, ?_⟩
    simp only [List.map_nil, List.append_nil] at h
    rw [set_self e] at h; exact h
  | x :: xs, acc, M, hb, hl, e, r, h => by
    rw [compL_cons]; refine ⟨hc M r, ?_⟩
    simp only [tYes_s, if_pos]
    refine hb x (.head _) M _ r ?_
    rw [e, lstO_lst]
    simp only [List.length_cons] at hl
    refine ⟨by omega, comp_map val R hR hc xs _ _ (fun y hy => hb y (.tail _ hy)) (by simp; omega) set_same (hR _ _ r) ?_⟩
    rw [set_set]
    simpa using h
end
theorem sizeLine_ge : 100000 ≤ sizeLine := by decide
@[simp] theorem ofString_inj {a b : String} : Str.ofString a = Str.ofString b ↔ a = b := by
  refine ⟨fun h => ?_, fun h => by rw [h]⟩
  rw [Str.ofString_eq_toList, Str.ofString_eq_toList] at h
  injection h with h
  have h := Array.toList_inj.mpr h
  simp only at h
  have h2 := (List.map_inj_right (fun x y e => Char.toNat_inj.mp e)).mp h
  exact String.toList_inj.mp h2
def chrI (x : D) (M : Sto) (k : (Sto → Prop) → List D → Sto → Prop) : Prop := match x with
  | .str s => k (fun _ => True) (charsOf s) M
  | _ => False
@[simp] theorem chrI_str {s : Str} {M : Sto} {k : (Sto → Prop) → List D → Sto → Prop} : chrI (.str s) M k = k (fun _ => True) (charsOf s) M := id rfl
@[simp] theorem iChars_s {f : WE} {E : XW} {env : Ev} {M : Sto} {k : (Sto → Prop) → List D → Sto → Prop} : iChars f E env M k = f E env M fun x M1 => chrI x M1 k := id rfl
@[simp] theorem cIsB_bl {a b : Bool} {M : Sto} {k : Bool → Prop} : cIsB (.bl a) (.bl b) M k = k (a == b) := id rfl
@[simp] theorem cNotB_bl {a b : Bool} {M : Sto} {k : Bool → Prop} : cNotB (.bl a) (.bl b) M k = k (!(a == b)) := id rfl
/-! in -/
def inO (o : Option O) (x : D) (k : Bool → Prop) : Prop := match o with
    | some (.lst xs) => flat x = true ∧ xs.all flat = true ∧ k (xs.any fun z => eqF z x)
    | some o => dLk o x fun r => k r.isSome
    | none => False
@[simp] theorem cIn_str {s t : Str} {M : Sto} {k : Bool → Prop} : cIn (.str t) (.str s) M k = k (!(Builtin.Str.occurrences s t 0 s.length 1).isEmpty) := id rfl
@[simp] theorem cIn_tup {x : D} {xs : List D} {M : Sto} {k : Bool → Prop} : cIn x (.tup xs) M k = (flat x = true ∧ xs.all flat = true ∧ k (xs.any fun z => eqF z x)) := id rfl
@[simp] theorem cIn_ref {x : D} {a : Addr} {M : Sto} {k : Bool → Prop} : cIn x (.ref a) M k = inO (M a) x k := id rfl
@[simp] theorem inO_lst {x : D} {xs : List D} {k : Bool → Prop} : inO (some (.lst xs)) x k = (flat x = true ∧ xs.all flat = true ∧ k (xs.any fun z => eqF z x)) := id rfl
@[simp] theorem inO_dkS {z : Str} {kvs : List (Key × D)} {k : Bool → Prop} : inO (some (.dk kvs)) (.str z) k = k (lk kvs (.inr z)).isSome := id rfl
@[simp] theorem inO_dn {z : D} {kvs : List (D × D)} {k : Bool → Prop} : inO (some (.dn kvs)) z k = (nkOk z = true ∧ k (lk kvs z).isSome) := by
  cases z <;> exact rfl
@[simp] theorem revD_tup {xs : List D} {M : Sto} {Q : KD} : revD (.tup xs) M Q = Q (.tup xs.reverse) M := id rfl
@[simp] theorem revD_ref {a : Addr} {M : Sto} {Q : KD} : revD (.ref a) M Q = lstO (M a) fun xs => ∀ p, M p = none → Q (.ref p) (M.set p (.lst xs.reverse)) := id rfl
@[simp] theorem subD_str {s : Str} {i : Int} {M : Sto} {k : D → Prop} : subD (.str s) (.int i) M k = (s.length ≤ sizeLine ∧ onN (L2.atI s.cps.toList i) fun c => k (.str ⟨#[c]⟩)) := id rfl
@[simp] theorem lockO_dk {kvs : List (Key × D)} {k : O → O → Prop} : lockO (some (.dk kvs)) k = k (.dk kvs) (.dkF kvs) := id rfl
@[simp] theorem lockO_dn {kvs : List (D × D)} {k : O → O → Prop} : lockO (some (.dn kvs)) k = k (.dn kvs) (.dnF kvs) := id rfl
@[simp] theorem lockD_ref {a : Addr} {M : Sto} {k : Addr → O → O → Prop} : lockD (some (.ref a)) M k = lockO (M a) (k a) := id rfl
@[simp] theorem eLock_s {i : Nat} {f : WE} {E : XW} {env : Ev} {M : Sto} {Q : KD} : eLock i f E env M Q = lockD (gt env i) M fun a o o' => f X0 env (M.set a o') fun d M' => M' a = some o' ∧ Q d (M'.set a o) := id rfl
@[simp] theorem keysO_dkF {kvs : List (Key × D)} {k : O → List D → Prop} : keysO (some (.dkF kvs)) k = k (.dkF kvs) (kvs.map fun kv => dKey kv.1) := id rfl
@[simp] theorem keysO_dnF {kvs : List (D × D)} {k : O → List D → Prop} : keysO (some (.dnF kvs)) k = k (.dnF kvs) (kvs.map Prod.fst) := id rfl
def keysD (x : D) (M : Sto) (k : (Sto → Prop) → List D → Sto → Prop) : Prop := match x with
  | .ref a => keysO (M a) fun o xs => k (fun M' => M' a = some o) xs M
  | _ => False
@[simp] theorem keysD_ref {a : Addr} {M : Sto} {k : (Sto → Prop) → List D → Sto → Prop} : keysD (.ref a) M k = keysO (M a) fun o xs => k (fun M' => M' a = some o) xs M := id rfl
@[simp] theorem iKeysD_s {f : WE} {E : XW} {env : Ev} {M : Sto} {k : (Sto → Prop) → List D → Sto → Prop} : iKeysD f E env M k = f E env M fun x M1 => keysD x M1 k := id rfl
@[simp] theorem subO_dkFS {kvs : List (Key × D)} {z : Str} {k : D → Prop} : subO (some (.dkF kvs)) (.str z) k = onS (lk kvs (.inr z)) k := id rfl
@[simp] theorem subO_dkFI {kvs : List (Key × D)} {z : Int} {k : D → Prop} : subO (some (.dkF kvs)) (.int z) k = onS (lk kvs (.inl z)) k := id rfl
theorem subO_dn {kvs : List (D × D)} {z : D} {k : D → Prop} : subO (some (.dn kvs)) z k = (nkOk z = true ∧ onS (lk kvs z) k) := by cases z <;> exact rfl
theorem subO_dnF {kvs : List (D × D)} {z : D} {k : D → Prop} : subO (some (.dnF kvs)) z k = (nkOk z = true ∧ onS (lk kvs z) k) := by cases z <;> exact rfl
/-! more steps -/
section
variable {E : XW} {env : Ev} {M : Sto} {Q : KD} {f g h : WE} {d : D} {a : Addr} {xs : List D} {i : Int}
def tyO (o : Option O) (k : String → Prop) : Prop := match o with
    | some (.lst _) => k "list"
    | some (.dk _) => k "dict"
    | _ => False
@[simp] theorem eIsi_s {cs : List String} : eIsi f cs E env M Q = f E env M fun x M1 => tyD x M1 fun t => Q (.bl (cs.any (isTy t))) M1 := id rfl
@[simp] theorem tyD_int {k : String → Prop} : tyD (.int i) M k = k "int" := id rfl
@[simp] theorem tyD_bl {b : Bool} {k : String → Prop} : tyD (.bl b) M k = k "bool" := id rfl
@[simp] theorem tyD_str {b : Str} {k : String → Prop} : tyD (.str b) M k = k "str" := id rfl
@[simp] theorem tyD_tup {k : String → Prop} : tyD (.tup xs) M k = k "tuple" := id rfl
@[simp] theorem tyD_lro {k : String → Prop} : tyD (.lro xs) M k = k "list" := id rfl
@[simp] theorem tyD_non {k : String → Prop} : tyD .non M k = k "NoneType" := id rfl
@[simp] theorem tyD_ref {k : String → Prop} : tyD (.ref a) M k = tyO (M a) k := id rfl
@[simp] theorem tyO_lst {k : String → Prop} : tyO (some (.lst xs)) k = k "list" := id rfl
@[simp] theorem tyO_dk {kvs : List (Key × D)} {k : String → Prop} : tyO (some (.dk kvs)) k = k "dict" := id rfl
def onBs (x : Option (List Bool)) (k : List Bool → Prop) : Prop := match x with
  | some d => k d
  | none => False
@[simp] theorem onBs_some {bs : List Bool} {k : List Bool → Prop} : onBs (some bs) k = k bs := id rfl
def onIs (x : Option (List Int)) (k : List Int → Prop) : Prop := match x with
  | some d => k d
  | none => False
@[simp] theorem onIs_some {bs : List Int} {k : List Int → Prop} : onIs (some bs) k = k bs := id rfl
def lstD (x : D) (M : Sto) (k : List D → Prop) : Prop := match x with
  | .ref a => lstO (M a) k
  | _ => False
@[simp] theorem lstD_ref {k : List D → Prop} : lstD (.ref a) M k = lstO (M a) k := id rfl
@[simp] theorem eAll_s : eAll f E env M Q = f E env M fun x M1 => lstD x M1 fun xs => onBs (asBools xs) fun bs => Q (.bl (bs.all id)) M1 := by
  unfold eAll lstD lstO onBs
  first | rfl | (congr 1; done) | (congr 1; funext x M1; cases x <;> rfl)
@[simp] theorem eAny_s : eAny f E env M Q = f E env M fun x M1 => lstD x M1 fun xs => onBs (asBools xs) fun bs => Q (.bl (bs.any id)) M1 := by
  unfold eAny lstD lstO onBs
  first | rfl | (congr 1; done) | (congr 1; funext x M1; cases x <;> rfl)
@[simp] theorem eSum_s : eSum f E env M Q = f E env M fun x M1 => lstD x M1 fun xs => onIs (asInts xs) fun bs => Q (.int bs.sum) M1 := by
  unfold eSum lstD lstO onIs
  first | rfl | (congr 1; done) | (congr 1; funext x M1; cases x <;> rfl)
def lstOfO (o : Option O) (k : List D → Prop) : Prop := match o with
    | some (.lst xs) => k xs
    | some (.dk kvs) => k (kvs.map fun kv => dKey kv.1)
    | _ => False
def lstOfD (x : D) (M : Sto) (k : List D → Prop) : Prop := match x with
  | .tup xs => k xs
  | .ref a => lstOfO (M a) k
  | _ => False
@[simp] theorem lstOfD_tup {k : List D → Prop} : lstOfD (.tup xs) M k = k xs := id rfl
@[simp] theorem lstOfD_ref {k : List D → Prop} : lstOfD (.ref a) M k = lstOfO (M a) k := id rfl
@[simp] theorem lstOfO_lst {k : List D → Prop} : lstOfO (some (.lst xs)) k = k xs := id rfl
@[simp] theorem lstOfO_dk {kvs : List (Key × D)} {k : List D → Prop} : lstOfO (some (.dk kvs)) k = k (kvs.map fun kv => dKey kv.1) := id rfl
@[simp] theorem eLstOf_s : eLstOf f E env M Q = f E env M fun x M1 => lstOfD x M1 fun xs => ∀ p, M1 p = none → Q (.ref p) (M1.set p (.lst xs)) := by
  unfold eLstOf lstOfD lstOfO
  first | rfl | (congr 1; done) | (congr 1; funext x M1; cases x <;> rfl)
def onK (x : Option (List (Key × D))) (k : List (Key × D) → Prop) : Prop := match x with
  | some d => k d
  | none => False
@[simp] theorem onK_some {d : List (Key × D)} {k : List (Key × D) → Prop} : onK (some d) k = k d := id rfl
@[simp] theorem eDict_s : eDict f E env M Q = f E env M fun x M1 => itD x M1 fun xs => onK (pairsK xs) fun kvs => ∀ p, M1 p = none → Q (.ref p) (M1.set p (.dk (insAll [] kvs))) := by
  unfold eDict itemsD itD lstO onK
  first | rfl | (congr 1; done) | (congr 1; funext x M1; cases x <;> rfl)
@[simp] theorem eDk_s : eDk E env M Q = ∀ p, M p = none → Q (.ref p) (M.set p (.dk [])) := id rfl
@[simp] theorem eDn_s : eDn E env M Q = ∀ p, M p = none → Q (.ref p) (M.set p (.dn [])) := id rfl
end
theorem mem_rangeL {i j : Int} {x : D} (h : x ∈ rangeL i j) : ∃ k : Int, i ≤ k ∧ k < j ∧ x = .int k := by
  unfold rangeL at h
  obtain ⟨k, hk, rfl⟩ := List.mem_map.mp h
  exact ⟨i + k, by omega, by have := List.mem_range.mp hk; omega, rfl⟩
theorem asBools_map {α : Type} (xs : List α) (f : α → Bool) : asBools (xs.map fun x => .bl (f x)) = some (xs.map f) := by
  induction xs with
  | nil => rfl
  | cons x xs ih => show (asBools (xs.map _)).map _ = _; rw [ih]; rfl
theorem asInts_map {α : Type} (xs : List α) (f : α → Int) : asInts (xs.map fun x => .int (f x)) = some (xs.map f) := by
  induction xs with
  | nil => rfl
  | cons x xs ih => show (asInts (xs.map _)).map _ = _; rw [ih]; rfl
/-! dict(pairs) of keys all different -/
theorem ins_new {κ : Type} [DecidableEq κ] (kvs : List (κ × D)) (k : κ) (v : D) (h : k ∉ kvs.map Prod.fst) : ins kvs k v = kvs ++ [(k, v)] := by
  unfold ins
  rw [if_neg]
  simp only [List.any_eq_true, decide_eq_true_eq, not_exists, not_and]
  rintro ⟨a, b⟩ hm rfl
  exact h (List.mem_map.mpr ⟨_, hm, rfl⟩)
theorem insAll_nodup : ∀ (more kvs : List (Key × D)), ((kvs ++ more).map Prod.fst).Nodup → insAll kvs more = kvs ++ more
  | [], kvs, _ => by simp [insAll]
  | p :: more, kvs, h => by
    show insAll (ins kvs p.1 p.2) more = _
    rw [ins_new kvs p.1 p.2 ?_]
    · rw [insAll_nodup more _ (by simpa using h)]; simp
    · intro hm
      rw [List.map_append, List.nodup_append] at h
      exact h.2.2 _ hm _ (by simp) rfl
theorem pairsK_map {α : Type} (xs : List α) (k : α → Str) (v : α → D) : pairsK (xs.map fun x => .tup [.str (k x), v x]) = some (xs.map fun x => (.inr (k x), v x)) := by
  induction xs with
  | nil => rfl
  | cons x xs ih => simp only [List.map_cons, pairsK, ih, keyD]
theorem lk_mem {κ : Type} [DecidableEq κ] {kvs : List (κ × D)} {k : κ} (h : k ∈ kvs.map Prod.fst) : ∃ d, lk kvs k = some d ∧ (k, d) ∈ kvs := by
  induction kvs with
  | nil => simp at h
  | cons p r ih =>
    unfold lk
    split
    · rename_i e; exact ⟨p.2, rfl, by rw [← e]; exact .head _⟩
    · rename_i e
      have : k ∈ r.map Prod.fst := by
        rcases List.mem_cons.mp h with h | h
        · exact absurd h.symm e
        · exact h
      obtain ⟨d, h1, h2⟩ := ih this
      exact ⟨d, h1, .tail _ h2⟩
/-- what a law promises -/
def lawS : FD := fn1 fun x _ _ Q => (∃ ns : List Int, x = .lro (ns.map D.int) ∧ ns.length ≤ 63 ∧ ∀ z ∈ ns, Builtin.Int.intBits z ≤ 1048576) ∧ ∀ M', Q (.bl true) M'
end DL

set_option Elab.async false
set_option linter.all false
set_option maxRecDepth 100000
/-! DQ: == of plain data (none, ints, texts, tuples) -/
namespace DL
open PySem
mutual
/-- plain data -/
def plB : D → Bool
  | .non => true
  | .int _ => true
  | .str s => PyData.strOk s
  | .tup xs => plsB xs
  | _ => false
def plsB : List D → Bool
  | [] => true
  | x :: xs => plB x && plsB xs
end
mutual
def dpt : D → Nat
  | .tup xs => dpts xs + 1
  | _ => 0
def dpts : List D → Nat
  | [] => 0
  | x :: xs => max (dpt x) (dpts xs)
end
mutual
theorem py_can : ∀ x : D, plB x = true → x.py.canLay0 = true
  | .non, _ => by simp [D.py, PyData.canLay0]
  | .int _, _ => by simp [D.py, PyData.canLay0]
  | .str s, h => by simp only [plB] at h; simp [D.py, PyData.canLay0, h]
  | .tup xs, h => by simp only [plB] at h; simp only [D.py, PyData.canLay0]; exact py_cans xs h
  | .bl _, h => by simp [plB] at h
  | .ref _, h => by simp [plB] at h
  | .ty _, h => by simp [plB] at h
  | .lro _, h => by simp [plB] at h
theorem py_cans : ∀ xs : List D, plsB xs = true → PyData.canLayAll0 (D.pys xs) = true
  | [], _ => by simp [D.pys, PyData.canLayAll0]
  | x :: xs, h => by
    simp only [plsB, Bool.and_eq_true] at h
    simp only [D.pys, PyData.canLayAll0, Bool.and_eq_true]
    exact ⟨py_can x h.1, py_cans xs h.2⟩
end
mutual
theorem py_dpt : ∀ x : D, plB x = true → x.py.depth = dpt x
  | .non, _ => by simp [D.py, PyData.depth, dpt]
  | .int _, _ => by simp [D.py, PyData.depth, dpt]
  | .str s, h => by simp [D.py, PyData.depth, dpt]
  | .tup xs, h => by simp only [plB] at h; simp only [D.py, PyData.depth, dpt]; rw [py_dpts xs h]
  | .bl _, h => by simp [plB] at h
  | .ref _, h => by simp [plB] at h
  | .ty _, h => by simp [plB] at h
  | .lro _, h => by simp [plB] at h
theorem py_dpts : ∀ xs : List D, plsB xs = true → PyData.depthAll (D.pys xs) = dpts xs
  | [], _ => by simp [D.pys, PyData.depthAll, dpts]
  | x :: xs, h => by
    simp only [plsB, Bool.and_eq_true] at h
    simp only [D.pys, PyData.depthAll, dpts]
    rw [py_dpt x h.1, py_dpts xs h.2]
end
mutual
theorem py_eqv : ∀ x y : D, plB x = true → plB y = true → PyData.eqv x.py y.py = decide (x = y)
  | .non, y, _, h => by cases y <;> first | (simp [plB] at h; done) | (simp [D.py, PyData.eqv]; done) | (simp [D.py, PyData.eqv]; rfl)
  | .int i, y, _, h => by cases y <;> first | (simp [plB] at h; done) | (simp [D.py, PyData.eqv]; done) | (simp [D.py, PyData.eqv]; rfl)
  | .str s, y, _, h => by
    cases y <;> first | (simp [plB] at h; done) | (simp [D.py, PyData.eqv]; done) | (simp [D.py, PyData.eqv]; rfl)
  | .tup xs, y, h, h' => by
    cases y with
    | tup ys =>
      simp only [plB] at h h'
      simp only [D.py, PyData.eqv]
      rw [py_eqvs xs ys h h']
      simp
    | _ => first | (simp [plB] at h'; done) | (simp [D.py, PyData.eqv]; done) | (simp [D.py, PyData.eqv]; rfl)
  | .bl _, _, h, _ => by simp [plB] at h
  | .ref _, _, h, _ => by simp [plB] at h
  | .ty _, _, h, _ => by simp [plB] at h
  | .lro _, _, h, _ => by simp [plB] at h
theorem py_eqvs : ∀ xs ys : List D, plsB xs = true → plsB ys = true → PyData.eqvAll (D.pys xs) (D.pys ys) = decide (xs = ys)
  | [], [], _, _ => by simp [D.pys, PyData.eqvAll]
  | [], y :: ys, _, _ => by simp [D.pys, PyData.eqvAll]
  | x :: xs, [], _, _ => by simp [D.pys, PyData.eqvAll]
  | x :: xs, y :: ys, h, h' => by
    simp only [plsB, Bool.and_eq_true] at h h'
    simp only [D.pys, PyData.eqvAll]
    rw [py_eqv x y h.1 h'.1, py_eqvs xs ys h.2 h'.2]
    simp
end
theorem cEq_pl {x y : D} {M : Sto} {k : Bool → Prop} (hx : plB x = true) (hy : plB y = true) (dx : dpt x ≤ 64) (dy : dpt y ≤ 64) (h : k (decide (x = y))) : cEq x y M k := by
  have gen : SeqAt.shaped x.py = true ∧ SeqAt.shaped y.py = true ∧ k (PyData.eqv x.py y.py) := by
    refine ⟨?_, ?_, by rw [py_eqv x y hx hy]; exact h⟩
    · unfold SeqAt.shaped; rw [py_can x hx, py_dpt x hx]; simpa using dx
    · unfold SeqAt.shaped; rw [py_can y hy, py_dpt y hy]; simpa using dy
  unfold cEq
  split
  · simpa using h
  · simpa using h
  · simp [plB] at hx
  · exact gen
end DL

set_option Elab.async false
set_option linter.all false
set_option maxRecDepth 100000
set_option maxHeartbeats 4000000
/-! DF: defs, calls, the law's end -/
namespace DL
open PySem PySem.Spec PyProof.Rows L2
def spOf (c : Cn) (g : FD) : Sp := fun vs H Q E => ∃ ds M Ed Qd, Reps c.K H vs ds ∧ R c M H ∧ g Ed ds M Qd ∧ KX c H Ed E ∧ KQ c H Qd Q
/-- a def of the text, by what it asks -/
structure FnD (c : Cn) (mg : Str → Option Value) (base : Heap) (CX : CXT) (k : Nat) (x : Str) (g : FD) : Prop where
  h : ∃ f fd ps, FnOk c.P c.w c.K mg base CX k f fd ps (spOf c g) ∧ mg x = some (.ref f) ∧ PySem.W.keepIn c.K (.ref f) = true ∧ Binds c.K fd ps []
section
variable {X : Cx} {CA : String → Addr} {XE : XK} {a b e o : Expr} {es : List Expr} {f g h : WE} {fs : List WE} {pos p : Pos} {x : Str} {G : FD} {CX : CXT} {k j : Nat}
theorem d_call (F : FnD (cn X CA) X.mg X.base CX k x G) (hr : Room j X.A) (hk : k ≤ j) (hx : Passes CX X XE) (ha : SAs X CA XE (e :: es) fs) (hg : Gl X x := by rfl) (hdb : (x == ("__debug__" : Str)) = false := by decide)
    (he : starEach (e :: es) X.env = (false, eval e X.env) :: starEach es X.env := by rfl) (hpl : (backTo pos (starEach es X.env)).any (·.1) = false := by rfl) : SE X CA XE (.Call (.Name x p) (e :: es) [] pos) (eCall G fs) := by
  obtain ⟨f, fd, ps, F, hm, hkp, hb⟩ := F.h
  exact PE_weak (pe_call F (hr.mono hk) hg hm hkp hb .nil hx ha.pa hdb he hpl) fun σ H Q ⟨env, M, Ed, Qd, p, q, kq⟩ => ⟨env, M, Ed, _, p, q, fun ds M1 vs H1 q1 r1 R1 T1 _ => by
    show spOf (cn X CA) G (vs ++ []) H1 Q XE
    rw [List.append_nil]
    exact ⟨ds, M1, Ed, Qd, r1, R1, q1, p.x.mono T1, kq.mono T1⟩⟩
theorem d_call0 (F : FnD (cn X CA) X.mg X.base CX k x G) (hr : Room j X.A) (hk : k ≤ j) (hx : Passes CX X XE) (hg : Gl X x := by rfl) (hdb : (x == ("__debug__" : Str)) = false := by decide) : SE X CA XE (.Call (.Name x p) [] [] pos) (eCall G []) := by
  obtain ⟨f, fd, ps, F, hm, hkp, hb⟩ := F.h
  exact PE_weak (pe_call0 F (hr.mono hk) hg hm hkp hb .nil hx hdb) fun σ H Q ⟨env, M, Ed, Qd, p, q, kq⟩ => ⟨[], M, Ed, Qd, .nil, p.r, q, p.x, kq⟩
end
theorem blk_by {N N' : List Str} {sc sc' scope : Scope} {own : List (Str × Nat)} (hN : N' = N) (hs : sc' = sc) (h : blkC N sc scope own = true) : BlkOk N' sc' scope own := by
  subst hN; subst hs; exact blkOk_by h
theorem passN {X : Cx} {E : XK} : Passes CX0 X E := fun _ _ _ _ _ _ _ h => h.elim
section
variable {P : Program} {w : World} {K : PySem.W.Frag} {mg : Str → Option Value} {base : Heap} {CA : String → Addr}
theorem fn_d {x qual : Str} {st : Stmt} {f : Addr} {fd : FuncData} {N ps : List Str} {k : Nat} {g : FD} {gb : WS} (F : Fun K x qual st f fd) (S : FnScope N ps (defScope st)) (hl : ∀ E ds M Q, g E ds M Q → ds.length = ps.length)
    (body : ∀ (cdv : Value) (A : Around) (outer : List Env) (s : Shared) (H : Hp) (E : XK), Room k (A.deeper (envOfC qual (defScope st) s.heap.objs.size f cdv)) →
      SSs (cxOf CX0 P w K mg base N qual (defScope st) f cdv A outer s H E).nox CA E (defBody st) gb)
    (ob : ∀ E ds M Q, g E ds M Q → gb E (endsOf Q) (DL.start N.length ds) M) : FnOk P w K mg base CX0 (k + 1) f fd ps (spOf ⟨P, w, K, CA⟩ g) := by
  refine F.ok S (fun vs H Q E ⟨ds, M, Ed, Qd, r, hR, hg, kx, kq⟩ => ?_) fun cdv A outer s H vs Q E hr ⟨ds, M, Ed, Qd, r, hR, hg, kx, kq⟩ => ?_
  · rw [Reps.length r]; exact hl _ _ _ _ hg
  · refine ⟨_, body cdv A outer s H E hr, DL.start N.length ds, M, Ed, endsOf Qd, ⟨RelEnv.start r, hR, kx⟩, ob _ _ _ _ hg, ⟨fun _ M' _ H' q _ r' t => kq _ _ _ _ q .non r' t, kq, fun _ _ _ _ q => q.elim, fun _ _ _ _ q => q.elim⟩⟩
theorem fn_l {x qual : Str} {st : Stmt} {f : Addr} {fd : FuncData} {N ps : List Str} {k : Nat} {g : FD} {gb : WS} (F : Fun K x qual st f fd) (S : FnScope N ps (defScope st)) (hl : ∀ E ds M Q, g E ds M Q → ds.length = ps.length)
    (body : ∀ (cdv : Value) (A : Around) (outer : List Env) (s : Shared) (H : Hp) (E : XK), Room k (A.deeper (envOfC qual (defScope st) s.heap.objs.size f cdv)) →
      SSs (cxOf CX0 P w K mg base N qual (defScope st) f cdv A outer s H E).nox CA E (defBody st) gb)
    (ob : ∀ E ds M Q, g E ds M Q → gb E (endsL Q) (DL.start N.length ds) M) : FnOk P w K mg base CX0 (k + 1) f fd ps (spOf ⟨P, w, K, CA⟩ g) := by
  refine F.ok S (fun vs H Q E ⟨ds, M, Ed, Qd, r, hR, hg, kx, kq⟩ => ?_) fun cdv A outer s H vs Q E hr ⟨ds, M, Ed, Qd, r, hR, hg, kx, kq⟩ => ?_
  · rw [Reps.length r]; exact hl _ _ _ _ hg
  · have kq' : KQ ⟨P, w, K, CA⟩ H (fun d M' => ∃ M0, Le M0 M' ∧ Qd d M0) Q := fun _ M' v H' ⟨M0, l, q⟩ r' hR' t => kq _ M0 _ _ q r' (fun a o e => hR' a o (l a o e)) t
    refine ⟨_, body cdv A outer s H E hr, DL.start N.length ds, M, Ed, endsL Qd, ⟨RelEnv.start r, hR, kx⟩, ob _ _ _ _ hg, ⟨fun _ M' _ H' q _ r' t => kq' _ _ _ _ q .non r' t, kq', fun _ _ _ _ q => q.elim, fun _ _ _ _ q => q.elim⟩⟩
theorem fn_none {f : Addr} {fd : FuncData} {ps : List Str} {k : Nat} {g : FD} (h : ∀ E ds M Q, ¬ g E ds M Q) : FnOk P w K mg base CX0 k f fd ps (spOf ⟨P, w, K, CA⟩ g) :=
  ⟨fun vs H Q E ⟨ds, M, Ed, Qd, _, _, hg, _⟩ => (h _ _ _ _ hg).elim, fun A outer s H args us vs Q E _ _ _ _ ⟨ds, M, Ed, Qd, _, _, hg, _⟩ => (h _ _ _ _ hg).elim⟩
theorem FnOk.d {x : Str} {f : Addr} {fd : FuncData} {ps : List Str} {k : Nat} {CX : CXT} {g : FD} (F : FnOk P w K mg base CX k f fd ps (spOf ⟨P, w, K, CA⟩ g)) (hm : mg x = some (.ref f)) (hk : PySem.W.keepIn K (.ref f) = true) (hb : Binds K fd ps []) : FnD ⟨P, w, K, CA⟩ mg base CX k x g :=
  ⟨f, fd, ps, F, hm, hk, hb⟩
end
theorem len1 {g : D → XW → Sto → KD → Prop} : ∀ E ds M Q, fn1 g E ds M Q → ds.length = 1 := fun E ds M Q h => by unfold fn1 at h; split at h; rfl; exact h.elim
theorem len2 {g : D → D → XW → Sto → KD → Prop} : ∀ E ds M Q, fn2 g E ds M Q → ds.length = 2 := fun E ds M Q h => by unfold fn2 at h; split at h; rfl; exact h.elim
theorem len3 {g : D → D → D → XW → Sto → KD → Prop} : ∀ E ds M Q, fn3 g E ds M Q → ds.length = 3 := fun E ds M Q h => by unfold fn3 at h; split at h; rfl; exact h.elim
theorem len4 {g : D → D → D → D → XW → Sto → KD → Prop} : ∀ E ds M Q, fn4 g E ds M Q → ds.length = 4 := fun E ds M Q h => by unfold fn4 at h; split at h; rfl; exact h.elim
theorem len5 {g : D → D → D → D → D → XW → Sto → KD → Prop} : ∀ E ds M Q, fn5 g E ds M Q → ds.length = 5 := fun E ds M Q h => by unfold fn5 at h; split at h; rfl; exact h.elim
/-! ## constants of the module -/
theorem reps_ints {K : PySem.W.Frag} {H : Hp} : ∀ ns : List Int, Reps K H (ns.map V.int) (ns.map D.int)
  | [] => .nil
  | n :: ns => .cons (.int n) (reps_ints ns)
theorem reps_strs {K : PySem.W.Frag} {H : Hp} : ∀ ns : List Str, Reps K H (ns.map V.str) (ns.map D.str)
  | [] => .nil
  | n :: ns => .cons (.str n) (reps_strs ns)
theorem grep_int {K : PySem.W.Frag} {mg : Str → Option Value} {x : Str} {i : Int} {t : Tok} (h : mg x = some (.int i t)) : GRep K mg x (.int i) := ⟨_, .int i, h, ⟨t, rfl⟩, fun _ => .int i⟩
theorem grep_str {K : PySem.W.Frag} {mg : Str → Option Value} {x : Str} {i : Str} {t : Tok} (h : mg x = some (.str i t)) : GRep K mg x (.str i) := ⟨_, .str i, h, ⟨t, rfl⟩, fun _ => .str i⟩
theorem grep_2 {K : PySem.W.Frag} {mg : Str → Option Value} {x : Str} {a : Addr} {i j : Int} {t u : Tok} {n : Nat} {sl : Array (Option Value)} (h : mg x = some (.ref a)) (l : K.lookup a = some ⟨.type "tuple", none, .seq #[.int i t, .int j u] n, sl⟩) : GRep K mg x (.tup [.int i, .int j]) :=
  ⟨_, .ref a, h, rfl, fun _ => .tup (vs := [.int i, .int j]) (.inr ⟨_, _, _, l, rfl, rfl, rfl, by show 2 ≤ sizeLine; decide, .cons ⟨t, rfl⟩ (.cons ⟨u, rfl⟩ .nil)⟩) (.cons (.int i) (.cons (.int j) .nil))⟩
/-! ## the law -/
theorem law_walk {l : PySem.W.OpenLaw} {k : Nat} {q : Program} {loose : List Str} {XP : (Str → Option Value) → Heap → Prop} {YP : World → Heap → Prop} {d : DefRec} {K : Params → PySem.W.Frag} (CAw : World → String → Addr)
    (hn : l.most = some 63) (hdf : d.params.defaults = []) (hr : Room k callerA)
    (hY : ∀ (w : World) (h : Heap), YP w h → (K w.params).In h)
    (F : ∀ (w : World) (mg : Str → Option Value) (fa : Addr) (h : Heap), (K w.params).In h → h.Ns mainGlobals mg → mg d.name = some (.ref fa) →
      ∃ fd : FuncData, (∀ (s : Shared) (u : Value), BindsTo s fd ⟨[u], []⟩ [("script", u)]) ∧ ∀ base : Heap, (K w.params).In base → base.Ns mainGlobals mg → FnOk l.prog w (K w.params) mg base CX0 k fa fd ["script"] (spOf ⟨l.prog, w, K w.params, CAw w⟩ lawS)) :
    PySem.W.WalkO q loose XP YP l.row.toRowW d [] (fun f vs => PySem.call f vs) :=
  L2.walk_ofB (n := 63) (k := k) (x := "script") (CX := fun _ => CX0) (sp := fun w => spOf ⟨l.prog, w, K w.params, CAw w⟩ lawS) hn (by decide) hdf hr hY F (fun w H a ns hl hb hO hS => by
    refine ⟨[.lro (ns.map D.int)], fun _ => none, X0, fun d _ => d = .bl true, .cons (.lro ?_ (reps_ints ns)) .nil, fun _ _ e => (nomatch e), ⟨⟨ns, rfl, hl, hb⟩, fun _ => rfl⟩, KX.no, fun d M' v H' e r _ _ => by subst e; cases r; rfl⟩
    rcases hS with (hS | hS) | hS
    · rcases hO a with z | ⟨o, xs, z⟩
      · rw [z] at hS; cases hS
      · rw [z] at hS; cases hS
    · exact .inl hS
    · exact .inr hS) fun _ _ _ _ _ z => z
end DL

set_option Elab.async false
set_option linter.all false
set_option maxRecDepth 100000
set_option maxHeartbeats 4000000
/-! DK: dicts that are walked -/
namespace DL
open PySem PySem.Spec PyProof.Rows L2
section
variable {X : Cx} {CA : String → Addr} {XE : XK} {e : Expr} {f : WE}
theorem tups_lock {K : PySem.W.Frag} {H H' : Hp} {a : Addr} {u u' : HO} {od : Obj} (h : H a = some u) (nf : ∀ o xs, u ≠ .frz o xs) (t : Tups K (upd H a (.frz od u')) H') : Tups K H (upd H' a u) := by
  have ne : ∀ b o w, H b = some (.frz o w) → b ≠ a := fun b o w e z => by subst z; rw [h] at e; exact nf _ _ (Option.some.inj e)
  have go : ∀ b o w, H b = some (.frz o w) → upd H' a u b = some (.frz o w) := fun b o w e => by
    rw [upd_ne (ne b o w e)]
    exact t.z b o w (by rw [upd_ne (ne b o w e)]; exact e)
  exact ⟨⟨fun b vs s => s.elim (fun ⟨w, q⟩ => .inl ⟨w, go _ _ _ q⟩) .inr, fun b vs s => s.elim (fun ⟨w, q⟩ => .inl ⟨w, go _ _ _ q⟩) .inr⟩, go⟩
theorem d_lock (i : Nat) (h : SE X CA XE e f) : SE X CA XE e (eLock i f) :=
  PE_weak (pe_lock h) fun σ H Q ⟨env, M, Ed, Qd, p, q, k⟩ => by
    unfold eLock lockD at q
    split at q
    · rename_i a _
      unfold lockO at q
      split at q
      · rename_i kvs e
        obtain ⟨vs, h1, h2⟩ := p.r _ _ e
        have nf : ∀ o xs, (HO.dK vs) ≠ .frz o xs := ne_frz trivial
        refine ⟨a, .dK vs, h1, ?_, fun od => ?_⟩
        · trivial
        have T : Tups X.K H (upd H a (.frz od (.dK vs))) := Tups.wr h1 nf
        refine ⟨env, M.set a (.dkF kvs), X0, _, ⟨p.e.mono T, p.r.at T ⟨od, vs, upd_same, paired_mono h2 fun _ _ z => ⟨z.1, z.2.m T⟩⟩, KX.no⟩, q, ?_⟩
        rintro d M' v H' ⟨e1, q1⟩ r' R' T'
        have e2 : H' a = some (.frz od (.dK vs)) := T'.z _ _ _ upd_same
        refine ⟨e2, ?_⟩
        have tf : TF X.K H' (upd H' a (.dK vs)) := tf_un e2 trivial
        refine k d _ v _ q1 (r'.m0 tf) (fun b u eb => ?_) (tups_lock h1 nf T')
        by_cases hb : b = a
        · subst hb
          rw [set_same] at eb; cases eb
          obtain ⟨od', vs', g1, g2⟩ := R' _ _ e1
          rw [e2] at g1; cases g1
          exact ⟨vs, upd_same, paired_mono g2 fun _ _ z => ⟨z.1, z.2.m0 tf⟩⟩
        · rw [set_ne hb] at eb
          exact (R' b u eb).mono0 tf (upd_ne hb)
      · rename_i kvs e
        obtain ⟨es, h1, h2⟩ := p.r _ _ e
        have nf : ∀ o xs, (NDict (cn X CA) a es) ≠ .frz o xs := ne_frz trivial
        refine ⟨a, NDict (cn X CA) a es, h1, ?_, fun od => ?_⟩
        · trivial
        have T : Tups X.K H (upd H a (.frz od (NDict (cn X CA) a es))) := Tups.wr h1 nf
        refine ⟨env, M.set a (.dnF kvs), X0, _, ⟨p.e.mono T, p.r.at T ⟨od, es, upd_same, paired_mono h2 fun _ _ z => ⟨z.1, z.2.1, z.2.2.1.m T, z.2.2.2.m T⟩⟩, KX.no⟩, q, ?_⟩
        rintro d M' v H' ⟨e1, q1⟩ r' R' T'
        have e2 : H' a = some (.frz od (NDict (cn X CA) a es)) := T'.z _ _ _ upd_same
        refine ⟨e2, ?_⟩
        have tf : TF X.K H' (upd H' a (NDict (cn X CA) a es)) := tf_un e2 trivial
        refine k d _ v _ q1 (r'.m0 tf) (fun b u eb => ?_) (tups_lock h1 nf T')
        by_cases hb : b = a
        · subst hb
          rw [set_same] at eb; cases eb
          obtain ⟨od', es', g1, g2⟩ := R' _ _ e1
          rw [e2] at g1
          have ee : NDict (cn X CA) b es' = NDict (cn X CA) b es := by
            have := Option.some.inj g1
            injection this with h3 h4
            exact h4.symm
          exact ⟨es', by rw [upd_same, ee], paired_mono g2 fun _ _ z => ⟨z.1, z.2.1, z.2.2.1.m0 tf, z.2.2.2.m0 tf⟩⟩
        · rw [set_ne hb] at eb
          exact (R' b u eb).mono0 tf (upd_ne hb)
      · exact q.elim
    · exact q.elim
/-! ### the keys -/
def Itn (c : Cn) (d : Addr) (o : Obj) (es : List Ent) : It :=
  ⟨fun i H => H d = some (.frz o (NDict c d es)) ∧ i < es.length, fun i H x H' => H' = H ∧ ∃ (k : NestedKey) (q : Addr) (v : V), es[i]? = some (k, q, v) ∧ x = .ref q, fun i H => H d = some (.frz o (NDict c d es)) ∧ es.length ≤ i⟩
theorem frzN {X : Cx} {CA : String → Addr} {pins : List (Addr × Obj)} {σ : L2.St} {H : Hp} {s : Shared} {d : Addr} {o : Obj} {es : List Ent} (I : Inv X pins σ H s) (h : H d = some (.frz o (NDict (cn X CA) d es))) :
    (d == sysModules) = false ∧ s.heap.get? d = some o ∧ o.ExactDict ∧ ∃ (ds : Array DictEntry) (ep : Nat), o.data = .dict ds ep ∧ ds.size = es.length ∧
      ∀ (i : Nat) (k : NestedKey) (q : Addr) (v : V), es[i]? = some (k, q, v) → ∃ en : DictEntry, ds[i]? = some en ∧ en.key = .ref q := by
  obtain ⟨hg, ⟨z, hd, xs, pr, ⟨o', ds, ep, ho, ex, hdat, hent⟩, nd⟩, _⟩ := I.hok d _ h
  rw [hg] at ho
  cases ho
  have hl : es.length = xs.length := Paired.length pr
  refine ⟨hd, hg, ex, ds, ep, hdat, ?_, fun i k q v e => ?_⟩
  · have := congrArg List.length hent
    simp at this; omega
  · obtain ⟨b, hb, e1, e2, _⟩ := paired_get pr e
    refine ⟨entryOfKey (nestedKind (cn X CA).P (cn X CA).w) b, ?_, ?_⟩
    · have : ds.toList[i]? = (xs.map (entryOfKey (nestedKind (cn X CA).P (cn X CA).w)))[i]? := by rw [hent]
      rw [List.getElem?_map, hb, Array.getElem?_toList] at this
      exact this
    · show Value.ref b.2.1 = _
      rw [← e2]
theorem turn_keysN {P : Program} {w : World} {K : PySem.W.Frag} {CA : String → Addr} {tg : Expr} {d : Addr} {o : Obj} {ds : Array DictEntry} {ep : Nat} {es : List Ent} (it : Addr) (hod : o.data = .dict ds ep) :
    Turn P w K tg (Itn ⟨P, w, K, CA⟩ d o es) [it] it (fun i h => h.IsKeyIter it d i es.length ep) where
  mem := by simp
  obj := fun i h st b hb => by
    have e : b = it := by simpa using hb
    subst e
    obtain ⟨oi, e, c, dd⟩ := st
    exact ⟨oi, e, fun v z => by rw [dd] at z; cases z⟩
  keep := fun i h h' st k => st.at fun oi e => k it (by simp) oi e
  item := by
    intro X hP hw hK hc i pins s σ H E I hf st hg
    subst hP hw hK
    obtain ⟨hd, hi⟩ := hg
    obtain ⟨f0, f1, f2, f3, f4, f5⟩ := hf it (by simp)
    obtain ⟨hs, hgd, hx, es', ep', hdt, hsz, ent⟩ := frzN (CA := CA) I hd
    obtain ⟨rfl, rfl⟩ := dict_ep hod hdt
    obtain ⟨⟨k, q, v⟩, hkv⟩ : ∃ p, es[i]? = some p := ⟨es[i], List.getElem?_eq_getElem hi⟩
    obtain ⟨en, hen, hkey⟩ := ent i k q v hkv
    refine next_key_item st hgd hdt hsz hen fun h' st' sb => ?_
    have I1 : Inv X pins σ H { s with heap := h' } := I.turned (t' := s.toks) (fun b ob hb e => (sb.2 b hb).trans e) f0 f1 f3 f4 f5
    obtain ⟨oi, e, c, dd⟩ := id st'
    exact ⟨en.key, rfl, go_of (s := { s with heap := h' }) e c dd (by decide) ⟨.ref q, H, I1, hkey, ⟨rfl, k, q, v, hkv, rfl⟩, st', fun b hb => (hf b hb).1⟩⟩
  done := by
    intro X hP hw hK hc i pins s σ H E I hf st hg
    subst hP hw hK
    obtain ⟨hd, hi⟩ := hg
    obtain ⟨f0, f1, f2, f3, f4, f5⟩ := hf it (by simp)
    obtain ⟨hs, hgd, hx, es', ep', hdt, hsz, ent⟩ := frzN (CA := CA) I hd
    obtain ⟨rfl, rfl⟩ := dict_ep hod hdt
    exact next_key_end (I.ok.hd hc) st hgd hdt hsz hi fun h' eb => ⟨rfl, I.turned (t' := s.toks) (fun b ob hb e => eb b ob hb e) f0 f1 f3 f4 f5⟩
  self := fun A i s Q E st h => by
    refine wpAny_pyIter_slot st.typeIs PySem.F.slot_dict_keyiterator_iter (wpAny_call_entry PySem.F.slot_dict_keyiterator_iter st.typeIs PySem.F.entry_dict_keyiterator_iter ?_ (PySem.F.args_dict_keyiterator_iter_1 _))
    show wpAny _ _ (ret (.ref it)) _ _ s
    exact wpAny_pure ⟨_, rfl, "dict_keyiterator", _, st.typeIs, PySem.F.slot_dict_keyiterator_next.lookup, h⟩
theorem itR_keysK {c : Cn} {H1 : Hp} {d : Addr} {o : Obj} {vs : List (L2.Key × V)} {kvs : List (Key × D)} (e1 : H1 d = some (.frz o (.dK vs))) (p1 : PKV c.K H1 vs kvs) :
    ItR c false H1 (Itk d o vs) (fun M => M d = some (.dkF kvs)) (kvs.map fun kv => dKey kv.1) where
  go := fun i H M T hR e h => ⟨T.z _ _ _ e1, by have : vs.length = kvs.length := Paired.length p1; simpa [this] using h⟩
  stop := fun H M T hR e => ⟨T.z _ _ _ e1, by have : vs.length = kvs.length := Paired.length p1; simp [this]⟩
  yld := fun i H x H' M T hR em h d' e => by
    obtain ⟨rfl, k, v, hk, rfl⟩ := h
    obtain ⟨b, hb, h1, h2⟩ := paired_get p1 hk
    rw [List.getElem?_map, hb] at e
    simp at e; subst e
    rw [← h1]
    refine ⟨?_, hR, .refl⟩
    show Rep c.K H' (kV k) (dKey k)
    cases k with
    | inl i => exact .int i
    | inr x => exact .str x
theorem itR_keysN {c : Cn} {H1 : Hp} {d : Addr} {o : Obj} {es : List Ent} {kvs : List (D × D)} (e1 : H1 d = some (.frz o (NDict c d es))) (p1 : PDn c H1 es kvs) :
    ItR c false H1 (Itn c d o es) (fun M => M d = some (.dnF kvs)) (kvs.map Prod.fst) where
  go := fun i H M T hR e h => ⟨T.z _ _ _ e1, by have : es.length = kvs.length := Paired.length p1; simpa [this] using h⟩
  stop := fun H M T hR e => ⟨T.z _ _ _ e1, by have : es.length = kvs.length := Paired.length p1; simp [this]⟩
  yld := fun i H x H' M T hR em h d' e => by
    obtain ⟨rfl, k, q, v, hk, rfl⟩ := h
    obtain ⟨b, hb, h1, h2, h3, h4⟩ := paired_get p1 hk
    rw [List.getElem?_map, hb] at e
    simp at e; subst e
    exact ⟨h3.m T, hR, .refl⟩
theorem i_keys {tg : Expr} (ha : SE X CA XE e f) : SI false X CA XE tg e (iKeysD f) := by
  refine ⟨fun pins s σ H Rk I ⟨env, M, Ed, kd, p, q, k⟩ => ?_⟩
  refine thn (ha.run pins s σ H (fun v H1 => ∃ d M1, (match d with
    | .ref a => keysO (M1 a) fun o xs => kd (fun M' => M' a = some o) xs M1
    | _ => False) ∧ Rep X.K H1 v d ∧ R (cn X CA) M1 H1 ∧ Tups X.K H H1) I ⟨env, M, Ed, _, p, q, fun d M1 v H1 q1 r1 R1 T1 => ⟨d, M1, q1, r1, R1, T1⟩⟩) fun v s1 ⟨x, H1, I1, rx, d, M1, q1, r1, R1, T1⟩ => ?_
  split at q1
  · rename_i a
    cases r1
    obtain rfl : v = Value.ref a := rx
    unfold keysO at q1
    split at q1
    · rename_i kvs em
      obtain ⟨od, vs, h1, p1⟩ := R1 _ _ em
      obtain ⟨hs, hgd, hx, es, ep, vs', hdt, hsz, kv, hm⟩ := I1.frzK h1
      refine iter_keys hs hgd hx hdt (pi_one (tk := s1.toks) I1 _ (turn_keys _ hdt) ⟨_, Heap.get?_push_size _ rfl, rfl, ?_⟩ (k _ _ _ _ _ q1 R1 T1 (itR_keysK h1 p1)))
      rw [hsz] <;> rfl
    · rename_i kvs em
      obtain ⟨od, es, h1, p1⟩ := R1 _ _ em
      obtain ⟨hs, hgd, hx, ds, ep, hdt, hsz, ent⟩ := frzN (CA := CA) I1 h1
      refine iter_keys hs hgd hx hdt (pi_one (tk := s1.toks) I1 _ (turn_keysN (CA := CA) _ hdt) ⟨_, Heap.get?_push_size _ rfl, rfl, ?_⟩ (k _ _ _ _ _ q1 R1 T1 (itR_keysN h1 p1)))
      rw [hsz] <;> rfl
    · exact q1.elim
  · exact q1.elim
end
end DL

set_option Elab.async false
set_option linter.all false
set_option maxRecDepth 100000
set_option maxHeartbeats 4000000
/-! DC2: comprehensions of two fors -/
namespace DL
open PySem PySem.Spec PyProof.Rows L2
def comp2L (p : Addr) (vs vs1 : List Nat) (g : WG) (t : WT) (src1 : WI) (g1 : WG) (t1 : WT) (f : WE) (env : Ev) (chk : Sto → Prop) : List D → Sto → (Sto → Prop) → Prop
  | [], M, Q => chk M ∧ Q M
  | x :: xs, M, Q => chk M ∧ g x X0 (DL.wipe env vs) M fun env1 M1 => t X0 env1 M1 fun b M2 =>
    if b = true then src1 X0 env1 M2 fun chk1 ys M3 => compL p vs1 g1 t1 f env1 chk1 ys M3 fun M4 => comp2L p vs vs1 g t src1 g1 t1 f env chk xs M4 Q
    else comp2L p vs vs1 g t src1 g1 t1 f env chk xs M2 Q
def eComp2 (src : WI) (vs vs1 : List Nat) (g : WG) (t : WT) (src1 : WI) (g1 : WG) (t1 : WT) (f : WE) : WE := fun E env M Q => src E env M fun chk xs M1 => ∀ p, M1 p = none →
  comp2L p vs vs1 g t src1 g1 t1 f env chk xs (M1.set p (.lst [])) fun M2 => Q (.ref p) M2
section
variable {X : Cx} {CA : String → Addr} {XE : XK} {tg iter tg1 iter1 : Expr} {y y1 : Bool} {pos : Pos}
theorem comp2_of {own vs1 : List Nat} {t t1 : WT} {f : WE} {src src1 : WI} {gt gt1 : WG} {σ : L2.St} {H : Hp} {Q : VK} {env : Ev} {M : Sto} {Ed : XW} {Qd : KD} (p : Pre (cn X CA) XE σ H env M Ed) (q : eComp2 src own vs1 gt t src1 gt1 t1 f Ed env M Qd) (k : KQ (cn X CA) H Qd Q) :
    tLc2 (tOfI y (cn X CA) XE src) (tOfG y (cn X CA) E0 own gt) (tOfT (cn X CA) E0 t) (tOfI y1 (cn X CA) E0 src1) (tOfG y1 (cn X CA) E0 vs1 gt1) (tOfT (cn X CA) E0 t1) (tOf (cn X CA) E0 f) own vs1 σ H Q := by
  refine ⟨env, M, Ed, _, p, q, fun chk xs M1 H1 J q1 R1 T1 it => fun D hD => ?_⟩
  obtain ⟨Rl, Tl⟩ := lay_lst (c := cn X CA) hD .nil R1
  have q1 := q1 D (R1.fresh hD)
  refine ⟨fun i m H' => m = xs.length - i ∧ i ≤ xs.length ∧ ∃ M', R (cn X CA) M' H' ∧ Tups X.K H1 H' ∧ comp2L D own vs1 gt t src1 gt1 t1 f env chk (xs.drop i) M' fun M2 => Qd (.ref D) M2, ⟨xs.length, by simp, Nat.zero_le _, _, Rl, Tl, by rw [List.drop_zero]; exact q1⟩, ?_⟩
  rintro i m H' ⟨rfl, hi, M', R', T', q'⟩
  by_cases hlt : i < xs.length
  · rw [drop_get hlt] at q'
    obtain ⟨hck, q'⟩ := q'
    refine .inr ⟨it.go i H' M' T' R' hck hlt, fun H2 => (xs.length - (i + 1)) = xs.length - (i + 1) ∧ i + 1 ≤ xs.length ∧ ∃ M', R (cn X CA) M' H2 ∧ Tups X.K H1 H2 ∧ comp2L D own vs1 gt t src1 gt1 t1 f env chk (xs.drop (i + 1)) M' fun M2 => Qd (.ref D) M2, fun H2 h2 => ⟨xs.length - (i + 1), by omega, h2⟩, fun x H2 yl => ?_⟩
    obtain ⟨rx, R2, T2⟩ := it.yld i H' x H2 M' T' R' hck yl xs[i] (List.getElem?_eq_getElem hlt)
    refine ⟨xs[i], DL.wipe env own, M', X0, _, rx, ⟨(p.e.wipe own).mono (T1.trans (T'.trans T2)), R2, KX.no⟩, q', fun env3 M3 σ3 H3 q3 e3 R3 T3 O3 => ⟨O3.wipe, ?_⟩⟩
    refine ⟨env3, M3, X0, _, ⟨e3, R3, KX.no⟩, q3, fun b M4 H4 q4 R4 T4 => ?_⟩
    have T5 : Tups X.K H1 H4 := T'.trans (T2.trans (T3.trans T4))
    cases b with
    | false => exact ⟨rfl, hlt, M4, R4, T5, q4⟩
    | true =>
      refine ⟨env3, M4, X0, _, ⟨e3.mono T4, R4, KX.no⟩, q4, fun chk1 ys M5 H5 J1 q5 R5 T6 it1 => ?_⟩
      have T7 : Tups X.K H1 H5 := T5.trans T6
      refine ⟨fun j k H' => k = ys.length - j ∧ j ≤ ys.length ∧ ∃ M', R (cn X CA) M' H' ∧ Tups X.K H5 H' ∧ compL D vs1 gt1 t1 f env3 chk1 (ys.drop j) M' fun M4 => comp2L D own vs1 gt t src1 gt1 t1 f env chk (xs.drop (i + 1)) M4 fun M2 => Qd (.ref D) M2, ⟨ys.length, by simp, Nat.zero_le _, _, R5, .refl, by rw [List.drop_zero]; exact q5⟩, ?_⟩
      rintro j k' H6 ⟨rfl, hj, M6, R6, T8, q6⟩
      by_cases hlt1 : j < ys.length
      · rw [drop_get hlt1] at q6
        obtain ⟨hck1, q6⟩ := q6
        refine .inr ⟨it1.go j H6 M6 T8 R6 hck1 hlt1, fun H2 => (ys.length - (j + 1)) = ys.length - (j + 1) ∧ j + 1 ≤ ys.length ∧ ∃ M', R (cn X CA) M' H2 ∧ Tups X.K H5 H2 ∧ compL D vs1 gt1 t1 f env3 chk1 (ys.drop (j + 1)) M' fun M4 => comp2L D own vs1 gt t src1 gt1 t1 f env chk (xs.drop (i + 1)) M4 fun M2 => Qd (.ref D) M2, fun H2 h2 => ⟨ys.length - (j + 1), by omega, h2⟩, fun x1 H7 yl1 => ?_⟩
        obtain ⟨rx1, R7, T9⟩ := it1.yld j H6 x1 H7 M6 T8 R6 hck1 yl1 ys[j] (List.getElem?_eq_getElem hlt1)
        refine ⟨ys[j], DL.wipe env3 vs1, M6, X0, _, rx1, ⟨(RelEnv.wipe (e3.mono (T4.trans (T6.trans (T8.trans T9)))) vs1), R7, KX.no⟩, q6, fun env8 M8 σ8 H8 q8 e8 R8 T10 O8 => ⟨O8.wipe, ?_⟩⟩
        refine ⟨env8, M8, X0, _, ⟨e8, R8, KX.no⟩, q8, fun b M9 H9 q9 R9 T11 => ?_⟩
        have T12 : Tups X.K H5 H9 := T8.trans (T9.trans (T10.trans T11))
        cases b with
        | false => exact ⟨rfl, hlt1, M9, R9, T12, q9⟩
        | true =>
          refine ⟨env8, M9, X0, _, ⟨e8.mono T11, R9, KX.no⟩, q9, fun d M10 v H10 q10 r10 R10 T13 => ?_⟩
          split at q10
          · obtain ⟨ws, h1, rr⟩ := R10 _ _ (by assumption)
            obtain ⟨a1, a2⟩ := wr_lst (c := cn X CA) R10 (by assumption) h1 (rr.append (.cons r10 .nil))
            exact ⟨ws, h1, by rw [rr.length]; exact q10.1, rfl, hlt1, _, a1, T12.trans (T13.trans a2), q10.2⟩
          · exact q10.elim
      · have e : j = ys.length := by omega
        subst e
        rw [List.drop_length] at q6
        exact .inl ⟨it1.stop H6 M6 T8 R6 q6.1, rfl, hlt, M6, R6, T7.trans T8, q6.2⟩
  · have e : i = xs.length := by omega
    subst e
    rw [List.drop_length] at q'
    exact .inl ⟨it.stop H' M' T' R' q'.1, k _ _ _ _ q'.2 (.ref D) R' (T1.trans T')⟩
theorem d_comp2 {elt : Expr} {ifs ifs1 : List Expr} {scope : Scope} {own : List (Str × Nat)} {t t1 : WT} {f : WE} {src src1 : WI} {gt gt1 : WG} (vs1 : List Nat) (hc : X.calm = true) (hN : X.N.Nodup) (hi : SI y X CA XE tg iter src) (ok : BlkOk X.N X.env.scope scope own)
    (hg : ∀ (s : Shared) (H : Hp) (C : Addr) (cl : List (Str × Addr)) (fp : List Addr), SG y (X.blk s H scope (compEnvC scope cl C X.env) fp) CA E0 (own.map (·.2)) tg gt)
    (ht : ∀ (s : Shared) (H : Hp) (C : Addr) (cl : List (Str × Addr)) (fp : List Addr), STs (X.blk s H scope (compEnvC scope cl C X.env) fp) CA E0 ifs t)
    (hi1 : ∀ (s : Shared) (H : Hp) (C : Addr) (cl : List (Str × Addr)) (fp : List Addr), SI y1 (X.blk s H scope (compEnvC scope cl C X.env) fp) CA E0 tg1 iter1 src1)
    (hg1 : ∀ (s : Shared) (H : Hp) (C : Addr) (cl : List (Str × Addr)) (fp : List Addr), SG y1 (X.blk s H scope (compEnvC scope cl C X.env) fp) CA E0 vs1 tg1 gt1)
    (ht1 : ∀ (s : Shared) (H : Hp) (C : Addr) (cl : List (Str × Addr)) (fp : List Addr), STs (X.blk s H scope (compEnvC scope cl C X.env) fp) CA E0 ifs1 t1)
    (he : ∀ (s : Shared) (H : Hp) (C : Addr) (cl : List (Str × Addr)) (fp : List Addr), SE (X.blk s H scope (compEnvC scope cl C X.env) fp) CA E0 elt f)
    (hv : ∀ i ∈ vs1, i ∈ own.map (·.2) := by decide) (hs : ∀ x, foldedSetIterable iter X.env x = pure x := by intro _; rfl) (hs1 : ∀ env x, foldedSetIterable iter1 env x = pure x := by intro _ _; rfl) :
    SE X CA XE (.ListComp elt [⟨tg, iter, ifs, 0⟩, ⟨tg1, iter1, ifs1, 0⟩] scope pos) (eComp2 src (own.map (·.2)) vs1 gt t src1 gt1 t1 f) :=
  PE_weak (pe_lc2 (g := tOfG y (cn X CA) E0 (own.map fun z : Str × Nat => z.2) gt) (tt := tOfT (cn X CA) E0 t) (wi1 := tOfI y1 (cn X CA) E0 src1) (g1 := tOfG y1 (cn X CA) E0 vs1 gt1) (tt1 := tOfT (cn X CA) E0 t1) (te := tOf (cn X CA) E0 f) hc hN hi ok hv hg ht hi1 hg1 ht1 he hs hs1) fun σ H Q ⟨env, M, Ed, Qd, p, q, k⟩ => comp2_of p q k
end
section
variable {E : XW} {env : Ev} {M : Sto} {Q : KD} {p : Addr} {vs vs1 : List Nat} {G G1 : WG} {u u1 : WT} {src src1 : WI} {f : WE} {chk : Sto → Prop} {P : Sto → Prop} {x : D} {xs : List D}
@[simp] theorem eComp2_s : eComp2 src vs vs1 G u src1 G1 u1 f E env M Q = src E env M fun chk xs M1 => ∀ p, M1 p = none →
  comp2L p vs vs1 G u src1 G1 u1 f env chk xs (M1.set p (.lst [])) fun M2 => Q (.ref p) M2 := id rfl
theorem comp2L_nil : comp2L p vs vs1 G u src1 G1 u1 f env chk [] M P = (chk M ∧ P M) := id rfl
theorem comp2L_cons : comp2L p vs vs1 G u src1 G1 u1 f env chk (x :: xs) M P = (chk M ∧ G x X0 (DL.wipe env vs) M fun env1 M1 => u X0 env1 M1 fun b M2 =>
    if b = true then src1 X0 env1 M2 fun chk1 ys M3 => compL p vs1 G1 u1 f env1 chk1 ys M3 fun M4 => comp2L p vs vs1 G u src1 G1 u1 f env chk xs M4 P
    else comp2L p vs vs1 G u src1 G1 u1 f env chk xs M2 P) := id rfl
end
/-! d.get -/
def isDO (o : Option O) (k : Prop) : Prop := match o with
  | some (.dk _) => k
  | some (.dn _) => k
  | _ => False
@[simp] theorem isDO_dk {kvs : List (Key × D)} {k : Prop} : isDO (some (.dk kvs)) k = k := id rfl
@[simp] theorem isDO_dn {kvs : List (D × D)} {k : Prop} : isDO (some (.dn kvs)) k = k := id rfl
@[simp] theorem isDct_ref {a : Addr} {M : Sto} {k : Prop} : isDct (.ref a) M k = isDO (M a) k := id rfl
def refO (o : Option O) (k : O → Prop) : Prop := match o with
  | some o => k o
  | none => False
@[simp] theorem refO_some {o : O} {k : O → Prop} : refO (some o) k = k o := id rfl
@[simp] theorem refD_ref {a : Addr} {M : Sto} {k : O → Prop} : refD (.ref a) M k = refO (M a) k := id rfl
@[simp] theorem eGet1_s {f g : WE} {E : XW} {env : Ev} {M : Sto} {Q : KD} : eGet1 f g E env M Q = f E env M fun x M1 => isDct x M1 <| g E env M1 fun y M2 => refD x M2 fun o => dLk o y fun r => Q (r.getD .non) M2 := id rfl
@[simp] theorem eGet2_s {f g h : WE} {E : XW} {env : Ev} {M : Sto} {Q : KD} : eGet2 f g h E env M Q = f E env M fun x M1 => isDct x M1 <| g E env M1 fun y M2 => h E env M2 fun z M3 => refD x M3 fun o => dLk o y fun r => Q (r.getD z) M3 := id rfl
@[simp] theorem dLk_dn {kvs : List (D × D)} {y : D} {k : Option D → Prop} : dLk (.dn kvs) y k = (nkOk y = true ∧ k (lk kvs y)) := id rfl
@[simp] theorem dLk_dkS {kvs : List (Key × D)} {s : Str} {k : Option D → Prop} : dLk (.dk kvs) (.str s) k = k (lk kvs (.inr s)) := id rfl
/-- a comprehension with a test -/
theorem comp_filter {p : Addr} {vs : List Nat} {G : WG} {u : WT} {f : WE} {env : Ev} {chk : Sto → Prop} {P : Sto → Prop} (val : D → D) (tst : D → Bool) (R : Sto → Prop) (hR : ∀ m o, R m → R (m.set p o)) (hc : ∀ m, R m → chk m) : ∀ (xs acc : List D) (M : Sto),
    (∀ x ∈ xs, ∀ m (T : KD) (N : Sto → Prop), R m → (if tst x = true then T (val x) m else N m) → G x X0 (DL.wipe env vs) m fun e1 m1 => u X0 e1 m1 fun b m2 => if b = true then f X0 e1 m2 T else N m2) →
    acc.length + xs.length ≤ sizeLine → M p = some (.lst acc) → R M → P (M.set p (.lst (acc ++ (xs.filter tst).map val))) → compL p vs G u f env chk xs M P
  | [], acc, M, _, _, e, r, h => by
    rw [compL_nil]; refine ⟨hc M r, ?_⟩
    simp only [List.filter_nil, List.map_nil, List.append_nil] at h
    rw [set_self e] at h; exact h
  | x :: xs, acc, M, hb, hl, e, r, h => by
    rw [compL_cons]; refine ⟨hc M r, ?_⟩
    simp only [List.length_cons] at hl
    refine hb x (.head _) M _ _ r ?_
    split
    · rename_i ht
      rw [e, lstO_lst]
      refine ⟨by omega, comp_filter val tst R hR hc xs _ _ (fun y hy => hb y (.tail _ hy)) (by simp; omega) set_same (hR _ _ r) ?_⟩
      rw [set_set]
      simpa [ht] using h
    · rename_i ht
      refine comp_filter val tst R hR hc xs _ _ (fun y hy => hb y (.tail _ hy)) (by omega) e r ?_
      simpa [ht] using h
end DL

set_option Elab.async false
set_option linter.all false
set_option maxRecDepth 100000
/-! G1: what the laws' makers of programs ask and tell -/
namespace DL
open PySem
/-- what a script's reader stands at -/
def cs (b : Addr) (i j k l : Int) : O := .lst [.ref b, .int i, .int j, .int k, .int l]
def CO (b : Addr) (o : O) : Prop := ∃ i j k l, 0 ≤ i ∧ o = cs b i j k l
structure CSt (M : Sto) (a b : Addr) : Prop where
  ne : a ≠ b
  xs : ∃ xs : List Int, M b = some (.lst (xs.map .int))
  o : ∃ o, M a = some o ∧ CO b o
/-- from M to M' nothing is changed but what stands at a -/
structure Fr (a b : Addr) (M M' : Sto) : Prop where
  l : LeX a M M'
  o : ∃ o, M' a = some o ∧ CO b o
section
variable {M M' : Sto} {a b p : Addr} {o : O}
theorem CSt.pa (h : CSt M a b) (hp : M p = none) : p ≠ a := by
  obtain ⟨o, e, _⟩ := h.o
  exact (ne_of e hp).symm
theorem CSt.pb (h : CSt M a b) (hp : M p = none) : p ≠ b := by
  obtain ⟨xs, e⟩ := h.xs
  exact (ne_of e hp).symm
theorem CSt.fresh (h : CSt M a b) (hp : M p = none) : CSt (M.set p o) a b :=
  ⟨h.ne, by obtain ⟨xs, e⟩ := h.xs; exact ⟨xs, by rw [set_ne (h.pb hp).symm]; exact e⟩, by obtain ⟨u, e, c⟩ := h.o; exact ⟨u, by rw [set_ne (h.pa hp).symm]; exact e, c⟩⟩
theorem CSt.set (h : CSt M a b) (c : CO b o) : CSt (M.set a o) a b :=
  ⟨h.ne, by obtain ⟨xs, e⟩ := h.xs; exact ⟨xs, by rw [set_ne h.ne.symm]; exact e⟩, ⟨o, set_same, c⟩⟩
theorem CSt.fr (h : CSt M a b) (f : Fr a b M M') : CSt M' a b := ⟨h.ne, by obtain ⟨xs, e⟩ := h.xs; exact ⟨xs, f.l _ _ h.ne.symm e⟩, f.o⟩
theorem CSt.refl (h : CSt M a b) : Fr a b M M := ⟨.refl, h.o⟩
theorem Fr.fresh (f : Fr a b M M') (hp : M' p = none) : Fr a b M (M'.set p o) := by
  have hpa : p ≠ a := by
    obtain ⟨o, e, _⟩ := f.o
    exact (ne_of e hp).symm
  refine ⟨fun x u hx e => ?_, by obtain ⟨u, e, c⟩ := f.o; exact ⟨u, by rw [set_ne hpa.symm]; exact e, c⟩⟩
  have e' := f.l x u hx e
  rw [set_ne (ne_of e' hp)]; exact e'
/-- also at a place that was not there before -/
theorem Fr.upd {u : O} (f : Fr a b M M') (hp : M p = none) (hpa : p ≠ a) : Fr a b M (M'.set p u) := by
  refine ⟨fun x w hx e => ?_, by obtain ⟨u, e, c⟩ := f.o; exact ⟨u, by rw [set_ne hpa.symm]; exact e, c⟩⟩
  rw [set_ne (ne_of e hp)]; exact f.l x w hx e
theorem Fr.set (f : Fr a b M M') (c : CO b o) : Fr a b M (M'.set a o) := ⟨f.l.at, ⟨o, set_same, c⟩⟩
theorem Fr.trans {M'' : Sto} (f : Fr a b M M') (g : Fr a b M' M'') : Fr a b M M'' := ⟨f.l.trans g.l, g.o⟩
theorem Fr.none (f : Fr a b M M') (hp : M' p = none) : p ≠ a ∧ M p = none := by
  have hpa : p ≠ a := by
    obtain ⟨o, e, _⟩ := f.o
    exact (ne_of e hp).symm
  refine ⟨hpa, ?_⟩
  cases hm : M p with
  | none => rfl
  | some u => rw [f.l p u hpa hm] at hp; cases hp
theorem Fr.le (f : Fr a b M M') : ∃ o, CO b o ∧ Le (M.set a o) M' := by
  obtain ⟨o, e, c⟩ := f.o
  exact ⟨o, c, f.l.le e⟩
theorem Fr.at (f : Fr a b M M') (hx : p ≠ a) (e : M p = some o) : M' p = some o := f.l _ _ hx e
end
def S_law_start : FD := fn1 fun x _ M Q => ∃ ns : List Int, x = .lro (ns.map .int) ∧ ns.length ≤ 63 ∧ ∀ a b, a ≠ b → M a = none → M b = none → Q (.ref a) ((M.set b (.lst (ns.map .int))).set a (cs b 0 0 0 20))
def S_law_fill : FD := fn1 fun c _ M Q => ∃ a b, c = .ref a ∧ CSt M a b ∧ ∀ v o, CO b o → Q (.int v) (M.set a o)
def S_law_take : FD := fn2 fun c m _ M Q => ∃ a b many, c = .ref a ∧ m = .int many ∧ 0 < many ∧ many < 1073741824 ∧ CSt M a b ∧ ∀ d o, 0 ≤ d → d < many → CO b o → Q (.int d) (M.set a o)
def S_law_divisor : FD := fn2 fun x y _ M Q => ∃ n d : Int, x = .int n ∧ y = .int d ∧ 0 < d ∧ Sm 8999 d ∧ Q (.int (Int.gcd n d)) M
/-- a fraction in lowest terms -/
def fr (n d : Int) : Int × Int := (n / (Int.gcd n d : Int), d / (Int.gcd n d : Int))
def dF (q : Int × Int) : D := .tup [.int q.1, .int q.2]
def S_law_fraction : FD := fn2 fun x y _ M Q => ∃ n d : Int, x = .int n ∧ y = .int d ∧ 0 < d ∧ Sm 8999 d ∧ Q (dF (fr n d)) M
def S_law_plus : FD := fn2 fun x y _ M Q => ∃ a b : Int × Int, x = dF a ∧ y = dF b ∧ 0 < a.2 ∧ 0 < b.2 ∧ Sm 4000 a.1 ∧ Sm 4000 a.2 ∧ Sm 4000 b.1 ∧ Sm 4000 b.2 ∧ Q (dF (fr (a.1 * b.2 + b.1 * a.2) (a.2 * b.2))) M
def S_law_times : FD := fn2 fun x y _ M Q => ∃ a b : Int × Int, x = dF a ∧ y = dF b ∧ 0 < a.2 ∧ 0 < b.2 ∧ Sm 4000 a.1 ∧ Sm 4000 a.2 ∧ Sm 4000 b.1 ∧ Sm 4000 b.2 ∧ Q (dF (fr (a.1 * b.1) (a.2 * b.2))) M
/-! the rows of chances that are drawn -/
def lcmR (rows : List (Int × Int)) : Int := rows.foldl (fun f r => f * r.2 / (Int.gcd f r.2 : Int)) 1
def menu : List (Int × Int) := [(1, 1), (1, 2), (1, 3), (2, 3), (1, 4), (3, 4), (1, 5), (2, 7), (1, 10)]
def cut2 (q : Int × Int) : List (Int × Int) := [q, fr (q.2 - q.1) q.2]
def cut3 (q u : Int × Int) : List (Int × Int) :=
  let rest := fr (q.2 - q.1) q.2
  let part := fr (rest.1 * u.1) (rest.2 * u.2)
  [q, part, fr (rest.1 * part.2 + (0 - part.1) * rest.2) (rest.2 * part.2)]
def cuts : List (List (Int × Int)) := [(1, 1)] :: ((menu.drop 1).map cut2 ++ ((menu.drop 1).map fun q => (menu.drop 1).map fun u => cut3 q u).flatten)
def S_law_cut : FD := fn1 fun c _ M Q => ∃ a b, c = .ref a ∧ CSt M a b ∧ ∀ rows o p, rows ∈ cuts → CO b o → p ≠ a → M p = none → Q (.ref p) ((M.set a o).set p (.lst (rows.map dF)))
/-! bodies -/
def dRow (r : (Int × Int) × D) : D := .tup [dF r.1, r.2]
abbrev dEnd : D := .tup [.str "end"]
abbrev dStop : D := .tup [.str "stop"]
def WB (ns ls : List Str) : Nat → D → Prop
  | 0, d => d = dEnd ∨ d = dStop
  | n + 1, d => d = dEnd ∨ d = dStop ∨ (∃ s b, s ∈ ls ∧ d = .tup [.str "tell", .str s, b] ∧ WB ns ls n b) ∨ (∃ s b, s ∈ ns ∧ d = .tup [.str "call", .str s, b] ∧ WB ns ls n b) ∨
    (∃ rs : List ((Int × Int) × D), rs.map Prod.fst ∈ cuts ∧ d = .tup [.str "draw", .tup (rs.map dRow)] ∧ ∀ r ∈ rs, WB ns ls n r.2)
theorem WB.succ {ns ls : List Str} : ∀ {n : Nat} {d : D}, WB ns ls n d → WB ns ls (n + 1) d
  | 0, d, h => by
    rcases h with h | h
    · exact .inl h
    · exact .inr (.inl h)
  | n + 1, d, h => by
    rcases h with h | h | ⟨s, b, h1, h2, h3⟩ | ⟨s, b, h1, h2, h3⟩ | ⟨rs, h1, h2, h3⟩
    · exact .inl h
    · exact .inr (.inl h)
    · exact .inr (.inr (.inl ⟨s, b, h1, h2, h3.succ⟩))
    · exact .inr (.inr (.inr (.inl ⟨s, b, h1, h2, h3.succ⟩)))
    · exact .inr (.inr (.inr (.inr ⟨rs, h1, h2, fun r hr => (h3 r hr).succ⟩)))
theorem WB.mono {ns ls : List Str} {m n : Nat} {d : D} (h : WB ns ls m d) (hl : m ≤ n) : WB ns ls n d := by
  induction hl with
  | refl => exact h
  | step _ ih => exact ih.succ
def S_law_body (n : Nat) : FD := fn4 fun c names letters deep _ M Q => ∃ a b pn pl, ∃ ns ls : List Str, ∃ k : Nat, c = .ref a ∧ CSt M a b ∧ names = .ref pn ∧ pn ≠ a ∧ M pn = some (.lst (ns.map .str)) ∧ ns ≠ [] ∧ ns.length ≤ 100 ∧
  letters = .ref pl ∧ pl ≠ a ∧ M pl = some (.lst (ls.map .str)) ∧ ls.length ≤ 100 ∧ deep = .int k ∧ k < n ∧ ∀ d o, WB ns ls k d → CO b o → Q d (M.set a o)
def N4 : List Str := ["p", "q", "r2", "s"]
def L3 : List Str := ["a", "b", "p"]
def rotN (i k : Nat) : List Str := (N4.take (1 + i)).drop k ++ (N4.take (1 + i)).take k
def allN : List (List Str) := [0, 1, 2, 3].flatMap fun i => (List.range (1 + i)).map (rotN i)
def allL : List (List Str) := [0, 1, 2, 3].map L3.take
def dProc (r : Str × D) : D := .tup [.str r.1, r.2]
/-- programs as they are drawn -/
def WP (rs : List (Str × D)) : Prop := rs.map Prod.fst ∈ allN ∧ ∃ ls ∈ allL, ∀ r ∈ rs, WB (rs.map Prod.fst) ls 5 r.2
def S_law_program : FD := fn1 fun c _ M Q => ∃ a b, c = .ref a ∧ CSt M a b ∧ ∀ rs o, WP rs → CO b o → Q (.tup (rs.map dProc)) (M.set a o)
end DL

set_option Elab.async false
set_option linter.all false
set_option maxRecDepth 100000
/-! mirrors of the text's defs (printed by gen.py) -/
namespace DL
open PySem
def CE_law_start_1 : WE :=
  (eInt (eVar 1))
def B_law_start : WS :=
  (sRet (eLst [(eComp (iVal (eSl (eVar 0) none (some (eC (.int 63))))) [1] (gName 1) tYes CE_law_start_1), (eC (.int 0)), (eC (.int 0)), (eC (.int 0)), (eC (.int 20))]))
def T_law_fill_1 : WS :=
  (sIf (tCmp cGe (eVar 1) (eBin opPow (eC (.int 10)) (eC (.int 18)))) (sRet (eVar 1)) sNil)
def T_law_fill_2 : WS :=
  (sSeq (sAsg (eBin opMod (eInt (eBin opAdd (eBin opMul (eVar 1) (eC (.int 48271))) (eBin opMul (eSub (eVar 0) (eC (.int 3))) (eC (.int 69621))))) (eC (.int 2147483647))) (gName 1)) (sRet (eBin opAdd (eBin opDiv (eInt (eBin opAdd (eBin opAdd (eBin opMul (eVar 1) (eVar 1)) (eBin opMul (eSub (eVar 0) (eC (.int 3))) (eC (.int 7919)))) (eC (.int 11)))) (eC (.int 64))) (eC (.int 36028797018963968)))))
def T_law_fill_3 : WS :=
  (sSeq (sIf (tAnd (tTru (eSub (eVar 0) (eC (.int 0)))) (tCmp cGe (eSub (eVar 0) (eC (.int 1))) (eLen (eSub (eVar 0) (eC (.int 0)))))) (sAsg (eBin opAdd (eVar 1) (eBin opMod (eInt (eSub (eSub (eVar 0) (eC (.int 0))) (eNeg (eC (.int 1))))) (eC (.int 1000003)))) (gName 1)) sNil) T_law_fill_2)
def B_law_fill : WS :=
  (sSeq (sAsg (eBin opAdd (eSub (eVar 0) (eC (.int 3))) (eC (.int 1))) (gSub (eVar 0) (eC (.int 3)))) (sSeq (sAsg (eBin opAdd (eBin opMul (eSub (eVar 0) (eC (.int 3))) (eC (.int 69621))) (eC (.int 12345))) (gName 1)) (sSeq (sIf (tCmp cLt (eSub (eVar 0) (eC (.int 1))) (eLen (eSub (eVar 0) (eC (.int 0))))) (sSeq (sAsg (eSub (eSub (eVar 0) (eC (.int 0))) (eSub (eVar 0) (eC (.int 1)))) (gName 1)) (sSeq (sAsg (eBin opAdd (eSub (eVar 0) (eC (.int 1))) (eC (.int 1))) (gSub (eVar 0) (eC (.int 1)))) (sSeq (sIf (tCmp cLt (eVar 1) (eC (.int 0))) (sAsg (eBin opSub (eBin opSub (eC (.int 0)) (eC (.int 1))) (eVar 1)) (gName 1)) sNil) T_law_fill_1))) sNil) T_law_fill_3)))
def T_law_take_1 : WS :=
  (sSeq (sAsg (eBin opMod (eInt (eSub (eVar 0) (eC (.int 2)))) (eVar 1)) (gName 2)) (sSeq (sAsg (eBin opDiv (eSub (eVar 0) (eC (.int 2))) (eVar 1)) (gSub (eVar 0) (eC (.int 2)))) (sRet (eVar 2))))
def B_law_take : WS :=
  (sSeq (sIf (tCmp cLt (eSub (eVar 0) (eC (.int 2))) (eVar 1)) (sAsg (eCall S_law_fill [(eVar 0)]) (gSub (eVar 0) (eC (.int 2)))) sNil) T_law_take_1)
def T_law_divisor_1 : WS :=
  (sAsg (eTup [(eVar 1), (eBin opMod (eVar 0) (eVar 1))]) (gTup [gName 0, gName 1]))
def FB_law_divisor_1 : WS :=
  (sSeq (sIf (tCmp cEq (eVar 1) (eC (.int 0))) (sRet (eAbs (eVar 0))) sNil) T_law_divisor_1)
def T_law_divisor_2 : WS :=
  (sRet (eC (.int 1)))
def B_law_divisor : WS :=
  (sSeq (sFor (iRange1 (eC (.int 20000))) (gName 2) FB_law_divisor_1) T_law_divisor_2)
def B_law_fraction : WS :=
  (sSeq (sAsg (eCall S_law_divisor [(eVar 0), (eVar 1)]) (gName 2)) (sSeq (sAsg (eIf (tCmp cGt (eVar 1) (eC (.int 0))) (eVar 2) (eBin opSub (eC (.int 0)) (eVar 2))) (gName 2)) (sRet (eTup [(eBin opDiv (eVar 0) (eVar 2)), (eBin opDiv (eVar 1) (eVar 2))]))))
def B_law_plus : WS :=
  (sRet (eCall S_law_fraction [(eBin opAdd (eBin opMul (eSub (eVar 0) (eC (.int 0))) (eSub (eVar 1) (eC (.int 1)))) (eBin opMul (eSub (eVar 1) (eC (.int 0))) (eSub (eVar 0) (eC (.int 1))))), (eBin opMul (eSub (eVar 0) (eC (.int 1))) (eSub (eVar 1) (eC (.int 1))))]))
def B_law_times : WS :=
  (sRet (eCall S_law_fraction [(eBin opMul (eSub (eVar 0) (eC (.int 0))) (eSub (eVar 1) (eC (.int 0)))), (eBin opMul (eSub (eVar 0) (eC (.int 1))) (eSub (eVar 1) (eC (.int 1))))]))
def T_law_cut_1 : WS :=
  (sRet (eBin opAdd (eVar 2) (eLst [(eVar 3)])))
def T_law_cut_2 : WS :=
  (sSeq (sAsg (eLst [(eTup [(eVar 4), (eVar 5)])]) (gName 2)) (sSeq (sAsg (eCall S_law_fraction [(eBin opSub (eVar 5) (eVar 4)), (eVar 5)]) (gName 3)) (sSeq (sIf (tCmp cEq (eCall S_law_take [(eVar 0), (eC (.int 3))]) (eC (.int 0))) (sSeq (sAsg (eSub (eVar 1) (eBin opAdd (eC (.int 1)) (eCall S_law_take [(eVar 0), (eC (.int 8))]))) (gTup [(gName 4), (gName 5)])) (sSeq (sAsg (eCall S_law_times [(eVar 3), (eTup [(eVar 4), (eVar 5)])]) (gName 6)) (sSeq (sExpr (eAppend (eVar 2) (eVar 6))) (sAsg (eCall S_law_plus [(eVar 3), (eTup [(eBin opSub (eC (.int 0)) (eSub (eVar 6) (eC (.int 0)))), (eSub (eVar 6) (eC (.int 1)))])]) (gName 3))))) sNil) T_law_cut_1)))
def B_law_cut : WS :=
  (sSeq (sAsg (eLst [(eTup [(eC (.int 1)), (eC (.int 1))]), (eTup [(eC (.int 1)), (eC (.int 2))]), (eTup [(eC (.int 1)), (eC (.int 3))]), (eTup [(eC (.int 2)), (eC (.int 3))]), (eTup [(eC (.int 1)), (eC (.int 4))]), (eTup [(eC (.int 3)), (eC (.int 4))]), (eTup [(eC (.int 1)), (eC (.int 5))]), (eTup [(eC (.int 2)), (eC (.int 7))]), (eTup [(eC (.int 1)), (eC (.int 10))])]) (gName 1)) (sSeq (sAsg (eSub (eVar 1) (eCall S_law_take [(eVar 0), (eC (.int 9))])) (gTup [(gName 4), (gName 5)])) (sSeq (sIf (tCmp cEq (eVar 5) (eC (.int 1))) (sRet (eLst [(eTup [(eC (.int 1)), (eC (.int 1))])])) sNil) T_law_cut_2)))
def CE_law_body_1 (n : Nat) : WE :=
  (eTup [(eVar 5), (eCall (S_law_body n) [(eVar 0), (eVar 1), (eVar 2), (eBin opSub (eVar 3) (eC (.int 1)))])])
def T_law_body_1 (n : Nat) : WS :=
  (sRet (eTup [(eC (.str "draw")), (eTupOf (eComp (iVal (eCall S_law_cut [(eVar 0)])) [5] (gName 5) tYes (CE_law_body_1 n)))]))
def T_law_body_2 (n : Nat) : WS :=
  (sSeq (sIf (tCmp cLt (eVar 4) (eC (.int 6))) (sRet (eTup [(eC (.str "call")), (eSub (eVar 1) (eCall S_law_take [(eVar 0), (eLen (eVar 1))])), (eCall (S_law_body n) [(eVar 0), (eVar 1), (eVar 2), (eBin opSub (eVar 3) (eC (.int 1)))])])) sNil) (T_law_body_1 n))
def T_law_body_3 (n : Nat) : WS :=
  (sSeq (sIf (tAnd (tCmp cLt (eVar 4) (eC (.int 3))) (tTru (eVar 2))) (sRet (eTup [(eC (.str "tell")), (eSub (eVar 2) (eCall S_law_take [(eVar 0), (eLen (eVar 2))])), (eCall (S_law_body n) [(eVar 0), (eVar 1), (eVar 2), (eBin opSub (eVar 3) (eC (.int 1)))])])) sNil) (T_law_body_2 n))
def B_law_body (n : Nat) : WS :=
  (sSeq (sAsg (eCall S_law_take [(eVar 0), (eC (.int 9))]) (gName 4)) (sSeq (sIf (tOr (tCmp cLt (eVar 3) (eC (.int 1))) (tCmp cEq (eVar 4) (eC (.int 0)))) (sRet (eSub (eLst [(eTup [(eC (.str "end"))]), (eTup [(eC (.str "end"))]), (eTup [(eC (.str "end"))]), (eTup [(eC (.str "end"))]), (eTup [(eC (.str "stop"))])]) (eCall S_law_take [(eVar 0), (eC (.int 5))]))) sNil) (T_law_body_3 n)))
def CE_law_program_1 : WE :=
  (eTup [(eVar 4), (eCall (S_law_body 8) [(eVar 0), (eVar 1), (eVar 3), (eBin opAdd (eC (.int 1)) (eCall S_law_take [(eVar 0), (eC (.int 5))]))])])
def B_law_program : WS :=
  (sSeq (sAsg (eSl (eLst [(eC (.str "p")), (eC (.str "q")), (eC (.str "r2")), (eC (.str "s"))]) none (some (eBin opAdd (eC (.int 1)) (eCall S_law_take [(eVar 0), (eC (.int 4))])))) (gName 1)) (sSeq (sAsg (eCall S_law_take [(eVar 0), (eLen (eVar 1))]) (gName 2)) (sSeq (sAsg (eBin opAdd (eSl (eVar 1) (some (eVar 2)) none) (eSl (eVar 1) none (some (eVar 2)))) (gName 1)) (sSeq (sAsg (eSl (eLst [(eC (.str "a")), (eC (.str "b")), (eC (.str "p"))]) none (some (eCall S_law_take [(eVar 0), (eC (.int 4))]))) (gName 3)) (sRet (eTupOf (eComp (iVal (eVar 1)) [4] (gName 4) tYes CE_law_program_1)))))))
end DL

set_option Elab.async false
set_option linter.all false
set_option maxRecDepth 100000
set_option maxHeartbeats 4000000
namespace DL
open PySem
theorem Str.ne_of {a b : Str} (h : (a == b) = false) : a ≠ b := by intro e; subst e; simp at h
theorem ob_law_start : ∀ E ds M Q, S_law_start E ds M Q → B_law_start E (endsL Q) (start 2 ds) M := by
  intro E ds M Q h
  obtain ⟨x, rfl, ns, rfl, hl, hq⟩ := fn1_e h
  simp [B_law_start]
  intro p hp q hq'
  have e : cut (ns.map D.int) none (some 63) = ns.map D.int := by
    unfold cut HT.sIx
    rw [List.length_map]
    simp
    exact List.take_of_length_le (by rw [List.length_map]; omega)
  rw [e]
  have hpq : q ≠ p := (set_none.mp hq').1
  have hq0 := (set_none.mp hq').2
  refine comp_map id (fun m => m p = some (.lst (ns.map D.int))) (fun m o h => by rw [set_ne hpq.symm]; exact h) (fun _ h => h) _ [] _ ?_ ?_ set_same ?_ ?_
  · intro x hx m T r ht
    obtain ⟨i, _, rfl⟩ := List.mem_map.mp hx
    simp [CE_law_start_1]; exact ht
  · have := sizeLine_ge; simp; omega
  · rw [set_ne hpq.symm, set_same]
  · intro a ha
    simp only [List.nil_append, List.map_id]
    rw [set_set] at ha ⊢
    have h1 := set_none.mp ha
    have h2 := set_none.mp h1.2
    exact ⟨_, (((Le.refl.fresh hp).set).set : Le ((M.set q _).set a _) _), hq a q h1.1 h2.2 hq0⟩
theorem ob_law_fill : ∀ E ds M Q, S_law_fill E ds M Q → B_law_fill E (endsL Q) (start 2 ds) M := by
  intro E ds M Q h
  obtain ⟨x, rfl, a, b, rfl, hc, hq⟩ := fn1_e h
  obtain ⟨h2, ⟨xs, h5⟩, ⟨_, h4, i, j, k, l, h3, rfl⟩⟩ := hc
  have e5 : ∀ o, M.set a o b = some (.lst (xs.map .int)) := fun o => by rw [set_ne (Ne.symm h2)]; exact h5
  have hq' : ∀ (v i' j' k' l' : Int), 0 ≤ i' → ∃ M0, Le M0 (M.set a (cs b i' j' k' l')) ∧ Q (.int v) M0 := fun v i' j' k' l' hi => ⟨_, Le.refl, hq _ _ ⟨i', j', k', l', hi, rfl⟩⟩
  have tail : ∀ (v i' j' k' l' : Int), 0 ≤ i' → T_law_fill_2 E (endsL Q) [some (.ref a), some (.int v)] (M.set a (cs b i' j' k' l')) := by
    intro v i' j' k' l' hi
    simp [T_law_fill_2, cs, K, mulOk_small, np_small]
    refine ⟨?_, hq' _ _ _ _ _ hi⟩
    refine mulOk_small ?_
    have e1 := Int.emod_nonneg (a := v * 48271 + k' * 69621) (b := 2147483647) (by decide)
    have e2 := Int.emod_lt_of_pos (v * 48271 + k' * 69621) (b := 2147483647) (by decide)
    rw [fmod_pos (by decide)]
    omega
  have tail3 : ∀ (v i' j' k' l' : Int), 0 ≤ i' → T_law_fill_3 E (endsL Q) [some (.ref a), some (.int v)] (M.set a (cs b i' j' k' l')) := by
    intro v i' j' k' l' hi
    simp [T_law_fill_3, cs, e5]
    split
    · exact go (tail v i' j' k' l' hi)
    · rename_i hx
      split
      · have : 1 ≤ xs.length := by
          have : xs.length ≠ 0 := by simpa using hx
          omega
        rw [if_pos (by omega), Option.bind_some, show (-1 + (xs.length : Int)).toNat = xs.length - 1 from by omega, List.getElem?_eq_getElem (by omega)]
        simp
        exact go (tail _ i' j' k' l' hi)
      · exact go (tail _ i' j' k' l' hi)
  simp [B_law_fill, h4, cs, K, mulOk_small, e5, h3]
  split
  · rename_i hi
    have hi' : i.toNat < xs.length := by omega
    have := tail3
    simp [cs] at this
    simp [List.getElem?_eq_getElem hi', set_set, T_law_fill_1, K]
    have := sizeLine_ge
    split <;> split <;> first | exact hq' _ _ _ _ _ (by omega) | exact tail3 _ _ _ _ _ (by omega)
  · exact tail3 _ _ _ _ _ h3
theorem ob_law_take : ∀ E ds M Q, S_law_take E ds M Q → B_law_take E (endsL Q) (start 3 ds) M := by
  intro E ds M Q h
  obtain ⟨x, y, rfl, a, b, many, rfl, rfl, h0, h1, hc, hq⟩ := fn2_e h
  have tail : ∀ o, CO b o → T_law_take_1 E (endsL Q) [some (.ref a), some (.int many), none] (M.set a o) := by
    intro o hc'
    obtain ⟨i, j, k, l, h2, rfl⟩ := hc'
    simp [T_law_take_1, cs, K, fdiv_pos h0, fmod_pos h0, set_set]
    exact ⟨by omega, np_small (by omega), _, Le.refl, hq _ _ (Int.emod_nonneg _ (by omega)) (Int.emod_lt_of_pos _ h0) ⟨i, _, k, l, h2, rfl⟩⟩
  obtain ⟨h2, ⟨xs, h5⟩, ⟨_, h4, i, j, k, l, h3, rfl⟩⟩ := id hc
  simp [B_law_take, h4, cs]
  split
  · refine ⟨a, b, rfl, hc, fun v o hc' => ?_⟩
    obtain ⟨i', j', k', l', h3', rfl⟩ := hc'
    simp [cs, set_set]
    exact go (tail _ ⟨i', v, k', l', h3', rfl⟩)
  · have : M = M.set a (cs b i j k l) := (set_self h4).symm
    rw [this]
    exact go (tail _ ⟨i, j, k, l, h3, rfl⟩)
/-! ## fractions -/
theorem gcd_mod {a b : Int} (hb : 0 < b) : Int.gcd b (a % b) = Int.gcd a b := by
  rw [Int.emod_def, Int.gcd_sub_mul_left_right, Int.gcd_comm]
theorem div_loop {Q : KD} (E : XW) (M : Sto) : ∀ (m : Nat) (xs : List D) (a b : Int) (t : Option D) , 0 ≤ a → 0 ≤ b → Sm m b → 2 * m + 1 ≤ xs.length → Q (.int (Int.gcd a b)) M →
    forL (gName 2) FB_law_divisor_1 (fun _ => True) xs E { nx := K (T_law_divisor_2 E (endsL Q)), rt := (endsL Q).rt, bk := (endsL Q).bk, ct := (endsL Q).ct } [some (.int a), some (.int b), t] M
  | m, [], a, b, t, _, _, _, hl, _ => by simp at hl
  | m, x :: xs, a, b, t, h0, h1, hs, hl, hq => by
    rw [forL_cons]
    simp [FB_law_divisor_1]
    split
    · subst b
      refine ⟨M, Le.refl, ?_⟩
      simp [show ¬ a < 0 by omega] at hq ⊢
      rw [show (a.natAbs : Int) = a by omega] at hq; exact hq
    · have hb : 0 < b := by omega
      have r0 := Int.emod_nonneg a (b := b) (by omega)
      have r1 := Int.emod_lt_of_pos a hb
      refine go ?_
      simp [T_law_divisor_1, fmod_pos hb]
      refine ⟨by omega, go ?_⟩
      match m, hs, hl with
      | 0, hs, hl => exact absurd hs.h (by simp; omega)
      | m + 1, hs, hl =>
        by_cases hc : Sm m (a % b)
        · exact div_loop E M m xs b (a % b) _ (by omega) r0 hc (by simp at hl; omega) (by rw [gcd_mod hb]; exact hq)
        · match xs, hl with
          | [], hl => simp at hl
          | y :: xs, hl =>
            rw [forL_cons]
            simp [FB_law_divisor_1]
            have hc' : 0 < a % b := by
              rcases Int.lt_or_eq_of_le r0 with h | h
              · exact h
              · exfalso; apply hc; rw [← h]; exact ⟨by simp; exact Nat.two_pow_pos m⟩
            rw [if_neg (by omega)]
            refine go ?_
            simp [T_law_divisor_1, fmod_pos hc']
            refine ⟨by omega, go ?_⟩
            have r2 := Int.emod_nonneg b (b := a % b) (by omega)
            have r3 := Int.emod_lt_of_pos b hc'
            refine div_loop E M m xs (a % b) (b % (a % b)) _ r0 r2 ?_ (by simp at hl; omega) (by rw [gcd_mod hc', gcd_mod hb]; exact hq)
            refine ⟨?_⟩
            replace hs := hs.h
            have hc := fun h => hc ⟨h⟩
            have e := Int.emod_add_mul_ediv b (a % b)
            have hq1 : 1 ≤ b / (a % b) := by
              rcases Int.lt_or_le 0 (b / (a % b)) with h | h
              · omega
              · exfalso
                have h2 : 0 ≤ b / (a % b) := Int.ediv_nonneg (by omega) r0
                have h3 : b / (a % b) = 0 := by omega
                rw [h3] at e; simp at e
                omega
            have : a % b ≤ (a % b) * (b / (a % b)) := by simpa using Int.mul_le_mul_of_nonneg_left hq1 r0
            rw [Nat.pow_succ] at hs
            omega
theorem rangeL_len (i j : Int) : (rangeL i j).length = (j - i).toNat := by simp [rangeL]
theorem ob_law_divisor : ∀ E ds M Q, S_law_divisor E ds M Q → B_law_divisor E (endsL Q) (start 3 ds) M := by
  intro E ds M Q h
  obtain ⟨x, y, rfl, n, d, rfl, rfl, h0, h1, hq⟩ := fn2_e h
  simp [B_law_divisor]
  have hl := rangeL_len 0 20000
  generalize rangeL 0 20000 = xs at hl ⊢
  match xs, hl with
  | [], hl => simp at hl
  | x :: xs, hl =>
    rw [forL_cons]
    simp [FB_law_divisor_1]
    rw [if_neg (by omega)]
    refine go ?_
    have r0 := Int.emod_nonneg n (b := d) (by omega)
    have r1 := Int.emod_lt_of_pos n h0
    simp [T_law_divisor_1, fmod_pos h0]
    refine ⟨by omega, go ?_⟩
    refine div_loop E M 8999 xs d (n % d) _ (by omega) r0 (Sm.of_le (by omega) h1) (by simp at hl; omega) (by rw [gcd_mod h0]; exact hq)
theorem gcd_pos' {n d : Int} (h : 0 < d) : 0 < (Int.gcd n d : Int) := by
  have := Int.gcd_pos_of_ne_zero_right n (b := d) (by omega); omega
theorem gcd_sm {n d : Int} {m : Nat} (h : 0 < d) (hs : Sm m d) : Sm m (Int.gcd n d : Int) := Sm.of_le (by have := Int.gcd_le_right n h; omega) hs
theorem ob_law_fraction : ∀ E ds M Q, S_law_fraction E ds M Q → B_law_fraction E (endsL Q) (start 3 ds) M := by
  intro E ds M Q h
  obtain ⟨x, y, rfl, n, d, rfl, rfl, h0, h1, hq⟩ := fn2_e h
  have g0 := gcd_pos' (n := n) h0
  have g1 := gcd_sm (n := n) h0 h1
  simp [B_law_fraction, K, S_law_divisor]
  refine ⟨h0, h1, ?_⟩
  rw [if_pos h0, fdiv_pos g0, fdiv_pos g0]
  exact ⟨by omega, g1.np (by decide), by omega, g1.np (by decide), M, Le.refl, hq⟩
theorem ob_law_plus : ∀ E ds M Q, S_law_plus E ds M Q → B_law_plus E (endsL Q) (start 2 ds) M := by
  intro E ds M Q h
  obtain ⟨x, y, rfl, a, b, rfl, rfl, ha, hb, h1, h2, h3, h4, hq⟩ := fn2_e h
  simp [B_law_plus, S_law_fraction, dF]
  refine ⟨h1.mulOk h4 (by omega), h3.mulOk h2 (by omega), h2.mulOk h4 (by omega), Int.mul_pos ha hb, (h2.mul h4).mono (by omega), M, Le.refl, hq⟩
theorem ob_law_times : ∀ E ds M Q, S_law_times E ds M Q → B_law_times E (endsL Q) (start 2 ds) M := by
  intro E ds M Q h
  obtain ⟨x, y, rfl, a, b, rfl, rfl, ha, hb, h1, h2, h3, h4, hq⟩ := fn2_e h
  simp [B_law_times, S_law_fraction, dF]
  refine ⟨h1.mulOk h3 (by omega), h2.mulOk h4 (by omega), Int.mul_pos ha hb, (h2.mul h4).mono (by omega), M, Le.refl, hq⟩
theorem take_i {E : XW} {M : Sto} {Q : KD} {a b : Addr} {many : Int} (h0 : 0 < many) (h1 : many < 1073741824) (hc : CSt M a b) (hq : ∀ d o, 0 ≤ d → d < many → CO b o → Q (.int d) (M.set a o)) :
    S_law_take E [.ref a, .int many] M Q := ⟨a, b, many, rfl, rfl, h0, h1, hc, hq⟩
theorem frac_i {E : XW} {M : Sto} {Q : KD} {n d : Int} (h0 : 0 < d) (h1 : Sm 8999 d) (hq : Q (dF (fr n d)) M) : S_law_fraction E [.int n, .int d] M Q := ⟨n, d, rfl, rfl, h0, h1, hq⟩
theorem times_i {E : XW} {M : Sto} {Q : KD} {a b c d : Int} (ha : 0 < b) (hb : 0 < d) (h1 : Sm 4000 a) (h2 : Sm 4000 b) (h3 : Sm 4000 c) (h4 : Sm 4000 d) (hq : Q (dF (fr (a * c) (b * d))) M) :
    S_law_times E [.tup [.int a, .int b], .tup [.int c, .int d]] M Q := ⟨(a, b), (c, d), rfl, rfl, ha, hb, h1, h2, h3, h4, hq⟩
theorem plus_i {E : XW} {M : Sto} {Q : KD} {a b c d : Int} (ha : 0 < b) (hb : 0 < d) (h1 : Sm 4000 a) (h2 : Sm 4000 b) (h3 : Sm 4000 c) (h4 : Sm 4000 d) (hq : Q (dF (fr (a * d + c * b) (b * d))) M) :
    S_law_plus E [.tup [.int a, .int b], .tup [.int c, .int d]] M Q := ⟨(a, b), (c, d), rfl, rfl, ha, hb, h1, h2, h3, h4, hq⟩
/-- small ones all -/
def litR (q : Int × Int) : Bool := decide (0 < q.2 ∧ q.1.natAbs < 2 ^ 30 ∧ q.2.natAbs < 2 ^ 30)
theorem menu_lit : ∀ q ∈ menu, ∀ u ∈ menu, litR q ∧ litR (fr (q.2 - q.1) q.2) ∧ litR (fr ((fr (q.2 - q.1) q.2).1 * u.1) ((fr (q.2 - q.1) q.2).2 * u.2)) ∧ (q.2 = 1 → q = (1, 1)) := by decide +kernel
theorem litR_sm {q : Int × Int} (h : litR q = true) : 0 < q.2 ∧ Sm 60 q.1 ∧ Sm 60 q.2 := by
  have := of_decide_eq_true h
  exact ⟨this.1, ⟨Nat.lt_of_lt_of_le this.2.1 (by decide)⟩, ⟨Nat.lt_of_lt_of_le this.2.2 (by decide)⟩⟩
theorem atI_map {α : Type} {xs : List α} {f : α → D} {d : Int} (h0 : 0 ≤ d) (h1 : d < xs.length) : ∃ q ∈ xs, L2.atI (xs.map f) d = some (f q) := by
  refine ⟨xs[d.toNat]'(by omega), List.getElem_mem _, ?_⟩
  simp [h0, h1, List.getElem?_eq_getElem (show d.toNat < xs.length by omega)]
theorem atI_mem {xs : List D} {d : Int} (h0 : 0 ≤ d) (h1 : d < xs.length) : ∃ q ∈ xs, L2.atI xs d = some q := by
  simpa using atI_map (f := id) h0 h1
theorem atI_map1 {α : Type} {x : α} {xs : List α} {f : α → D} {d : Int} (h0 : 0 ≤ d) (h1 : d < xs.length) : ∃ q ∈ xs, L2.atI ((x :: xs).map f) (1 + d) = some (f q) := by
  refine ⟨xs[d.toNat]'(by omega), List.getElem_mem _, ?_⟩
  have e : (1 + d).toNat = d.toNat + 1 := by omega
  simp [show 0 ≤ 1 + d by omega, show 1 + d < xs.length + 1 by omega, e, List.getElem?_eq_getElem (show d.toNat < xs.length by omega)]
theorem cut2_mem : ∀ q ∈ menu, q.2 ≠ 1 → cut2 q ∈ cuts := by decide +kernel
theorem cut3_mem : ∀ q ∈ menu, q.2 ≠ 1 → ∀ u ∈ menu.drop 1, cut3 q u ∈ cuts := by decide +kernel
theorem litR.s4 {x : Int} (h : Sm 60 x) : Sm 4000 x := h.mono (by omega)
theorem ob_law_cut : ∀ E ds M Q, S_law_cut E ds M Q → B_law_cut E (endsL Q) (start 7 ds) M := by
  intro E ds M Q h
  obtain ⟨x, rfl, a, b, rfl, hc, hq⟩ := fn1_e h
  simp [B_law_cut]
  intro p hp
  have hpa := hc.pa hp
  refine go ?_
  simp [-atI_s]
  refine take_i (by decide) (by decide) (hc.fresh hp) fun d o h0 h1 hc1 => ?_
  have el : ∀ o, (M.set p (.lst (menu.map dF))).set a o p = some (.lst (menu.map dF)) := fun o => by rw [set_ne hpa, set_same]
  obtain ⟨q, hqm, hqe⟩ := atI_map (xs := menu) (f := dF) h0 h1
  have em : menu.map dF = [D.tup [D.int 1, D.int 1], D.tup [D.int 1, D.int 2], D.tup [D.int 1, D.int 3], D.tup [D.int 2, D.int 3], D.tup [D.int 1, D.int 4], D.tup [D.int 3, D.int 4], D.tup [D.int 1, D.int 5], D.tup [D.int 2, D.int 7], D.tup [D.int 1, D.int 10]] := rfl
  rw [← em]
  have f1 : Fr a b M ((M.set p (.lst (menu.map dF))).set a o) := ((hc.refl.fresh hp).set hc1)
  have e1 : ((M.set p (.lst (menu.map dF))).set a o) p = some (.lst (menu.map dF)) := el o
  simp [-atI_s, e1, hqe, dF]
  generalize (M.set p (.lst (menu.map dF))).set a o = M1 at f1 e1 ⊢
  refine go ?_
  simp
  -- what may be forgotten
  have fin : ∀ (rows : List (Int × Int)) (M' : Sto), rows ∈ cuts → Fr a b M M' → ∀ r, M' r = none → ∃ M0, Le M0 (M'.set r (.lst (rows.map dF))) ∧ Q (.ref r) M0 := by
    intro rows M' hr f r hr'
    obtain ⟨o, c, l1⟩ := f.le
    have hn := f.none hr'
    exact ⟨_, l1.set, hq rows o r hr c hn.1 hn.2⟩
  split
  · have : q = (1, 1) := (menu_lit q hqm q hqm).2.2.2 (by assumption)
    subst this
    intro r hr
    exact fin [(1, 1)] _ (by decide) f1 r hr
  · rename_i hq1
    refine go ?_
    have L := menu_lit q hqm q hqm
    have L1 := litR_sm L.1
    have L2 := litR_sm L.2.1
    simp [T_law_cut_2, -atI_s]
    intro r hr
    have hra := (f1.none hr)
    refine go ?_
    simp [-atI_s]
    refine frac_i L1.1 (L1.2.2.mono (by omega)) ?_
    refine go ?_
    simp [-atI_s]
    have f2 : Fr a b M (M1.set r (.lst [dF q])) := f1.fresh hr
    have hrp : r ≠ p := fun e => by rw [e, e1] at hr; cases hr
    refine take_i (by decide) (by decide) ((hc.fr f1).fresh hr) fun d2 o2 g0 g1 hc2 => ?_
    have f3 := f2.set hc2
    have e3 : ((M1.set r (.lst [dF q])).set a o2) p = some (.lst (menu.map dF)) := by rw [set_ne hpa, set_ne hrp.symm, e1]
    have e4 : ((M1.set r (.lst [dF q])).set a o2) r = some (.lst [dF q]) := by rw [set_ne hra.1, set_same]
    have eq' : D.tup [D.int q.fst, D.int q.snd] = dF q := rfl
    rw [eq']
    generalize hM2 : ((M1.set r (.lst [dF q])).set a o2) = M2 at f3 e3 e4 ⊢
    -- the end
    have tail : ∀ (rows : List (Int × Int)) (rest : Int × Int) (x4 x5 x6 : Option D) (M' : Sto), rows ++ [rest] ∈ cuts → Fr a b M M' → M' r = some (.lst (rows.map dF)) →
        T_law_cut_1 E (endsL Q) [some (.ref a), some (.ref p), some (.ref r), some (dF rest), x4, x5, x6] M' := by
      intro rows rest x4 x5 x6 M' hm f e
      simp [T_law_cut_1, e]
      intro z hz
      have hzr : z ≠ r := fun h => by rw [h, e] at hz; cases hz
      rw [set_ne (Ne.symm hzr), e]
      simp
      have hl : rows.length + 1 ≤ 3 := by
        have : ∀ l ∈ cuts, l.length ≤ 3 := by decide +kernel
        simpa using this _ hm
      refine ⟨by have := sizeLine_ge; omega, fun w hw => ?_⟩
      have f' := f.fresh (o := .lst [dF rest]) hz
      have := fin _ _ hm f' w hw
      simpa using this
    simp only [cEq_int]
    split
    · refine take_i (by decide) (by decide) (hc.fr f3) fun d3 o3 k0 k1 hc3 => ?_
      have f4 := f3.set hc3
      have e5 : (M2.set a o3) p = some (.lst (menu.map dF)) := by rw [set_ne hpa, e3]
      have e6 : (M2.set a o3) r = some (.lst [dF q]) := by rw [set_ne hra.1, e4]
      generalize M2.set a o3 = M3 at f4 e5 e6 ⊢
      obtain ⟨u, hum, hue⟩ := atI_map1 (x := (1, 1)) (xs := menu.drop 1) (f := dF) k0 k1
      have hue' : _root_.L2.atI (List.map dF menu) (1 + d3) = some (dF u) := hue
      have hum' : u ∈ menu := List.mem_of_mem_drop hum
      have L3 := litR_sm (menu_lit u hum' u hum').1
      have L4 := litR_sm (menu_lit q hqm u hum').2.2.1
      simp [-atI_s, e5, hue', dF]
      refine go ?_
      simp
      refine times_i L2.1 L3.1 (litR.s4 L2.2.1) (litR.s4 L2.2.2) (litR.s4 L3.2.1) (litR.s4 L3.2.2) ?_
      refine go ?_
      simp [e6]
      refine ⟨by have := sizeLine_ge; omega, go ?_⟩
      simp [dF]
      refine plus_i L2.1 L4.1 (litR.s4 L2.2.1) (litR.s4 L2.2.2) (litR.s4 ?_) (litR.s4 L4.2.2) ?_
      · have := L4.2.1.neg
        simpa [dF] using this
      · refine go (tail [q, _] _ _ _ _ _ ?_ (f4.upd hra.2 hra.1) (by rw [set_same]; rfl))
        simp
        have := cut3_mem q hqm hq1 u hum
        simpa [cut3] using this
    · refine go (tail [q] _ _ _ _ _ ?_ f3 e4)
      have := cut2_mem q hqm hq1
      exact this
theorem body_i {n : Nat} {E : XW} {M : Sto} {Q : KD} {a b pn pl : Addr} {ns ls : List Str} {k : Nat} (hc : CSt M a b) (h1 : pn ≠ a) (h2 : M pn = some (.lst (ns.map .str))) (h3 : ns ≠ []) (h4 : ns.length ≤ 100)
    (h5 : pl ≠ a) (h6 : M pl = some (.lst (ls.map .str))) (h7 : ls.length ≤ 100) (h8 : k < n) (hq : ∀ d o, WB ns ls k d → CO b o → Q d (M.set a o)) : S_law_body n E [.ref a, .ref pn, .ref pl, .int k] M Q :=
  ⟨a, b, pn, pl, ns, ls, k, rfl, hc, rfl, h1, h2, h3, h4, rfl, h5, h6, h7, rfl, h8, hq⟩
theorem no_law_body : ∀ E ds M Q, ¬ S_law_body 0 E ds M Q := by
  intro E ds M Q h
  obtain ⟨x, y, z, u, rfl, a, b, pn, pl, ns, ls, k, rfl, hc, rfl, hpn, en, hn0, hn1, rfl, hpl, el, hl1, rfl, hk, hq⟩ := fn4_e h
  omega
theorem ob_law_body (n : Nat) : ∀ E ds M Q, S_law_body (n + 1) E ds M Q → B_law_body n E (endsL Q) (start 6 ds) M := by
  intro E ds M Q h
  obtain ⟨x, y, z, u, rfl, a, b, pn, pl, ns, ls, k, rfl, hc, rfl, hpn, en, hn0, hn1, rfl, hpl, el, hl1, rfl, hk, hq⟩ := fn4_e h
  have fin : ∀ d M', WB ns ls k d → Fr a b M M' → ∃ M0, Le M0 M' ∧ Q d M0 := by
    intro d M' hd f
    obtain ⟨o, c, l⟩ := f.le
    exact ⟨_, l, hq d o hd c⟩
  simp [B_law_body]
  refine take_i (by decide) (by decide) hc fun w o h0 h1 hc1 => ?_
  have f1 := hc.refl.set hc1
  generalize M.set a o = M1 at f1 ⊢
  refine go ?_
  simp [-atI_s]
  -- a leaf
  have leaf : ∀ p, M1 p = none → S_law_take E [D.ref a, D.int 5] (M1.set p (O.lst [dEnd, dEnd, dEnd, dEnd, dStop])) fun y M2 => subO (M2 p) y fun d => ∃ M0, Le M0 M2 ∧ Q d M0 := by
    intro p hp
    have hpa := f1.none hp
    refine take_i (by decide) (by decide) ((hc.fr f1).fresh hp) fun d o h0 h1 hc1 => ?_
    rw [set_ne hpa.1, set_same]
    obtain ⟨q, hm, hq⟩ := atI_mem (xs := [dEnd, dEnd, dEnd, dEnd, dStop]) h0 h1
    simp [-atI_s, hq]
    refine fin q _ ?_ ((f1.fresh hp).set hc1)
    have : q = dEnd ∨ q = dStop := by simpa using hm
    cases k with
    | zero => exact this
    | succ k => rcases this with h | h; exact .inl h; exact .inr (.inl h)
  have tail : 1 ≤ k → T_law_body_3 n E (endsL Q) [some (.ref a), some (.ref pn), some (.ref pl), some (.int k), some (.int w), none] M1 := by
    intro hk1
    obtain ⟨k, rfl⟩ : ∃ j, k = j + 1 := ⟨k - 1, by omega⟩
    have ek : ((k + 1 : Nat) : Int) - 1 = (k : Int) := by omega
    have tail2 : T_law_body_2 n E (endsL Q) [some (.ref a), some (.ref pn), some (.ref pl), some (.int (k + 1 : Nat)), some (.int w), none] M1 := by
      have tail1 : T_law_body_1 n E (endsL Q) [some (.ref a), some (.ref pn), some (.ref pl), some (.int (k + 1 : Nat)), some (.int w), none] M1 := by
        simp [T_law_body_1]
        refine ⟨a, b, rfl, hc.fr f1, fun rows o p hr hc2 hpa hp => ?_⟩
        have f2 : Fr a b M ((M1.set a o).set p (.lst (rows.map dF))) := (f1.set hc2).fresh (set_none.mpr ⟨hpa, hp⟩)
        have e2 : ((M1.set a o).set p (.lst (rows.map dF))) p = some (.lst (rows.map dF)) := set_same
        generalize (M1.set a o).set p (.lst (rows.map dF)) = M2 at f2 e2 ⊢
        simp [e2]
        intro z hz
        have hza := f2.none hz
        have hzp : z ≠ p := fun e => by rw [e, e2] at hz; cases hz
        have hlen : rows.length ≤ 3 := by
          have : ∀ l ∈ cuts, l.length ≤ 3 := by decide +kernel
          exact this _ hr
        refine comp_ind (fun acc xs m => ∃ (rs : List ((Int × Int) × D)) (qs : List (Int × Int)), acc = rs.map dRow ∧ xs = qs.map dF ∧ rs.map Prod.fst ++ qs = rows ∧ (∀ r ∈ rs, WB ns ls k r.2) ∧ Fr a b M m ∧ m p = some (.lst (rows.map dF)) ∧ m z = some (.lst acc)) ?_ ?_ _ [] _ ⟨[], rows, rfl, rfl, rfl, by simp, f2.fresh hz, by rw [set_ne (Ne.symm hzp)]; exact e2, set_same⟩
        · rintro x xs acc m ⟨rs, qs, rfl, hx, hrq, hw, f, e, ez⟩
          obtain ⟨q, qs, rfl⟩ : ∃ q qs', qs = q :: qs' := by cases qs with
            | nil => simp at hx
            | cons q qs => exact ⟨q, qs, rfl⟩
          simp at hx
          obtain ⟨rfl, rfl⟩ := hx
          have hl2 : rs.length + (qs.length + 1) = rows.length := by rw [← hrq]; simp
          refine ⟨e, by have := sizeLine_ge; simp; omega, fun T hT => ?_⟩
          simp [CE_law_body_1, ek]
          refine body_i (hc.fr f) hpn (f.at hpn en) hn0 hn1 hpl (f.at hpl el) hl1 (by omega) fun d o hd hc3 => ?_
          have f' := f.set hc3
          have e' : (m.set a o) p = some (.lst (rows.map dF)) := by rw [set_ne hpa]; exact e
          have ez' : (m.set a o) z = some (.lst (rs.map dRow)) := by rw [set_ne hza.1]; exact ez
          refine hT _ _ ez' ⟨rs ++ [(q, d)], qs, by simp [dRow], rfl, by simp [← hrq], ?_, f'.upd hza.2 hza.1, by rw [set_ne (Ne.symm hzp)]; exact e', set_same⟩
          intro r hr
          rcases List.mem_append.mp hr with hr | hr
          · exact hw r hr
          · simp at hr; subst hr; exact hd
        · rintro acc m ⟨rs, qs, rfl, hx, hrq, hw, f, e, ez⟩
          have : qs = [] := by simpa using hx.symm
          subst this
          refine ⟨e, ?_⟩
          simp [ez]
          refine fin _ _ ?_ f
          refine .inr (.inr (.inr (.inr ⟨rs, ?_, rfl, hw⟩)))
          simp at hrq; rw [hrq]; exact hr
      simp [T_law_body_2, -atI_s]
      split
      · rw [f1.at hpn en]
        simp [-atI_s]
        have : 0 < ns.length := by cases ns; exact absurd rfl hn0; simp
        refine take_i (by omega) (by omega) (hc.fr f1) fun d o h0 h1 hc2 => ?_
        have f2 := f1.set hc2
        rw [f2.at hpn en]
        obtain ⟨q, hm, hq⟩ := atI_map (xs := ns) (f := .str) h0 h1
        simp [-atI_s, hq, ek]
        refine body_i (hc.fr f2) hpn (f2.at hpn en) hn0 hn1 hpl (f2.at hpl el) hl1 (by omega) fun d o hd hc3 => ?_
        exact fin _ _ (.inr (.inr (.inr (.inl ⟨q, d, hm, rfl, hd⟩)))) (f2.set hc3)
      · exact go tail1
    simp [T_law_body_3, -atI_s]
    rw [f1.at hpl el]
    split
    · simp [-atI_s]
      split
      · exact go tail2
      · rename_i hls
        have : 0 < ls.length := by cases ls; exact absurd rfl hls; simp
        refine take_i (by omega) (by omega) (hc.fr f1) fun d o h0 h1 hc2 => ?_
        have f2 := f1.set hc2
        rw [f2.at hpl el]
        obtain ⟨q, hm, hq⟩ := atI_map (xs := ls) (f := .str) h0 h1
        simp [-atI_s, hq, ek]
        refine body_i (hc.fr f2) hpn (f2.at hpn en) hn0 hn1 hpl (f2.at hpl el) hl1 (by omega) fun d o hd hc3 => ?_
        exact fin _ _ (.inr (.inr (.inl ⟨q, d, hm, rfl, hd⟩))) (f2.set hc3)
    · exact go tail2
  split
  · exact leaf
  · split
    · exact leaf
    · exact go (tail (by omega))
theorem rotN_mem : ∀ i, i < 4 → ∀ k, k < 1 + i → rotN i k ∈ allN := by decide +kernel
theorem allN_ne : ∀ ns ∈ allN, ns ≠ [] ∧ ns.length ≤ 4 := by decide +kernel
theorem allL_le : ∀ ls ∈ allL, ls.length ≤ 3 := by decide +kernel
theorem cut_to {α : Type} (xs : List α) {i : Int} (h : 0 ≤ i) : cut xs none (some i) = xs.take i.toNat := by
  unfold cut HT.sIx
  simp [show ¬ i < 0 by omega]
theorem cut_from {α : Type} (xs : List α) {i : Int} (h : 0 ≤ i) : cut xs (some i) none = xs.drop i.toNat := by
  unfold cut HT.sIx
  simp [show ¬ i < 0 by omega]
  by_cases hl : i.toNat ≤ xs.length
  · rw [Nat.min_eq_left hl]; exact List.take_of_length_le (by simp)
  · rw [Nat.min_eq_right (by omega), List.drop_eq_nil_of_le (Nat.le_refl _), List.drop_eq_nil_of_le (by omega)]; simp
theorem ob_law_program : ∀ E ds M Q, S_law_program E ds M Q → B_law_program E (endsL Q) (start 5 ds) M := by
  intro E ds M Q h
  obtain ⟨x, rfl, a, b, rfl, hc, hq⟩ := fn1_e h
  simp [B_law_program]
  intro p hp
  have en : O.lst [D.str (Str.ofString "p"), D.str (Str.ofString "q"), D.str (Str.ofString "r2"), D.str (Str.ofString "s")] = .lst (N4.map .str) := rfl
  rw [en]
  refine take_i (by decide) (by decide) (hc.fresh hp) fun d o h0 h1 hc1 => ?_
  have f1 : Fr a b M _ := (hc.refl.fresh (o := .lst (N4.map .str)) hp).set hc1
  have e1 : ((M.set p (.lst (N4.map .str))).set a o) p = some (.lst (N4.map .str)) := by rw [set_ne (hc.pa hp), set_same]
  obtain ⟨i, rfl⟩ := Int.eq_ofNat_of_zero_le h0
  have ec : cut (N4.map D.str) none (some (1 + (i : Int))) = (N4.take (1 + i)).map .str := by rw [cut_to _ (by omega), List.map_take]; congr 1
  simp [e1, -List.map_take, ec]
  generalize (M.set p (.lst (N4.map .str))).set a o = M1 at f1 ⊢
  intro r hr
  have f2 := f1.fresh (o := .lst ((N4.take (1 + i)).map .str)) hr
  have hra := f1.none hr
  have e2 : (M1.set r (.lst ((N4.take (1 + i)).map .str))) r = some (.lst ((N4.take (1 + i)).map .str)) := set_same
  generalize (M1.set r (.lst ((N4.take (1 + i)).map .str))) = M2 at f2 e2 ⊢
  refine go ?_
  simp [e2, -List.map_take]
  have hl4 : N4.length = 4 := rfl
  refine take_i (by omega) (by omega) (hc.fr f2) fun k o2 k0 k1 hc2 => ?_
  rw [hl4] at k1
  obtain ⟨k, rfl⟩ := Int.eq_ofNat_of_zero_le k0
  have f3 := f2.set hc2
  have e3 : (M2.set a o2) r = some (.lst ((N4.take (1 + i)).map .str)) := by rw [set_ne hra.1, e2]
  generalize M2.set a o2 = M3 at f3 e3 ⊢
  refine go ?_
  have ec2 : cut ((N4.take (1 + i)).map D.str) (some (k : Int)) none = ((N4.take (1 + i)).drop k).map .str := by rw [cut_from _ (by omega), List.map_drop]; congr 1
  have ec3 : cut ((N4.take (1 + i)).map D.str) none (some (k : Int)) = ((N4.take (1 + i)).take k).map .str := by simp only [cut_to _ (Int.natCast_nonneg _), Int.toNat_natCast, List.map_take]
  simp [e3, -List.map_take, -List.map_drop, ec2]
  intro u hu
  have hur : u ≠ r := fun e => by rw [e, e3] at hu; cases hu
  rw [set_ne (Ne.symm hur), e3]
  simp [-List.map_take, -List.map_drop, ec3]
  intro v hv
  have huv : v ≠ u := fun e => by rw [e, set_same] at hv; cases hv
  rw [set_ne (Ne.symm huv), set_same]
  simp [-List.map_take, -List.map_drop]
  refine ⟨by have := sizeLine_ge; omega, fun t ht => ?_⟩
  have f4 := ((f3.fresh hu).fresh hv).fresh (o := .lst ((rotN i k).map .str)) ht
  have hmem := rotN_mem i (by omega) k (by omega)
  have e4 : (((M3.set u (.lst (((N4.take (1 + i)).drop k).map .str))).set v (.lst (((N4.take (1 + i)).take k).map .str))).set t (.lst ((rotN i k).map .str))) t = some (.lst ((rotN i k).map .str)) := set_same
  have hap : List.map D.str (List.drop k (List.take (1 + i) N4)) ++ List.map D.str (List.take k (List.take (1 + i) N4)) = (rotN i k).map .str := by rw [← List.map_append]; rfl
  rw [hap]
  have hta := (((f3.fresh hu).fresh hv).none ht)
  generalize (((M3.set u (O.lst (List.map D.str (List.drop k (List.take (1 + i) N4))))).set v (O.lst (List.map D.str (List.take k (List.take (1 + i) N4))))).set t (O.lst (List.map D.str (rotN i k)))) = M4 at f4 e4 ⊢
  generalize rotN i k = ns at hmem f4 e4 ⊢
  refine go ?_
  simp
  intro q hq1
  have f5 := f4.fresh (o := .lst (L3.map .str)) hq1
  have hqa := f4.none hq1
  have hqt : q ≠ t := fun e => by rw [e, e4] at hq1; cases hq1
  have eL : O.lst [D.str (Str.ofString "a"), D.str (Str.ofString "b"), D.str (Str.ofString "p")] = .lst (L3.map .str) := rfl
  rw [eL]
  have e5 : (M4.set q (.lst (L3.map .str))) q = some (.lst (L3.map .str)) := set_same
  have e5' : (M4.set q (.lst (L3.map .str))) t = some (.lst (ns.map .str)) := by rw [set_ne hqt.symm, e4]
  generalize (M4.set q (.lst (L3.map .str))) = M5 at f5 e5 e5' ⊢
  refine take_i (by decide) (by decide) (hc.fr f5) fun l o5 l0 l1 hc5 => ?_
  obtain ⟨l, rfl⟩ := Int.eq_ofNat_of_zero_le l0
  have f6 := f5.set hc5
  have e6 : (M5.set a o5) q = some (.lst (L3.map .str)) := by rw [set_ne hqa.1, e5]
  have e6' : (M5.set a o5) t = some (.lst (ns.map .str)) := by rw [set_ne hta.1, e5']
  generalize M5.set a o5 = M6 at f6 e6 e6' ⊢
  have ec6 : cut (L3.map D.str) none (some (l : Int)) = (L3.take l).map .str := by simp only [cut_to _ (Int.natCast_nonneg _), Int.toNat_natCast, List.map_take]
  simp [e6, -List.map_take, ec6]
  intro y hy
  have hya := f6.none hy
  have f7 := f6.fresh (o := .lst ((L3.take l).map .str)) hy
  have hyt : y ≠ t := fun e => by rw [e, e6'] at hy; cases hy
  have e7 : (M6.set y (.lst ((L3.take l).map .str))) y = some (.lst ((L3.take l).map .str)) := set_same
  have e7' : (M6.set y (.lst ((L3.take l).map .str))) t = some (.lst (ns.map .str)) := by rw [set_ne hyt.symm, e6']
  have hls : L3.take l ∈ allL := by
    have : ∀ l, l < 4 → L3.take l ∈ allL := by decide +kernel
    exact this l (by omega)
  generalize M6.set y (.lst ((L3.take l).map .str)) = M7 at f7 e7 e7' ⊢
  generalize L3.take l = ls at hls e7 ⊢
  refine go ?_
  simp [e7']
  intro z hz
  have hza := f7.none hz
  have hzt : z ≠ t := fun e => by rw [e, e7'] at hz; cases hz
  have hzy : z ≠ y := fun e => by rw [e, e7] at hz; cases hz
  have hn := allN_ne ns hmem
  have hlen := allL_le ls hls
  refine comp_ind (fun acc xs m => ∃ (rs : List (Str × D)) (qs : List Str), acc = rs.map dProc ∧ xs = qs.map .str ∧ rs.map Prod.fst ++ qs = ns ∧ (∀ r ∈ rs, WB ns ls 5 r.2) ∧ Fr a b M m ∧ m t = some (.lst (ns.map .str)) ∧ m y = some (.lst (ls.map .str)) ∧ m z = some (.lst acc)) ?_ ?_ _ [] _
    ⟨[], ns, rfl, rfl, rfl, by simp, f7.fresh hz, by rw [set_ne (Ne.symm hzt)]; exact e7', by rw [set_ne (Ne.symm hzy)]; exact e7, set_same⟩
  · rintro x xs acc m ⟨rs, qs, rfl, hx, hrq, hw, f, e, ey, ez⟩
    obtain ⟨q, qs, rfl⟩ : ∃ q qs', qs = q :: qs' := by cases qs with
      | nil => simp at hx
      | cons q qs => exact ⟨q, qs, rfl⟩
    simp at hx
    obtain ⟨rfl, rfl⟩ := hx
    have hl2 : rs.length + (qs.length + 1) = ns.length := by rw [← hrq]; simp
    refine ⟨e, by have := sizeLine_ge; simp; omega, fun T hT => ?_⟩
    simp [CE_law_program_1]
    refine take_i (by decide) (by decide) (hc.fr f) fun d o6 d0 d1 hc6 => ?_
    obtain ⟨d, rfl⟩ := Int.eq_ofNat_of_zero_le d0
    have f' := f.set hc6
    have e' : (m.set a o6) t = some (.lst (ns.map .str)) := by rw [set_ne hta.1]; exact e
    have ey' : (m.set a o6) y = some (.lst (ls.map .str)) := by rw [set_ne hya.1]; exact ey
    have ez' : (m.set a o6) z = some (.lst (rs.map dProc)) := by rw [set_ne hza.1]; exact ez
    generalize m.set a o6 = m6 at f' e' ey' ez' ⊢
    simp
    rw [show (1 : Int) + (d : Int) = ((1 + d : Nat) : Int) by omega]
    refine body_i (hc.fr f') hta.1 e' hn.1 (by omega) hya.1 ey' (by omega) (by omega) fun g o hd hc3 => ?_
    have f'' := f'.set hc3
    refine hT _ _ (by rw [set_ne hza.1]; exact ez') ⟨rs ++ [(q, g)], qs, by simp [dProc], rfl, by simp [← hrq], ?_, f''.upd hza.2 hza.1, ?_, ?_, set_same⟩
    · intro r hr
      rcases List.mem_append.mp hr with hr | hr
      · exact hw r hr
      · simp at hr; subst hr; exact hd.mono (by omega)
    · rw [set_ne (Ne.symm hzt), set_ne hta.1]; exact e'
    · rw [set_ne (Ne.symm hzy), set_ne hya.1]; exact ey'
  · rintro acc m ⟨rs, qs, rfl, hx, hrq, hw, f, e, ey, ez⟩
    have : qs = [] := by simpa using hx.symm
    subst this
    simp at hrq
    refine ⟨e, ?_⟩
    simp [ez]
    obtain ⟨o, c, l⟩ := f.le
    subst hrq
    exact ⟨_, l, hq rs o ⟨hmem, ls, hls, hw⟩ c⟩
/-- c's number below one of these -/
theorem pick_i {E : XW} {M : Sto} {Q : KD} {a b : Addr} {vals : List Int} (hv : ∀ v ∈ vals, 0 < v ∧ v < 1073741824) (h0 : vals ≠ []) (h1 : vals.length ≤ 100) (hc : CSt M a b) (hq : ∀ v d M', v ∈ vals → 0 ≤ d → d < v → Fr a b M M' → Q (.int d) M') :
    ∀ p, M p = none → S_law_take E [.ref a, .int vals.length] (M.set p (.lst (vals.map .int))) fun y M2 => subO (M2 p) y fun d => S_law_take E [.ref a, d] M2 Q := by
  intro p hp
  have hl : 0 < vals.length := by cases vals; exact absurd rfl h0; simp
  refine take_i (by omega) (by omega) (hc.fresh hp) fun d o d0 d1 hc1 => ?_
  have f1 := (hc.refl.fresh (o := .lst (vals.map .int)) hp).set hc1
  rw [set_ne (hc.pa hp), set_same]
  obtain ⟨v, hm, he⟩ := atI_map (xs := vals) (f := .int) d0 d1
  simp [-atI_s, he]
  have := hv v hm
  exact take_i this.1 this.2 (hc.fr f1) fun d' o' e0 e1 hc2 => hq v d' _ hm e0 e1 (f1.set hc2)
end DL

set_option Elab.async false
set_option linter.all false
set_option maxRecDepth 100000
/-! G2S: what the program's fractions and the law's comparing ask and tell -/
namespace DL
open PySem
def S_common_divisor : FD := fn2 fun x y _ M Q => ∃ n d : Int, x = .int n ∧ y = .int d ∧ Q (.int (Int.gcd n d)) M
def S_ratio : FD := fn2 fun x y _ M Q => ∃ n d : Int, x = .int n ∧ y = .int d ∧ 0 < d ∧ Sm 8999 d ∧ Q (dF (fr n d)) M
def S_plus : FD := fn2 fun x y _ M Q => ∃ a b : Int × Int, x = dF a ∧ y = dF b ∧ 0 < a.2 ∧ 0 < b.2 ∧ Sm 4000 a.1 ∧ Sm 4000 a.2 ∧ Sm 4000 b.1 ∧ Sm 4000 b.2 ∧ Q (dF (fr (a.1 * b.2 + b.1 * a.2) (a.2 * b.2))) M
def S_times : FD := fn2 fun x y _ M Q => ∃ a b : Int × Int, x = dF a ∧ y = dF b ∧ 0 < a.2 ∧ 0 < b.2 ∧ Sm 4000 a.1 ∧ Sm 4000 a.2 ∧ Sm 4000 b.1 ∧ Sm 4000 b.2 ∧ Q (dF (fr (a.1 * b.1) (a.2 * b.2))) M
/-- data of ints, texts and tuples -/
def alk : Nat → D → Prop
  | 0, _ => False
  | n + 1, d => (∃ i, d = .int i) ∨ (∃ s, d = .str s) ∨ (∃ xs, d = .tup xs ∧ xs.length ≤ 100000 ∧ ∀ x ∈ xs, alk n x)
def S_law_alike (n : Nat) : FD := fn2 fun x y _ M Q => x = y ∧ alk n x ∧ Q (.bl true) M
abbrev S_law : FD := lawS
end DL

set_option Elab.async false
set_option linter.all false
set_option maxRecDepth 100000
/-! mirrors of the text's defs (printed by gen.py) -/
namespace DL
open PySem
abbrev g_ZERO : D := (.tup [(.int 0), (.int 1)])
abbrev g_ONE : D := (.tup [(.int 1), (.int 1)])
def WC_common_divisor_1 : WT :=
  (tCmp cNe (eVar 1) (eC (.int 0)))
def WB_common_divisor_1 : WS :=
  (sAsg (eTup [(eVar 1), (eBin opMod (eVar 0) (eVar 1))]) (gTup [gName 0, gName 1]))
def T_common_divisor_1 : WS :=
  (sRet (eVar 0))
def B_common_divisor : WS :=
  (sSeq (sAsg (eTup [(eAbs (eVar 0)), (eAbs (eVar 1))]) (gTup [gName 0, gName 1])) (sSeq (sWhile WC_common_divisor_1 WB_common_divisor_1) T_common_divisor_1))
def T_ratio_1 : WS :=
  (sRet (eTup [(eVar 0), (eVar 1)]))
def T_ratio_2 : WS :=
  (sSeq (sIf (tCmp cNe (eVar 1) (eC (.int 1))) (sSeq (sAsg (eCall S_common_divisor [(eVar 0), (eVar 1)]) (gName 2)) (sAsg (eTup [(eBin opDiv (eVar 0) (eVar 2)), (eBin opDiv (eVar 1) (eVar 2))]) (gTup [gName 0, gName 1]))) sNil) T_ratio_1)
def B_ratio : WS :=
  (sSeq (sIf (tCmp cLt (eVar 1) (eC (.int 0))) (sAsg (eTup [(eNeg (eVar 0)), (eNeg (eVar 1))]) (gTup [gName 0, gName 1])) sNil) T_ratio_2)
def T_plus_1 : WS :=
  (sRet (eCall S_ratio [(eBin opAdd (eBin opMul (eSub (eVar 0) (eC (.int 0))) (eSub (eVar 1) (eC (.int 1)))) (eBin opMul (eSub (eVar 1) (eC (.int 0))) (eSub (eVar 0) (eC (.int 1))))), (eBin opMul (eSub (eVar 0) (eC (.int 1))) (eSub (eVar 1) (eC (.int 1))))]))
def B_plus : WS :=
  (sSeq (sIf (tChain cEq cEq (eSub (eVar 0) (eC (.int 1))) (eSub (eVar 1) (eC (.int 1))) (eC (.int 1))) (sRet (eTup [(eBin opAdd (eSub (eVar 0) (eC (.int 0))) (eSub (eVar 1) (eC (.int 0)))), (eC (.int 1))])) sNil) T_plus_1)
def B_times : WS :=
  (sRet (eCall S_ratio [(eBin opMul (eSub (eVar 0) (eC (.int 0))) (eSub (eVar 1) (eC (.int 0)))), (eBin opMul (eSub (eVar 0) (eC (.int 1))) (eSub (eVar 1) (eC (.int 1))))]))
def CE_law_alike_1 (n : Nat) : WE :=
  (eCall (S_law_alike n) [(eSub (eVar 0) (eVar 2)), (eSub (eVar 1) (eVar 2))])
def T_law_alike_1 (n : Nat) : WS :=
  (sRet (eAnd (eIsi (eVar 0) ["int", "str"]) (eCmp cEq (eVar 0) (eVar 1))))
def T_law_alike_2 (n : Nat) : WS :=
  (sSeq (sIf (tOr (tTru (eIsi (eVar 0) ["bool"])) (tCmp cNe (eIsi (eVar 0) ["str"]) (eIsi (eVar 1) ["str"]))) (sRet (eC (.bl false))) sNil) (T_law_alike_1 n))
def B_law_alike (n : Nat) : WS :=
  (sSeq (sIf (tTru (eIsi (eVar 1) ["tuple"])) (sRet (eAnd (eIsi (eVar 0) ["tuple"]) (eAnd (eCmp cEq (eLen (eVar 0)) (eLen (eVar 1))) (eAll (eComp (iRange1 (eLen (eVar 1))) [2] (gName 2) tYes (CE_law_alike_1 n)))))) sNil) (T_law_alike_2 n))
end DL

set_option Elab.async false
set_option linter.all false
set_option maxRecDepth 100000
set_option maxHeartbeats 4000000
namespace DL
open PySem
theorem gcd_fmod (a b : Int) : Int.gcd b (a.fmod b) = Int.gcd a b := by
  rw [Int.fmod_def, Int.gcd_sub_mul_left_right, Int.gcd_comm]
theorem ob_common_divisor : ∀ E ds M Q, S_common_divisor E ds M Q → B_common_divisor E (endsL Q) (start 2 ds) M := by
  intro E ds M Q h
  obtain ⟨x, y, rfl, n, d, rfl, rfl, hq⟩ := fn2_e h
  simp [B_common_divisor]
  refine go ?_
  refine ⟨fun m e M' => M' = M ∧ ∃ a b : Int, e = [some (.int a), some (.int b)] ∧ 0 ≤ a ∧ 0 ≤ b ∧ b.toNat = m ∧ Int.gcd a b = Int.gcd n d, ⟨_, rfl, _, _, rfl, ?_, ?_, rfl, ?_⟩, ?_⟩
  · split <;> omega
  · split <;> omega
  · have : ∀ x : Int, (if x < 0 then -x else x) = x.natAbs := fun x => by split <;> omega
    rw [this, this]; simp [Int.gcd]
  · rintro m env M' ⟨rfl, a, b, rfl, h0, h1, h2, h3⟩
    simp [WC_common_divisor_1]
    split
    · rename_i hb
      subst hb
      refine go ?_
      simp [T_common_divisor_1]
      refine ⟨M', Le.refl, ?_⟩
      rw [← h3] at hq
      simp at hq
      rw [show (a.natAbs : Int) = a by omega] at hq
      exact hq
    · rename_i hb
      have hb' : 0 < b := by omega
      have r0 := Int.emod_nonneg a (b := b) (by omega)
      have r1 := Int.emod_lt_of_pos a hb'
      simp [WB_common_divisor_1, fmod_pos hb', hb]
      exact ⟨(a % b).toNat, by omega, b, a % b, ⟨rfl, rfl⟩, h1, r0, rfl, by rw [gcd_mod hb', h3]⟩
theorem no_law_alike : ∀ E ds M Q, ¬ S_law_alike 0 E ds M Q := by
  intro E ds M Q h
  obtain ⟨x, y, rfl, rfl, ha, hq⟩ := fn2_e h
  exact ha
theorem ob_law_alike (n : Nat) : ∀ E ds M Q, S_law_alike (n + 1) E ds M Q → B_law_alike n E (endsL Q) (start 3 ds) M := by
  intro E ds M Q h
  obtain ⟨x, y, rfl, rfl, ha, hq⟩ := fn2_e h
  rcases ha with ⟨i, rfl⟩ | ⟨s, rfl⟩ | ⟨xs, rfl, hl, hx⟩
  · simp [B_law_alike, isTy, K, T_law_alike_2, T_law_alike_1]
    exact ⟨M, Le.refl, hq⟩
  · simp [B_law_alike, isTy, K, T_law_alike_2, T_law_alike_1]
    exact ⟨M, Le.refl, hq⟩
  · simp [B_law_alike, isTy]
    refine ⟨by omega, fun p hp => ?_⟩
    refine comp_map (fun _ => .bl true) (fun _ => True) (fun _ _ _ => trivial) (fun _ _ => trivial) _ [] _ ?_ ?_ set_same trivial ?_
    · intro x hxm m T _ hT
      obtain ⟨k, h0, h1, rfl⟩ := mem_rangeL hxm
      have h2 : k.toNat < xs.length := by omega
      simp [CE_law_alike_1, h0, h1, List.getElem?_eq_getElem h2]
      exact ⟨rfl, hx _ (List.getElem_mem _), hT⟩
    · have := sizeLine_ge; rw [rangeL_len]; simp; omega
    · have := asBools_map (rangeL 0 xs.length) (fun _ => true)
      rw [set_set, set_same]
      simp only [List.nil_append, lstO_lst, this, onBs_some]
      refine ⟨M, Le.refl.fresh hp, ?_⟩
      have : ((rangeL 0 xs.length).map fun _ => true).all id = true := by simp
      rw [this]; exact hq
theorem fr_one (n : Int) : fr n 1 = (n, 1) := by simp [fr]
theorem ob_ratio : ∀ E ds M Q, S_ratio E ds M Q → B_ratio E (endsL Q) (start 3 ds) M := by
  intro E ds M Q h
  obtain ⟨x, y, rfl, n, d, rfl, rfl, h0, h1, hq⟩ := fn2_e h
  have g0 := gcd_pos' (n := n) h0
  have g1 := gcd_sm (n := n) h0 h1
  simp [B_ratio, show ¬ d < 0 by omega]
  refine go ?_
  simp [T_ratio_2]
  split
  · rename_i h
    subst h
    refine go ?_
    simp [T_ratio_1]
    rw [fr_one] at hq
    exact ⟨M, Le.refl, hq⟩
  · simp [S_common_divisor]
    refine go ?_
    simp [fdiv_pos g0]
    refine ⟨by omega, g1.np (by decide), by omega, g1.np (by decide), go ?_⟩
    simp [T_ratio_1]
    exact ⟨M, Le.refl, hq⟩
theorem ob_plus : ∀ E ds M Q, S_plus E ds M Q → B_plus E (endsL Q) (start 2 ds) M := by
  intro E ds M Q h
  obtain ⟨x, y, rfl, a, b, rfl, rfl, ha, hb, h1, h2, h3, h4, hq⟩ := fn2_e h
  obtain ⟨a1, a2⟩ := a
  obtain ⟨b1, b2⟩ := b
  simp at ha hb h1 h2 h3 h4 hq
  simp [B_plus, dF]
  have gen : T_plus_1 E (endsL Q) [some (.tup [.int a1, .int a2]), some (.tup [.int b1, .int b2])] M := by
    simp [T_plus_1, S_ratio]
    exact ⟨h1.mulOk h4 (by omega), h3.mulOk h2 (by omega), h2.mulOk h4 (by omega), Int.mul_pos ha hb, (h2.mul h4).mono (by omega), M, Le.refl, hq⟩
  split
  · rename_i h
    subst h
    split
    · rename_i h
      subst h
      simp [fr_one, dF] at hq
      exact ⟨M, Le.refl, hq⟩
    · exact go gen
  · exact go gen
theorem ob_times : ∀ E ds M Q, S_times E ds M Q → B_times E (endsL Q) (start 2 ds) M := by
  intro E ds M Q h
  obtain ⟨x, y, rfl, a, b, rfl, rfl, ha, hb, h1, h2, h3, h4, hq⟩ := fn2_e h
  simp [B_times, S_ratio, dF]
  exact ⟨h1.mulOk h3 (by omega), h2.mulOk h4 (by omega), Int.mul_pos ha hb, (h2.mul h4).mono (by omega), M, Le.refl, hq⟩
end DL

set_option Elab.async false
set_option linter.all false
set_option maxRecDepth 100000
set_option maxHeartbeats 4000000
/-! G3: bodies as data of Lean; their ways; ways with the same calls and letters put together -/
namespace DL
open PySem
mutual
inductive Bd where
  | fin | stop | tell (s : Str) (b : Bd) | call (s : Str) (b : Bd) | draw (r : Rw)
inductive Rw where
  | nil | cons (q : Int × Int) (b : Bd) (r : Rw)
end
mutual
def Bd.d : Bd → D
  | .fin => dEnd
  | .stop => dStop
  | .tell s b => .tup [.str "tell", .str s, b.d]
  | .call s b => .tup [.str "call", .str s, b.d]
  | .draw r => .tup [.str "draw", .tup r.ds]
def Rw.ds : Rw → List D
  | .nil => []
  | .cons q b r => .tup [dF q, b.d] :: r.ds
end
def Rw.fs : Rw → List (Int × Int)
  | .nil => []
  | .cons q _ r => q :: r.fs
mutual
def Bd.sz : Bd → Nat
  | .fin => 1
  | .stop => 1
  | .tell _ b => b.sz + 1
  | .call _ b => b.sz + 1
  | .draw r => r.sz + 1
def Rw.sz : Rw → Nat
  | .nil => 0
  | .cons _ b r => b.sz + r.sz
end
mutual
def Bd.ok (ns ls : List Str) : Bd → Nat → Prop
  | .fin, _ => True
  | .stop, _ => True
  | .tell s b, n => s ∈ ls ∧ ∃ m, n = m + 1 ∧ b.ok ns ls m
  | .call s b, n => s ∈ ns ∧ ∃ m, n = m + 1 ∧ b.ok ns ls m
  | .draw r, n => r.fs ∈ cuts ∧ ∃ m, n = m + 1 ∧ r.ok ns ls m
def Rw.ok (ns ls : List Str) : Rw → Nat → Prop
  | .nil, _ => True
  | .cons _ b r, n => b.ok ns ls n ∧ r.ok ns ls n
end
theorem rows_rw {ns ls : List Str} {n : Nat} (f : D → Prop) (hf : ∀ d, f d → ∃ b : Bd, d = b.d ∧ b.ok ns ls n) : ∀ rs : List ((Int × Int) × D), (∀ r ∈ rs, f r.2) → ∃ w : Rw, rs.map dRow = w.ds ∧ w.fs = rs.map Prod.fst ∧ w.ok ns ls n
  | [], _ => ⟨.nil, by simp [Rw.ds], by simp [Rw.fs], by simp [Rw.ok]⟩
  | r :: rs, h => by
    obtain ⟨w, h1, h2, h3⟩ := rows_rw f hf rs fun x hx => h x (.tail _ hx)
    obtain ⟨b, hb, ho⟩ := hf _ (h r (.head _))
    exact ⟨.cons r.1 b w, by simp [Rw.ds, h1, dRow, hb], by simp [Rw.fs, h2], by simp [Rw.ok, ho, h3]⟩
theorem wb_bd {ns ls : List Str} : ∀ {n : Nat} {d : D}, WB ns ls n d → ∃ b : Bd, d = b.d ∧ b.ok ns ls n
  | 0, d, h => by
    rcases h with rfl | rfl
    · exact ⟨.fin, by simp [Bd.d], by simp [Bd.ok]⟩
    · exact ⟨.stop, by simp [Bd.d], by simp [Bd.ok]⟩
  | n + 1, d, h => by
    rcases h with rfl | rfl | ⟨s, b, h1, rfl, h3⟩ | ⟨s, b, h1, rfl, h3⟩ | ⟨rs, h1, rfl, h3⟩
    · exact ⟨.fin, by simp [Bd.d], by simp [Bd.ok]⟩
    · exact ⟨.stop, by simp [Bd.d], by simp [Bd.ok]⟩
    · obtain ⟨b', rfl, ho⟩ := wb_bd h3
      exact ⟨.tell s b', by simp [Bd.d], by simp [Bd.ok, h1, ho]⟩
    · obtain ⟨b', rfl, ho⟩ := wb_bd h3
      exact ⟨.call s b', by simp [Bd.d], by simp [Bd.ok, h1, ho]⟩
    · obtain ⟨w, e1, e2, e3⟩ := rows_rw (ns := ns) (ls := ls) (n := n) (WB ns ls n) (fun d hd => wb_bd hd) rs h3
      exact ⟨.draw w, by simp [Bd.d, e1], by simp [Bd.ok, e2, h1, e3]⟩
def dBP (r : Str × Bd) : D := .tup [.str r.1, r.2.d]
/-- programs as drawn, as data -/
def PB (ps : List (Str × Bd)) (ls : List Str) : Prop := ps.map Prod.fst ∈ allN ∧ ls ∈ allL ∧ ∀ r ∈ ps, r.2.ok (ps.map Prod.fst) ls 5
theorem procs_pb {ns ls : List Str} : ∀ rs : List (Str × D), (∀ r ∈ rs, WB ns ls 5 r.2) → ∃ ps : List (Str × Bd), rs.map dProc = ps.map dBP ∧ ps.map Prod.fst = rs.map Prod.fst ∧ ∀ r ∈ ps, r.2.ok ns ls 5
  | [], _ => ⟨[], rfl, rfl, by simp⟩
  | r :: rs, h => by
    obtain ⟨ps, h1, h2, h3⟩ := procs_pb rs fun x hx => h x (.tail _ hx)
    obtain ⟨b, hb, ho⟩ := wb_bd (h r (.head _))
    refine ⟨(r.1, b) :: ps, by simp [h1, dProc, dBP, hb], by simp [h2], fun x hx => ?_⟩
    rcases List.mem_cons.mp hx with rfl | hx
    · exact ho
    · exact h3 x hx
theorem wp_pb {rs : List (Str × D)} (h : WP rs) : ∃ ps ls, rs.map dProc = ps.map dBP ∧ PB ps ls := by
  obtain ⟨h1, ls, h2, h3⟩ := h
  obtain ⟨ps, e1, e2, e3⟩ := procs_pb rs h3
  exact ⟨ps, ls, e1, by rw [e2]; exact h1, h2, fun r hr => by rw [e2]; exact e3 r hr⟩
/-! ## ways -/
structure Wy where
  ch : Int × Int
  cs : List Str
  ls : List Str
def mulF (a b : Int × Int) : Int × Int := fr (a.1 * b.1) (a.2 * b.2)
def addF (a b : Int × Int) : Int × Int := fr (a.1 * b.2 + b.1 * a.2) (a.2 * b.2)
mutual
def Bd.ways : Bd → Wy → List Wy
  | .fin, w => [w]
  | .stop, _ => []
  | .tell s b, w => b.ways ⟨w.ch, w.cs, w.ls ++ [s]⟩
  | .call s b, w => b.ways ⟨w.ch, w.cs ++ [s], w.ls⟩
  | .draw r, w => r.ways w
def Rw.ways : Rw → Wy → List Wy
  | .nil, _ => []
  | .cons q b r, w => b.ways ⟨mulF w.ch q, w.cs, w.ls⟩ ++ r.ways w
end
def w0 : Wy := ⟨(1, 1), [], []⟩
abbrev WKey := List Str × List Str
def Wy.key (w : Wy) : WKey := (w.cs, w.ls)
def mrg (acc : List Wy) (w : Wy) : List Wy := if (acc.any fun r => decide (r.key = w.key)) = true then acc.map fun r => if r.key = w.key then ⟨addF r.ch w.ch, r.cs, r.ls⟩ else r else acc ++ [w]
def alts (ws : List Wy) : List Wy := ws.foldl mrg []
def Bd.alts (b : Bd) : List Wy := DL.alts (b.ways w0)
/-! ## fractions that stay small -/
structure Gf (N c : Int) (f : Int × Int) : Prop where
  p : 0 < f.2
  z : 0 ≤ f.1
  g : Int.gcd f.1 f.2 = 1
  d : f.2 ∣ N
  l : f.1 ≤ c * f.2
theorem fr_ok {n d : Int} (h : 0 < d) (hz : 0 ≤ n) : 0 < (fr n d).2 ∧ 0 ≤ (fr n d).1 ∧ Int.gcd (fr n d).1 (fr n d).2 = 1 ∧ ∃ g : Int, 0 < g ∧ n = g * (fr n d).1 ∧ d = g * (fr n d).2 := by
  have hg : 0 < (Int.gcd n d : Int) := by
    have := Int.gcd_pos_of_ne_zero_right n (show d ≠ 0 by omega)
    omega
  have h1 : (Int.gcd n d : Int) ∣ n := Int.gcd_dvd_left ..
  have h2 : (Int.gcd n d : Int) ∣ d := Int.gcd_dvd_right ..
  have e1 := Int.mul_ediv_cancel' h1
  have e2 := Int.mul_ediv_cancel' h2
  refine ⟨Int.ediv_pos_of_pos_of_dvd h (Int.le_of_lt hg) h2, Int.ediv_nonneg hz (Int.le_of_lt hg), ?_, _, hg, e1.symm, e2.symm⟩
  exact Int.gcd_ediv_gcd_ediv_gcd (by omega)
theorem dvd_co {a b c : Int} (h : a ∣ b * c) (hg : Int.gcd b a = 1) : a ∣ c := by
  rw [← Int.natAbs_dvd_natAbs] at h ⊢
  rw [Int.natAbs_mul] at h
  exact Nat.Coprime.dvd_of_dvd_mul_left (show Nat.Coprime a.natAbs b.natAbs by rw [Nat.coprime_comm]; exact hg) h
theorem Gf.of_fr {n d N c : Int} (h : 0 < d) (hz : 0 ≤ n) (hl : n ≤ c * d) (hd : ∃ m, n * N = d * m) : Gf N c (fr n d) := by
  obtain ⟨h1, h2, h3, g, hg, e1, e2⟩ := fr_ok (n := n) h hz
  generalize fr n d = f at *
  subst e1 e2
  refine ⟨h1, h2, h3, ?_, ?_⟩
  · obtain ⟨m, hm⟩ := hd
    rw [Int.mul_assoc, Int.mul_assoc] at hm
    have hm := Int.eq_of_mul_eq_mul_left (by omega) hm
    exact dvd_co ⟨m, hm⟩ h3
  · have : g * f.1 ≤ g * (c * f.2) := by
      rw [show g * (c * f.2) = c * (g * f.2) by rw [← Int.mul_assoc, ← Int.mul_assoc, Int.mul_comm g c]]; exact hl
    exact Int.le_of_mul_le_mul_left this hg
theorem Gf.mul {N N' : Int} {a b : Int × Int} (ha : Gf N 1 a) (hb : Gf N' 1 b) : Gf (N * N') 1 (mulF a b) := by
  refine Gf.of_fr (Int.mul_pos ha.p hb.p) (Int.mul_nonneg ha.z hb.z) ?_ ?_
  · have h1 := ha.l; have h2 := hb.l
    rw [Int.one_mul] at h1 h2 ⊢
    exact Int.mul_le_mul h1 h2 hb.z (Int.le_of_lt ha.p)
  · obtain ⟨u, hu⟩ := ha.d
    obtain ⟨v, hv⟩ := hb.d
    exact ⟨a.1 * b.1 * (u * v), by rw [hu, hv]; grind⟩
theorem Gf.add {N c c' : Int} {a b : Int × Int} (ha : Gf N c a) (hb : Gf N c' b) : Gf N (c + c') (addF a b) := by
  refine Gf.of_fr (Int.mul_pos ha.p hb.p) ?_ ?_ ?_
  · have := Int.mul_nonneg ha.z (Int.le_of_lt hb.p); have := Int.mul_nonneg hb.z (Int.le_of_lt ha.p); omega
  · have h1 := Int.mul_le_mul_of_nonneg_right ha.l (Int.le_of_lt hb.p)
    have h2 := Int.mul_le_mul_of_nonneg_right hb.l (Int.le_of_lt ha.p)
    have : (c + c') * (a.2 * b.2) = c * a.2 * b.2 + c' * b.2 * a.2 := by grind
    rw [this]; omega
  · obtain ⟨u, hu⟩ := ha.d
    obtain ⟨v, hv⟩ := hb.d
    exact ⟨a.1 * u + b.1 * v, by rw [Int.mul_add, Int.add_mul]; have : a.1 * b.2 * N = a.2 * b.2 * (a.1 * u) := by { rw [hu]; grind }
                                 have : b.1 * a.2 * N = a.2 * b.2 * (b.1 * v) := by { rw [hv]; grind }
                                 omega⟩
theorem Gf.dvd {N N' c : Int} {f : Int × Int} (h : Gf N c f) (hd : N ∣ N') : Gf N' c f := ⟨h.p, h.z, h.g, Int.dvd_trans h.d hd, h.l⟩
theorem Gf.le {N c c' : Int} {f : Int × Int} (h : Gf N c f) (hd : c ≤ c') : Gf N c' f := ⟨h.p, h.z, h.g, h.d, by have := h.l; have := Int.mul_le_mul_of_nonneg_right hd (Int.le_of_lt h.p); omega⟩
abbrev N0 : Int := 176400
theorem cuts_gf : ∀ l ∈ cuts, l.length ≤ 3 ∧ ∀ f ∈ l, 0 < f.2 ∧ 0 ≤ f.1 ∧ Int.gcd f.1 f.2 = 1 ∧ N0 % f.2 = 0 ∧ f.1 ≤ 1 * f.2 := by decide +kernel
theorem cut_gf {l : List (Int × Int)} (h : l ∈ cuts) {f : Int × Int} (hf : f ∈ l) : Gf N0 1 f := by
  obtain ⟨h1, h2, h3, h4, h5⟩ := (cuts_gf l h).2 f hf
  exact ⟨h1, h2, h3, Int.dvd_of_emod_eq_zero h4, h5⟩
theorem Gf.sm {c : Int} {f : Int × Int} (h : Gf (N0 ^ 5) c f) (hc : c ≤ 1000) : Sm 120 f.1 ∧ Sm 120 f.2 := by
  have hp := h.p
  have h2 : f.2 ≤ N0 ^ 5 := Int.le_of_dvd (by decide) h.d
  have h1 : f.1 ≤ 1000 * N0 ^ 5 := by
    have h3 := h.l
    have h4 := Int.mul_le_mul_of_nonneg_right hc (Int.le_of_lt hp)
    have : N0 ^ 5 = 170801981216778240000000000 := by decide +kernel
    omega
  have hz := h.z
  have e : N0 ^ 5 = 170801981216778240000000000 := by decide +kernel
  have e2 : (2 : Nat) ^ 120 = 1329227995784915872903807060280344576 := by decide +kernel
  exact ⟨⟨by rw [e2]; omega⟩, ⟨by rw [e2]; omega⟩⟩
end DL

set_option Elab.async false
set_option linter.all false
set_option maxRecDepth 100000
/-! G3S: what ways, alternatives_of, alternatives ask and tell -/
namespace DL
open PySem
def dW (w : Wy) : D := .tup [dF w.ch, .tup (w.cs.map .str), .tup (w.ls.map .str)]
/-- of a body as drawn -/
def BO (b : Bd) : Prop := ∃ ns ∈ allN, ∃ ls ∈ allL, b.ok ns ls 5
def S_ways : FD := fn1 fun x _ M Q => ∃ b : Bd, x = b.d ∧ BO b ∧ ∀ p, M p = none → Q (.ref p) (M.set p (.lst ((b.ways w0).map dW)))
def S_alternatives_of : FD := fn1 fun x _ M Q => ∃ b : Bd, x = b.d ∧ BO b ∧ Q (.tup (b.alts.map dW)) M
def dAlt (p : Str × Bd) : D := .tup [.str p.1, .tup (p.2.alts.map dW)]
def S_alternatives : FD := fn1 fun x _ M Q => ∃ ps ls, x = .tup (List.map dBP ps) ∧ PB ps ls ∧ Q (.tup (ps.map dAlt)) M
end DL

set_option Elab.async false
set_option linter.all false
set_option maxRecDepth 100000
/-! mirrors of the text's defs (printed by gen.py) -/
namespace DL
open PySem
def FB_ways_1 : WS :=
  (sExpr (eAppend (eVar 2) (eTup [(eVar 8), (eCall S_times [(eVar 4), (eVar 7)]), (eVar 5), (eVar 6)])))
def WC_ways_1 : WT :=
  (tTru (eVar 2))
def WB_ways_1 : WS :=
  (sSeq (sAsg (ePop (eVar 2)) (gTup [(gName 3), (gName 4), (gName 5), (gName 6)])) (sIf (tCmp cEq (eSub (eVar 3) (eC (.int 0))) (eC (.str "end"))) (sExpr (eAppend (eVar 1) (eTup [(eVar 4), (eVar 5), (eVar 6)]))) (sIf (tCmp cEq (eSub (eVar 3) (eC (.int 0))) (eC (.str "tell"))) (sExpr (eAppend (eVar 2) (eTup [(eSub (eVar 3) (eC (.int 2))), (eVar 4), (eVar 5), (eBin opAdd (eVar 6) (eTup [(eSub (eVar 3) (eC (.int 1)))]))]))) (sIf (tCmp cEq (eSub (eVar 3) (eC (.int 0))) (eC (.str "call"))) (sExpr (eAppend (eVar 2) (eTup [(eSub (eVar 3) (eC (.int 2))), (eVar 4), (eBin opAdd (eVar 5) (eTup [(eSub (eVar 3) (eC (.int 1)))])), (eVar 6)]))) (sIf (tCmp cEq (eSub (eVar 3) (eC (.int 0))) (eC (.str "draw"))) (sFor (iVal (eRev (eSub (eVar 3) (eC (.int 1))))) (gTup [(gName 7), (gName 8)]) FB_ways_1) sNil)))))
def T_ways_1 : WS :=
  (sRet (eVar 1))
def B_ways : WS :=
  (sSeq (sAsg (eLst []) (gName 1)) (sSeq (sAsg (eLst [(eTup [(eVar 0), (eC g_ONE), (eTup []), (eTup [])])]) (gName 2)) (sSeq (sWhile WC_ways_1 WB_ways_1) T_ways_1)))
def FB_alternatives_of_1 : WS :=
  (sAsg (eCall S_plus [(eGet2 (eVar 1) (eTup [(eVar 3), (eVar 4)]) (eC g_ZERO)), (eVar 2)]) (gSub (eVar 1) (eTup [(eVar 3), (eVar 4)])))
def CE_alternatives_of_1 : WE :=
  (eBin opAdd (eTup [(eSub (eVar 1) (eVar 5))]) (eVar 5))
def T_alternatives_of_1 : WS :=
  (sRet (eTupOf (eLock 1 (eComp (iKeysD (eVar 1)) [5] (gName 5) tYes CE_alternatives_of_1))))
def B_alternatives_of : WS :=
  (sSeq (sAsg eDn (gName 1)) (sSeq (sFor (iVal (eCall S_ways [(eVar 0)])) (gTup [(gName 2), (gName 3), (gName 4)]) FB_alternatives_of_1) T_alternatives_of_1))
def CE_alternatives_1 : WE :=
  (eTup [(eVar 1), (eCall S_alternatives_of [(eVar 2)])])
def B_alternatives : WS :=
  (sRet (eTupOf (eComp (iVal (eVar 0)) [1, 2] (gTup [(gName 1), (gName 2)]) tYes CE_alternatives_1)))
end DL

set_option Elab.async false
set_option linter.all false
set_option maxRecDepth 100000
set_option maxHeartbeats 4000000
/-! G3P: ways and alternatives -/
namespace DL
open PySem
def Rw.l : Rw → List ((Int × Int) × Bd)
  | .nil => []
  | .cons q b r => (q, b) :: r.l
def dRB (x : (Int × Int) × Bd) : D := .tup [dF x.1, x.2.d]
theorem rw_ds : ∀ r : Rw, r.ds = r.l.map dRB
  | .nil => by simp [Rw.ds, Rw.l]
  | .cons q b r => by simp [Rw.ds, Rw.l, dRB, rw_ds r]
theorem rw_fs : ∀ r : Rw, r.fs = r.l.map Prod.fst
  | .nil => by simp [Rw.fs, Rw.l]
  | .cons q b r => by simp [Rw.fs, Rw.l, rw_fs r]
theorem rw_ok {ns ls : List Str} {n : Nat} : ∀ r : Rw, r.ok ns ls n ↔ ∀ x ∈ r.l, x.2.ok ns ls n
  | .nil => by simp [Rw.ok, Rw.l]
  | .cons q b r => by simp [Rw.ok, Rw.l, rw_ok r]
theorem rw_sz : ∀ r : Rw, r.sz = (r.l.map fun x => x.2.sz).sum
  | .nil => by simp [Rw.sz, Rw.l]
  | .cons q b r => by simp [Rw.sz, Rw.l, rw_sz r]
def Wy.mul (w : Wy) (q : Int × Int) : Wy := ⟨mulF w.ch q, w.cs, w.ls⟩
theorem rw_ways (w : Wy) : ∀ r : Rw, r.ways w = r.l.flatMap fun x => x.2.ways (w.mul x.1)
  | .nil => by simp [Rw.ways, Rw.l]
  | .cons q b r => by simp [Rw.ways, Rw.l, rw_ways w r, Wy.mul]
/-! what ways look like -/
structure Wok (ns ls : List Str) (k : Nat) (w : Wy) : Prop where
  f : Gf (N0 ^ k) 1 w.ch
  c : w.cs.length ≤ k
  l : w.ls.length ≤ k
  cm : ∀ s ∈ w.cs, s ∈ ns
  lm : ∀ s ∈ w.ls, s ∈ ls
section
variable {ns ls : List Str} {k n : Nat} {w : Wy}
theorem N0_dvd : N0 ^ k ∣ N0 ^ (k + 1) := ⟨N0, by rw [Int.pow_succ]⟩
theorem Wok.up (h : Wok ns ls k w) : Wok ns ls (k + 1) w := ⟨h.f.dvd N0_dvd, by have := h.c; omega, by have := h.l; omega, h.cm, h.lm⟩
theorem Wok.le {m : Nat} (h : Wok ns ls k w) (hl : k ≤ m) : Wok ns ls m w := by
  induction hl with
  | refl => exact h
  | step _ ih => exact ih.up
theorem Wok.tell {s : Str} (h : Wok ns ls k w) (hs : s ∈ ls) : Wok ns ls (k + 1) ⟨w.ch, w.cs, w.ls ++ [s]⟩ :=
  ⟨h.up.f, h.up.c, by have := h.l; simp; omega, h.cm, fun x hx => by
    rcases List.mem_append.mp hx with hx | hx
    · exact h.lm x hx
    · rw [List.mem_singleton.mp hx]; exact hs⟩
theorem Wok.call {s : Str} (h : Wok ns ls k w) (hs : s ∈ ns) : Wok ns ls (k + 1) ⟨w.ch, w.cs ++ [s], w.ls⟩ :=
  ⟨h.up.f, by have := h.c; simp; omega, h.up.l, fun x hx => by
    rcases List.mem_append.mp hx with hx | hx
    · exact h.cm x hx
    · rw [List.mem_singleton.mp hx]; exact hs, h.lm⟩
theorem Wok.mul {q : Int × Int} (h : Wok ns ls k w) (hq : Gf N0 1 q) : Wok ns ls (k + 1) (w.mul q) :=
  ⟨by rw [Int.pow_succ]; exact h.f.mul hq, h.up.c, h.up.l, h.cm, h.lm⟩
end
theorem wok0 {ns ls : List Str} : Wok ns ls 0 w0 := ⟨⟨by decide, by decide, by decide, by simp [w0], by decide⟩, by simp [w0], by simp [w0], by simp [w0], by simp [w0]⟩
mutual
theorem ways_ok {ns ls : List Str} : ∀ (b : Bd) {n k : Nat} {w : Wy}, b.ok ns ls n → Wok ns ls k w → ∀ v ∈ b.ways w, Wok ns ls (k + n) v
  | .fin, n, k, w, _, h, v, hv => by simp [Bd.ways] at hv; subst hv; exact h.le (by omega)
  | .stop, n, k, w, _, h, v, hv => by simp [Bd.ways] at hv
  | .tell s b, n, k, w, ho, h, v, hv => by
    simp only [Bd.ok] at ho
    obtain ⟨hs, m, rfl, ho⟩ := ho
    simp only [Bd.ways] at hv
    rw [show k + (m + 1) = k + 1 + m by omega]
    exact ways_ok b ho (h.tell hs) v hv
  | .call s b, n, k, w, ho, h, v, hv => by
    simp only [Bd.ok] at ho
    obtain ⟨hs, m, rfl, ho⟩ := ho
    simp only [Bd.ways] at hv
    rw [show k + (m + 1) = k + 1 + m by omega]
    exact ways_ok b ho (h.call hs) v hv
  | .draw r, n, k, w, ho, h, v, hv => by
    simp only [Bd.ok] at ho
    obtain ⟨hs, m, rfl, ho⟩ := ho
    simp only [Bd.ways] at hv
    rw [show k + (m + 1) = k + 1 + m by omega]
    exact rways_ok r ho h (fun f hf => cut_gf hs hf) v hv
theorem rways_ok {ns ls : List Str} : ∀ (r : Rw) {n k : Nat} {w : Wy}, r.ok ns ls n → Wok ns ls k w → (∀ f ∈ r.fs, Gf N0 1 f) → ∀ v ∈ r.ways w, Wok ns ls (k + 1 + n) v
  | .nil, n, k, w, _, h, _, v, hv => by simp [Rw.ways] at hv
  | .cons q b r, n, k, w, ho, h, hf, v, hv => by
    simp only [Rw.ok] at ho
    simp only [Rw.ways, List.mem_append] at hv
    simp only [Rw.fs, List.mem_cons] at hf
    rcases hv with hv | hv
    · exact ways_ok b ho.1 (h.mul (hf q (.inl rfl))) v hv
    · exact rways_ok r ho.2 h (fun f hf' => hf f (.inr hf')) v hv
end
/-! Kraft -/
def wt (w : WKey) : Nat := 3 ^ (w.1.length + w.2.length)
theorem wt_pos (w : WKey) : 1 ≤ wt w := Nat.pow_pos (by decide)
def wts (ws : List Wy) : Nat := (ws.map fun w => wt w.key).sum
theorem wts_app (a b : List Wy) : wts (a ++ b) = wts a + wts b := by simp [wts]
theorem len_wts : ∀ ws : List Wy, ws.length ≤ wts ws
  | [] => by simp
  | w :: ws => by
    have h1 := len_wts ws
    have h2 := wt_pos w.key
    simp [wts] at h1 ⊢; omega
mutual
theorem ways_wt {ns ls : List Str} : ∀ (b : Bd) {n : Nat} {w : Wy}, b.ok ns ls n → wts (b.ways w) ≤ 3 ^ n * wt w.key
  | .fin, n, w, _ => by
    simp [Bd.ways, wts]
    exact Nat.le_mul_of_pos_left _ (Nat.pow_pos (by decide))
  | .stop, n, w, _ => by simp [Bd.ways, wts]
  | .tell s b, n, w, ho => by
    simp only [Bd.ok] at ho
    obtain ⟨hs, m, rfl, ho⟩ := ho
    simp only [Bd.ways]
    refine Nat.le_trans (ways_wt b ho) ?_
    simp [wt, Wy.key, Nat.pow_succ, ← Nat.add_assoc]
    rw [Nat.mul_assoc, Nat.mul_comm 3]; exact Nat.le_refl _
  | .call s b, n, w, ho => by
    simp only [Bd.ok] at ho
    obtain ⟨hs, m, rfl, ho⟩ := ho
    simp only [Bd.ways]
    refine Nat.le_trans (ways_wt b ho) ?_
    simp [wt, Wy.key]
    rw [show w.cs.length + 1 + w.ls.length = w.cs.length + w.ls.length + 1 by omega, Nat.pow_succ, Nat.pow_succ, Nat.mul_assoc, Nat.mul_comm 3]; exact Nat.le_refl _
  | .draw r, n, w, ho => by
    simp only [Bd.ok] at ho
    obtain ⟨hs, m, rfl, ho⟩ := ho
    simp only [Bd.ways]
    refine Nat.le_trans (rways_wt r ho) ?_
    have := (cuts_gf _ hs).1
    rw [Nat.pow_succ, Nat.mul_comm (3 ^ m) 3, Nat.mul_assoc]
    exact Nat.mul_le_mul_right _ this
theorem rways_wt {ns ls : List Str} : ∀ (r : Rw) {n : Nat} {w : Wy}, r.ok ns ls n → wts (r.ways w) ≤ r.fs.length * (3 ^ n * wt w.key)
  | .nil, n, w, _ => by simp [Rw.ways, wts]
  | .cons q b r, n, w, ho => by
    simp only [Rw.ok] at ho
    simp only [Rw.ways, wts_app, Rw.fs, List.length_cons]
    have h1 := ways_wt b (w := ⟨mulF w.ch q, w.cs, w.ls⟩) ho.1
    have h2 := rways_wt r (w := w) ho.2
    rw [Nat.add_mul, Nat.one_mul]
    have : wt (Wy.key ⟨mulF w.ch q, w.cs, w.ls⟩) = wt w.key := rfl
    rw [this] at h1
    omega
end
mutual
theorem sz_le {ns ls : List Str} : ∀ (b : Bd) {n : Nat}, b.ok ns ls n → 2 * b.sz + 1 ≤ 3 ^ (n + 1)
  | .fin, n, _ => by simp [Bd.sz]; have := Nat.pow_pos (a := 3) (n := n) (by decide); rw [Nat.pow_succ]; omega
  | .stop, n, _ => by simp [Bd.sz]; have := Nat.pow_pos (a := 3) (n := n) (by decide); rw [Nat.pow_succ]; omega
  | .tell s b, n, ho => by
    simp only [Bd.ok] at ho
    obtain ⟨hs, m, rfl, ho⟩ := ho
    have := sz_le b ho
    have h3 := Nat.pow_pos (a := 3) (n := m) (by decide)
    simp only [Bd.sz, Nat.pow_succ] at this ⊢; omega
  | .call s b, n, ho => by
    simp only [Bd.ok] at ho
    obtain ⟨hs, m, rfl, ho⟩ := ho
    have := sz_le b ho
    have h3 := Nat.pow_pos (a := 3) (n := m) (by decide)
    simp only [Bd.sz, Nat.pow_succ] at this ⊢; omega
  | .draw r, n, ho => by
    simp only [Bd.ok] at ho
    obtain ⟨hs, m, rfl, ho⟩ := ho
    have h1 := rsz_le r ho
    have h2 := (cuts_gf _ hs).1
    have h4 : 0 < 3 ^ (m + 1) := Nat.pow_pos (by decide)
    have h3 := Nat.mul_le_mul_right (3 ^ (m + 1) - 1) h2
    simp only [Bd.sz]
    rw [Nat.pow_succ]
    have h5 : r.fs.length * (3 ^ (m + 1) - 1) + r.fs.length = r.fs.length * 3 ^ (m + 1) := by
      rw [Nat.mul_sub, Nat.mul_one, Nat.sub_add_cancel]
      exact Nat.le_mul_of_pos_right _ h4
    omega
theorem rsz_le {ns ls : List Str} : ∀ (r : Rw) {n : Nat}, r.ok ns ls n → 2 * r.sz + r.fs.length ≤ r.fs.length * 3 ^ (n + 1)
  | .nil, n, _ => by simp [Rw.sz, Rw.fs]
  | .cons q b r, n, ho => by
    simp only [Rw.ok] at ho
    have h1 := sz_le b ho.1
    have h2 := rsz_le r ho.2
    simp only [Rw.sz, Rw.fs, List.length_cons, Nat.add_mul, Nat.one_mul]
    omega
end
theorem sz_pos : ∀ b : Bd, 1 ≤ b.sz := fun b => by
  cases b <;> simp [Bd.sz]
/-! ## putting together -/
structure Aok (ns ls : List Str) (ws as : List Wy) : Prop where
  nd : (as.map Wy.key).Nodup
  wt : wts as ≤ wts ws
  el : ∀ a ∈ as, Gf (N0 ^ 5) ws.length a.ch ∧ a.cs.length ≤ 5 ∧ a.ls.length ≤ 5 ∧ (∀ s ∈ a.cs, s ∈ ns) ∧ ∀ s ∈ a.ls, s ∈ ls
def upW (w r : Wy) : Wy := if r.key = w.key then ⟨addF r.ch w.ch, r.cs, r.ls⟩ else r
theorem upW_key (w r : Wy) : (upW w r).key = r.key := by unfold upW; split <;> rfl
theorem mrg_s (acc : List Wy) (w : Wy) : mrg acc w = if w.key ∈ acc.map Wy.key then acc.map (upW w) else acc ++ [w] := by
  unfold mrg
  by_cases h : w.key ∈ acc.map Wy.key
  · rw [if_pos h, if_pos]
    · rfl
    · obtain ⟨r, hr, e⟩ := List.mem_map.mp h
      simp only [List.any_eq_true, decide_eq_true_eq]
      exact ⟨r, hr, e⟩
  · rw [if_neg h, if_neg]
    simp only [List.any_eq_true, decide_eq_true_eq, not_exists, not_and]
    exact fun r hr e => h (List.mem_map.mpr ⟨r, hr, e⟩)
theorem Aok.step {ns ls : List Str} {ws as : List Wy} {w : Wy} (h : Aok ns ls ws as) (hw : Wok ns ls 5 w) : Aok ns ls (ws ++ [w]) (mrg as w) := by
  rw [mrg_s]
  have one : (1 : Int) ≤ ((ws ++ [w]).length : Int) := by simp; omega
  split
  · have ek : (as.map (upW w)).map Wy.key = as.map Wy.key := by
      rw [List.map_map]; exact List.map_congr_left fun r _ => upW_key w r
    refine ⟨by rw [ek]; exact h.nd, ?_, fun a ha => ?_⟩
    · have : wts (as.map (upW w)) = wts as := by
        unfold wts
        rw [List.map_map]
        congr 1
        exact List.map_congr_left fun r _ => by show DL.wt (upW w r).key = _; rw [upW_key]
      rw [this, wts_app]; have := h.wt; omega
    · obtain ⟨r, hr, rfl⟩ := List.mem_map.mp ha
      have h1 := h.el r hr
      unfold upW
      split
      · have := h1.1.add hw.f
        refine ⟨?_, h1.2⟩
        simpa using this
      · exact ⟨h1.1.le (by simp; omega), h1.2⟩
  · rename_i hn
    refine ⟨?_, by rw [wts_app, wts_app]; have := h.wt; omega, fun a ha => ?_⟩
    · rw [List.map_append, List.nodup_append]
      refine ⟨h.nd, by simp, fun a ha b hb => ?_⟩
      have : b = w.key := by simpa using hb
      subst this
      exact fun e => hn (e ▸ ha)
    · rcases List.mem_append.mp ha with ha | ha
      · have h1 := h.el a ha
        exact ⟨h1.1.le (by simp; omega), h1.2⟩
      · have : a = w := by simpa using ha
        subst this
        exact ⟨hw.f.le one, hw.c, hw.l, hw.cm, hw.lm⟩
theorem aok_fold {ns ls : List Str} : ∀ (more ws as : List Wy), Aok ns ls ws as → (∀ w ∈ more, Wok ns ls 5 w) → Aok ns ls (ws ++ more) (more.foldl mrg as)
  | [], ws, as, h, _ => by simpa using h
  | w :: more, ws, as, h, hw => by
    have := aok_fold more (ws ++ [w]) (mrg as w) (h.step (hw w (.head _))) fun v hv => hw v (.tail _ hv)
    simpa using this
theorem aok0 {ns ls : List Str} : Aok ns ls [] [] := ⟨by simp, by simp [wts], by simp⟩
theorem ways5 {ns ls : List Str} {b : Bd} (h : b.ok ns ls 5) : (∀ w ∈ b.ways w0, Wok ns ls 5 w) ∧ wts (b.ways w0) ≤ 243 ∧ (b.ways w0).length ≤ 243 := by
  have h1 := ways_wt b (w := w0) h
  have h2 : wt w0.key = 1 := by decide
  rw [h2] at h1
  have h3 := len_wts (b.ways w0)
  refine ⟨fun w hw => ?_, by omega, by omega⟩
  have := ways_ok b h (wok0 (ns := ns) (ls := ls)) w hw
  simpa using this
theorem alts5 {ns ls : List Str} {b : Bd} (h : b.ok ns ls 5) : Aok ns ls (b.ways w0) b.alts := by
  have := aok_fold (b.ways w0) [] [] (aok0 (ns := ns) (ls := ls)) (ways5 h).1
  rw [List.nil_append] at this
  exact this
end DL

set_option Elab.async false
set_option linter.all false
set_option maxRecDepth 100000
set_option maxHeartbeats 4000000
namespace DL
open PySem
/-! ## ways -/
def dI (i : Bd × Wy) : D := .tup [i.1.d, dF i.2.ch, .tup (i.2.cs.map .str), .tup (i.2.ls.map .str)]
structure It5 (ns ls : List Str) (i : Bd × Wy) : Prop where
  h : ∃ k n, k + n ≤ 5 ∧ i.1.ok ns ls n ∧ Wok ns ls k i.2
def szs (st : List (Bd × Wy)) : Nat := (st.map fun i => i.1.sz).sum
theorem szs_app (a b : List (Bd × Wy)) : szs (a ++ b) = szs a + szs b := by simp [szs]
theorem len_szs : ∀ st : List (Bd × Wy), st.length ≤ szs st
  | [] => by simp
  | i :: st => by
    have h1 := len_szs st
    have h2 := sz_pos i.1
    simp [szs] at h1 ⊢; omega
def outs (st : List (Bd × Wy)) : List Wy := st.flatMap fun i => i.1.ways i.2
theorem wok_sm {ns ls : List Str} {k : Nat} {w : Wy} (h : Wok ns ls k w) (hk : k ≤ 5) : Sm 120 w.ch.1 ∧ Sm 120 w.ch.2 := (h.le hk).f.sm (by decide)
def WayI (M : Sto) (a c : Addr) (b : Bd) (ns ls : List Str) (m : Nat) (e : Ev) (M' : Sto) : Prop := ∃ (st : List (Bd × Wy)) (fd : List Wy) (x3 x4 x5 x6 x7 x8 : Option D), e = [some b.d, some (.ref a), some (.ref c), x3, x4, x5, x6, x7, x8] ∧ M' a = some (.lst (fd.map dW)) ∧ M' c = some (.lst (st.reverse.map dI)) ∧ Le M M' ∧
      fd ++ outs st = b.ways w0 ∧ m = szs st ∧ szs st ≤ 400 ∧ ∀ i ∈ st, It5 ns ls i
theorem ob_ways : ∀ E ds M Q, S_ways E ds M Q → B_ways E (endsL Q) (start 9 ds) M := by
  intro E ds M Q h
  obtain ⟨x, rfl, b, rfl, ⟨ns, hns, ls, hls, hb⟩, hq⟩ := fn1_e h
  simp [B_ways]
  intro a ha
  refine go ?_
  simp
  intro c hc
  refine go ?_
  simp
  have hc' := set_none.mp hc
  have hac : a ≠ c := Ne.symm hc'.1
  have hsz := sizeLine_ge
  have hbs := sz_le b hb
  have hlen := (ways5 hb).2.2
  refine ⟨WayI M a c b ns ls, ⟨_, [(b, w0)], [], none, none, none, none, none, none, rfl, by rw [set_ne hac, set_same]; rfl, by rw [set_same]; simp [dI, w0, dF], (Le.refl.fresh ha).fresh hc'.2, by simp [outs], rfl, by simp [szs]; omega, ?_⟩, ?_⟩
  · intro i hi
    have : i = (b, w0) := by simpa using hi
    subst this
    exact ⟨0, 5, by omega, hb, wok0⟩
  · rintro m env M' ⟨st, fd, x3, x4, x5, x6, x7, x8, rfl, ea, ec, hl, ho, rfl, hs, hi⟩
    simp [WC_ways_1, ec]
    cases st with
    | nil =>
      simp
      refine go ?_
      simp [T_ways_1]
      simp [outs] at ho
      subst ho
      refine ⟨_, ?_, hq a ha⟩
      intro y o hy
      by_cases hya : y = a
      · subst hya; rw [set_same] at hy; rw [← hy]; exact ea
      · rw [set_ne hya] at hy; exact hl y o hy
    | cons i st =>
      obtain ⟨bd, w⟩ := i
      have hi' := fun v hv => hi v (.tail _ hv)
      obtain ⟨k, n, hkn, hbo, hwo⟩ := (hi _ (.head _)).h
      simp at hbo hwo
      have hfl : fd.length + (bd.ways w).length + (outs st).length ≤ 243 := by
        have := congrArg List.length ho
        simp [outs] at this hlen ⊢
        omega
      have hst : st.length ≤ 400 := by
        have := len_szs st; simp [szs] at this hs ⊢; omega
      have hss : szs ((bd, w) :: st) = bd.sz + szs st := by simp [szs]
      have hso : outs ((bd, w) :: st) = bd.ways w ++ outs st := by simp [outs]
      rw [hss] at hs ⊢
      rw [hso] at ho
      simp [WB_ways_1, ec, dI]
      refine go ?_
      have ea1 : (M'.set c (.lst (st.map dI).reverse)) a = some (.lst (fd.map dW)) := by rw [set_ne hac, ea]
      have ec1 : (M'.set c (.lst (st.map dI).reverse)) c = some (.lst (st.map dI).reverse) := set_same
      have hl1 : Le M (M'.set c (.lst (st.map dI).reverse)) := hl.fresh hc'.2
      generalize M'.set c (.lst (st.map dI).reverse) = m1 at ea1 ec1 hl1 ⊢
      have hcl := hwo.c
      have hll := hwo.l
      cases bd with
      | fin =>
        simp [Bd.d, ea1]
        simp [Bd.ways] at ho hfl
        refine ⟨by omega, _, ?_, st, fd ++ [w], _, _, _, _, _, _, rfl, by rw [set_same]; simp [dW], by rw [set_ne hac.symm, ec1]; simp, ?_, by simpa using ho, rfl, by omega, hi'⟩
        · simp [Bd.sz]
        · intro y o hy
          rw [set_ne (by rintro rfl; rw [ha] at hy; cases hy)]; exact hl1 y o hy
      | stop =>
        simp [Bd.d]
        simp [Bd.ways] at ho
        exact ⟨_, by simp [Bd.sz], st, fd, _, _, _, _, _, _, rfl, ea1, by rw [ec1]; simp, hl1, ho, rfl, by omega, hi'⟩
      | tell s b' =>
        simp only [Bd.ok] at hbo
        obtain ⟨hs', m', rfl, hbo⟩ := hbo
        simp [Bd.d, ec1]
        simp [Bd.ways] at ho
        refine ⟨by omega, by omega, _, ?_, (b', ⟨w.ch, w.cs, w.ls ++ [s]⟩) :: st, fd, _, _, _, _, _, _, rfl, by rw [set_ne hac, ea1], by simp [dI], hl1.fresh hc'.2, by simpa [outs] using ho, rfl, ?_, ?_⟩
        · simp [szs, Bd.sz]
        · simp [szs, Bd.sz] at hs ⊢; omega
        · intro v hv
          rcases List.mem_cons.mp hv with rfl | hv
          · exact ⟨k + 1, m', by omega, hbo, hwo.tell hs'⟩
          · exact hi' v hv
      | call s b' =>
        simp only [Bd.ok] at hbo
        obtain ⟨hs', m', rfl, hbo⟩ := hbo
        simp [Bd.d, ec1]
        simp [Bd.ways] at ho
        refine ⟨by omega, by omega, _, ?_, (b', ⟨w.ch, w.cs ++ [s], w.ls⟩) :: st, fd, _, _, _, _, _, _, rfl, by rw [set_ne hac, ea1], by simp [dI], hl1.fresh hc'.2, by simpa [outs] using ho, rfl, ?_, ?_⟩
        · simp [szs, Bd.sz]
        · simp [szs, Bd.sz] at hs ⊢; omega
        · intro v hv
          rcases List.mem_cons.mp hv with rfl | hv
          · exact ⟨k + 1, m', by omega, hbo, hwo.call hs'⟩
          · exact hi' v hv
      | draw r =>
        simp only [Bd.ok] at hbo
        obtain ⟨hs', m', rfl, hbo⟩ := hbo
        rw [rw_ok] at hbo
        have hfs : ∀ x ∈ r.l, Gf N0 1 x.1 := fun x hx => cut_gf hs' (by rw [rw_fs]; exact List.mem_map.mpr ⟨x, hx, rfl⟩)
        have hrl : r.l.length ≤ 3 := by have := (cuts_gf _ hs').1; rw [rw_fs] at this; simpa using this
        simp only [Bd.sz, rw_sz] at hs ⊢
        simp only [Bd.ways, rw_ways] at ho
        simp [Bd.d, rw_ds]
        refine for_ind (fun xs e m => ∃ (dn rs : List ((Int × Int) × Bd)) (x7 x8 : Option D), xs = rs.map dRB ∧ dn ++ rs = r.l.reverse ∧ e = [some b.d, some (.ref a), some (.ref c), some (.tup [.str "draw", .tup (r.l.map dRB)]), some (dF w.ch), some (.tup (w.cs.map .str)), some (.tup (w.ls.map .str)), x7, x8] ∧
          m a = some (.lst (fd.map dW)) ∧ m c = some (.lst ((st.map dI).reverse ++ dn.map fun x => dI (x.2, w.mul x.1))) ∧ Le M m) ?_ ?_ _ _ _ ⟨[], r.l.reverse, x7, x8, by simp, by simp, by simp [Bd.d], ea1, by rw [ec1]; simp, hl1⟩
        · rintro y ys e m ⟨dn, rs, y7, y8, hx, hd, rfl, ea, ec, hl⟩
          obtain ⟨q, rs, rfl⟩ : ∃ q rs', rs = q :: rs' := by
            cases rs with
            | nil => simp at hx
            | cons q rs => exact ⟨q, rs, rfl⟩
          simp at hx
          obtain ⟨rfl, rfl⟩ := hx
          have hql : q ∈ r.l := by
            have : q ∈ r.l.reverse := by rw [← hd]; simp
            simpa using this
          have hdl : dn.length ≤ 3 := by have := congrArg List.length hd; simp at this; omega
          refine ⟨trivial, fun N hN => ?_⟩
          have g1 := hwo.f
          have g2 := hfs q hql
          have s1 := wok_sm hwo (by omega)
          have s2 := (g2.dvd (N' := N0 ^ 5) (by decide)).sm (by decide)
          simp [FB_ways_1, dRB, ec, S_times]
          refine ⟨w.ch.1, w.ch.2, rfl, q.1.1, q.1.2, rfl, g1.p, g2.p, s1.1.mono (by decide), s1.2.mono (by decide), s2.1.mono (by decide), s2.2.mono (by decide), by omega, ?_⟩
          refine hN _ _ ⟨dn ++ [q], rs, _, _, rfl, by simpa using hd, rfl, by rw [set_ne hac, ea], by rw [set_same]; simp [dI, Wy.mul, mulF], hl.fresh hc'.2⟩
        · rintro e m ⟨dn, rs, y7, y8, hx, hd, rfl, ea, ec, hl⟩
          have : rs = [] := by simpa using hx.symm
          subst this
          simp at hd
          subst hd
          refine ⟨trivial, _, ?_, (r.l.map fun x => (x.2, w.mul x.1)) ++ st, fd, _, _, _, _, _, _, rfl, ea, by rw [ec]; simp [Function.comp_def], hl, ?_, rfl, ?_, ?_⟩
          · simp [szs, Function.comp_def]
          · rw [← ho]; simp [outs, List.flatMap_map]
          · simp [szs, Function.comp_def] at hs ⊢; omega
          · intro v hv
            rcases List.mem_append.mp hv with hv | hv
            · obtain ⟨x, hx, rfl⟩ := List.mem_map.mp hv
              exact ⟨k + 1, m', by omega, hbo x hx, hwo.mul (hfs x hx)⟩
            · exact hi' v hv
/-! ## alternatives -/
def kD (k : WKey) : D := .tup [.tup (k.1.map .str), .tup (k.2.map .str)]
theorem map_str_inj {a b : List Str} (h : a.map D.str = b.map D.str) : a = b := (List.map_inj_right (fun x y e => by cases e; rfl)).mp h
theorem kD_inj {a b : WKey} (h : kD a = kD b) : a = b := by
  obtain ⟨a1, a2⟩ := a
  obtain ⟨b1, b2⟩ := b
  unfold kD at h
  injection h with h
  injection h with h1 h2
  injection h1 with h1
  injection h2 with h2
  injection h2 with h2
  have e1 := map_str_inj h1
  have e2 := map_str_inj h2
  simp only at e1 e2
  rw [e1, e2]
theorem nests_str (xs : List Str) : nests (xs.map .str) = some 0 := by
  induction xs with
  | nil => rfl
  | cons x xs ih => simp [nests, nest, ih]
theorem nkOk_kD (k : WKey) : nkOk (kD k) = true := by
  simp [nkOk, kD, nest, nests, nests_str]
def kvW (r : Wy) : D × D := (kD r.key, dF r.ch)
theorem lk_kvW : ∀ {acc : List Wy} {k : WKey}, lk (acc.map kvW) (kD k) = (acc.find? fun r => decide (r.key = k)).map fun r => dF r.ch
  | [], k => rfl
  | r :: acc, k => by
    simp only [List.map_cons, lk, kvW, List.find?_cons]
    by_cases h : r.key = k
    · simp [h]
    · rw [if_neg fun e => h (kD_inj e)]
      simp [h]
      exact lk_kvW
theorem find_key {acc : List Wy} (nd : (acc.map Wy.key).Nodup) {r : Wy} (hr : r ∈ acc) : (acc.find? fun x => decide (x.key = r.key)) = some r := by
  induction acc with
  | nil => simp at hr
  | cons x acc ih =>
    rw [List.map_cons, List.nodup_cons] at nd
    rw [List.find?_cons]
    rcases List.mem_cons.mp hr with rfl | hr
    · simp
    · have : x.key ≠ r.key := fun e => nd.1 (e ▸ List.mem_map.mpr ⟨r, hr, rfl⟩)
      simp [this]
      exact ih nd.2 hr
theorem find_none {acc : List Wy} {k : WKey} (h : k ∉ acc.map Wy.key) : (acc.find? fun x => decide (x.key = k)) = none := by
  rw [List.find?_eq_none]
  intro x hx
  simp only [decide_eq_true_eq]
  exact fun e => h (List.mem_map.mpr ⟨x, hx, e⟩)
theorem add_zero {N c : Int} {f : Int × Int} (h : Gf N c f) : addF (0, 1) f = f := by
  have := h.g
  unfold addF fr
  simp [this]
/-- what stands at a key -/
def curW (acc : List Wy) (k : WKey) : Int × Int := ((acc.find? fun r => decide (r.key = k)).map (·.ch)).getD (0, 1)
theorem curW_gf {ns ls : List Str} {ws acc : List Wy} (h : Aok ns ls ws acc) (k : WKey) : Gf (N0 ^ 5) ws.length (curW acc k) := by
  unfold curW
  cases e : acc.find? fun r => decide (r.key = k) with
  | none => exact ⟨by decide, by decide, by decide, by exact ⟨N0 ^ 5, by simp⟩, by simp⟩
  | some r => exact (h.el r (List.mem_of_find?_eq_some e)).1
theorem ins_mrg {N c : Int} {acc : List Wy} {w : Wy} (nd : (acc.map Wy.key).Nodup) (hw : Gf N c w.ch) : ins (acc.map kvW) (kD w.key) (dF (addF (curW acc w.key) w.ch)) = (mrg acc w).map kvW := by
  rw [mrg_s]
  by_cases h : w.key ∈ acc.map Wy.key
  · rw [if_pos h]
    unfold ins
    rw [if_pos]
    · rw [List.map_map, List.map_map]
      refine List.map_congr_left fun r hr => ?_
      by_cases e : r.key = w.key
      · refine (if_pos (show (kvW r).1 = kD w.key by rw [← e]; rfl)).trans ?_
        have := find_key nd hr
        have hc : curW acc w.key = r.ch := by unfold curW; rw [← e, this]; rfl
        show _ = kvW (upW w r)
        unfold upW
        rw [if_pos e, hc]; rfl
      · refine (if_neg (show ¬ (kvW r).1 = kD w.key from fun z => e (kD_inj z))).trans ?_
        show _ = kvW (upW w r)
        unfold upW
        rw [if_neg e]
    · obtain ⟨r, hr, e⟩ := List.mem_map.mp h
      simp only [List.any_eq_true, decide_eq_true_eq]
      exact ⟨kvW r, List.mem_map.mpr ⟨r, hr, rfl⟩, by rw [← e]; rfl⟩
  · rw [if_neg h, ins_new]
    · unfold curW
      rw [find_none h]
      simp only [Option.map_none, Option.getD_none, List.map_append, List.map_cons, List.map_nil, add_zero hw]
      rfl
    · intro hm
      rw [List.map_map] at hm
      obtain ⟨r, hr, e⟩ := List.mem_map.mp hm
      exact h (List.mem_map.mpr ⟨r, hr, kD_inj e⟩)
theorem wts_len {ns ls : List Str} {ws as : List Wy} (h : Aok ns ls ws as) : as.length ≤ wts ws := Nat.le_trans (len_wts as) h.wt
def altV (as : List Wy) (x : D) : D := match x with
  | .tup ks => .tup ((lk (as.map kvW) x).getD .non :: ks)
  | _ => .non
theorem altV_key {as : List Wy} (nd : (as.map Wy.key).Nodup) {r : Wy} (hr : r ∈ as) : lk (as.map kvW) (kD r.key) = some (dF r.ch) ∧ altV as (kD r.key) = dW r := by
  have h : lk (as.map kvW) (kD r.key) = some (dF r.ch) := by rw [lk_kvW, find_key nd hr]; rfl
  refine ⟨h, ?_⟩
  show D.tup ((lk (as.map kvW) (kD r.key)).getD .non :: _) = _
  rw [h]; rfl
theorem ob_alternatives_of : ∀ E ds M Q, S_alternatives_of E ds M Q → B_alternatives_of E (endsL Q) (start 6 ds) M := by
  intro E ds M Q h
  obtain ⟨x, rfl, b, rfl, ⟨ns, hns, ls, hls, hb⟩, hq⟩ := fn1_e h
  have h5 := ways5 hb
  have hsz := sizeLine_ge
  simp [B_alternatives_of]
  intro c hc
  refine go ?_
  simp [S_ways]
  refine ⟨b, rfl, ⟨ns, hns, ls, hls, hb⟩, fun p hp => ?_⟩
  obtain ⟨hp1, hp2⟩ := set_none.mp hp
  refine for_ind (fun xs e m => ∃ (dn rs acc : List Wy) (x2 x3 x4 : Option D), xs = rs.map dW ∧ dn ++ rs = b.ways w0 ∧ acc = dn.foldl mrg [] ∧ e = [some b.d, some (.ref c), x2, x3, x4, none] ∧ m c = some (.dn (acc.map kvW)) ∧ m p = some (.lst ((b.ways w0).map dW)) ∧ Le M m)
    ?_ ?_ _ _ _ ⟨[], b.ways w0, [], none, none, none, rfl, rfl, rfl, rfl, by rw [set_ne (Ne.symm hp1), set_same]; rfl, set_same, (Le.refl.fresh hc).fresh hp2⟩
  · rintro x xs e m ⟨dn, rs, acc, x2, x3, x4, hx, hd, rfl, rfl, ec, ep, hl⟩
    obtain ⟨w, rs, rfl⟩ : ∃ q rs', rs = q :: rs' := by
      cases rs with
      | nil => simp at hx
      | cons q rs => exact ⟨q, rs, rfl⟩
    simp at hx
    obtain ⟨rfl, rfl⟩ := hx
    refine ⟨ep, fun N hN => ?_⟩
    have hA := aok_fold dn [] [] (aok0 (ns := ns) (ls := ls)) fun v hv => h5.1 v (by rw [← hd]; exact List.mem_append_left _ hv)
    rw [List.nil_append] at hA
    generalize hacc : dn.foldl mrg [] = acc at hA ec
    have hw := h5.1 w (by rw [← hd]; simp)
    have hdl : dn.length ≤ 243 := by have := congrArg List.length hd; simp at this; omega
    have hal : acc.length ≤ 243 := by
      have h1 := len_wts acc
      have h2 := hA.wt
      have h3 : wts dn ≤ wts (b.ways w0) := by rw [← hd, wts_app]; omega
      omega
    have g1 := curW_gf hA w.key
    have g2 := hw.f
    have s1 := g1.sm (by omega)
    have s2 := g2.sm (by decide)
    have hget : (lk (acc.map kvW) (kD w.key)).getD (.tup [.int 0, .int 1]) = dF (curW acc w.key) := by
      rw [lk_kvW]; unfold curW
      cases acc.find? fun r => decide (r.key = w.key) <;> rfl
    simp [FB_alternatives_of_1, dW, ec]
    rw [show D.tup [D.tup (List.map D.str w.cs), D.tup (List.map D.str w.ls)] = kD w.key from rfl, hget]
    refine ⟨nkOk_kD _, ?_⟩
    simp [S_plus, ec]
    refine ⟨_, _, rfl, _, _, rfl, g1.p, g2.p, s1.1.mono (by decide), s1.2.mono (by decide), s2.1.mono (by decide), s2.2.mono (by decide), nkOk_kD _, by omega, ?_⟩
    refine hN _ _ ⟨dn ++ [w], rs, _, _, _, _, rfl, by simpa using hd, rfl, rfl, ?_, by rw [set_ne hp1, ep], hl.fresh hc⟩
    rw [set_same, List.foldl_append, hacc]
    have := ins_mrg hA.nd g2
    show some (O.dn (ins (acc.map kvW) (kD w.key) (dF (addF (curW acc w.key) w.ch)))) = _
    rw [this]; rfl
  · rintro e m ⟨dn, rs, acc, x2, x3, x4, hx, hd, hacc, rfl, ec, ep, hl⟩
    have : rs = [] := by simpa using hx.symm
    subst this
    rw [List.append_nil] at hd
    subst hd
    refine ⟨ep, ?_⟩
    dsimp only
    refine go ?_
    have hA := alts5 hb
    have hacc : acc = b.alts := hacc
    subst hacc
    have hal := wts_len hA
    simp [T_alternatives_of_1, ec]
    intro q hq'
    have hq1 := set_none.mp hq'
    refine comp_map (altV b.alts) (fun m' => m' c = some (.dnF (b.alts.map kvW))) (fun m o hm => ?_) (fun m hm => hm) _ [] _ ?_ ?_ set_same ?_ ?_
    · rw [set_ne hq1.1.symm]; exact hm
    · intro x hx m' T hm hT
      simp at hx
      obtain ⟨r, hr, rfl⟩ := hx
      have hk := altV_key hA.nd hr
      have hk' : altV b.alts (kvW r).1 = dW r := hk.2
      have hk1 : lk (b.alts.map kvW) (kvW r).1 = some (dF r.ch) := hk.1
      rw [hk'] at hT
      have e : (kvW r).1 = .tup [.tup (r.cs.map .str), .tup (r.ls.map .str)] := rfl
      have nk : nkOk (kvW r).1 = true := nkOk_kD _
      simp [CE_alternatives_of_1, hm, subO_dnF, hk1, nk]
      rw [e]
      simp
      exact ⟨by omega, hT⟩
    · simp; omega
    · rw [set_ne hq1.1.symm, set_same]
    · have e2 : (b.alts.map (Prod.fst ∘ kvW)).map (altV b.alts) = b.alts.map dW := by
        rw [List.map_map]
        exact List.map_congr_left fun r hr => (altV_key hA.nd hr).2
      rw [List.nil_append, e2, set_set]
      refine ⟨by rw [set_ne hq1.1.symm, set_same], ?_⟩
      rw [set_ne hq1.1, set_same]
      simp
      refine ⟨M, ?_, hq⟩
      intro y o hy
      have hyc : y ≠ c := by rintro rfl; rw [hc] at hy; cases hy
      have hyq : y ≠ q := ne_of (hl y o hy) hq1.2
      rw [set_ne hyc, set_ne hyq, set_ne hyc]
      exact hl y o hy
theorem ob_alternatives : ∀ E ds M Q, S_alternatives E ds M Q → B_alternatives E (endsL Q) (start 3 ds) M := by
  intro E ds M Q h
  obtain ⟨x, rfl, ps, ls, rfl, ⟨hns, hls, hps⟩, hq⟩ := fn1_e h
  have hsz := sizeLine_ge
  have hpl : ps.length ≤ 4 := by have := (allN_ne _ hns).2; simpa using this
  simp [B_alternatives]
  intro p hp
  refine comp_ind (fun acc xs m => ∃ dn rs : List (Str × Bd), acc = dn.map dAlt ∧ xs = rs.map dBP ∧ dn ++ rs = ps ∧ m p = some (.lst (dn.map dAlt)) ∧ Le M m) ?_ ?_ _ [] _ ⟨[], ps, rfl, rfl, rfl, by rw [set_same]; rfl, Le.refl.fresh hp⟩
  · rintro x xs acc m ⟨dn, rs, rfl, hx, hd, ep, hl⟩
    obtain ⟨r, rs, rfl⟩ : ∃ q rs', rs = q :: rs' := by
      cases rs with
      | nil => simp at hx
      | cons q rs => exact ⟨q, rs, rfl⟩
    simp at hx
    obtain ⟨rfl, rfl⟩ := hx
    have hdl : dn.length ≤ 4 := by have := congrArg List.length hd; simp at this; omega
    refine ⟨trivial, by simp; omega, fun T hT => ?_⟩
    simp [CE_alternatives_1, dBP, S_alternatives_of]
    refine ⟨_, rfl, ⟨_, hns, ls, hls, hps r (by rw [← hd]; simp)⟩, hT _ _ ep ⟨dn ++ [r], rs, by simp [dAlt], rfl, by simpa using hd, by rw [set_same]; simp [dAlt], hl.fresh hp⟩⟩
  · rintro acc m ⟨dn, rs, rfl, hx, hd, ep, hl⟩
    have : rs = [] := by simpa using hx.symm
    subst this
    rw [List.append_nil] at hd
    subst hd
    refine ⟨trivial, ?_⟩
    simp [ep]
    exact ⟨M, hl, hq⟩
end DL

set_option Elab.async false
set_option linter.all false
set_option maxRecDepth 100000
/-! K31S: what the defs of law k31 ask and tell -/
namespace DL
open PySem
def callsOf (b : Bd) : List Str := b.alts.flatMap (·.cs)
/-- the calls of a name -/
def clOf (ps : List (Str × Bd)) (x : Str) : List Str := match ps.find? (fun p => decide (p.1 = x)) with
  | some p => callsOf p.2
  | none => []
/-- reached by calls -/
inductive Rch (cl : Str → List Str) (x : Str) : Str → Prop
  | one {y} : y ∈ cl x → Rch cl x y
  | more {y z} : Rch cl x y → z ∈ cl y → Rch cl x z
def dRch (ps : List (Str × Bd)) (f : Str → Str → Bool) (p : Str × Bd) : D := .tup [.str p.1, .tup (((ps.map Prod.fst).filter (f p.1)).map .str)]
def S_called_by : FD := fn1 fun x _ M Q => ∃ ps ls, x = .tup (List.map dBP ps) ∧ PB ps ls ∧ ∃ f : Str → Str → Bool, (∀ x ∈ ps.map Prod.fst, ∀ y ∈ ps.map Prod.fst, (f x y = true ↔ Rch (clOf ps) x y)) ∧ Q (.tup (ps.map (dRch ps f))) M
/-- a body within one as drawn: k draws done -/
def S_law_ways (n : Nat) : FD := fn5 fun x ch cs ls fd _ M Q => ∃ (b : Bd) (w : Wy) (ns lt : List Str) (k m : Nat) (a : Addr) (xs : List D), x = b.d ∧ ch = dF w.ch ∧ cs = .tup (w.cs.map .str) ∧ ls = .tup (w.ls.map .str) ∧ fd = .ref a ∧ m < n ∧ b.ok ns lt m ∧ k + m ≤ 5 ∧ Wok ns lt k w ∧
  M a = some (.lst xs) ∧ xs.length + (b.ways w).length ≤ 1000 ∧ Q .non (M.set a (.lst (xs ++ (b.ways w).map dW)))
def S_law_alternatives : FD := S_alternatives
end DL

set_option Elab.async false
set_option linter.all false
set_option maxRecDepth 100000
/-! mirrors of the text's defs (printed by gen.py) -/
namespace DL
open PySem
def CE_called_by_1 : WE :=
  (eVar 9)
def FB_called_by_1 : WS :=
  (sAsg (eComp2 (iVal (eVar 4)) [10, 11, 12, 9] [9] (gTup [(gName 10), (gName 11), (gName 12)]) tYes (iVal (eVar 11)) (gName 9) tYes CE_called_by_1) (gSub (eVar 1) (eVar 3)))
def WC_called_by_1 : WT :=
  (tTru (eVar 7))
def WB_called_by_1 : WS :=
  (sSeq (sAsg (ePop (eVar 7)) (gName 8)) (sIf (tCmp cNotIn (eVar 8) (eVar 6)) (sSeq (sAsg (eC (.bl true)) (gSub (eVar 6) (eVar 8))) (sExpr (eExtend (eVar 7) (eSub (eVar 1) (eVar 8))))) sNil))
def CT_called_by_1 : WT :=
  (tCmp cIn (eVar 13) (eVar 6))
def CE_called_by_2 : WE :=
  (eVar 13)
def T_called_by_1 : WS :=
  (sExpr (eAppend (eVar 2) (eTup [(eVar 3), (eTupOf (eComp (iVal (eVar 0)) [13, 5] (gTup [(gName 13), (gName 5)]) CT_called_by_1 CE_called_by_2))])))
def FB_called_by_2 : WS :=
  (sSeq (sAsg eDk (gName 6)) (sSeq (sAsg (eLstOf (eSub (eVar 1) (eVar 3))) (gName 7)) (sSeq (sWhile WC_called_by_1 WB_called_by_1) T_called_by_1)))
def T_called_by_2 : WS :=
  (sRet (eTupOf (eVar 2)))
def T_called_by_3 : WS :=
  (sSeq (sAsg (eLst []) (gName 2)) (sSeq (sFor (iVal (eVar 0)) (gTup [(gName 3), (gName 5)]) FB_called_by_2) T_called_by_2))
def B_called_by : WS :=
  (sSeq (sAsg eDk (gName 1)) (sSeq (sFor (iVal (eCall S_alternatives [(eVar 0)])) (gTup [(gName 3), (gName 4)]) FB_called_by_1) T_called_by_3))
def FB_law_ways_1 (n : Nat) : WS :=
  (sExpr (eCall (S_law_ways n) [(eVar 6), (eCall S_law_times [(eVar 1), (eVar 5)]), (eVar 2), (eVar 3), (eVar 4)]))
def B_law_ways (n : Nat) : WS :=
  (sIf (tCmp cEq (eSub (eVar 0) (eC (.int 0))) (eC (.str "end"))) (sExpr (eAppend (eVar 4) (eTup [(eVar 1), (eVar 2), (eVar 3)]))) (sIf (tCmp cEq (eSub (eVar 0) (eC (.int 0))) (eC (.str "tell"))) (sExpr (eCall (S_law_ways n) [(eSub (eVar 0) (eC (.int 2))), (eVar 1), (eVar 2), (eBin opAdd (eVar 3) (eTup [(eSub (eVar 0) (eC (.int 1)))])), (eVar 4)])) (sIf (tCmp cEq (eSub (eVar 0) (eC (.int 0))) (eC (.str "call"))) (sExpr (eCall (S_law_ways n) [(eSub (eVar 0) (eC (.int 2))), (eVar 1), (eBin opAdd (eVar 2) (eTup [(eSub (eVar 0) (eC (.int 1)))])), (eVar 3), (eVar 4)])) (sIf (tCmp cEq (eSub (eVar 0) (eC (.int 0))) (eC (.str "draw"))) (sFor (iVal (eSub (eVar 0) (eC (.int 1)))) (gTup [(gName 5), (gName 6)]) (FB_law_ways_1 n)) sNil))))
def CT_law_alternatives_1 : WT :=
  (tCmp cEq (eSl (eSub (eVar 5) (eVar 10)) (some (eC (.int 1))) none) (eTup [(eVar 7), (eVar 8)]))
def CE_law_alternatives_1 : WE :=
  (eVar 10)
def FB_law_alternatives_1 : WS :=
  (sSeq (sAsg (eComp (iRange1 (eLen (eVar 5))) [10] (gName 10) CT_law_alternatives_1 CE_law_alternatives_1) (gName 9)) (sIf (tTru (eVar 9)) (sSeq (sAsg (eSub (eVar 9) (eC (.int 0))) (gName 10)) (sAsg (eTup [(eCall S_law_plus [(eSub (eSub (eVar 5) (eVar 10)) (eC (.int 0))), (eVar 6)]), (eVar 7), (eVar 8)]) (gSub (eVar 5) (eVar 10)))) (sExpr (eAppend (eVar 5) (eTup [(eVar 6), (eVar 7), (eVar 8)])))))
def T_law_alternatives_1 : WS :=
  (sExpr (eAppend (eVar 1) (eTup [(eVar 2), (eTupOf (eVar 5))])))
def FB_law_alternatives_2 : WS :=
  (sSeq (sAsg (eLst []) (gName 4)) (sSeq (sExpr (eCall (S_law_ways 8) [(eVar 3), (eTup [(eC (.int 1)), (eC (.int 1))]), (eTup []), (eTup []), (eVar 4)])) (sSeq (sAsg (eLst []) (gName 5)) (sSeq (sFor (iVal (eVar 4)) (gTup [(gName 6), (gName 7), (gName 8)]) FB_law_alternatives_1) T_law_alternatives_1))))
def T_law_alternatives_2 : WS :=
  (sRet (eTupOf (eVar 1)))
def B_law_alternatives : WS :=
  (sSeq (sAsg (eLst []) (gName 1)) (sSeq (sFor (iVal (eVar 0)) (gTup [(gName 2), (gName 3)]) FB_law_alternatives_2) T_law_alternatives_2))
def FB_law_1 : WS :=
  (sAsg (eBin opAdd (eSub (eVar 5) (eVar 9)) (eLstOf (eSub (eVar 11) (eC (.int 1))))) (gSub (eVar 5) (eVar 9)))
def FB_law_2 : WS :=
  (sSeq (sAsg (eLst []) (gSub (eVar 5) (eVar 9))) (sFor (iVal (eVar 10)) (gName 11) FB_law_1))
def CE_law_1 : WE :=
  (eTup [(eVar 9), (eLstOf (eSub (eVar 5) (eVar 9)))])
def FB_law_3 : WS :=
  (sAsg (eBin opAdd (eVar 13) (eSub (eVar 5) (eVar 14))) (gName 13))
def CT_law_1 : WT :=
  (tCmp cNotIn (eVar 15) (eSub (eVar 6) (eVar 9)))
def CE_law_2 : WE :=
  (eVar 15)
def T_law_1 : WS :=
  (sAsg (eBin opAdd (eSub (eVar 6) (eVar 9)) (eComp (iVal (eVar 13)) [15] (gName 15) CT_law_1 CE_law_2)) (gSub (eVar 6) (eVar 9)))
def FB_law_4 : WS :=
  (sSeq (sAsg (eLst []) (gName 13)) (sSeq (sFor (iVal (eSub (eVar 6) (eVar 9))) (gName 14) FB_law_3) T_law_1))
def FB_law_5 : WS :=
  (sFor (iVal (eVar 3)) (gTup [(gName 9), (gName 12)]) FB_law_4)
def CT_law_2 : WT :=
  (tCmp cIn (eVar 15) (eSub (eVar 6) (eVar 9)))
def CE_law_3 : WE :=
  (eVar 15)
def CE_law_4 : WE :=
  (eTup [(eVar 9), (eTupOf (eComp (iVal (eVar 3)) [15, 12] (gTup [(gName 15), (gName 12)]) CT_law_2 CE_law_3))])
def T_law_2 : WS :=
  (sSeq (sAsg (eTupOf (eComp (iVal (eVar 3)) [9, 12] (gTup [(gName 9), (gName 12)]) tYes CE_law_4)) (gName 8)) (sIf (tNot (tTru (eCall (S_law_alike 8) [(eCall S_called_by [(eVar 3)]), (eVar 8)]))) (sRet (eC (.bl false))) sNil))
def T_law_3 : WS :=
  (sSeq (sAsg (eDict (eLock 5 (eComp (iKeysD (eVar 5)) [9] (gName 9) tYes CE_law_1))) (gName 6)) (sSeq (sFor (iRange1 (eLen (eVar 3))) (gName 7) FB_law_5) T_law_2))
def T_law_4 : WS :=
  (sSeq (sAsg eDk (gName 5)) (sSeq (sFor (iVal (eVar 4)) (gTup [(gName 9), (gName 10)]) FB_law_2) T_law_3))
def FB_law_6 : WS :=
  (sSeq (sAsg (eCall S_law_program [(eVar 1)]) (gName 3)) (sSeq (sAsg (eCall S_law_alternatives [(eVar 3)]) (gName 4)) (sSeq (sIf (tNot (tTru (eCall (S_law_alike 8) [(eCall S_alternatives [(eVar 3)]), (eVar 4)]))) (sRet (eC (.bl false))) sNil) T_law_4)))
def T_law_5 : WS :=
  (sRet (eC (.bl true)))
def B_law : WS :=
  (sSeq (sAsg (eCall S_law_start [(eVar 0)]) (gName 1)) (sSeq (sFor (iRange1 (eC (.int 4))) (gName 2) FB_law_6) T_law_5))
end DL

set_option Elab.async false
set_option linter.all false
set_option maxRecDepth 100000
set_option maxHeartbeats 4000000
/-! K31K: how many calls a procedure's alternatives have; what is reached by them -/
namespace DL
open PySem
/-! ## sums over lists without doubles -/
theorem sum_erase {κ : Type} [DecidableEq κ] (g : κ → Nat) : ∀ {S : List κ} {x : κ}, x ∈ S → (S.map g).sum = g x + ((S.erase x).map g).sum
  | [], x, h => by simp at h
  | y :: S, x, h => by
    by_cases e : y = x
    · subst e; simp
    · have hx : x ∈ S := by
        rcases List.mem_cons.mp h with h | h
        · exact absurd h.symm e
        · exact h
      rw [List.erase_cons_tail (by simpa using e), List.map_cons, List.map_cons, List.sum_cons, List.sum_cons, sum_erase g hx]
      omega
theorem sum_nodup_le {κ : Type} [DecidableEq κ] (g : κ → Nat) : ∀ (xs S : List κ), xs.Nodup → (∀ x ∈ xs, x ∈ S ∨ g x = 0) → (xs.map g).sum ≤ (S.map g).sum
  | [], S, _, _ => by simp
  | x :: xs, S, nd, h => by
    rw [List.nodup_cons] at nd
    rw [List.map_cons, List.sum_cons]
    rcases h x (.head _) with hx | hx
    · rw [sum_erase g hx]
      have := sum_nodup_le g xs (S.erase x) nd.2 fun y hy => by
        rcases h y (.tail _ hy) with hy' | hy'
        · exact .inl ((List.mem_erase_of_ne (by rintro rfl; exact nd.1 hy)).mpr hy')
        · exact .inr hy'
      omega
    · rw [hx]
      have := sum_nodup_le g xs S nd.2 fun y hy => h y (.tail _ hy)
      omega
theorem sum_le_of {α : Type} (f g : α → Nat) (a b : Nat) : ∀ xs : List α, (∀ x ∈ xs, a * f x ≤ b * 0 + g x) → a * (xs.map f).sum ≤ (xs.map g).sum
  | [], _ => by simp
  | x :: xs, h => by
    have h1 := h x (.head _)
    have h2 := sum_le_of f g a b xs fun y hy => h y (.tail _ hy)
    simp only [List.map_cons, List.sum_cons, Nat.mul_add]
    omega
theorem sum_add {α : Type} (f g : α → Nat) (b : Nat) (xs : List α) : (xs.map fun x => b * f x + g x).sum = b * (xs.map f).sum + (xs.map g).sum := by
  induction xs with
  | nil => simp
  | cons x xs ih => simp only [List.map_cons, List.sum_cons, ih, Nat.mul_add]; omega
theorem sum_eq {α : Type} (f : α → Nat) (c : Nat) : ∀ xs : List α, (∀ x ∈ xs, f x = c) → (xs.map f).sum = c * xs.length
  | [], _ => by simp
  | x :: xs, h => by
    rw [List.map_cons, List.sum_cons, h x (.head _), sum_eq f c xs fun y hy => h y (.tail _ hy), List.length_cons, Nat.mul_add]; omega
theorem sum_flat {α β : Type} (f : β → Nat) (g : α → List β) (c : Nat) : ∀ xs : List α, (∀ x ∈ xs, ((g x).map f).sum = c) → ((xs.flatMap g).map f).sum = c * xs.length
  | [], _ => by simp
  | x :: xs, h => by
    rw [List.flatMap_cons, List.map_append, List.sum_append_nat, h x (.head _), sum_flat f g c xs fun y hy => h y (.tail _ hy), List.length_cons, Nat.mul_add]; omega
theorem pow3 (n : Nat) : n + 1 ≤ 3 ^ n := by
  induction n with
  | zero => simp
  | succ n ih => rw [Nat.pow_succ]; omega
/-! ## all calls -/
def mu9 (k : WKey) : Nat := if k.2 = [] then (if k.1.length = 1 then 6 else if k.1.length = 2 then 9 else 0) else 0
theorem mu9_ok (k : WKey) : 9 * k.1.length ≤ wt k + mu9 k := by
  obtain ⟨a, b⟩ := k
  unfold wt mu9
  dsimp only
  match a, b with
  | [], _ => simp
  | [_], [] => simp
  | [_, _], [] => simp
  | [_], [_] => simp
  | [_], _ :: _ :: r =>
    have := pow3 (r.length + 1)
    rw [show ([_] : List Str).length + (_ :: _ :: r : List Str).length = r.length + 1 + 2 by simp; omega, Nat.pow_add]
    simp; omega
  | [_, _], _ :: r =>
    have := pow3 r.length
    rw [show ([_, _] : List Str).length + (_ :: r : List Str).length = r.length + 3 by simp <;> omega, Nat.pow_add]
    simp; omega
  | c1 :: c2 :: c3 :: r, b =>
    have h1 := pow3 (r.length)
    have h2 := Nat.pow_le_pow_right (n := 3) (by decide) (show r.length + 3 ≤ (c1 :: c2 :: c3 :: r : List Str).length + b.length by simp)
    rw [Nat.pow_add] at h2
    simp at h2 ⊢; omega
def S9 (ns : List Str) : List WKey := ns.map (fun a => ([a], [])) ++ ns.flatMap fun a => ns.map fun b => ([a, b], [])
theorem calls_sum {ns ls : List Str} {ws as : List Wy} (h : Aok ns ls ws as) (hw : wts ws ≤ 243) (hn : ns.length ≤ 4) : (as.map fun a => a.cs.length).sum ≤ 45 := by
  have h1 := sum_le_of (fun a : Wy => a.cs.length) (fun a => wt a.key + mu9 a.key) 9 0 as (fun a _ => by have := mu9_ok a.key; simp [Wy.key] at this ⊢; exact this)
  have h2 : (as.map fun a => wt a.key + mu9 a.key).sum = wts as + ((as.map Wy.key).map mu9).sum := by
    have := sum_add (fun a : Wy => wt a.key) (fun a => mu9 a.key) 1 as
    simp only [Nat.one_mul] at this
    rw [this, List.map_map]; rfl
  have h3 := sum_nodup_le mu9 (as.map Wy.key) (S9 ns) h.nd fun k hk => by
    obtain ⟨a, ha, rfl⟩ := List.mem_map.mp hk
    have hc := (h.el a ha).2.2.2.1
    unfold Wy.key
    match hcs : a.cs, hls : a.ls with
    | [], _ => right; simp [mu9]
    | [x], [] => left; rw [hcs] at hc; unfold S9; exact List.mem_append_left _ (List.mem_map.mpr ⟨x, hc x (by simp), rfl⟩)
    | [x, y], [] => left; rw [hcs] at hc; unfold S9; exact List.mem_append_right _ (List.mem_flatMap.mpr ⟨x, hc x (by simp), List.mem_map.mpr ⟨y, hc y (by simp), rfl⟩⟩)
    | _, _ :: _ => right; simp [mu9]
    | _ :: _ :: _ :: _, [] => right; simp [mu9]
  have h4 : ((S9 ns).map mu9).sum ≤ 168 := by
    have e1 : ((ns.map fun a => (([a], []) : WKey)).map mu9).sum = 6 * ns.length := by
      rw [List.map_map]
      exact sum_eq _ 6 ns fun _ _ => by simp [mu9]
    have e2 : ((ns.flatMap fun a => ns.map fun b => (([a, b], []) : WKey)).map mu9).sum = 9 * ns.length * ns.length := by
      refine sum_flat _ _ _ ns fun x _ => ?_
      rw [List.map_map]
      exact sum_eq _ 9 ns fun _ _ => by simp [mu9]
    unfold S9
    rw [List.map_append, List.sum_append_nat, e1, e2]
    have := Nat.mul_le_mul (Nat.mul_le_mul_left 9 hn) hn
    omega
  have := h.wt
  omega
/-! ## calls of one name -/
def mu27 (y : Str) (k : WKey) : Nat := if k.2 = [] then (if k.1 = [y] then 21 else if k.1 = [y, y] then 36 else if k.1.length = 2 ∧ y ∈ k.1 then 9 else if k.1 = [y, y, y] then 27 else 0) else if k.1 = [y] ∧ k.2.length = 1 then 9 else 0
theorem mu27_ok (y : Str) (k : WKey) : 27 * k.1.count y ≤ 2 * wt k + mu27 y k := by
  obtain ⟨a, b⟩ := k
  unfold wt mu27
  dsimp only
  match a, b with
  | [], _ => simp
  | [x], [] =>
    by_cases e : x = y
    · subst e; simp
    · simp [e]
  | [x], [_] =>
    by_cases e : x = y
    · subst e; simp
    · simp [e]
  | [x], _ :: _ :: r =>
    have h1 := List.count_le_length (a := y) (l := [x])
    have := pow3 (r.length)
    rw [show ([x] : List Str).length + (_ :: _ :: r : List Str).length = r.length + 3 by simp; omega, Nat.pow_add]
    simp at h1 ⊢; omega
  | [u, v], [] =>
    by_cases e : u = y
    · by_cases e' : v = y
      · subst e; subst e'; simp
      · subst e; simp [e']
    · by_cases e' : v = y
      · subst e'; simp [e]
      · simp [e, e', List.count_cons]
  | [u, v], _ :: r =>
    have h1 := List.count_le_length (a := y) (l := [u, v])
    have := pow3 r.length
    rw [show ([u, v] : List Str).length + (_ :: r : List Str).length = r.length + 3 by simp <;> omega, Nat.pow_add]
    simp at h1 ⊢; omega
  | [u, v, w], [] =>
    by_cases e : u = y
    · by_cases e' : v = y
      · by_cases e2 : w = y
        · subst e; subst e'; subst e2; simp
        · subst e; subst e'; simp [List.count_cons, e2]
      · subst e; simp [List.count_cons, e']; split <;> omega
    · simp [List.count_cons, e]; split <;> split <;> omega
  | [u, v, w], _ :: r =>
    have h1 := List.count_le_length (a := y) (l := [u, v, w])
    have := pow3 r.length
    rw [show ([u, v, w] : List Str).length + (_ :: r : List Str).length = r.length + 4 by simp <;> omega, Nat.pow_add]
    simp at h1 ⊢; omega
  | c1 :: c2 :: c3 :: c4 :: r, b =>
    have h0 := List.count_le_length (a := y) (l := c1 :: c2 :: c3 :: c4 :: r)
    have h1 := pow3 (r.length)
    have h2 := Nat.pow_le_pow_right (n := 3) (by decide) (show r.length + 4 ≤ (c1 :: c2 :: c3 :: c4 :: r : List Str).length + b.length by simp)
    rw [Nat.pow_add] at h2
    have h3 : (c1 :: c2 :: c3 :: c4 :: r : List Str).length = r.length + 4 := by simp
    rw [h3] at h0
    omega
def S27 (y : Str) (ns ls : List Str) : List WKey := [([y], []), ([y, y], []), ([y, y, y], [])] ++ ((ns.erase y).map (fun a => ([y, a], [])) ++ ((ns.erase y).map (fun a => ([a, y], [])) ++ ls.map fun l => ([y], [l])))
theorem calls_one {ns ls : List Str} {ws as : List Wy} (h : Aok ns ls ws as) (hw : wts ws ≤ 243) (hn : ns.length ≤ 4) (nd : ns.Nodup) (hl : ls.length ≤ 3) {y : Str} (hy : y ∈ ns) : (as.map fun a => a.cs.count y).sum ≤ 24 := by
  have h1 := sum_le_of (fun a : Wy => a.cs.count y) (fun a => 2 * wt a.key + mu27 y a.key) 27 0 as (fun a _ => by have := mu27_ok y a.key; simp [Wy.key] at this ⊢; exact this)
  have h2 : (as.map fun a => 2 * wt a.key + mu27 y a.key).sum = 2 * wts as + ((as.map Wy.key).map (mu27 y)).sum := by
    rw [sum_add (fun a : Wy => wt a.key) (fun a => mu27 y a.key) 2 as, List.map_map]; rfl
  have me : ∀ a, a ∈ ns.erase y ↔ a ≠ y ∧ a ∈ ns := fun a => List.Nodup.mem_erase_iff nd
  have h3 := sum_nodup_le (mu27 y) (as.map Wy.key) (S27 y ns ls) h.nd fun k hk => by
    obtain ⟨a, ha, rfl⟩ := List.mem_map.mp hk
    have hc := (h.el a ha).2.2.2.1
    have hd := (h.el a ha).2.2.2.2
    unfold Wy.key
    by_cases hz : mu27 y (a.cs, a.ls) = 0
    · exact .inr hz
    left
    unfold mu27 at hz
    dsimp only at hz
    unfold S27
    by_cases e0 : a.ls = []
    · rw [if_pos e0] at hz
      rw [e0]
      by_cases e1 : a.cs = [y]
      · rw [e1]; simp
      rw [if_neg e1] at hz
      by_cases e2 : a.cs = [y, y]
      · rw [e2]; simp
      rw [if_neg e2] at hz
      by_cases e3 : a.cs.length = 2 ∧ y ∈ a.cs
      · obtain ⟨e3, e4⟩ := e3
        match hcs : a.cs, e3 with
        | [u, v], _ =>
          rw [hcs] at hc e2 e4
          refine List.mem_append_right _ ?_
          by_cases eu : u = y
          · subst eu
            have ev : v ≠ u := fun e => e2 (by rw [e])
            exact List.mem_append_left _ (List.mem_map.mpr ⟨v, (me v).mpr ⟨ev, hc v (by simp)⟩, rfl⟩)
          · have ev : v = y := by simpa [Ne.symm eu, eq_comm] using e4
            subst ev
            exact List.mem_append_right _ (List.mem_append_left _ (List.mem_map.mpr ⟨u, (me u).mpr ⟨eu, hc u (by simp)⟩, rfl⟩))
      rw [if_neg e3] at hz
      by_cases e5 : a.cs = [y, y, y]
      · rw [e5]; simp
      rw [if_neg e5] at hz
      exact absurd rfl hz
    · rw [if_neg e0] at hz
      by_cases e1 : a.cs = [y] ∧ a.ls.length = 1
      · obtain ⟨e1, e2⟩ := e1
        match hls : a.ls, e2 with
        | [l], _ =>
          rw [hls] at hd
          rw [e1]
          exact List.mem_append_right _ (List.mem_append_right _ (List.mem_append_right _ (List.mem_map.mpr ⟨l, hd l (by simp), rfl⟩)))
      · rw [if_neg e1] at hz
        exact absurd rfl hz
  have h4 : ((S27 y ns ls).map (mu27 y)).sum ≤ 165 := by
    have le : (ns.erase y).length ≤ 3 := by rw [List.length_erase_of_mem hy]; omega
    have e1 : (((ns.erase y).map fun a => (([y, a], []) : WKey)).map (mu27 y)).sum = 9 * (ns.erase y).length := by
      rw [List.map_map]
      exact sum_eq _ 9 _ fun a ha => by have := ((me a).mp ha).1; simp [mu27, this]
    have e2 : (((ns.erase y).map fun a => (([a, y], []) : WKey)).map (mu27 y)).sum = 9 * (ns.erase y).length := by
      rw [List.map_map]
      exact sum_eq _ 9 _ fun a ha => by have := ((me a).mp ha).1; simp [mu27, this]
    have e3 : ((ls.map fun l => (([y], [l]) : WKey)).map (mu27 y)).sum = 9 * ls.length := by
      rw [List.map_map]
      exact sum_eq _ 9 _ fun a _ => by simp [mu27]
    unfold S27
    rw [List.map_append, List.map_append, List.map_append, List.sum_append_nat, List.sum_append_nat, List.sum_append_nat, e1, e2, e3]
    have e4 : (([([y], []), ([y, y], []), ([y, y, y], [])] : List WKey).map (mu27 y)).sum = 84 := by simp [mu27]
    rw [e4]
    omega
  have := h.wt
  omega
end DL

set_option Elab.async false
set_option linter.all false
set_option maxRecDepth 100000
set_option maxHeartbeats 4000000
/-! K31R: what is reached by calls, step by step -/
namespace DL
open PySem
section
variable (cl : Str → List Str)
def newS (f : List Str) : List Str := (f.flatMap cl).filter fun z => decide (z ∉ f)
def itF : Nat → List Str → List Str
  | 0, f => f
  | n + 1, f => itF n f ++ newS cl (itF n f)
def clsd (f : List Str) : Prop := ∀ y ∈ f, ∀ z ∈ cl y, z ∈ f
end
def nIn (ns f : List Str) : Nat := ns.countP fun z => decide (z ∈ f)
theorem nIn_le (ns f : List Str) : nIn ns f ≤ ns.length := List.countP_le_length
theorem nIn_split {f g : List Str} : ∀ ns : List Str, nIn ns f + (ns.filter fun z => decide (z ∉ f ∧ z ∈ f ++ g)).length = nIn ns (f ++ g)
  | [] => by simp [nIn]
  | x :: ns => by
    have ih := nIn_split (f := f) (g := g) ns
    unfold nIn at ih ⊢
    rw [List.countP_cons, List.countP_cons, List.filter_cons]
    by_cases h1 : x ∈ f
    · simp [h1] at ih ⊢; omega
    · by_cases h2 : x ∈ g
      · simp [h1, h2] at ih ⊢; omega
      · simp [h1, h2] at ih ⊢; omega
theorem len_count : ∀ (l S : List Str), (∀ y ∈ l, y ∈ S) → l.length ≤ (S.map fun z => l.count z).sum
  | [], S, _ => by simp
  | x :: l, S, h => by
    have ih := len_count l S fun y hy => h y (.tail _ hy)
    have hx := h x (.head _)
    have : ∀ S : List Str, x ∈ S → (S.map fun z => l.count z).sum + 1 ≤ (S.map fun z => (x :: l).count z).sum := by
      intro S
      induction S with
      | nil => intro h; simp at h
      | cons y S ih =>
        intro h
        have mono : (S.map fun z => l.count z).sum ≤ (S.map fun z => (x :: l).count z).sum := by
          clear ih h
          induction S with
          | nil => simp
          | cons u S ih => simp only [List.map_cons, List.sum_cons]; have := List.count_le_count_cons (a := u) (b := x) (l := l); omega
        simp only [List.map_cons, List.sum_cons]
        rcases List.mem_cons.mp h with rfl | h
        · rw [List.count_cons_self]; omega
        · have := ih h; have := List.count_le_count_cons (a := y) (b := x) (l := l); omega
    have := this S hx
    simp only [List.length_cons]; omega
theorem sum_le_mul {α : Type} (f : α → Nat) (c : Nat) : ∀ xs : List α, (∀ x ∈ xs, f x ≤ c) → (xs.map f).sum ≤ c * xs.length
  | [], _ => by simp
  | x :: xs, h => by
    have := h x (.head _)
    have := sum_le_mul f c xs fun y hy => h y (.tail _ hy)
    rw [List.map_cons, List.sum_cons, List.length_cons, Nat.mul_add]; omega
def tab : Nat → Nat → Nat
  | 0, s => 24 * s
  | 1, 2 => 576
  | 1, 3 => 1152
  | 1, 4 => 2304
  | 2, 3 => 13824
  | 2, 4 => 27648
  | 3, 4 => 331776
  | _, _ => 0
theorem tab_step : ∀ j < 4, ∀ s < 5, ∀ s' < 5, s ≤ s' → 24 * (s' - s) * tab j s ≤ tab (j + 1) s' := by decide
def tot : Nat → Nat
  | 0 => 96
  | 1 => 2400
  | 2 => 30048
  | _ => 361824
theorem tab_tot : ∀ j < 4, ∀ s < 5, tot j + tab (j + 1) s ≤ tot (j + 1) := by decide
structure Names (ns : List Str) (cl : Str → List Str) : Prop where
  nd : ns.Nodup
  le : ns.length ≤ 4
  sub : ∀ x ∈ ns, ∀ y ∈ cl x, y ∈ ns
  len : ∀ x ∈ ns, (cl x).length ≤ 45
  one : ∀ x ∈ ns, ∀ y ∈ ns, (cl x).count y ≤ 24
structure Stg (ns : List Str) (cl : Str → List Str) (x : Str) (j : Nat) (pv lt : List Str) : Prop where
  e : itF cl j (cl x) = pv ++ lt
  c : ∀ y ∈ pv, ∀ z ∈ cl y, z ∈ pv ++ lt
  s : ∀ y ∈ pv ++ lt, y ∈ ns
  r : ∀ y ∈ pv ++ lt, Rch cl x y
  a : lt.length ≤ tab j (nIn ns (pv ++ lt))
  t : (pv ++ lt).length ≤ tot j
theorem filt_len {ns l f g : List Str} (hl : ∀ z ∈ l, z ∈ ns) (h1 : ∀ y ∈ ns, l.count y ≤ 24) (hg : ∀ z ∈ l, z ∉ f → z ∈ g) :
    (l.filter fun z => decide (z ∉ f)).length ≤ 24 * (ns.filter fun z => decide (z ∉ f ∧ z ∈ f ++ g)).length := by
  refine Nat.le_trans (len_count _ (ns.filter fun z => decide (z ∉ f ∧ z ∈ f ++ g)) fun y hy => ?_) (sum_le_mul _ 24 _ fun y hy => ?_)
  · obtain ⟨h2, h3⟩ := List.mem_filter.mp hy
    have h3 : y ∉ f := by simpa using h3
    exact List.mem_filter.mpr ⟨hl y h2, by simp [h3, hg y h2 h3]⟩
  · have := h1 y (List.mem_filter.mp hy).1
    have h4 : (l.filter fun z => decide (z ∉ f)).count y ≤ l.count y := List.Sublist.count_le _ List.filter_sublist
    omega
theorem stg {ns : List Str} {cl : Str → List Str} (N : Names ns cl) {x : Str} (hx : x ∈ ns) : ∀ j, j ≤ 4 → ∃ pv lt, Stg ns cl x j pv lt
  | 0, _ => by
    refine ⟨[], cl x, rfl, by simp, by simpa using N.sub x hx, by simpa using fun y hy => Rch.one hy, ?_, ?_⟩
    · have h := filt_len (ns := ns) (l := cl x) (f := []) (g := cl x) (N.sub x hx) (N.one x hx) (fun z hz _ => hz)
      have h2 := nIn_split (f := []) (g := cl x) ns
      have h0 : nIn ns [] = 0 := by simp [nIn]
      rw [h0, Nat.zero_add] at h2
      rw [h2] at h
      have e : ((cl x).filter fun z => decide (z ∉ ([] : List Str))) = cl x := List.filter_eq_self.mpr fun z _ => by simp
      rw [e] at h
      exact h
    · have := N.len x hx
      simp [tot]; omega
  | j + 1, hj => by
    obtain ⟨pv, lt, S⟩ := stg N hx j (by omega)
    have enew : newS cl (pv ++ lt) = (lt.flatMap cl).filter fun z => decide (z ∉ pv ++ lt) := by
      unfold newS
      rw [List.flatMap_append, List.filter_append]
      have : ((pv.flatMap cl).filter fun z => decide (z ∉ pv ++ lt)) = [] := by
        rw [List.filter_eq_nil_iff]
        intro z hz
        obtain ⟨y, hy, hz⟩ := List.mem_flatMap.mp hz
        have := S.c y hy z hz
        simp only [decide_eq_true_eq, Decidable.not_not]; exact this
      rw [this, List.nil_append]
    have hmem : ∀ z ∈ newS cl (pv ++ lt), ∃ y ∈ pv ++ lt, z ∈ cl y := fun z hz => by
      obtain ⟨h1, _⟩ := List.mem_filter.mp hz
      exact List.mem_flatMap.mp h1
    have hs : ∀ z ∈ newS cl (pv ++ lt), z ∈ ns := fun z hz => by
      obtain ⟨y, hy, h⟩ := hmem z hz
      exact N.sub y (S.s y hy) z h
    have hlen : (newS cl (pv ++ lt)).length ≤ 24 * (nIn ns (pv ++ lt ++ newS cl (pv ++ lt)) - nIn ns (pv ++ lt)) * lt.length := by
      have h2 := nIn_split (f := pv ++ lt) (g := newS cl (pv ++ lt)) ns
      have h3 : ∀ y ∈ lt, ((cl y).filter fun z => decide (z ∉ pv ++ lt)).length ≤ 24 * (ns.filter fun z => decide (z ∉ pv ++ lt ∧ z ∈ pv ++ lt ++ newS cl (pv ++ lt))).length := fun y hy => by
        have hyn := S.s y (List.mem_append_right _ hy)
        exact filt_len (N.sub y hyn) (N.one y hyn) fun z hz hn => by
          rw [enew]
          exact List.mem_filter.mpr ⟨List.mem_flatMap.mpr ⟨y, hy, hz⟩, by simpa using hn⟩
      have h4 := sum_le_mul (fun y => ((cl y).filter fun z => decide (z ∉ pv ++ lt)).length) _ lt h3
      have h5 : (newS cl (pv ++ lt)).length = (lt.map fun y => ((cl y).filter fun z => decide (z ∉ pv ++ lt)).length).sum := by
        rw [enew, List.filter_flatMap, List.length_flatMap]
      rw [h5]
      have h6 : nIn ns (pv ++ lt ++ newS cl (pv ++ lt)) - nIn ns (pv ++ lt) = (ns.filter fun z => decide (z ∉ pv ++ lt ∧ z ∈ pv ++ lt ++ newS cl (pv ++ lt))).length := by omega
      rw [h6]; exact h4
    have hn1 := nIn_le ns (pv ++ lt)
    have hn2 := nIn_le ns (pv ++ lt ++ newS cl (pv ++ lt))
    have hn3 : nIn ns (pv ++ lt) ≤ nIn ns (pv ++ lt ++ newS cl (pv ++ lt)) := by
      have h2 := nIn_split (f := pv ++ lt) (g := newS cl (pv ++ lt)) ns
      omega
    have hle := N.le
    have ha : (newS cl (pv ++ lt)).length ≤ tab (j + 1) (nIn ns (pv ++ lt ++ newS cl (pv ++ lt))) :=
      Nat.le_trans hlen (Nat.le_trans (Nat.mul_le_mul_left _ S.a) (tab_step j (by omega) _ (by omega) _ (by omega) hn3))
    refine ⟨pv ++ lt, newS cl (pv ++ lt), by show itF cl j (cl x) ++ newS cl (itF cl j (cl x)) = _; rw [S.e], ?_, ?_, ?_, ha, ?_⟩
    · intro y hy z hz
      by_cases h : z ∈ pv ++ lt
      · exact List.mem_append_left _ h
      · exact List.mem_append_right _ (List.mem_filter.mpr ⟨List.mem_flatMap.mpr ⟨y, hy, hz⟩, by simpa using h⟩)
    · intro y hy
      rcases List.mem_append.mp hy with hy | hy
      · exact S.s y hy
      · exact hs y hy
    · intro y hy
      rcases List.mem_append.mp hy with hy | hy
      · exact S.r y hy
      · obtain ⟨u, hu, h⟩ := hmem y hy
        exact .more (S.r u hu) h
    · rw [List.length_append]
      have := S.t
      have := tab_tot j (by omega) (nIn ns (pv ++ lt ++ newS cl (pv ++ lt))) (by omega)
      omega
theorem flat_len {cl : Str → List Str} {c : Nat} : ∀ f : List Str, (∀ y ∈ f, (cl y).length ≤ c) → (f.flatMap cl).length ≤ c * f.length := fun f h => by
  rw [List.length_flatMap]; exact sum_le_mul _ c f h
theorem clsd_step {ns : List Str} {cl : Str → List Str} {x : Str} (hsub : ∀ x ∈ ns, ∀ y ∈ cl x, y ∈ ns) (hx : x ∈ ns) : ∀ j, (∀ y ∈ itF cl j (cl x), y ∈ ns) ∧ (clsd cl (itF cl j (cl x)) ∨ j + 1 ≤ nIn ns (itF cl j (cl x)))
  | 0 => by
    refine ⟨hsub x hx, ?_⟩
    show clsd cl (cl x) ∨ 0 + 1 ≤ nIn ns (cl x)
    cases e : cl x with
    | nil => left; intro y hy; simp at hy
    | cons y r =>
      right
      have hy : y ∈ ns := hsub x hx y (by rw [e]; simp)
      have : 0 < nIn ns (y :: r) := List.countP_pos_iff.mpr ⟨y, hy, by simp⟩
      omega
  | j + 1 => by
    obtain ⟨h1, h2⟩ := clsd_step hsub hx j
    show (∀ y ∈ itF cl j (cl x) ++ newS cl (itF cl j (cl x)), y ∈ ns) ∧ _
    generalize hf : itF cl j (cl x) = f at h1 h2
    have hs : ∀ z ∈ newS cl f, z ∈ ns := fun z hz => by
      obtain ⟨h1', _⟩ := List.mem_filter.mp hz
      obtain ⟨y, hy, h⟩ := List.mem_flatMap.mp h1'
      exact hsub y (h1 y hy) z h
    refine ⟨fun y hy => (List.mem_append.mp hy).elim (h1 y) (hs y), ?_⟩
    show clsd cl (itF cl j (cl x) ++ newS cl (itF cl j (cl x))) ∨ j + 1 + 1 ≤ nIn ns (itF cl j (cl x) ++ newS cl (itF cl j (cl x)))
    rw [hf]
    cases e : newS cl f with
    | nil =>
      rw [List.append_nil]
      left
      intro y hy z hz
      apply Decidable.byContradiction
      intro hn
      have : z ∈ newS cl f := List.mem_filter.mpr ⟨List.mem_flatMap.mpr ⟨y, hy, hz⟩, by simpa using hn⟩
      rw [e] at this; simp at this
    | cons z r =>
      have hz : z ∈ newS cl f := by rw [e]; simp
      have hzf : z ∉ f := by simpa using (List.mem_filter.mp hz).2
      right
      rcases h2 with h2 | h2
      · obtain ⟨h1', _⟩ := List.mem_filter.mp hz
        obtain ⟨y, hy, h⟩ := List.mem_flatMap.mp h1'
        exact absurd (h2 y hy z h) hzf
      · have h3 := nIn_split (f := f) (g := z :: r) ns
        have h4 : 0 < (ns.filter fun u => decide (u ∉ f ∧ u ∈ f ++ z :: r)).length := List.length_pos_of_mem (List.mem_filter.mpr ⟨hs z hz, by simp [hzf]⟩)
        omega
theorem itF_le {cl : Str → List Str} {f : List Str} : ∀ j, ∀ y ∈ f, y ∈ itF cl j f
  | 0, y, hy => hy
  | j + 1, y, hy => List.mem_append_left _ (itF_le j y hy)
theorem rch_itF {ns : List Str} {cl : Str → List Str} (N : Names ns cl) {x : Str} (hx : x ∈ ns) {y : Str} : y ∈ itF cl ns.length (cl x) ↔ Rch cl x y := by
  obtain ⟨h1, h2⟩ := clsd_step N.sub hx ns.length
  have hc : clsd cl (itF cl ns.length (cl x)) := by
    rcases h2 with h2 | h2
    · exact h2
    · have := nIn_le ns (itF cl ns.length (cl x)); omega
  constructor
  · obtain ⟨pv, lt, S⟩ := stg N hx ns.length N.le
    rw [S.e]; exact S.r y
  · intro h
    induction h with
    | one h => exact itF_le _ _ h
    | more _ h ih => exact hc _ ih _ h
theorem tot_le : ∀ j, tot j ≤ 361824
  | 0 => by decide
  | 1 => by decide
  | 2 => by decide
  | _ + 3 => Nat.le_refl _
theorem itF_ok {ns : List Str} {cl : Str → List Str} (N : Names ns cl) {x : Str} (hx : x ∈ ns) {j : Nat} (hj : j ≤ 4) : (∀ y ∈ itF cl j (cl x), y ∈ ns) ∧ (itF cl j (cl x)).length ≤ 361824 ∧ ((itF cl j (cl x)).flatMap cl).length ≤ 16282080 := by
  obtain ⟨pv, lt, S⟩ := stg N hx j hj
  rw [S.e]
  have h1 := S.t
  have h2 := tot_le j
  have h3 := flat_len (cl := cl) (c := 45) (pv ++ lt) fun y hy => N.len y (S.s y hy)
  exact ⟨S.s, by omega, by omega⟩
end DL

set_option Elab.async false
set_option linter.all false
set_option maxRecDepth 100000
set_option maxHeartbeats 4000000
namespace DL
open PySem
theorem no_law_ways : ∀ E ds M Q, ¬ S_law_ways 0 E ds M Q := by
  intro E ds M Q h
  obtain ⟨x, ch, cs, ls, fd, rfl, b, w, ns, lt, k, m, a, xs, rfl, rfl, rfl, rfl, rfl, hm, h⟩ := fn5_e h
  omega
theorem ob_law_ways (n : Nat) : ∀ E ds M Q, S_law_ways (n + 1) E ds M Q → B_law_ways n E (endsL Q) (start 7 ds) M := by
  intro E ds M Q h
  obtain ⟨x, ch, cs, ls, fd, rfl, b, w, ns, lt, k, m, a, xs, rfl, rfl, rfl, rfl, rfl, hm, hb, hk, hg, ea, hx, hq⟩ := fn5_e h
  have hsz := sizeLine_ge
  have hc := hg.c
  have hl := hg.l
  cases b with
  | fin =>
    simp [Bd.ways] at hx hq
    simp [B_law_ways, Bd.d, ea]
    exact ⟨by omega, _, Le.refl, hq⟩
  | stop =>
    simp [Bd.ways] at hx hq
    rw [set_self ea] at hq
    simp [B_law_ways, Bd.d]
    exact ⟨_, Le.refl, hq⟩
  | tell s b' =>
    simp only [Bd.ok] at hb
    obtain ⟨hs, m, rfl, hb⟩ := hb
    simp [Bd.ways] at hx hq
    simp [B_law_ways, Bd.d, S_law_ways]
    exact ⟨by omega, _, rfl, ⟨w.ch, w.cs, w.ls ++ [s]⟩, rfl, rfl, by simp, ns, lt, k + 1, m, by omega, hb, by omega, hg.tell hs, xs, ea, by omega, _, Le.refl, hq⟩
  | call s b' =>
    simp only [Bd.ok] at hb
    obtain ⟨hs, m, rfl, hb⟩ := hb
    simp [Bd.ways] at hx hq
    simp [B_law_ways, Bd.d, S_law_ways]
    exact ⟨by omega, _, rfl, ⟨w.ch, w.cs ++ [s], w.ls⟩, rfl, by simp, rfl, ns, lt, k + 1, m, by omega, hb, by omega, hg.call hs, xs, ea, by omega, _, Le.refl, hq⟩
  | draw r =>
    simp only [Bd.ok] at hb
    obtain ⟨hs, m, rfl, hb⟩ := hb
    rw [rw_ok] at hb
    have hfs : ∀ x ∈ r.l, Gf N0 1 x.1 := fun x hx => cut_gf hs (by rw [rw_fs]; exact List.mem_map.mpr ⟨x, hx, rfl⟩)
    simp only [Bd.ways, rw_ways] at hx hq
    simp [B_law_ways, Bd.d, rw_ds]
    refine for_ind (fun ys e m' => ∃ (dn rs : List ((Int × Int) × Bd)) (x5 x6 : Option D), ys = rs.map dRB ∧ dn ++ rs = r.l ∧ e = [some (.tup [.str "draw", .tup (r.l.map dRB)]), some (dF w.ch), some (.tup (w.cs.map .str)), some (.tup (w.ls.map .str)), some (.ref a), x5, x6] ∧
      m' = M.set a (.lst (xs ++ (dn.flatMap fun x => x.2.ways (w.mul x.1)).map dW))) ?_ ?_ _ _ _ ⟨[], r.l, none, none, rfl, rfl, rfl, by simp; exact (set_self ea).symm⟩
    · rintro y ys e m' ⟨dn, rs, y5, y6, hy, hd, rfl, rfl⟩
      obtain ⟨q, rs, rfl⟩ : ∃ q rs', rs = q :: rs' := by
        cases rs with
        | nil => simp at hy
        | cons q rs => exact ⟨q, rs, rfl⟩
      simp at hy
      obtain ⟨rfl, rfl⟩ := hy
      have hql : q ∈ r.l := by rw [← hd]; simp
      refine ⟨trivial, fun N hN => ?_⟩
      have g1 := hg.f
      have g2 := hfs q hql
      have s1 := wok_sm hg (by omega)
      have s2 := (g2.dvd (N' := N0 ^ 5) (by decide)).sm (by decide)
      have hl2 : xs.length + ((dn.flatMap fun x => x.2.ways (w.mul x.1)).length + (q.2.ways (w.mul q.1)).length) ≤ 1000 := by
        rw [← hd] at hx
        simp at hx ⊢; omega
      simp [FB_law_ways_1, dRB, S_law_times]
      refine ⟨w.ch.1, w.ch.2, rfl, q.1.1, q.1.2, rfl, g1.p, g2.p, s1.1.mono (by decide), s1.2.mono (by decide), s2.1.mono (by decide), s2.2.mono (by decide), ?_⟩
      simp [S_law_ways]
      refine ⟨_, rfl, w.mul q.1, rfl, rfl, rfl, ns, lt, k + 1, m, by omega, hb q hql, by omega, hg.mul g2, by simp at hl2 ⊢; omega, ?_⟩
      exact hN _ _ ⟨dn ++ [q], rs, _, _, rfl, by simpa using hd, rfl, by simp [set_set]⟩
    · rintro e m' ⟨dn, rs, y5, y6, hy, hd, rfl, rfl⟩
      have : rs = [] := by simpa using hy.symm
      subst this
      rw [List.append_nil] at hd
      subst hd
      exact ⟨trivial, _, Le.refl, hq⟩
theorem set_upW {w r : Wy} : ∀ {acc : List Wy} {i : Nat}, (acc.map Wy.key).Nodup → acc[i]? = some r → r.key = w.key → acc.set i (upW w r) = acc.map (upW w)
  | [], i, _, h, _ => by simp at h
  | x :: acc, 0, nd, h, e => by
    simp at h; subst h
    rw [List.map_cons, List.nodup_cons] at nd
    rw [List.set_cons_zero, List.map_cons]
    congr 1
    rw [List.map_congr_left (g := id), List.map_id]
    intro y hy
    unfold upW
    rw [if_neg]; rfl
    intro z
    exact nd.1 (by rw [e, ← z]; exact List.mem_map.mpr ⟨y, hy, rfl⟩)
  | x :: acc, i + 1, nd, h, e => by
    rw [List.map_cons, List.nodup_cons] at nd
    rw [List.getElem?_cons_succ] at h
    rw [List.set_cons_succ, List.map_cons, set_upW nd.2 h e]
    congr 1
    unfold upW
    rw [if_neg]
    intro z
    exact nd.1 (by rw [z, ← e]; exact List.mem_map.mpr ⟨r, List.mem_of_getElem? h, rfl⟩)
theorem names_ok : (∀ ns ∈ allN, ∀ s ∈ ns, PyData.strOk s = true) ∧ ∀ ls ∈ allL, ∀ s ∈ ls, PyData.strOk s = true := by decide +kernel
theorem pls_str : ∀ {xs : List Str}, (∀ s ∈ xs, PyData.strOk s = true) → plsB (xs.map .str) = true
  | [], _ => rfl
  | x :: xs, h => by
    simp only [List.map_cons, plsB, plB, Bool.and_eq_true]
    exact ⟨h x (.head _), pls_str fun s hs => h s (.tail _ hs)⟩
theorem dpts_str : ∀ xs : List Str, dpts (xs.map .str) = 0
  | [] => rfl
  | x :: xs => by simp [dpts, dpt, dpts_str xs]
theorem pl_kD {k : WKey} (h1 : ∀ s ∈ k.1, PyData.strOk s = true) (h2 : ∀ s ∈ k.2, PyData.strOk s = true) : plB (kD k) = true ∧ dpt (kD k) ≤ 64 := by
  refine ⟨?_, ?_⟩
  · simp [kD, plB, plsB, pls_str h1, pls_str h2]
  · simp [kD, dpt, dpts, dpts_str]
def tstK (acc : List Wy) (k : WKey) (x : D) : Bool := match x with
  | .int i => decide (acc[i.toNat]?.map Wy.key = some k)
  | _ => false
def LaI (M : Sto) (a v t : Addr) (pr : D) (dn : List (Str × Bd)) (nm bd : D) (ws : List Wy) (xs : List D) (e : Ev) (m : Sto) : Prop := ∃ (dw rw : List Wy) (x6 x7 x8 x9 x10 : Option D), xs = rw.map dW ∧ dw ++ rw = ws ∧
  e = [some pr, some (.ref a), some nm, some bd, some (.ref v), some (.ref t), x6, x7, x8, x9, x10] ∧ m a = some (.lst (dn.map dAlt)) ∧ m v = some (.lst (ws.map dW)) ∧ m t = some (.lst ((dw.foldl mrg []).map dW)) ∧ Le M m
theorem ob_law_alternatives : ∀ E ds M Q, S_law_alternatives E ds M Q → B_law_alternatives E (endsL Q) (start 11 ds) M := by
  intro E ds M Q h
  obtain ⟨x, rfl, ps, ls, rfl, ⟨hns, hls, hps⟩, hq⟩ := fn1_e (show S_alternatives E ds M Q from h)
  have hsz := sizeLine_ge
  have hpl : ps.length ≤ 4 := by have := (allN_ne _ hns).2; simpa using this
  simp [B_law_alternatives]
  intro a ha
  refine go ?_
  simp
  refine for_ind (fun xs e m => ∃ (dn rs : List (Str × Bd)) (x2 x3 x4 x5 x6 x7 x8 x9 x10 : Option D), xs = rs.map dBP ∧ dn ++ rs = ps ∧ e = [some (.tup (ps.map dBP)), some (.ref a), x2, x3, x4, x5, x6, x7, x8, x9, x10] ∧ m a = some (.lst (dn.map dAlt)) ∧ Le M m)
    ?_ ?_ _ _ _ ⟨[], ps, none, none, none, none, none, none, none, none, none, rfl, rfl, rfl, by rw [set_same]; rfl, Le.refl.fresh ha⟩
  · rintro x xs e m ⟨dn, rs, x2, x3, x4, x5, x6, x7, x8, x9, x10, hx, hd, rfl, ea, hl⟩
    obtain ⟨r, rs, rfl⟩ : ∃ q rs', rs = q :: rs' := by
      cases rs with
      | nil => simp at hx
      | cons q rs => exact ⟨q, rs, rfl⟩
    simp at hx
    obtain ⟨rfl, rfl⟩ := hx
    have hdl : dn.length ≤ 4 := by have := congrArg List.length hd; simp at this; omega
    have hb := hps r (by rw [← hd]; simp)
    have h5 := ways5 hb
    refine ⟨trivial, fun N hN => ?_⟩
    simp [FB_law_alternatives_2, dBP]
    intro v hv
    have hav : a ≠ v := ne_of ea hv
    have hMv : M v = none := by
      cases e : M v with
      | none => rfl
      | some o => rw [hl v o e] at hv; cases hv
    refine go ?_
    simp [S_law_ways]
    refine ⟨r.2, rfl, w0, rfl, rfl, rfl, _, ls, 0, 5, by omega, hb, by omega, wok0, by have := h5.2.2; omega, go ?_⟩
    simp
    intro t ht
    rw [set_set] at ht ⊢
    obtain ⟨ht1, ht2⟩ := set_none.mp ht
    have hat : a ≠ t := ne_of ea ht2
    have hMt : M t = none := by
      cases e : M t with
      | none => rfl
      | some o => rw [hl t o e] at ht2; cases ht2
    refine go ?_
    simp
    rw [set_ne ht1.symm, set_same]
    simp
    refine for_ind (LaI M a v t (.tup (ps.map dBP)) dn (.str r.1) r.2.d (r.2.ways w0)) ?_ ?_ _ _ _ ⟨[], r.2.ways w0, x6, x7, x8, x9, x10, rfl, rfl, rfl, by rw [set_ne hat, set_ne hav, ea], by rw [set_ne ht1.symm, set_same], by rw [set_same]; rfl, (hl.fresh hMv).fresh hMt⟩
    · rintro y ys e m ⟨dw, rw', y6, y7, y8, y9, y10, hy, hdw, rfl, ea, ev, et, hl⟩
      obtain ⟨w, rw', rfl⟩ : ∃ q rs', rw' = q :: rs' := by
        cases rw' with
        | nil => simp at hy
        | cons q rs => exact ⟨q, rs, rfl⟩
      simp at hy
      obtain ⟨rfl, rfl⟩ := hy
      refine ⟨ev, fun N' hN' => ?_⟩
      have hA := aok_fold dw [] [] (aok0 (ns := ps.map Prod.fst) (ls := ls)) fun v hv => h5.1 v (by rw [← hdw]; exact List.mem_append_left _ hv)
      rw [List.nil_append] at hA
      generalize hacc : dw.foldl mrg [] = acc at hA et
      have hw := h5.1 w (by rw [← hdw]; simp)
      have hdl : dw.length ≤ 243 := by have h6 := congrArg List.length hdw; have := h5.2.2; simp at h6; omega
      have hal : acc.length ≤ 243 := by
        have h1 := len_wts acc
        have h2 := hA.wt
        have h3 : wts dw ≤ wts (r.2.ways w0) := by rw [← hdw, wts_app]; omega
        have := h5.2.1
        omega
      simp [FB_law_alternatives_1, dW, et]
      refine ⟨by omega, fun s hs => ?_⟩
      have hst : t ≠ s := ne_of et hs
      have hsv : v ≠ s := ne_of ev hs
      have hsa : a ≠ s := ne_of ea hs
      have hpl1 : ∀ u : Wy, (∀ x ∈ u.cs, x ∈ ps.map Prod.fst) → (∀ x ∈ u.ls, x ∈ ls) → plB (kD u.key) = true ∧ dpt (kD u.key) ≤ 64 := fun u h1 h2 => pl_kD (fun x hx => names_ok.1 _ hns _ (h1 x hx)) (fun x hx => names_ok.2 _ hls _ (h2 x hx))
      refine comp_filter id (tstK acc w.key) (fun m' => m' t = some (.lst (acc.map dW))) (fun m' o hm => by rw [set_ne hst]; exact hm) (fun _ _ => trivial) _ [] _ ?_ (by rw [rangeL_len]; simp; omega) set_same (by rw [set_ne hst]; exact et) ?_
      · intro x hx m' T N2 hm hT
        obtain ⟨k, h0, h1, rfl⟩ := mem_rangeL hx
        have h2 : k.toNat < acc.length := by omega
        have e2 : acc[k.toNat]? = some acc[k.toNat] := List.getElem?_eq_getElem h2
        have hu := hA.el acc[k.toNat] (List.getElem_mem h2)
        simp only [tstK, e2, Option.map_some, Option.some.injEq, decide_eq_true_eq] at hT
        simp [CT_law_alternatives_1, CE_law_alternatives_1, hm, h0, h1, h2, dW]
        rw [cut_from _ (by decide)]
        generalize acc[k.toNat] = u at e2 hu hT ⊢
        have q1 := hpl1 u hu.2.2.2.1 hu.2.2.2.2
        have q2 := hpl1 w hw.cm hw.lm
        refine cEq_pl (x := kD u.key) (y := kD w.key) q1.1 q2.1 q1.2 q2.2 ?_
        by_cases e : u.key = w.key
        · rw [if_pos e] at hT
          rw [if_pos (by rw [e]; simp)]; exact hT
        · rw [if_neg e] at hT
          rw [if_neg (by simpa using fun z => e (kD_inj z))]; exact hT
      · refine go ?_
        rw [set_set]
        simp only [List.nil_append, List.map_id]
        have hstep : ∀ m', m' a = some (.lst (dn.map dAlt)) → m' v = some (.lst ((r.2.ways w0).map dW)) → m' t = some (.lst ((mrg acc w).map dW)) → Le M m' → ∀ z9 z10, N' [some (.tup (ps.map dBP)), some (.ref a), some (.str r.1), some r.2.d, some (.ref v), some (.ref t), some (dF w.ch), some (.tup (w.cs.map .str)), some (.tup (w.ls.map .str)), z9, z10] m' :=
          fun m' h1 h2 h3 h4 z9 z10 => hN' _ _ ⟨dw ++ [w], rw', _, _, _, _, _, rfl, by simpa using hdw, rfl, h1, h2, by rw [List.foldl_append, hacc]; exact h3, h4⟩
        cases hf : (rangeL 0 acc.length).filter (tstK acc w.key) with
        | nil =>
          have hno : w.key ∉ acc.map Wy.key := by
            intro hm
            obtain ⟨u, hu, e⟩ := List.mem_map.mp hm
            obtain ⟨i, hi, rfl⟩ := List.getElem_of_mem hu
            have := List.filter_eq_nil_iff.mp hf (.int i) (by unfold rangeL; exact List.mem_map.mpr ⟨i, List.mem_range.mpr (by omega), by simp⟩)
            simp [tstK, List.getElem?_eq_getElem hi, e] at this
          simp [et, set_ne hst]
          refine ⟨by omega, hstep _ ?_ ?_ ?_ ?_ _ _⟩
          · rw [set_ne hat, set_ne hsa, ea]
          · rw [set_ne ht1.symm, set_ne hsv, ev]
          · rw [set_same, mrg_s, if_neg hno]; simp [dW]
          · exact (hl.fresh (by cases e : M s with | none => rfl | some o => rw [hl s o e] at hs; cases hs)).fresh hMt
        | cons x xs =>
          have hx : x ∈ (rangeL 0 acc.length).filter (tstK acc w.key) := by rw [hf]; exact .head _
          rw [List.mem_filter] at hx
          obtain ⟨hx1, hx2⟩ := hx
          obtain ⟨k, h0, h1, rfl⟩ := mem_rangeL hx1
          have h2 : k.toNat < acc.length := by omega
          have e2 : acc[k.toNat]? = some acc[k.toNat] := List.getElem?_eq_getElem h2
          have hu := hA.el acc[k.toNat] (List.getElem_mem h2)
          simp only [tstK, e2, Option.map_some, Option.some.injEq, decide_eq_true_eq] at hx2
          have hset := set_upW (w := w) hA.nd e2 hx2
          have s1 := hu.1.sm (by omega)
          have s2 := hw.f.sm (by decide)
          simp [et, set_ne hst, h0, h1, h2]
          refine go ?_
          simp [et, set_ne hst, h0, h1, h2, S_law_plus, dW]
          generalize acc[k.toNat] = u at e2 hu hx2 hset s1 ⊢
          refine ⟨u.ch.1, u.ch.2, rfl, w.ch.1, w.ch.2, rfl, hu.1.p, hw.f.p, s1.1.mono (by decide), s1.2.mono (by decide), s2.1.mono (by decide), s2.2.mono (by decide), hstep _ ?_ ?_ ?_ ?_ _ _⟩
          · rw [set_ne hat, set_ne hsa, ea]
          · rw [set_ne ht1.symm, set_ne hsv, ev]
          · have hin : w.key ∈ acc.map Wy.key := List.mem_map.mpr ⟨u, List.mem_of_getElem? e2, hx2⟩
            have hup : dW (upW w u) = .tup [dF (fr (u.ch.1 * w.ch.2 + w.ch.1 * u.ch.2) (u.ch.2 * w.ch.2)), .tup (w.cs.map .str), .tup (w.ls.map .str)] := by
              unfold upW
              rw [if_pos hx2]
              have e3 : u.cs = w.cs := congrArg Prod.fst hx2
              have e4 : u.ls = w.ls := congrArg Prod.snd hx2
              unfold dW addF
              rw [e3, e4]
            rw [set_same, mrg_s, if_pos hin, ← hset, List.map_set, hup]
          · exact (hl.fresh (by cases e : M s with | none => rfl | some o => rw [hl s o e] at hs; cases hs)).fresh hMt
    · rintro e m ⟨dw, rw', y6, y7, y8, y9, y10, hy, hdw, rfl, ea, ev, et, hl⟩
      have : rw' = [] := by simpa using hy.symm
      subst this
      rw [List.append_nil] at hdw
      subst hdw
      refine ⟨ev, ?_⟩
      dsimp only
      refine go ?_
      simp [T_law_alternatives_1, et, ea]
      exact ⟨by omega, hN _ _ ⟨dn ++ [r], rs, _, _, _, _, _, _, _, _, _, rfl, by simpa using hd, rfl, by rw [set_same]; simp [dAlt, Bd.alts, alts], hl.fresh ha⟩⟩
  · rintro e m ⟨dn, rs, x2, x3, x4, x5, x6, x7, x8, x9, x10, hx, hd, rfl, ea, hl⟩
    have : rs = [] := by simpa using hx.symm
    subst this
    rw [List.append_nil] at hd
    subst hd
    refine ⟨trivial, ?_⟩
    dsimp only
    refine go ?_
    simp [T_law_alternatives_2, ea]
    exact ⟨M, hl, hq⟩
/-! ## called_by -/
theorem allN_nd : ∀ ns ∈ allN, ns.Nodup := by decide +kernel
theorem cl_at {ps : List (Str × Bd)} (nd : (ps.map Prod.fst).Nodup) {p : Str × Bd} (hp : p ∈ ps) : clOf ps p.1 = callsOf p.2 := by
  unfold clOf
  have : ps.find? (fun q => decide (q.1 = p.1)) = some p := by
    induction ps with
    | nil => simp at hp
    | cons q ps ih =>
      rw [List.map_cons, List.nodup_cons] at nd
      rw [List.find?_cons]
      rcases List.mem_cons.mp hp with rfl | hp
      · simp
      · have : q.1 ≠ p.1 := fun e => nd.1 (e ▸ List.mem_map.mpr ⟨p, hp, rfl⟩)
        simp [this]
        exact ih nd.2 hp
  rw [this]
theorem calls_names {ns ls : List Str} {b : Bd} (h : b.ok ns ls 5) : ∀ y ∈ callsOf b, y ∈ ns := fun y hy => by
  obtain ⟨a, ha, hy⟩ := List.mem_flatMap.mp hy
  exact ((alts5 h).el a ha).2.2.2.1 y hy
theorem names_of {ps : List (Str × Bd)} {ls : List Str} (h : PB ps ls) : Names (ps.map Prod.fst) (clOf ps) := by
  obtain ⟨hns, hls, hps⟩ := h
  have nd := allN_nd _ hns
  have hn := (allN_ne _ hns).2
  have hl := allL_le _ hls
  have at' : ∀ x ∈ ps.map Prod.fst, ∃ p ∈ ps, p.1 = x ∧ clOf ps x = callsOf p.2 := fun x hx => by
    obtain ⟨p, hp, rfl⟩ := List.mem_map.mp hx
    exact ⟨p, hp, rfl, cl_at nd hp⟩
  refine ⟨nd, hn, fun x hx y hy => ?_, fun x hx => ?_, fun x hx y hy => ?_⟩
  · obtain ⟨p, hp, rfl, e⟩ := at' x hx
    rw [e] at hy
    exact calls_names (hps p hp) y hy
  · obtain ⟨p, hp, rfl, e⟩ := at' x hx
    rw [e]; unfold callsOf
    rw [List.length_flatMap]
    exact calls_sum (alts5 (hps p hp)) (ways5 (hps p hp)).2.1 hn
  · obtain ⟨p, hp, rfl, e⟩ := at' x hx
    rw [e]; unfold callsOf
    rw [List.count_flatMap]
    exact calls_one (alts5 (hps p hp)) (ways5 (hps p hp)).2.1 hn nd hl hy
/-- the refs of a dict of lists -/
def kvA (ps : List (Str × Bd)) (ad : Str → Addr) : List (Key × D) := ps.map fun p => (.inr p.1, .ref (ad p.1))
theorem lk_kvA {ps : List (Str × Bd)} {ad : Str → Addr} {x : Str} (h : x ∈ ps.map Prod.fst) : lk (kvA ps ad) (.inr x) = some (.ref (ad x)) := by
  induction ps with
  | nil => simp at h
  | cons q ps ih =>
    unfold kvA
    rw [List.map_cons, lk]
    by_cases e : q.1 = x
    · rw [if_pos (by rw [e]), e]
    · rw [if_neg (by simpa using e)]
      exact ih ((List.mem_cons.mp h).resolve_left (Ne.symm e))
theorem comp2_calls {env : Ev} {p : Addr} {chk : Sto → Prop} {E2 : List (Option D)} (R : Sto → Prop) (hR : ∀ m o, R m → R (m.set p o)) (hc : ∀ m, R m → chk m) (he : env = [E2.getD 0 none, E2.getD 1 none, E2.getD 2 none, E2.getD 3 none, E2.getD 4 none, E2.getD 5 none, E2.getD 6 none, E2.getD 7 none, E2.getD 8 none, E2.getD 9 none, E2.getD 10 none, E2.getD 11 none, E2.getD 12 none, E2.getD 13 none]) : ∀ (ws : List Wy) (acc : List D) (M : Sto) (P : Sto → Prop),
    acc.length + (ws.flatMap (·.cs)).length ≤ sizeLine → M p = some (.lst acc) → R M → P (M.set p (.lst (acc ++ (ws.flatMap (·.cs)).map .str))) →
    comp2L p [10, 11, 12, 9] [9] (gTup [gName 10, gName 11, gName 12]) tYes (iVal (eVar 11)) (gName 9) tYes CE_called_by_1 env chk (ws.map dW) M P
  | [], acc, M, P, _, e, r, h => by
    rw [List.map_nil, comp2L_nil]
    refine ⟨hc M r, ?_⟩
    simp only [List.flatMap_nil, List.map_nil, List.append_nil] at h
    rw [set_self e] at h; exact h
  | w :: ws, acc, M, P, hl, e, r, h => by
    rw [List.map_cons, comp2L_cons]
    refine ⟨hc M r, ?_⟩
    rw [List.flatMap_cons, List.length_append] at hl
    simp [dW, he]
    refine comp_map id (fun _ => True) (fun _ _ _ => trivial) (fun _ _ => trivial) _ acc _ ?_ (by simp; omega) e trivial ?_
    · intro x hx m T _ hT
      simpa [CE_called_by_1] using hT
    · rw [List.map_id]
      have := comp2_calls R hR hc he ws (acc ++ w.cs.map .str) (M.set p (.lst (acc ++ w.cs.map .str))) P (by rw [List.length_append, List.length_map]; omega) set_same (hR _ _ r) (by rw [set_set]; simpa using h)
      rw [he] at this
      exact this
end DL

set_option Elab.async false
set_option linter.all false
set_option maxRecDepth 100000
set_option maxHeartbeats 4000000
namespace DL
open PySem
/-! ## the worklist -/
def wgt (cl : Str → List Str) (ns rl : List Str) : Nat := (ns.map fun z => if z ∈ rl then 0 else (cl z).length).sum
theorem wgt_add {cl : Str → List Str} {rl : List Str} {y : Str} (hn : y ∉ rl) : ∀ {ns : List Str}, ns.Nodup → y ∈ ns → wgt cl ns rl = wgt cl ns (rl ++ [y]) + (cl y).length
  | [], _, h => by simp at h
  | x :: ns, nd, h => by
    rw [List.nodup_cons] at nd
    unfold wgt
    simp only [List.map_cons, List.sum_cons]
    by_cases e : x = y
    · subst e
      have : (ns.map fun z => if z ∈ rl ++ [x] then 0 else (cl z).length) = ns.map fun z => if z ∈ rl then 0 else (cl z).length := by
        refine List.map_congr_left fun z hz => ?_
        have : z ≠ x := by rintro rfl; exact nd.1 hz
        simp [this]
      rw [this]
      simp [hn]; omega
    · have ih := wgt_add (cl := cl) hn nd.2 ((List.mem_cons.mp h).resolve_left (Ne.symm e))
      unfold wgt at ih
      have : (if x ∈ rl ++ [y] then 0 else (cl x).length) = if x ∈ rl then 0 else (cl x).length := by simp [e]
      rw [this]; omega
theorem wgt_le {cl : Str → List Str} {rl : List Str} : ∀ {ns : List Str}, (∀ x ∈ ns, (cl x).length ≤ 45) → wgt cl ns rl ≤ 45 * ns.length := fun {ns} h => by
  refine sum_le_mul _ 45 ns fun x hx => ?_
  split
  · omega
  · exact h x hx
structure Wk (ns : List Str) (cl : Str → List Str) (x : Str) (rl lf : List Str) : Prop where
  r : ∀ y ∈ rl ++ lf, Rch cl x y
  s : ∀ y ∈ rl ++ lf, y ∈ ns
  o : ∀ y ∈ cl x, y ∈ rl ++ lf
  c : ∀ y ∈ rl, ∀ z ∈ cl y, z ∈ rl ++ lf
  n : rl.Nodup
theorem Wk.old {ns : List Str} {cl : Str → List Str} {x y : Str} {rl lf : List Str} (h : Wk ns cl x rl (lf ++ [y])) (hy : y ∈ rl) : Wk ns cl x rl lf := by
  have k : ∀ z, z ∈ rl ++ (lf ++ [y]) → z ∈ rl ++ lf := fun z hz => by
    simp only [List.mem_append, List.mem_singleton] at hz ⊢
    rcases hz with h | h | rfl
    · exact .inl h
    · exact .inr h
    · exact .inl hy
  have k' : ∀ z, z ∈ rl ++ lf → z ∈ rl ++ (lf ++ [y]) := fun z hz => by
    simp only [List.mem_append, List.mem_singleton] at hz ⊢
    rcases hz with h | h
    · exact .inl h
    · exact .inr (.inl h)
  exact ⟨fun z hz => h.r z (k' z hz), fun z hz => h.s z (k' z hz), fun z hz => k z (h.o z hz), fun z hz u hu => k u (h.c z hz u hu), h.n⟩
theorem Wk.new {ns : List Str} {cl : Str → List Str} {x y : Str} {rl lf : List Str} (h : Wk ns cl x rl (lf ++ [y])) (hc : ∀ y ∈ ns, ∀ z ∈ cl y, z ∈ ns) (hy : y ∉ rl) : Wk ns cl x (rl ++ [y]) (lf ++ cl y) := by
  have k : ∀ z, z ∈ rl ++ (lf ++ [y]) → z ∈ (rl ++ [y]) ++ (lf ++ cl y) := fun z hz => by
    simp only [List.mem_append, List.mem_singleton] at hz ⊢
    rcases hz with h | h | h
    · exact .inl (.inl h)
    · exact .inr (.inl h)
    · exact .inl (.inr h)
  have k' : ∀ z, z ∈ (rl ++ [y]) ++ (lf ++ cl y) → z ∈ rl ++ (lf ++ [y]) ∨ z ∈ cl y := fun z hz => by
    simp only [List.mem_append, List.mem_singleton] at hz ⊢
    rcases hz with (h | h) | h | h
    · exact .inl (.inl h)
    · exact .inl (.inr (.inr h))
    · exact .inl (.inr (.inl h))
    · exact .inr h
  have hyl : y ∈ rl ++ (lf ++ [y]) := by simp
  refine ⟨fun z hz => (k' z hz).elim (h.r z) fun q => .more (h.r y hyl) q, fun z hz => (k' z hz).elim (h.s z) fun q => hc y (h.s y hyl) z q, fun z hz => k z (h.o z hz), fun z hz u hu => ?_, ?_⟩
  · rcases List.mem_append.mp hz with hz | hz
    · exact k u (h.c z hz u hu)
    · rw [List.mem_singleton.mp hz] at hu
      exact List.mem_append_right _ (List.mem_append_right _ hu)
  · rw [List.nodup_append]
    exact ⟨h.n, by simp, fun a ha b hb => by rw [List.mem_singleton.mp hb]; rintro rfl; exact hy ha⟩
theorem Wk.done {ns : List Str} {cl : Str → List Str} {x y : Str} {rl : List Str} (h : Wk ns cl x rl []) : y ∈ rl ↔ Rch cl x y := by
  have o := h.o; have c := h.c; have r := h.r
  simp only [List.append_nil] at o c r
  refine ⟨r y, fun q => ?_⟩
  induction q with
  | one q => exact o _ q
  | more _ q ih => exact c _ ih _ q
def kvR (rl : List Str) : List (Key × D) := rl.map fun s => (.inr s, .bl true)
theorem lk_kvR : ∀ {rl : List Str} {s : Str}, (lk (kvR rl) (.inr s)).isSome = decide (s ∈ rl)
  | [], s => rfl
  | x :: rl, s => by
    unfold kvR
    rw [List.map_cons, lk]
    by_cases e : x = s
    · rw [if_pos (by rw [e])]; simp [e]
    · rw [if_neg (by simpa using e)]
      have := lk_kvR (rl := rl) (s := s)
      unfold kvR at this
      rw [this]; simp [Ne.symm e]
def tstR (rl : List Str) (x : D) : Bool := match x with
  | .tup [.str s, _] => decide (s ∈ rl)
  | _ => false
def fstD (x : D) : D := match x with
  | .tup [s, _] => s
  | _ => .non
theorem filt_map (ps : List (Str × Bd)) (rl : List Str) : ((ps.map dBP).filter (tstR rl)).map fstD = ((ps.map Prod.fst).filter fun s => decide (s ∈ rl)).map .str := by
  induction ps with
  | nil => rfl
  | cons p ps ih =>
    simp only [List.map_cons, List.filter_cons]
    have : tstR rl (dBP p) = decide (p.1 ∈ rl) := rfl
    rw [this]
    split
    · simp only [List.map_cons, ih]; rfl
    · exact ih
theorem kvA_snoc {dn : List (Str × Bd)} {ad : Str → Addr} {r : Str × Bd} {p : Addr} (h : r.1 ∉ dn.map Prod.fst) : ins (kvA dn ad) (.inr r.1) (.ref p) = kvA (dn ++ [r]) fun s => if s = r.1 then p else ad s := by
  rw [ins_new]
  · unfold kvA
    rw [List.map_append]
    congr 1
    · refine List.map_congr_left fun q hq => ?_
      have : q.1 ≠ r.1 := fun e => h (e ▸ List.mem_map.mpr ⟨q, hq, rfl⟩)
      simp [this]
    · simp
  · intro hm
    unfold kvA at hm
    rw [List.map_map] at hm
    obtain ⟨q, hq, e⟩ := List.mem_map.mp hm
    have : q.1 = r.1 := by simpa using e
    exact h (this ▸ List.mem_map.mpr ⟨q, hq, rfl⟩)
theorem nd_snoc {dn rs : List (Str × Bd)} {r : Str × Bd} {ps : List (Str × Bd)} (nd : (ps.map Prod.fst).Nodup) (hd : dn ++ r :: rs = ps) : r.1 ∉ dn.map Prod.fst := by
  subst hd
  rw [List.map_append, List.nodup_append] at nd
  exact fun hm => nd.2.2 _ hm _ (by simp) rfl
theorem le_none {M m : Sto} {p : Addr} (hl : Le M m) (hp : m p = none) : M p = none := by
  cases e : M p with
  | none => rfl
  | some o => rw [hl p o e] at hp; cases hp
def DfI (M : Sto) (ps rs : List (Str × Bd)) (a f g t : Addr) (ad : Str → Addr) (dn : List (Str × Bd)) (f' : Str → Str → Bool) (nm : Str) (bd : D) (m : Nat) (e : Ev) (M' : Sto) : Prop :=
  ∃ (rl lf : List Str) (x4 x8 : Option D), e = [some (.tup (ps.map dBP)), some (.ref a), some (.ref f), some (.str nm), x4, some bd, some (.ref g), some (.ref t), x8, none, none, none, none, none] ∧
    M' a = some (.dk (kvA ps ad)) ∧ (∀ p ∈ ps, M' (ad p.1) = some (.lst ((callsOf p.2).map .str))) ∧ M' f = some (.lst (dn.map (dRch ps f'))) ∧ M' g = some (.dk (kvR rl)) ∧ M' t = some (.lst (lf.map .str)) ∧ Le M M' ∧
    Wk (ps.map Prod.fst) (clOf ps) nm rl lf ∧ m = lf.length + wgt (clOf ps) (ps.map Prod.fst) rl ∧ m ≤ 400
theorem ob_called_by : ∀ E ds M Q, S_called_by E ds M Q → B_called_by E (endsL Q) (start 14 ds) M := by
  intro E ds M Q h
  obtain ⟨x, rfl, ps, ls, rfl, hP, f', hf, hq⟩ := fn1_e h
  have N := names_of hP
  obtain ⟨hns, hls, hps⟩ := hP
  have hsz := sizeLine_ge
  have hpl : ps.length ≤ 4 := by have := N.le; simpa using this
  have hnd := N.nd
  simp [B_called_by]
  intro a ha
  refine go ?_
  simp [S_alternatives]
  refine ⟨ps, rfl, ⟨ls, hns, hls, hps⟩, ?_⟩
  refine for_ind (fun xs e m => ∃ (dn rs : List (Str × Bd)) (ad : Str → Addr) (x3 x4 : Option D), xs = rs.map dAlt ∧ dn ++ rs = ps ∧ e = [some (.tup (ps.map dBP)), some (.ref a), none, x3, x4, none, none, none, none, none, none, none, none, none] ∧
    m a = some (.dk (kvA dn ad)) ∧ (∀ p ∈ dn, m (ad p.1) = some (.lst ((callsOf p.2).map .str))) ∧ Le M m) ?_ ?_ _ _ _ ⟨[], ps, fun _ => a, none, none, rfl, rfl, rfl, by rw [set_same]; rfl, by simp, Le.refl.fresh ha⟩
  · rintro x xs e m ⟨dn, rs, ad, x3, x4, hx, hd, rfl, ea, ed, hl⟩
    obtain ⟨r, rs, rfl⟩ : ∃ q rs', rs = q :: rs' := by
      cases rs with
      | nil => simp at hx
      | cons q rs => exact ⟨q, rs, rfl⟩
    simp at hx
    obtain ⟨rfl, rfl⟩ := hx
    have hdl : dn.length ≤ 4 := by have := congrArg List.length hd; simp at this; omega
    have hrp : r ∈ ps := by rw [← hd]; simp
    refine ⟨trivial, fun N' hN => ?_⟩
    simp [FB_called_by_1, dAlt]
    intro p hp
    have hap : a ≠ p := ne_of ea hp
    have hcl : (callsOf r.2).length ≤ 45 := by
      have := N.len r.1 (List.mem_map.mpr ⟨r, hrp, rfl⟩)
      rwa [cl_at hnd hrp] at this
    refine comp2_calls (E2 := [some (.tup (ps.map dBP)), some (.ref a), none, some (.str r.1), some (.tup (r.2.alts.map dW)), none, none, none, none, none, none, none, none, none]) (fun m' => m' a = some (.dk (kvA dn ad))) (fun m' o hm => by rw [set_ne hap]; exact hm) (fun _ _ => trivial) rfl r.2.alts [] _ _ ?_ set_same (by rw [set_ne hap]; exact ea) ?_
    · show 0 + (callsOf r.2).length ≤ sizeLine; omega
    · rw [set_set, set_ne hap, ea]
      simp
      have hMp : M p = none := by
        cases e : M p with
        | none => rfl
        | some o => rw [hl p o e] at hp; cases hp
      refine ⟨by simp [kvA]; omega, hN _ _ ⟨dn ++ [r], rs, fun s => if s = r.1 then p else ad s, _, _, rfl, by simpa using hd, rfl, ?_, ?_, (hl.fresh hMp).fresh ha⟩⟩
      · rw [set_same, kvA_snoc (nd_snoc hnd hd)]
      · intro q hq
        dsimp only
        rcases List.mem_append.mp hq with hq | hq
        · have hne : q.1 ≠ r.1 := fun e => nd_snoc hnd hd (e ▸ List.mem_map.mpr ⟨q, hq, rfl⟩)
          have e1 := ed q hq
          rw [if_neg hne, set_ne (by intro e; rw [e, ea] at e1; cases e1), set_ne (ne_of e1 hp)]
          exact e1
        · have : q = r := by simpa using hq
          subst this
          rw [if_pos rfl, set_ne hap.symm, set_same]; rfl
  · rintro e m ⟨dn, rs, ad, x3, x4, hx, hd, rfl, ea, ed, hl⟩
    have : rs = [] := by simpa using hx.symm
    subst this
    rw [List.append_nil] at hd
    subst hd
    refine ⟨trivial, ?_⟩
    dsimp only
    refine go ?_
    simp [T_called_by_3]
    intro f hf'
    have hMf := le_none hl hf'
    have haf : a ≠ f := ne_of ea hf'
    have hadf : ∀ p ∈ dn, ad p.1 ≠ f := fun p hp => ne_of (ed p hp) hf'
    refine go ?_
    simp
    refine for_ind (fun xs e m => ∃ (d2 rs : List (Str × Bd)) (x3 x4 x5 x6 x7 x8 : Option D), xs = rs.map dBP ∧ d2 ++ rs = dn ∧ e = [some (.tup (dn.map dBP)), some (.ref a), some (.ref f), x3, x4, x5, x6, x7, x8, none, none, none, none, none] ∧
      m a = some (.dk (kvA dn ad)) ∧ (∀ p ∈ dn, m (ad p.1) = some (.lst ((callsOf p.2).map .str))) ∧ m f = some (.lst (d2.map (dRch dn f'))) ∧ Le M m) ?_ ?_ _ _ _ ⟨[], dn, x3, x4, none, none, none, none, rfl, rfl, rfl, by rw [set_ne haf]; exact ea, fun p hp => by rw [set_ne (ne_of (ed p hp) hf')]; exact ed p hp, by rw [set_same]; rfl, hl.fresh hMf⟩
    · clear ea ed hl
      rintro x xs e m ⟨d2, rs, x3, x4, x5, x6, x7, x8, hx, hd, rfl, ea, ed, ef, hl⟩
      obtain ⟨r, rs, rfl⟩ : ∃ q rs', rs = q :: rs' := by
        cases rs with
        | nil => simp at hx
        | cons q rs => exact ⟨q, rs, rfl⟩
      simp at hx
      obtain ⟨rfl, rfl⟩ := hx
      have hdl : d2.length ≤ 4 := by have := congrArg List.length hd; simp at this; omega
      have hrp : r ∈ dn := by rw [← hd]; simp
      have hrn : r.1 ∈ dn.map Prod.fst := List.mem_map.mpr ⟨r, hrp, rfl⟩
      refine ⟨trivial, fun N' hN => ?_⟩
      simp [FB_called_by_2, dBP]
      intro g hg
      have hag : a ≠ g := ne_of ea hg
      refine go ?_
      simp [set_ne hag, ea, lk_kvA hrn]
      rw [set_ne (ne_of (ed r hrp) hg), ed r hrp]
      simp
      intro t htg
      obtain ⟨htg, ht⟩ := set_none.mp htg
      have hat : a ≠ t := ne_of ea ht
      have hft : f ≠ t := ne_of ef ht
      have hfg : f ≠ g := ne_of ef hg
      have hMg := le_none hl hg
      have hMt := le_none hl ht
      have hadt : ∀ p ∈ dn, ad p.1 ≠ t := fun p hp => ne_of (ed p hp) ht
      have hadg : ∀ p ∈ dn, ad p.1 ≠ g := fun p hp => ne_of (ed p hp) hg
      refine go ?_
      simp
      have hcl := cl_at hnd hrp
      have hwl := wgt_le (rl := []) N.len
      have hlen := N.len r.1 hrn
      have hnl := N.le
      refine ⟨DfI M dn rs a f g t ad d2 f' r.1 r.2.d, ⟨_, [], callsOf r.2, x4, x8, rfl, ?_, ?_, ?_, ?_, ?_, (hl.fresh hMg).fresh hMt, ?_, rfl, ?_⟩, ?_⟩
      · rw [set_ne hat, set_ne hag]; exact ea
      · intro q hq
        have e1 := ed q hq
        rw [set_ne (ne_of e1 ht), set_ne (ne_of e1 hg)]; exact e1
      · rw [set_ne hft, set_ne hfg]; exact ef
      · rw [set_ne (Ne.symm htg), set_same]; rfl
      · exact set_same
      · refine ⟨fun y hy => .one (by rw [hcl]; simpa using hy), fun y hy => N.sub r.1 hrn y (by rw [hcl]; simpa using hy), fun y hy => by rw [hcl] at hy; simpa using hy, by simp, by simp⟩
      · rw [hcl] at hlen; omega
      · clear ea ed ef hl hcl hwl
        rintro m0 e m ⟨rl, lf, x4, x8, rfl, ea, ed, ef, eg, et, hl, W, hm, hm4⟩
        have hrl : rl.length ≤ 4 := by
          have h1 : rl.length ≤ (dn.map Prod.fst).length := List.Nodup.length_le_of_subset W.n fun y hy => W.s y (List.mem_append_left _ hy)
          omega
        simp [WC_called_by_1, et]
        rcases List.eq_nil_or_concat lf with rfl | ⟨lf, y, rfl⟩
        · simp
          refine go ?_
          simp [T_called_by_1, ef]
          intro q hq'
          have haq : a ≠ q := ne_of ea hq'
          have hfq : f ≠ q := ne_of ef hq'
          have hgq : g ≠ q := ne_of eg hq'
          have hMq := le_none hl hq'
          refine comp_filter fstD (tstR rl) (fun m' => m' g = some (.dk (kvR rl))) (fun m' o hm => by rw [set_ne hgq]; exact hm) (fun _ _ => trivial) _ [] _ ?_ (by simp; omega) set_same (by rw [set_ne hgq]; exact eg) ?_
          · intro x hx m' T N2 hm' hT
            obtain ⟨u, hu, rfl⟩ := List.mem_map.mp hx
            have e1 : tstR rl (dBP u) = decide (u.1 ∈ rl) := rfl
            have e2 : fstD (dBP u) = .str u.1 := rfl
            rw [e1, e2] at hT
            simp [CT_called_by_1, CE_called_by_2, dBP, hm', lk_kvR]
            simpa using hT
          · rw [set_set, List.nil_append, filt_map, set_same]
            simp [set_ne hfq, ef]
            refine ⟨by omega, hN _ _ ⟨d2 ++ [r], rs, _, _, _, _, _, _, rfl, by simpa using hd, rfl, ?_, ?_, ?_, (hl.fresh hMq).fresh hMf⟩⟩
            · rw [set_ne haf, set_ne haq]; exact ea
            · intro p hp
              have e1 := ed p hp
              rw [set_ne (hadf p hp), set_ne (ne_of e1 hq')]; exact e1
            · rw [set_same]
              have : (dn.map Prod.fst).filter (fun s => decide (s ∈ rl)) = (dn.map Prod.fst).filter (f' r.1) := by
                refine List.filter_congr fun s hs => ?_
                have h1 := hf r.1 hrn s hs
                have h2 := W.done (y := s)
                rw [Bool.eq_iff_iff, h1, ← h2]; simp
              simp [dRch, this]
        · simp [WB_called_by_1, et]
          refine go ?_
          have htg' : g ≠ t := Ne.symm htg
          simp [set_ne htg', eg, lk_kvR]
          have hyn : y ∈ dn.map Prod.fst := W.s y (by simp)
          obtain ⟨u, hu, rfl⟩ := List.mem_map.mp hyn
          have hlf : lf.length + 1 + wgt (clOf dn) (dn.map Prod.fst) rl = m0 := by rw [hm]; simp
          have W' : Wk (dn.map Prod.fst) (clOf dn) r.1 rl (lf ++ [u.1]) := by simpa using W
          split
          · rename_i hy
            refine ⟨_, ?_, rl, lf, _, _, rfl, ?_, ?_, ?_, ?_, set_same, hl.fresh hMt, W'.old hy, rfl, ?_⟩
            · omega
            · rw [set_ne hat]; exact ea
            · intro p hp; rw [set_ne (hadt p hp)]; exact ed p hp
            · rw [set_ne hft]; exact ef
            · rw [set_ne htg']; exact eg
            · omega
          · rename_i hy
            refine ⟨by simp [kvR]; omega, go ?_⟩
            have hcu := cl_at hnd hu
            have hcl2 := N.len u.1 hyn
            rw [hcu] at hcl2
            have hw := wgt_add (cl := clOf dn) hy hnd hyn
            rw [hcu] at hw
            simp [set_ne hag, set_ne hat, ea, lk_kvA hyn, set_ne (hadg u hu), set_ne (hadt u hu), ed u hu, set_ne (Ne.symm htg')]
            refine ⟨by omega, _, ?_, rl ++ [u.1], lf ++ callsOf u.2, _, _, rfl, ?_, ?_, ?_, ?_, ?_, ?_, by have := W'.new N.sub hy; rw [hcu] at this; exact this, rfl, ?_⟩
            · simp; omega
            · rw [set_ne hat, set_ne hag, set_ne hat]; exact ea
            · intro p hp; rw [set_ne (hadt p hp), set_ne (hadg p hp), set_ne (hadt p hp)]; exact ed p hp
            · rw [set_ne hft, set_ne hfg, set_ne hft]; exact ef
            · rw [set_ne htg', set_same]
              have : ins (kvR rl) (.inr u.1) (.bl true) = kvR (rl ++ [u.1]) := by
                rw [ins_new]
                · simp [kvR]
                · intro hm'
                  unfold kvR at hm'
                  rw [List.map_map] at hm'
                  obtain ⟨s, hs, e⟩ := List.mem_map.mp hm'
                  have : s = u.1 := by simpa using e
                  exact hy (this ▸ hs)
              rw [this]
            · rw [set_same]; simp
            · exact ((hl.fresh hMt).fresh hMg).fresh hMt
            · simp; omega
    · rintro e m ⟨d2, rs, x3, x4, x5, x6, x7, x8, hx, hd, rfl, ea, ed, ef, hl⟩
      have : rs = [] := by simpa using hx.symm
      subst this
      rw [List.append_nil] at hd
      subst hd
      refine ⟨trivial, ?_⟩
      dsimp only
      refine go ?_
      simp [T_called_by_2, ef]
      exact ⟨M, hl, hq⟩
end DL

set_option Elab.async false
set_option linter.all false
set_option maxRecDepth 100000
set_option maxHeartbeats 4000000
namespace DL
open PySem
/-- a dict of lists of texts -/
structure LS (ps : List (Str × Bd)) (fs : Str → List Str) (c : Addr) (m : Sto) : Prop where
  h : ∃ ad : Str → Addr, m c = some (.dk (kvA ps ad)) ∧ ∀ p ∈ ps, m (ad p.1) = some (.lst ((fs p.1).map .str))
theorem LS.fresh {ps : List (Str × Bd)} {fs : Str → List Str} {c x : Addr} {m : Sto} {o : O} (h : LS ps fs c m) (hx : m x = none) : LS ps fs c (m.set x o) := by
  obtain ⟨ad, h1, h2⟩ := h.h
  exact ⟨ad, by rw [set_ne (ne_of h1 hx)]; exact h1, fun p hp => by rw [set_ne (ne_of (h2 p hp) hx)]; exact h2 p hp⟩
theorem LS.dict {ps : List (Str × Bd)} {fs : Str → List Str} {c x : Addr} {m : Sto} {o : O} {kvs : List (Key × D)} (h : LS ps fs c m) (hx : m x = some (.dk kvs)) (hc : x ≠ c) : LS ps fs c (m.set x o) := by
  obtain ⟨ad, h1, h2⟩ := h.h
  exact ⟨ad, by rw [set_ne hc.symm]; exact h1, fun p hp => by rw [set_ne (by intro e; have := h2 p hp; rw [e, hx] at this; cases this)]; exact h2 p hp⟩
theorem LS.congr {ps : List (Str × Bd)} {fs gs : Str → List Str} {c : Addr} {m : Sto} (h : LS ps fs c m) (e : ∀ p ∈ ps, fs p.1 = gs p.1) : LS ps gs c m := by
  obtain ⟨ad, h1, h2⟩ := h.h
  exact ⟨ad, h1, fun p hp => by rw [← e p hp]; exact h2 p hp⟩
theorem LS.ne {ps : List (Str × Bd)} {fs : Str → List Str} {c x : Addr} {m : Sto} (h : LS ps fs c m) (hx : m x = none) : c ≠ x := by
  obtain ⟨ad, h1, h2⟩ := h.h
  exact ne_of h1 hx
theorem kvA_upd {dn : List (Str × Bd)} {ad : Str → Addr} {x : Str} {p : Addr} (h : x ∈ dn.map Prod.fst) : ins (kvA dn ad) (.inr x) (.ref p) = kvA dn fun s => if s = x then p else ad s := by
  unfold ins
  rw [if_pos]
  · unfold kvA
    rw [List.map_map]
    refine List.map_congr_left fun q hq => ?_
    by_cases e : q.1 = x
    · simp [e]
    · simp [e]
  · obtain ⟨q, hq, e⟩ := List.mem_map.mp h
    simp only [List.any_eq_true, decide_eq_true_eq]
    exact ⟨(.inr q.1, .ref (ad q.1)), List.mem_map.mpr ⟨q, hq, rfl⟩, by rw [e]⟩
/-- a fresh list for one name -/
theorem LS.put {ps : List (Str × Bd)} {fs : Str → List Str} {c q : Addr} {m : Sto} {x : Str} {ys : List Str} {ad : Str → Addr} (h1 : m c = some (.dk (kvA ps ad))) (h2 : ∀ p ∈ ps, p.1 ≠ x → m (ad p.1) = some (.lst ((fs p.1).map .str)))
    (hx : x ∈ ps.map Prod.fst) (hq : m q = some (.lst (ys.map .str))) (hcq : q ≠ c) : LS ps (fun s => if s = x then ys else fs s) c (m.set c (.dk (ins (kvA ps ad) (.inr x) (.ref q)))) := by
  refine ⟨fun s => if s = x then q else ad s, by rw [set_same, kvA_upd hx], fun p hp => ?_⟩
  dsimp only
  by_cases e : p.1 = x
  · rw [if_pos e, if_pos e, set_ne hcq]; exact hq
  · rw [if_neg e, if_neg e]
    have := h2 p hp e
    rw [set_ne (by intro e'; rw [e', h1] at this; cases this)]; exact this
/-- what stands at a name -/
theorem LS.at {ps : List (Str × Bd)} {fs : Str → List Str} {c : Addr} {m : Sto} (h : LS ps fs c m) {x : Str} (hx : x ∈ ps.map Prod.fst) : ∃ kvs p, m c = some (.dk kvs) ∧ lk kvs (.inr x) = some (.ref p) ∧ m p = some (.lst ((fs x).map .str)) ∧ kvs.length = ps.length := by
  obtain ⟨ad, h1, h2⟩ := h.h
  obtain ⟨q, hq, rfl⟩ := List.mem_map.mp hx
  exact ⟨_, _, h1, lk_kvA hx, h2 q hq, by simp [kvA]⟩
def lE (s : List Int) (a : Addr) (x2 : Option D) (pr du : D) (x5 x6 x7 x8 x9 x10 x11 x12 x13 x14 x15 : Option D) : Ev := [some (.lro (s.map .int)), some (.ref a), x2, some pr, some du, x5, x6, x7, x8, x9, x10, x11, x12, x13, x14, x15]
section
variable {E : XW} {Q : KD} {N0' : Ends} {s : List Int} {a b c : Addr} {ps : List (Str × Bd)} {ls : List Str} {M0 : Sto}
theorem pcons {α : Type} {f : α → D} {x : D} {xs : List D} {rs : List α} (h : x :: xs = rs.map f) : ∃ r rs', rs = r :: rs' ∧ x = f r ∧ xs = rs'.map f := by
  cases rs with
  | nil => simp at h
  | cons r rs => simp at h; exact ⟨r, rs, rfl, h.1, h.2⟩
theorem pnil {α : Type} {f : α → D} {rs : List α} (h : [] = rs.map f) : rs = [] := by simpa using h.symm
/-- calls[name] for all names -/
theorem law_calls (hP : PB ps ls) {x2 x6 x7 x8 x9 x10 x11 x12 x13 x14 x15 : Option D} {m : Sto} (hf : Fr a b M0 m) {B : Ev → Sto → Prop} {N : Ev → Sto → Prop} {Rt : KD} {Ct : Ev → Sto → Prop} (hc : m c = some (.dk [])) (hca : c ≠ a) (hcn : M0 c = none)
    (hN : ∀ m' x9 x10 x11, Fr a b M0 m' → LS ps (clOf ps) c m' → N (lE s a x2 (.tup (ps.map dBP)) (.tup (ps.map dAlt)) (some (.ref c)) x6 x7 x8 x9 x10 x11 x12 x13 x14 x15) m') :
    forL (gTup [gName 9, gName 10]) FB_law_2 (fun _ => True) (ps.map dAlt) E ⟨N, Rt, B, Ct⟩ (lE s a x2 (.tup (ps.map dBP)) (.tup (ps.map dAlt)) (some (.ref c)) x6 x7 x8 x9 x10 x11 x12 x13 x14 x15) m := by
  have hsz := sizeLine_ge
  have NM := names_of hP
  refine for_ind (fun xs e m => ∃ (dn rs : List (Str × Bd)) (ad : Str → Addr) (x9 x10 x11 : Option D), xs = rs.map dAlt ∧ dn ++ rs = ps ∧ e = lE s a x2 (.tup (ps.map dBP)) (.tup (ps.map dAlt)) (some (.ref c)) x6 x7 x8 x9 x10 x11 x12 x13 x14 x15 ∧
    m c = some (.dk (kvA dn ad)) ∧ (∀ p ∈ dn, m (ad p.1) = some (.lst ((callsOf p.2).map .str))) ∧ Fr a b M0 m) ?_ ?_ _ _ _ ⟨[], ps, fun _ => c, x9, x10, x11, rfl, rfl, rfl, by rw [hc]; rfl, by simp, hf⟩
  · rintro x xs e m ⟨dn, rs, ad, y9, y10, y11, hx, hd, rfl, ec, el, hf⟩
    obtain ⟨r, rs, rfl, rfl, rfl⟩ := pcons hx
    have hrp : r ∈ ps := by rw [← hd]; simp
    have hdl : dn.length ≤ 4 := by have h1 := congrArg List.length hd; have h2 := NM.le; simp at h1 h2; omega
    have hrd : r.1 ∈ (dn ++ [r]).map Prod.fst := by simp
    refine ⟨trivial, fun N' hN' => ?_⟩
    simp [FB_law_2, dAlt, lE]
    intro q hq
    have hq1 := hf.none hq
    have hcq : c ≠ q := ne_of ec hq
    simp [set_ne hcq, ec]
    refine ⟨by simp [kvA]; omega, go ?_⟩
    simp
    have hcl : (callsOf r.2).length ≤ 45 := by
      have := NM.len r.1 (List.mem_map.mpr ⟨r, hrp, rfl⟩)
      rwa [cl_at NM.nd hrp] at this
    refine for_ind (fun xs e m => ∃ (dw rw : List Wy) (ad : Str → Addr) (y11 : Option D), xs = rw.map dW ∧ dw ++ rw = r.2.alts ∧ e = lE s a x2 (.tup (ps.map dBP)) (.tup (ps.map dAlt)) (some (.ref c)) x6 x7 x8 (some (.str r.1)) (some (.tup (r.2.alts.map dW))) y11 x12 x13 x14 x15 ∧
      m c = some (.dk (kvA (dn ++ [r]) ad)) ∧ (∀ p ∈ dn, m (ad p.1) = some (.lst ((callsOf p.2).map .str))) ∧ m (ad r.1) = some (.lst ((dw.flatMap (·.cs)).map .str)) ∧ Fr a b M0 m) ?_ ?_ _ _ _
      ⟨[], r.2.alts, fun s => if s = r.1 then q else ad s, y11, rfl, rfl, rfl, by rw [set_same, kvA_snoc (nd_snoc NM.nd hd)], fun p hp => ?_, ?_, (hf.fresh hq).upd hcn hca⟩
    · rintro y ys e m ⟨dw, rw', ad, z11, hy, hdw, rfl, ec, el, er, hf⟩
      obtain ⟨w, rw', rfl, rfl, rfl⟩ := pcons hy
      have hlw : (dw.flatMap (·.cs)).length + w.cs.length ≤ 45 := by
        have h1 : callsOf r.2 = (dw ++ w :: rw').flatMap (·.cs) := by rw [hdw]; rfl
        rw [h1, List.flatMap_append, List.flatMap_cons, List.length_append, List.length_append] at hcl
        omega
      refine ⟨trivial, fun N2 hN2 => ?_⟩
      simp [FB_law_1, lE, ec, lk_kvA hrd, dW]
      intro u hu
      have hu1 := hf.none hu
      have hcu : c ≠ u := ne_of ec hu
      have hru : ad r.1 ≠ u := ne_of er hu
      rw [set_ne hru, er]
      simp
      refine ⟨by simp at hlw; omega, fun v hv => ?_⟩
      obtain ⟨hvu, hv⟩ := set_none.mp hv
      have hv1 := hf.none hv
      have hcv : c ≠ v := ne_of ec hv
      rw [set_ne hcv, set_ne hcu, ec]
      simp
      refine ⟨by simp [kvA]; omega, hN2 _ _ ⟨dw ++ [w], rw', fun s => if s = r.1 then v else ad s, _, rfl, by simpa using hdw, rfl, by rw [set_same, kvA_upd hrd], fun p hp => ?_, ?_, ((hf.fresh hu).upd hv1.2 hv1.1).upd hcn hca⟩⟩
      · have hne : p.1 ≠ r.1 := fun e => nd_snoc NM.nd hd (e ▸ List.mem_map.mpr ⟨p, hp, rfl⟩)
        have e1 := el p hp
        dsimp only
        rw [if_neg hne, set_ne (by intro e; rw [e, ec] at e1; cases e1), set_ne (ne_of e1 hv), set_ne (ne_of e1 hu)]; exact e1
      · dsimp only
        rw [if_pos rfl, set_ne (Ne.symm hcv), set_same]; simp
    · rintro e m ⟨dw, rw', ad, z11, hy, hdw, rfl, ec, el, er, hf⟩
      have := pnil hy
      subst this
      rw [List.append_nil] at hdw
      subst hdw
      refine ⟨trivial, hN' _ _ ⟨dn ++ [r], rs, ad, _, _, _, rfl, by simpa using hd, rfl, ec, fun p hp => ?_, hf⟩⟩
      rcases List.mem_append.mp hp with hp | hp
      · exact el p hp
      · have : p = r := by simpa using hp
        subst this
        exact er
    · have hne : p.1 ≠ r.1 := fun e => nd_snoc NM.nd hd (e ▸ List.mem_map.mpr ⟨p, hp, rfl⟩)
      have e1 := el p hp
      dsimp only
      rw [if_neg hne, set_ne (by intro e; rw [e, ec] at e1; cases e1), set_ne (ne_of e1 hq)]; exact e1
    · dsimp only
      rw [if_pos rfl, set_ne hcq.symm, set_same]; rfl
  · rintro e m ⟨dn, rs, ad, y9, y10, y11, hx, hd, rfl, ec, el, hf⟩
    have := pnil hx
    subst this
    rw [List.append_nil] at hd
    subst hd
    exact ⟨trivial, hN _ _ _ _ hf ⟨ad, ec, fun p hp => by rw [cl_at NM.nd hp]; exact el p hp⟩⟩
theorem law_found (hP : PB ps ls) {x2 x6 x7 x8 x9 x10 x11 x12 x13 x14 x15 : Option D} {m : Sto} (hf : Fr a b M0 m) (hc : LS ps (clOf ps) c m) (hca : c ≠ a) (hcn : M0 c = none) {pr du : D} {Q : KD}
    (hQ : ∀ g m', Fr a b M0 m' → LS ps (clOf ps) c m' → LS ps (clOf ps) g m' → g ≠ c → g ≠ a → M0 g = none → Q (.ref g) m') :
    eDict (eLock 5 (eComp (iKeysD (eVar 5)) [9] (gName 9) tYes CE_law_1)) E (lE s a x2 pr du (some (.ref c)) x6 x7 x8 x9 x10 x11 x12 x13 x14 x15) m Q := by
  have hsz := sizeLine_ge
  have NM := names_of hP
  have hpl : ps.length ≤ 4 := by have := NM.le; simpa using this
  obtain ⟨ad, ec, el⟩ := hc.h
  simp [lE, ec]
  intro p hp
  obtain ⟨hpc, hp⟩ := set_none.mp hp
  have hp1 := hf.none hp
  have hadc : ∀ q ∈ ps, ad q.1 ≠ c := fun q hq e => by have := el q hq; rw [e, ec] at this; cases this
  refine comp_ind (fun acc xs m' => ∃ (dn rs : List (Str × Bd)) (af : Str → Addr), acc = (dn.map fun q => D.tup [.str q.1, .ref (af q.1)]) ∧ xs = (rs.map fun q => D.str q.1) ∧ dn ++ rs = ps ∧ m' p = some (.lst acc) ∧ m' c = some (.dkF (kvA ps ad)) ∧
    (∀ q ∈ ps, m' (ad q.1) = some (.lst ((clOf ps q.1).map .str))) ∧ (∀ q ∈ dn, af q.1 ≠ p ∧ m' (af q.1) = some (.lst ((clOf ps q.1).map .str))) ∧ Fr a b M0 m') ?_ ?_ _ [] _ ⟨[], ps, fun _ => c, rfl, ?_, rfl, set_same, ?_, ?_, by simp, ?_⟩
  · rintro x xs acc m' ⟨dn, rs, af, rfl, hx, hd, ep, ec', el', ef, hf'⟩
    obtain ⟨r, rs, rfl, rfl, rfl⟩ := pcons hx
    have hrp : r ∈ ps := by rw [← hd]; simp
    have hdl : dn.length ≤ 4 := by have h1 := congrArg List.length hd; simp at h1; omega
    refine ⟨ec', by simp; omega, fun T hT => ?_⟩
    simp [CE_law_1, ec', lk_kvA (List.mem_map.mpr ⟨r, hrp, rfl⟩), el' r hrp]
    intro u hu
    have hu1 := hf'.none hu
    have hpu : p ≠ u := ne_of ep hu
    refine hT _ _ (by rw [set_ne hpu]; exact ep) ⟨dn ++ [r], rs, fun s => if s = r.1 then u else af s, ?_, rfl, by simpa using hd, set_same, ?_, ?_, ?_, (hf'.fresh hu).upd hp1.2 hp1.1⟩
    · rw [List.map_append]
      congr 1
      · refine List.map_congr_left fun q hq => ?_
        have : q.1 ≠ r.1 := fun e => nd_snoc NM.nd hd (e ▸ List.mem_map.mpr ⟨q, hq, rfl⟩)
        simp [this]
      · simp
    · rw [set_ne hpc.symm, set_ne (ne_of ec' hu)]; exact ec'
    · intro q hq
      have e1 := el' q hq
      rw [set_ne (ne_of (el q hq) hp), set_ne (ne_of e1 hu)]; exact e1
    · intro q hq
      dsimp only
      rcases List.mem_append.mp hq with hq | hq
      · have hne : q.1 ≠ r.1 := fun e => nd_snoc NM.nd hd (e ▸ List.mem_map.mpr ⟨q, hq, rfl⟩)
        have e1 := (ef q hq).2
        rw [if_neg hne, set_ne (ef q hq).1, set_ne (ne_of e1 hu)]
        exact ⟨(ef q hq).1, e1⟩
      · have : q = r := by simpa using hq
        subst this
        rw [if_pos rfl, set_ne hpu.symm, set_same]
        exact ⟨hpu.symm, rfl⟩
  · rintro acc m' ⟨dn, rs, af, rfl, hx, hd, ep, ec', el', ef, hf'⟩
    have := pnil hx
    subst this
    rw [List.append_nil] at hd
    subst hd
    refine ⟨ec', ec', ?_⟩
    simp [set_ne hpc, ep]
    have e1 : pairsK (dn.map fun q => D.tup [.str q.1, .ref (af q.1)]) = some (kvA dn af) := pairsK_map dn Prod.fst fun q => .ref (af q.1)
    simp [e1]
    rw [insAll_nodup]
    · intro g hg0
      obtain ⟨hgc, hg⟩ := set_none.mp hg0
      rw [List.nil_append]
      have hf1 : Fr a b M0 (m'.set c (.dk (kvA dn ad))) := hf'.upd hcn hca
      have hg1 := hf1.none hg0
      have L1 : LS dn (clOf dn) c (m'.set c (.dk (kvA dn ad))) := ⟨ad, set_same, fun q hq => by rw [set_ne (hadc q hq)]; exact el' q hq⟩
      refine hQ g _ (hf1.fresh hg0) (L1.fresh hg0) ⟨af, set_same, fun q hq => ?_⟩ hgc hg1.1 hg1.2
      have e1 := (ef q hq).2
      rw [set_ne (ne_of e1 hg), set_ne (by intro e; rw [e, ec'] at e1; cases e1)]; exact e1
    · have : ([] ++ kvA dn af).map Prod.fst = (dn.map Prod.fst).map Sum.inr := by simp [kvA]
      rw [this]
      exact List.Pairwise.map _ (fun x y h e => h (Sum.inr.inj e)) NM.nd
  · simp [kvA, dKey]
  · rw [set_ne hpc.symm, set_same]
  · intro q hq
    rw [set_ne (ne_of (el q hq) hp), set_ne (hadc q hq)]; exact el q hq
  · exact (hf.upd hcn hca).upd hp1.2 hp1.1
theorem any_str (f : List Str) (y : Str) : (f.map D.str).any (fun z => eqF z (.str y)) = decide (y ∈ f) := by
  induction f with
  | nil => rfl
  | cons x f ih =>
    rw [List.map_cons, List.any_cons, ih]
    simp [eqF, eq_comm]
theorem all_str (f : List Str) : (f.map D.str).all flat = true := by
  rw [List.all_eq_true]
  intro x hx
  obtain ⟨s, _, rfl⟩ := List.mem_map.mp hx
  rfl
def tstN (f : List Str) (x : D) : Bool := match x with
  | .str y => decide (y ∉ f)
  | _ => false
theorem filt_str (f xs : List Str) : (xs.map D.str).filter (tstN f) = (xs.filter fun z => decide (z ∉ f)).map .str := by
  rw [List.filter_map]; rfl
theorem sizeLine_big : 16777216 ≤ sizeLine := by decide
theorem law_sweep1 (hP : PB ps ls) {x2 x7 x8 x10 x11 x12 x13 x14 x15 : Option D} {m : Sto} {fs : Str → List Str} {g : Addr} {x : Str} {pr du : D} (hf : Fr a b M0 m) (hc : LS ps (clOf ps) c m) (hg : LS ps fs g m) (hgc : g ≠ c) (hga : g ≠ a) (hgn : M0 g = none) (hx : x ∈ ps.map Prod.fst)
    (h1 : ∀ y ∈ fs x, y ∈ ps.map Prod.fst) (h2 : ((fs x).flatMap (clOf ps)).length ≤ 16282080) (h3 : (fs x ++ newS (clOf ps) (fs x)).length ≤ 400000) {D' : Ends}
    (hN : ∀ m' x13 x14, Fr a b M0 m' → LS ps (clOf ps) c m' → LS ps (fun s => if s = x then fs x ++ newS (clOf ps) (fs x) else fs s) g m' → D'.nx (lE s a x2 pr du (some (.ref c)) (some (.ref g)) x7 x8 (some (.str x)) x10 x11 x12 x13 x14 x15) m') :
    FB_law_4 E D' (lE s a x2 pr du (some (.ref c)) (some (.ref g)) x7 x8 (some (.str x)) x10 x11 x12 x13 x14 x15) m := by
  have hsz := sizeLine_big
  have NM := names_of hP
  have hpl : ps.length ≤ 4 := by have := NM.le; simpa using this
  simp [FB_law_4, lE]
  intro h hh
  have hf1 := hf.fresh (o := .lst []) hh
  have hc1 := hc.fresh (o := .lst []) hh
  have hg1 := hg.fresh (o := .lst []) hh
  have eh : (m.set h (.lst [])) h = some (.lst []) := set_same
  generalize m.set h (.lst []) = m1 at hf1 hc1 hg1 eh ⊢
  obtain ⟨kvs, q, e1, e2, e3, _⟩ := hg1.at hx
  refine go ?_
  simp [e1, e2, e3]
  refine for_ind (fun xs e m => ∃ (dn rs : List Str) (h : Addr) (x14 : Option D), xs = rs.map D.str ∧ dn ++ rs = fs x ∧ e = lE s a x2 pr du (some (.ref c)) (some (.ref g)) x7 x8 (some (.str x)) x10 x11 x12 (some (.ref h)) x14 x15 ∧
    m h = some (.lst ((dn.flatMap (clOf ps)).map .str)) ∧ m q = some (.lst ((fs x).map .str)) ∧ Fr a b M0 m ∧ LS ps (clOf ps) c m ∧ LS ps fs g m) ?_ ?_ _ _ _ ⟨[], fs x, h, x14, rfl, rfl, rfl, eh, e3, hf1, hc1, hg1⟩
  · clear e1 e2 e3 eh hf1 hc1 hg1
    rintro y ys e m ⟨dn, rs, h, z14, hy, hd, rfl, eh, eq, hf1, hc1, hg1⟩
    obtain ⟨o, rs, rfl, rfl, rfl⟩ := pcons hy
    refine ⟨eq, fun N hN' => ?_⟩
    have hon : o ∈ ps.map Prod.fst := h1 o (by rw [← hd]; simp)
    obtain ⟨kvs, u, e1, e2, e3, _⟩ := hc1.at hon
    simp [FB_law_3, lE, e1, e2]
    rw [eh, e3]
    have hlen : (dn.flatMap (clOf ps)).length + (clOf ps o).length ≤ 16282080 := by
      rw [← hd, List.flatMap_append, List.flatMap_cons, List.length_append, List.length_append] at h2; omega
    simp only [lstO_lst, List.length_map]
    refine ⟨by omega, fun v hv => ?_⟩
    exact hN' _ _ ⟨dn ++ [o], rs, v, _, rfl, by simpa using hd, rfl, by rw [set_same]; simp, by rw [set_ne (ne_of eq hv)]; exact eq, hf1.fresh hv, hc1.fresh hv, hg1.fresh hv⟩
  · clear e1 e2 e3 eh hf1 hc1 hg1
    rintro e m ⟨dn, rs, h, z14, hy, hd, rfl, eh, eq, hf1, hc1, hg1⟩
    have := pnil hy
    subst this
    rw [List.append_nil] at hd
    refine ⟨eq, ?_⟩
    dsimp only
    refine go ?_
    obtain ⟨kvs, q', e1, e2, e3, e4⟩ := hg1.at hx
    simp [T_law_1, lE, e1, e2]
    rw [eh]
    simp only [lstO_lst]
    intro p hp
    have hgp : g ≠ p := ne_of e1 hp
    have hqp : q' ≠ p := ne_of e3 hp
    have hhp : h ≠ p := ne_of eh hp
    have hnew : newS (clOf ps) (fs x) = (dn.flatMap (clOf ps)).filter fun z => decide (z ∉ fs x) := by rw [hd]; rfl
    refine comp_filter id (tstN (fs x)) (fun m' => m' g = some (.dk kvs) ∧ m' q' = some (.lst ((fs x).map .str)) ∧ m' h = some (.lst ((dn.flatMap (clOf ps)).map .str))) (fun m' o hm => ⟨by rw [set_ne hgp]; exact hm.1, by rw [set_ne hqp]; exact hm.2.1, by rw [set_ne hhp]; exact hm.2.2⟩) (fun m' hm => hm.2.2) _ [] _ ?_ ?_ set_same ⟨by rw [set_ne hgp]; exact e1, by rw [set_ne hqp]; exact e3, by rw [set_ne hhp]; exact eh⟩ ?_
    · intro z hz m' T N2 hm hT
      obtain ⟨y, hy, rfl⟩ := List.mem_map.mp hz
      simp [CT_law_1, CE_law_2, hm.1, e2, hm.2.1]
      have : tstN (fs x) (.str y) = decide (y ∉ fs x) := rfl
      rw [this] at hT
      refine ⟨rfl, fun _ _ => rfl, ?_⟩
      have hex : (∃ z, z ∈ fs x ∧ eqF (.str z) (.str y) = true) ↔ y ∈ fs x := by simp [eqF]
      by_cases hyf : y ∈ fs x
      · rw [if_pos (hex.mpr hyf)]
        simpa [hyf] using hT
      · rw [if_neg fun e => hyf (hex.mp e)]
        simpa [hyf] using hT
    · rw [List.length_map, hd]; simp only [List.length_nil]; omega
    · rw [set_set, List.nil_append, List.map_id, filt_str, ← hnew]
      have hf2 := hf1.fresh (o := .lst ((newS (clOf ps) (fs x)).map .str)) hp
      have hc2 := hc1.fresh (o := .lst ((newS (clOf ps) (fs x)).map .str)) hp
      have hg2 := hg1.fresh (o := .lst ((newS (clOf ps) (fs x)).map .str)) hp
      rw [set_ne hqp, e3, set_same]
      simp only [lstO_lst, List.length_map]
      rw [List.length_append] at h3
      refine ⟨by omega, fun v hv => ?_⟩
      have hf3 := hf2.fresh (o := .lst ((fs x).map .str ++ (newS (clOf ps) (fs x)).map .str)) hv
      have hc3 := hc2.fresh (o := .lst ((fs x).map .str ++ (newS (clOf ps) (fs x)).map .str)) hv
      have hg3 := hg2.fresh (o := .lst ((fs x).map .str ++ (newS (clOf ps) (fs x)).map .str)) hv
      have ev : ((m.set p (.lst ((newS (clOf ps) (fs x)).map .str))).set v (.lst ((fs x).map .str ++ (newS (clOf ps) (fs x)).map .str))) v = some (.lst ((fs x ++ newS (clOf ps) (fs x)).map .str)) := by rw [set_same]; simp
      generalize (m.set p (.lst ((newS (clOf ps) (fs x)).map .str))).set v (.lst ((fs x).map .str ++ (newS (clOf ps) (fs x)).map .str)) = m3 at hf3 hc3 hg3 ev ⊢
      obtain ⟨ad, k1, k2⟩ := hg3.h
      have hvg : v ≠ g := by intro e; rw [e, k1] at ev; cases ev
      rw [k1]
      simp
      refine ⟨by simp [kvA]; omega, hN _ _ _ (hf3.upd hgn hga) (hc3.dict k1 hgc) ?_⟩
      exact LS.put k1 (fun p hp _ => k2 p hp) hx ev hvg
theorem law_sweeps (hP : PB ps ls) {x2 x7 x8 x9 x10 x11 x12 x13 x14 x15 : Option D} {m : Sto} {g : Addr} {du : D} (hf : Fr a b M0 m) (hc : LS ps (clOf ps) c m) (hg : LS ps (clOf ps) g m) (hgc : g ≠ c) (hga : g ≠ a) (hgn : M0 g = none) {D' : Ends}
    (hN : ∀ m' x7 x9 x12 x13 x14, Fr a b M0 m' → LS ps (clOf ps) c m' → LS ps (fun x => itF (clOf ps) ps.length (clOf ps x)) g m' → D'.nx (lE s a x2 (.tup (ps.map dBP)) du (some (.ref c)) (some (.ref g)) x7 x8 x9 x10 x11 x12 x13 x14 x15) m') :
    forL (gName 7) FB_law_5 (fun _ => True) (rangeL 0 ps.length) E D' (lE s a x2 (.tup (ps.map dBP)) du (some (.ref c)) (some (.ref g)) x7 x8 x9 x10 x11 x12 x13 x14 x15) m := by
  have NM := names_of hP
  have hpl : ps.length ≤ 4 := by have := NM.le; simpa using this
  have hnl : (ps.map Prod.fst).length = ps.length := by simp
  refine for_ind (fun xs e m => ∃ (j : Nat) (x7 x9 x12 x13 x14 : Option D), xs.length + j = ps.length ∧ e = lE s a x2 (.tup (ps.map dBP)) du (some (.ref c)) (some (.ref g)) x7 x8 x9 x10 x11 x12 x13 x14 x15 ∧ Fr a b M0 m ∧ LS ps (clOf ps) c m ∧ LS ps (fun x => itF (clOf ps) j (clOf ps x)) g m) ?_ ?_ _ _ _
    ⟨0, x7, x9, x12, x13, x14, by rw [rangeL_len]; simp, rfl, hf, hc, hg⟩
  · clear hf hc hg
    rintro x xs e m ⟨j, y7, y9, y12, y13, y14, hj, rfl, hf, hc, hg⟩
    refine ⟨trivial, fun N hN' => ?_⟩
    simp only [List.length_cons] at hj
    simp [FB_law_5, lE]
    refine for_ind (fun xs e m => ∃ (dn rs : List (Str × Bd)) (x9 x12 x13 x14 : Option D), xs = rs.map dBP ∧ dn ++ rs = ps ∧ e = lE s a x2 (.tup (ps.map dBP)) du (some (.ref c)) (some (.ref g)) (some x) x8 x9 x10 x11 x12 x13 x14 x15 ∧ Fr a b M0 m ∧ LS ps (clOf ps) c m ∧
      LS ps (fun x => if x ∈ dn.map Prod.fst then itF (clOf ps) (j + 1) (clOf ps x) else itF (clOf ps) j (clOf ps x)) g m) ?_ ?_ _ _ _ ⟨[], ps, y9, y12, y13, y14, rfl, rfl, rfl, hf, hc, by simpa using hg⟩
    · clear hf hc hg
      rintro y ys e m ⟨dn, rs, z9, z12, z13, z14, hy, hd, rfl, hf, hc, hg⟩
      obtain ⟨r, rs, rfl, rfl, rfl⟩ := pcons hy
      have hrp : r.1 ∈ ps.map Prod.fst := by rw [← hd]; simp
      have hrd := nd_snoc NM.nd hd
      refine ⟨trivial, fun N2 hN2 => ?_⟩
      simp [dBP, lE]
      have hok := itF_ok NM hrp (j := j) (by omega)
      have hok' := itF_ok NM hrp (j := j + 1) (by omega)
      refine law_sweep1 hP hf hc hg hgc hga hgn hrp ?_ ?_ ?_ fun m' z13 z14 hf' hc' hg' => hN2 _ _ ⟨dn ++ [r], rs, _, _, _, _, rfl, by simpa using hd, rfl, hf', hc', hg'.congr fun p hp => ?_⟩
      · rw [if_neg hrd]; exact hok.1
      · rw [if_neg hrd]; exact hok.2.2
      · rw [if_neg hrd]; have := hok'.2.1; exact Nat.le_trans this (by decide)
      · rw [if_neg hrd]
        by_cases e : p.1 = r.1
        · rw [if_pos e, e, if_pos (by simp)]; rfl
        · rw [if_neg e]
          by_cases e' : p.1 ∈ dn.map Prod.fst
          · rw [if_pos e', if_pos (by rw [List.map_append]; exact List.mem_append_left _ e')]
          · rw [if_neg e', if_neg (by rw [List.map_append]; intro h; rcases List.mem_append.mp h with h | h; exact e' h; exact e (by simpa using h))]
    · rintro e m ⟨dn, rs, z9, z12, z13, z14, hy, hd, rfl, hf, hc, hg⟩
      have := pnil hy
      subst this
      rw [List.append_nil] at hd
      subst hd
      refine ⟨trivial, hN' _ _ ⟨j + 1, _, _, _, _, _, by omega, rfl, hf, hc, hg.congr fun p hp => ?_⟩⟩
      rw [if_pos (List.mem_map.mpr ⟨p, hp, rfl⟩)]
  · rintro e m ⟨j, y7, y9, y12, y13, y14, hj, rfl, hf, hc, hg⟩
    have : j = ps.length := by simpa using hj
    subst this
    exact ⟨trivial, hN _ _ _ _ _ _ hf hc hg⟩
theorem alk_str {n : Nat} {x : Str} : alk (n + 1) (.str x) := .inr (.inl ⟨x, rfl⟩)
theorem alk_int {n : Nat} {x : Int} : alk (n + 1) (.int x) := .inl ⟨x, rfl⟩
theorem alk_tup {n : Nat} {xs : List D} (h : xs.length ≤ 100000) (h' : ∀ x ∈ xs, alk n x) : alk (n + 1) (.tup xs) := .inr (.inr ⟨xs, rfl, h, h'⟩)
theorem alk_strs {n : Nat} {xs : List Str} (h : xs.length ≤ 100000) : alk (n + 2) (.tup (xs.map .str)) := alk_tup (by simpa using h) fun x hx => by
  obtain ⟨s, _, rfl⟩ := List.mem_map.mp hx; exact alk_str
theorem alk_W {n : Nat} {w : Wy} (h1 : w.cs.length ≤ 5) (h2 : w.ls.length ≤ 5) : alk (n + 4) (dW w) := by
  refine alk_tup (by simp) fun x hx => ?_
  simp at hx
  rcases hx with rfl | rfl | rfl
  · exact alk_tup (by simp) fun x hx => by simp at hx; rcases hx with rfl | rfl <;> exact alk_int
  · exact alk_strs (by omega)
  · exact alk_strs (by omega)
theorem alk_alts (hP : PB ps ls) : alk 8 (.tup (ps.map dAlt)) := by
  have hpl : ps.length ≤ 4 := by have := (names_of hP).le; simpa using this
  obtain ⟨hns, hls, hps⟩ := hP
  refine alk_tup (by simp; omega) fun x hx => ?_
  obtain ⟨p, hp, rfl⟩ := List.mem_map.mp hx
  have hA := alts5 (hps p hp)
  have h5 := ways5 (hps p hp)
  have := wts_len hA
  refine alk_tup (by simp) fun x hx => ?_
  simp at hx
  rcases hx with rfl | rfl
  · exact alk_str
  · refine alk_tup (by simp; omega) fun x hx => ?_
    obtain ⟨w, hw, rfl⟩ := List.mem_map.mp hx
    have := hA.el w hw
    exact alk_W this.2.1 this.2.2.1
theorem alk_rch {f : Str → Str → Bool} (h : ps.length ≤ 4) : alk 8 (.tup (ps.map (dRch ps f))) := by
  refine alk_tup (by simp; omega) fun x hx => ?_
  obtain ⟨p, hp, rfl⟩ := List.mem_map.mp hx
  refine alk_tup (by simp) fun x hx => ?_
  simp at hx
  rcases hx with rfl | rfl
  · exact alk_str
  · refine alk_strs (Nat.le_trans (List.length_filter_le _ _) ?_)
    simp; omega
theorem law_told (hP : PB ps ls) {x2 x7 x8 x9 x10 x11 x12 x13 x14 x15 : Option D} {m : Sto} {g : Addr} {du : D} (hf : Fr a b M0 m) (hg : LS ps (fun x => itF (clOf ps) ps.length (clOf ps x)) g m) {D' : Ends}
    (hN : ∀ m' x8, Fr a b M0 m' → D'.nx (lE s a x2 (.tup (ps.map dBP)) du (some (.ref c)) (some (.ref g)) x7 x8 x9 x10 x11 x12 x13 x14 x15) m') :
    T_law_2 E D' (lE s a x2 (.tup (ps.map dBP)) du (some (.ref c)) (some (.ref g)) x7 x8 x9 x10 x11 x12 x13 x14 x15) m := by
  have hsz := sizeLine_ge
  have NM := names_of hP
  have hpl : ps.length ≤ 4 := by have := NM.le; simpa using this
  let f' : Str → Str → Bool := fun x y => decide (y ∈ itF (clOf ps) ps.length (clOf ps x))
  simp [T_law_2, lE]
  intro p hp
  have hp1 := hf.none hp
  obtain ⟨ad, k1, k2⟩ := hg.h
  have hgp : g ≠ p := ne_of k1 hp
  have hadp : ∀ q ∈ ps, ad q.1 ≠ p := fun q hq => ne_of (k2 q hq) hp
  refine comp_ind (fun acc xs m' => ∃ dn rs : List (Str × Bd), acc = dn.map (dRch ps f') ∧ xs = rs.map dBP ∧ dn ++ rs = ps ∧ m' p = some (.lst acc) ∧ Fr a b M0 m' ∧ m' g = some (.dk (kvA ps ad)) ∧ ∀ q ∈ ps, m' (ad q.1) = some (.lst ((itF (clOf ps) ps.length (clOf ps q.1)).map .str))) ?_ ?_ _ [] _ ⟨[], ps, rfl, rfl, rfl, set_same, hf.fresh hp, by rw [set_ne hgp]; exact k1, fun q hq => by rw [set_ne (hadp q hq)]; exact k2 q hq⟩
  · rintro x xs acc m' ⟨dn, rs, rfl, hx, hd, ep, hf', k1', k2'⟩
    have hg' : LS ps (fun x => itF (clOf ps) ps.length (clOf ps x)) g m' := ⟨ad, k1', k2'⟩
    obtain ⟨r, rs, rfl, rfl, rfl⟩ := pcons hx
    have hrp : r.1 ∈ ps.map Prod.fst := by rw [← hd]; simp
    have hdl : dn.length ≤ 4 := by have h1 := congrArg List.length hd; simp at h1; omega
    refine ⟨trivial, by simp; omega, fun T hT => ?_⟩
    simp [CE_law_4, dBP]
    intro q hq
    have hpq : p ≠ q := ne_of ep hq
    obtain ⟨kvs, u, e1, e2, e3, _⟩ := hg'.at hrp
    have hgq : g ≠ q := ne_of e1 hq
    have huq : u ≠ q := ne_of e3 hq
    refine comp_filter fstD (tstR (itF (clOf ps) ps.length (clOf ps r.1))) (fun m' => m' g = some (.dk kvs) ∧ m' u = some (.lst ((itF (clOf ps) ps.length (clOf ps r.1)).map .str))) (fun m' o hm => ⟨by rw [set_ne hgq]; exact hm.1, by rw [set_ne huq]; exact hm.2⟩) (fun _ _ => trivial) _ [] _ ?_ ?_ set_same ⟨by rw [set_ne hgq]; exact e1, by rw [set_ne huq]; exact e3⟩ ?_
    · intro z hz m' T2 N2 hm hT2
      obtain ⟨y, hy, rfl⟩ := List.mem_map.mp hz
      simp [CT_law_2, CE_law_3, hm.1, e2, hm.2, dBP]
      refine ⟨rfl, fun _ _ => rfl, ?_⟩
      have h1 : tstR (itF (clOf ps) ps.length (clOf ps r.1)) (dBP y) = decide (y.1 ∈ itF (clOf ps) ps.length (clOf ps r.1)) := rfl
      have h2 : fstD (dBP y) = .str y.1 := rfl
      rw [h1, h2] at hT2
      have hex : (∃ z, z ∈ itF (clOf ps) ps.length (clOf ps r.1) ∧ eqF (.str z) (.str y.1) = true) ↔ y.1 ∈ itF (clOf ps) ps.length (clOf ps r.1) := by simp [eqF]
      by_cases hyf : y.1 ∈ itF (clOf ps) ps.length (clOf ps r.1)
      · rw [if_pos (hex.mpr hyf)]
        simpa [hyf] using hT2
      · rw [if_neg fun e => hyf (hex.mp e)]
        simpa [hyf] using hT2
    · simp; omega
    · rw [set_set, List.nil_append, filt_map, set_same]
      simp only [lstO_lst]
      refine hT _ _ (by rw [set_ne hpq]; exact ep) ⟨dn ++ [r], rs, by simp [dRch, f'], rfl, by simpa using hd, set_same, (hf'.fresh hq).upd hp1.2 hp1.1, by rw [set_ne hgp, set_ne (ne_of k1' hq)]; exact k1', fun z hz => by rw [set_ne (hadp z hz), set_ne (ne_of (k2' z hz) hq)]; exact k2' z hz⟩
  · rintro acc m' ⟨dn, rs, rfl, hx, hd, ep, hf', hg'⟩
    have := pnil hx
    subst this
    rw [List.append_nil] at hd
    subst hd
    refine ⟨trivial, ?_⟩
    simp [ep]
    refine go ?_
    simp [S_called_by]
    refine ⟨dn, rfl, ⟨ls, hP⟩, f', fun x bx hx y by' hy => ?_, rfl, alk_rch hpl, ?_⟩
    · have h1 := rch_itF NM (List.mem_map.mpr ⟨_, hx, rfl⟩) (y := y)
      rw [List.length_map] at h1
      simp only [f', decide_eq_true_eq]
      exact h1
    · simp
      exact hN _ _ hf'
end
theorem ob_law : ∀ E ds M Q, S_law E ds M Q → B_law E (endsL Q) (start 16 ds) M := by
  intro E ds M Q h
  obtain ⟨x, rfl, ⟨ns, rfl, hl, hb⟩, hq⟩ := fn1_e h
  simp [B_law]
  refine ⟨ns, rfl, hl, fun a b hab ha hb => ?_⟩
  have hc : CSt ((M.set b (.lst (ns.map .int))).set a (cs b 0 0 0 20)) a b := ⟨hab, ⟨ns, by rw [set_ne hab.symm, set_same]⟩, _, set_same, 0, 0, 0, 20, by decide, rfl⟩
  generalize ((M.set b (.lst (ns.map .int))).set a (cs b 0 0 0 20)) = M0 at hc ⊢
  refine go ?_
  simp
  refine for_ind (fun xs e m => Fr a b M0 m ∧ ∃ x2 x3 x4 x5 x6 x7 x8 x9 x10 x11 x12 x13 x14 x15 : Option D, e = [some (D.lro (ns.map .int)), some (.ref a), x2, x3, x4, x5, x6, x7, x8, x9, x10, x11, x12, x13, x14, x15]) ?_ ?_ _ _ _ ⟨hc.refl, _, _, _, _, _, _, _, _, _, _, _, _, _, _, rfl⟩
  · rintro x xs e m ⟨f, x2, x3, x4, x5, x6, x7, x8, x9, x10, x11, x12, x13, x14, x15, rfl⟩
    refine ⟨trivial, fun N hN => ?_⟩
    simp [FB_law_6]
    refine ⟨a, b, rfl, hc.fr f, fun rs o hwp hco => ?_⟩
    have f1 := f.set hco
    generalize m.set a o = m1 at f1 ⊢
    obtain ⟨ps, ls, ep, hP⟩ := wp_pb hwp
    rw [ep]
    refine go ?_
    simp
    refine ⟨ps, ls, rfl, hP, go ?_⟩
    simp
    refine ⟨ps, ls, rfl, hP, rfl, alk_alts hP, ?_⟩
    simp
    refine go ?_
    simp [T_law_4]
    intro c hcn
    have hc1 := f1.none hcn
    refine go ?_
    simp
    refine law_calls (s := ns) hP (f1.fresh hcn) set_same hc1.1 hc1.2 fun m2 y9 y10 y11 f2 L2 => ?_
    refine go ?_
    unfold T_law_3
    rw [sSeq_s, sAsg_s]
    refine law_found hP f2 L2 hc1.1 hc1.2 fun g m3 f3 L3 G3 hgc hga hgn => ?_
    simp [lE]
    refine go ?_
    simp
    have hpl : ps.length ≤ 4 := by have := (names_of hP).le; simpa using this
    refine ⟨by omega, ?_⟩
    refine law_sweeps (s := ns) hP f3 L3 G3 hgc hga hgn fun m4 z7 z9 z12 z13 z14 f4 L4 G4 => ?_
    refine go ?_
    refine law_told hP f4 G4 fun m5 z8 f5 => ?_
    exact hN _ _ ⟨f5, _, _, _, _, _, _, _, _, _, _, _, _, _, _, rfl⟩
  · rintro e m ⟨f, x2, x3, x4, x5, x6, x7, x8, x9, x10, x11, x12, x13, x14, x15, rfl⟩
    refine ⟨trivial, go ?_⟩
    simp [T_law_5]
    exact ⟨m, Le.refl, hq _⟩
end DL

set_option Elab.async false
set_option linter.all false
set_option maxRecDepth 100000
set_option maxHeartbeats 8000000
/-! derivations (printed by gen.py) -/
namespace DL
open PySem PySem.Spec PyProof.Rows L2
def top (i : Nat) : Stmt := PySem.Challenge.pw_hazardry_k31_alternatives.main.body.getD i (.Pass ⟨0, 0, 0, 0⟩)
structure Tx (K : PySem.W.Frag) (mg : Str → Option Value) : Prop where
  m_abs : mg "abs" = none
  m_all : mg "all" = none
  m_bool : mg "bool" = none
  m_dict : mg "dict" = none
  m_int : mg "int" = none
  m_isinstance : mg "isinstance" = none
  m_len : mg "len" = none
  m_list : mg "list" = none
  m_range : mg "range" = none
  m_str : mg "str" = none
  m_tuple : mg "tuple" = none
  g_ZERO : GRep K mg "ZERO" g_ZERO
  g_ONE : GRep K mg "ONE" g_ONE
abbrev s_common_divisor : Stmt := top 3
theorem sc_common_divisor : FnScope ["first", "second"] ["first", "second"] (defScope s_common_divisor) := ⟨rfl, rfl, rfl, by decide +kernel, rfl, by decide +kernel, by decide +kernel⟩
abbrev s_ratio : Stmt := top 4
theorem sc_ratio : FnScope ["above", "below", "both"] ["above", "below"] (defScope s_ratio) := ⟨rfl, rfl, rfl, by decide +kernel, rfl, by decide +kernel, by decide +kernel⟩
abbrev s_plus : Stmt := top 5
theorem sc_plus : FnScope ["first", "second"] ["first", "second"] (defScope s_plus) := ⟨rfl, rfl, rfl, by decide +kernel, rfl, by decide +kernel, by decide +kernel⟩
abbrev s_times : Stmt := top 6
theorem sc_times : FnScope ["first", "second"] ["first", "second"] (defScope s_times) := ⟨rfl, rfl, rfl, by decide +kernel, rfl, by decide +kernel, by decide +kernel⟩
abbrev s_ways : Stmt := top 8
theorem sc_ways : FnScope ["body", "found", "left", "one", "chance", "calls", "letters", "fraction", "inner"] ["body"] (defScope s_ways) := ⟨rfl, rfl, rfl, by decide +kernel, rfl, by decide +kernel, by decide +kernel⟩
abbrev s_alternatives_of : Stmt := top 9
theorem sc_alternatives_of : FnScope ["body", "chances", "chance", "calls", "letters", "key"] ["body"] (defScope s_alternatives_of) := ⟨rfl, rfl, rfl, by decide +kernel, rfl, by decide +kernel, by decide +kernel⟩
abbrev s_alternatives : Stmt := top 10
theorem sc_alternatives : FnScope ["program", "name", "body"] ["program"] (defScope s_alternatives) := ⟨rfl, rfl, rfl, by decide +kernel, rfl, by decide +kernel, by decide +kernel⟩
abbrev s_called_by : Stmt := top 11
theorem sc_called_by : FnScope ["program", "direct", "found", "name", "rows", "body", "reached", "left", "one", "called", "chance", "calls", "letters", "other"] ["program"] (defScope s_called_by) := ⟨rfl, rfl, rfl, by decide +kernel, rfl, by decide +kernel, by decide +kernel⟩
abbrev s_law_start : Stmt := top 13
theorem sc_law_start : FnScope ["script", "cell"] ["script"] (defScope s_law_start) := ⟨rfl, rfl, rfl, by decide +kernel, rfl, by decide +kernel, by decide +kernel⟩
abbrev s_law_fill : Stmt := top 14
theorem sc_law_fill : FnScope ["c", "number"] ["c"] (defScope s_law_fill) := ⟨rfl, rfl, rfl, by decide +kernel, rfl, by decide +kernel, by decide +kernel⟩
abbrev s_law_take : Stmt := top 15
theorem sc_law_take : FnScope ["c", "many", "digit"] ["c", "many"] (defScope s_law_take) := ⟨rfl, rfl, rfl, by decide +kernel, rfl, by decide +kernel, by decide +kernel⟩
abbrev s_law_divisor : Stmt := top 16
theorem sc_law_divisor : FnScope ["a", "b", "turn"] ["a", "b"] (defScope s_law_divisor) := ⟨rfl, rfl, rfl, by decide +kernel, rfl, by decide +kernel, by decide +kernel⟩
abbrev s_law_fraction : Stmt := top 17
theorem sc_law_fraction : FnScope ["n", "d", "many"] ["n", "d"] (defScope s_law_fraction) := ⟨rfl, rfl, rfl, by decide +kernel, rfl, by decide +kernel, by decide +kernel⟩
abbrev s_law_plus : Stmt := top 18
theorem sc_law_plus : FnScope ["a", "b"] ["a", "b"] (defScope s_law_plus) := ⟨rfl, rfl, rfl, by decide +kernel, rfl, by decide +kernel, by decide +kernel⟩
abbrev s_law_times : Stmt := top 19
theorem sc_law_times : FnScope ["a", "b"] ["a", "b"] (defScope s_law_times) := ⟨rfl, rfl, rfl, by decide +kernel, rfl, by decide +kernel, by decide +kernel⟩
abbrev s_law_cut : Stmt := top 20
theorem sc_law_cut : FnScope ["c", "menu", "found", "rest", "n", "d", "part"] ["c"] (defScope s_law_cut) := ⟨rfl, rfl, rfl, by decide +kernel, rfl, by decide +kernel, by decide +kernel⟩
abbrev s_law_body : Stmt := top 21
theorem sc_law_body : FnScope ["c", "names", "letters", "deep", "way", "one"] ["c", "names", "letters", "deep"] (defScope s_law_body) := ⟨rfl, rfl, rfl, by decide +kernel, rfl, by decide +kernel, by decide +kernel⟩
abbrev s_law_program : Stmt := top 22
theorem sc_law_program : FnScope ["c", "names", "k", "letters", "name"] ["c"] (defScope s_law_program) := ⟨rfl, rfl, rfl, by decide +kernel, rfl, by decide +kernel, by decide +kernel⟩
abbrev s_law_alike : Stmt := top 23
theorem sc_law_alike : FnScope ["value", "due", "k"] ["value", "due"] (defScope s_law_alike) := ⟨rfl, rfl, rfl, by decide +kernel, rfl, by decide +kernel, by decide +kernel⟩
abbrev s_law_ways : Stmt := top 24
theorem sc_law_ways : FnScope ["body", "chance", "calls", "letters", "found", "one", "inner"] ["body", "chance", "calls", "letters", "found"] (defScope s_law_ways) := ⟨rfl, rfl, rfl, by decide +kernel, rfl, by decide +kernel, by decide +kernel⟩
abbrev s_law_alternatives : Stmt := top 25
theorem sc_law_alternatives : FnScope ["program", "found", "name", "body", "ways_v", "rows", "chance", "calls", "letters", "same", "k"] ["program"] (defScope s_law_alternatives) := ⟨rfl, rfl, rfl, by decide +kernel, rfl, by decide +kernel, by decide +kernel⟩
abbrev s_law : Stmt := top 26
theorem sc_law : FnScope ["script", "c", "turn", "program", "due", "calls", "found", "again", "told", "name", "rows", "row", "body", "more", "one", "other"] ["script"] (defScope s_law) := ⟨rfl, rfl, rfl, by decide +kernel, rfl, by decide +kernel, by decide +kernel⟩
section
variable {P : Program} {w : World} {K : PySem.W.Frag} {mg : Str → Option Value} {base : Heap} {CA : String → Addr}
theorem ok_common_divisor (T : Tx K mg) {f : Addr} {fd : FuncData} (F : Fun K "common_divisor" "common_divisor" s_common_divisor f fd) : FnOk P w K mg base CX0 1 f fd ["first", "second"] (spOf ⟨P, w, K, CA⟩ S_common_divisor) :=
  fn_l F sc_common_divisor len2 (gb := B_common_divisor) (fun cdv A outer s H E hr =>
    (ss_cons (s_par 0 1 rfl sc_common_divisor.nd (by decide) (d_abs T.m_abs (d_var 0)) (d_abs T.m_abs (d_var 1)) rfl)
    (ss_cons (s_while PassesOwn.never (t_cmp (op_neA hr) neS (d_var 1) d_int (nomark _)) (ss_one (s_par 0 1 rfl sc_common_divisor.nd (by decide) (d_var 1) (d_mod (d_var 0) (d_var 1)) rfl)))
    (ss_one (s_ret (d_var 0)))))) ob_common_divisor
theorem ok_ratio (T : Tx K mg) {f : Addr} {fd : FuncData} (F : Fun K "ratio" "ratio" s_ratio f fd) (D_common_divisor : FnD ⟨P, w, K, CA⟩ mg base CX0 1 "common_divisor" S_common_divisor) : FnOk P w K mg base CX0 2 f fd ["above", "below"] (spOf ⟨P, w, K, CA⟩ S_ratio) :=
  fn_l F sc_ratio len2 (gb := B_ratio) (fun cdv A outer s H E hr =>
    (ss_cons (s_if (t_cmp op_lt ltS (d_var 1) d_int (nomark _)) (ss_one (s_par 0 1 rfl sc_ratio.nd (by decide) (d_neg (d_var 0)) (d_neg (d_var 1)) rfl)) ss_nil)
    (ss_cons (s_if (t_cmp (op_neA hr) neS (d_var 1) d_int (nomark _)) (ss_cons (s_set 2 sc_ratio.nd (d_call D_common_divisor hr (by decide) passN (a_cons (d_var 0) (a_cons (d_var 1) SAs.nil))))
    (ss_one (s_par 0 1 rfl sc_ratio.nd (by decide) (d_div (d_var 0) (d_var 2)) (d_div (d_var 1) (d_var 2)) rfl))) ss_nil)
    (ss_one (s_ret (d_tup (a_cons (d_var 0) (a_cons (d_var 1) SAs.nil)))))))) ob_ratio
theorem ok_plus (T : Tx K mg) {f : Addr} {fd : FuncData} (F : Fun K "plus" "plus" s_plus f fd) (D_ratio : FnD ⟨P, w, K, CA⟩ mg base CX0 2 "ratio" S_ratio) : FnOk P w K mg base CX0 3 f fd ["first", "second"] (spOf ⟨P, w, K, CA⟩ S_plus) :=
  fn_l F sc_plus len2 (gb := B_plus) (fun cdv A outer s H E hr =>
    (ss_cons (s_if (t_chain (op_eqA hr) eqS (op_eqA hr) eqS (d_sub_ hr (d_var 0) d_int) (d_sub_ hr (d_var 1) d_int) d_int) (ss_one (s_ret (d_tup (a_cons (d_add (d_sub_ hr (d_var 0) d_int) (d_sub_ hr (d_var 1) d_int)) (a_cons d_int SAs.nil))))) ss_nil)
    (ss_one (s_ret (d_call D_ratio hr (by decide) passN (a_cons (d_add (d_mul (d_sub_ hr (d_var 0) d_int) (d_sub_ hr (d_var 1) d_int)) (d_mul (d_sub_ hr (d_var 1) d_int) (d_sub_ hr (d_var 0) d_int))) (a_cons (d_mul (d_sub_ hr (d_var 0) d_int) (d_sub_ hr (d_var 1) d_int)) SAs.nil))))))) ob_plus
theorem ok_times (T : Tx K mg) {f : Addr} {fd : FuncData} (F : Fun K "times" "times" s_times f fd) (D_ratio : FnD ⟨P, w, K, CA⟩ mg base CX0 2 "ratio" S_ratio) : FnOk P w K mg base CX0 3 f fd ["first", "second"] (spOf ⟨P, w, K, CA⟩ S_times) :=
  fn_l F sc_times len2 (gb := B_times) (fun cdv A outer s H E hr =>
    (ss_one (s_ret (d_call D_ratio hr (by decide) passN (a_cons (d_mul (d_sub_ hr (d_var 0) d_int) (d_sub_ hr (d_var 1) d_int)) (a_cons (d_mul (d_sub_ hr (d_var 0) d_int) (d_sub_ hr (d_var 1) d_int)) SAs.nil)))))) ob_times
theorem ok_ways (T : Tx K mg) {f : Addr} {fd : FuncData} (F : Fun K "ways" "ways" s_ways f fd) (D_times : FnD ⟨P, w, K, CA⟩ mg base CX0 3 "times" S_times) : FnOk P w K mg base CX0 4 f fd ["body"] (spOf ⟨P, w, K, CA⟩ S_ways) :=
  fn_l F sc_ways len1 (gb := B_ways) (fun cdv A outer s H E hr =>
    (ss_cons (s_set 1 sc_ways.nd (d_lst SAs.nil))
    (ss_cons (s_set 2 sc_ways.nd (d_lst (a_cons (d_tup (a_cons (d_var 0) (a_cons (d_glob T.g_ONE) (a_cons (d_tup SAs.nil) (a_cons (d_tup SAs.nil) SAs.nil))))) SAs.nil)))
    (ss_cons (s_while PassesOwn.never (t_tru (d_var 2)) (ss_cons (s_asg (vs := [3, 4, 5, 6]) (d_pop (d_var 2)) (g_tup rfl (gs_cons (g_name 3 sc_ways.nd (by decide)) (gs_cons (g_name 4 sc_ways.nd (by decide)) (gs_cons (g_name 5 sc_ways.nd (by decide)) (gs_cons (g_name 6 sc_ways.nd (by decide)) gs_nil))))))
    (ss_one (s_if (t_cmp (op_eqA hr) eqS (d_sub_ hr (d_var 3) d_int) d_str (nomark _)) (ss_one (s_expr (d_append (d_var 1) (d_tup (a_cons (d_var 4) (a_cons (d_var 5) (a_cons (d_var 6) SAs.nil))))))) (ss_one (s_if (t_cmp (op_eqA hr) eqS (d_sub_ hr (d_var 3) d_int) d_str (nomark _)) (ss_one (s_expr (d_append (d_var 2) (d_tup (a_cons (d_sub_ hr (d_var 3) d_int) (a_cons (d_var 4) (a_cons (d_var 5) (a_cons (d_add (d_var 6) (d_tup (a_cons (d_sub_ hr (d_var 3) d_int) SAs.nil))) SAs.nil)))))))) (ss_one (s_if (t_cmp (op_eqA hr) eqS (d_sub_ hr (d_var 3) d_int) d_str (nomark _)) (ss_one (s_expr (d_append (d_var 2) (d_tup (a_cons (d_sub_ hr (d_var 3) d_int) (a_cons (d_var 4) (a_cons (d_add (d_var 5) (d_tup (a_cons (d_sub_ hr (d_var 3) d_int) SAs.nil))) (a_cons (d_var 6) SAs.nil)))))))) (ss_one (s_if (t_cmp (op_eqA hr) eqS (d_sub_ hr (d_var 3) d_int) d_str (nomark _)) (ss_one (s_for (vs := [7, 8]) PassesOwn.never rfl (i_val (d_rev (d_sub_ hr (d_var 3) d_int))) (g_tup rfl (gs_cons (g_name 7 sc_ways.nd (by decide)) (gs_cons (g_name 8 sc_ways.nd (by decide)) gs_nil))) (ss_one (s_expr (d_append (d_var 2) (d_tup (a_cons (d_var 8) (a_cons (d_call D_times hr (by decide) passN (a_cons (d_var 4) (a_cons (d_var 7) SAs.nil))) (a_cons (d_var 5) (a_cons (d_var 6) SAs.nil)))))))))) ss_nil))))))))))
    (ss_one (s_ret (d_var 1))))))) ob_ways
theorem ok_alternatives_of (T : Tx K mg) {f : Addr} {fd : FuncData} (F : Fun K "alternatives_of" "alternatives_of" s_alternatives_of f fd) (D_ways : FnD ⟨P, w, K, CA⟩ mg base CX0 4 "ways" S_ways) (D_plus : FnD ⟨P, w, K, CA⟩ mg base CX0 3 "plus" S_plus) : FnOk P w K mg base CX0 5 f fd ["body"] (spOf ⟨P, w, K, CA⟩ S_alternatives_of) :=
  fn_l F sc_alternatives_of len1 (gb := B_alternatives_of) (fun cdv A outer s H E hr =>
    (ss_cons (s_set 1 sc_alternatives_of.nd d_dn)
    (ss_cons (s_for (vs := [2, 3, 4]) PassesOwn.never rfl (i_val (d_call D_ways hr (by decide) passN (a_cons (d_var 0) SAs.nil))) (g_tup rfl (gs_cons (g_name 2 sc_alternatives_of.nd (by decide)) (gs_cons (g_name 3 sc_alternatives_of.nd (by decide)) (gs_cons (g_name 4 sc_alternatives_of.nd (by decide)) gs_nil)))) (ss_one (s_asg (vs := []) (d_call D_plus hr (by decide) passN (a_cons (d_get2 hr (d_var 1) (d_tup (a_cons (d_var 3) (a_cons (d_var 4) SAs.nil))) (d_glob T.g_ZERO)) (a_cons (d_var 2) SAs.nil))) (g_sub hr (d_var 1) (d_tup (a_cons (d_var 3) (a_cons (d_var 4) SAs.nil)))))))
    (ss_one (s_ret (d_tupOf T.m_tuple (d_lock 1 (d_comp (own := [("key", 5)]) rfl sc_alternatives_of.nd (i_keys (d_var 1)) (blk_by (N := ["body", "chances", "chance", "calls", "letters", "key"]) (sc := defScope s_alternatives_of) rfl rfl (own := [("key", 5)]) (by decide +kernel)) (fun _ _ _ _ _ => (g_name 5 sc_alternatives_of.nd (by decide))) (fun _ _ _ _ _ => ts_nil) (fun _ _ _ _ _ => (d_add (d_tup (a_cons (d_sub_ hr (d_var 1) (d_var 5)) SAs.nil)) (d_var 5))))))))))) ob_alternatives_of
theorem ok_alternatives (T : Tx K mg) {f : Addr} {fd : FuncData} (F : Fun K "alternatives" "alternatives" s_alternatives f fd) (D_alternatives_of : FnD ⟨P, w, K, CA⟩ mg base CX0 5 "alternatives_of" S_alternatives_of) : FnOk P w K mg base CX0 6 f fd ["program"] (spOf ⟨P, w, K, CA⟩ S_alternatives) :=
  fn_l F sc_alternatives len1 (gb := B_alternatives) (fun cdv A outer s H E hr =>
    (ss_one (s_ret (d_tupOf T.m_tuple (d_comp (own := [("name", 1), ("body", 2)]) rfl sc_alternatives.nd (i_val (d_var 0)) (blk_by (N := ["program", "name", "body"]) (sc := defScope s_alternatives) rfl rfl (own := [("name", 1), ("body", 2)]) (by decide +kernel)) (fun _ _ _ _ _ => (g_tup rfl (gs_cons (g_name 1 sc_alternatives.nd (by decide)) (gs_cons (g_name 2 sc_alternatives.nd (by decide)) gs_nil)))) (fun _ _ _ _ _ => ts_nil) (fun _ _ _ _ _ => (d_tup (a_cons (d_var 1) (a_cons (d_call D_alternatives_of hr (by decide) passN (a_cons (d_var 2) SAs.nil)) SAs.nil))))))))) ob_alternatives
theorem ok_called_by (T : Tx K mg) {f : Addr} {fd : FuncData} (F : Fun K "called_by" "called_by" s_called_by f fd) (D_alternatives : FnD ⟨P, w, K, CA⟩ mg base CX0 6 "alternatives" S_alternatives) : FnOk P w K mg base CX0 7 f fd ["program"] (spOf ⟨P, w, K, CA⟩ S_called_by) :=
  fn_l F sc_called_by len1 (gb := B_called_by) (fun cdv A outer s H E hr =>
    (ss_cons (s_set 1 sc_called_by.nd d_dk)
    (ss_cons (s_for (vs := [3, 4]) PassesOwn.never rfl (i_val (d_call D_alternatives hr (by decide) passN (a_cons (d_var 0) SAs.nil))) (g_tup rfl (gs_cons (g_name 3 sc_called_by.nd (by decide)) (gs_cons (g_name 4 sc_called_by.nd (by decide)) gs_nil))) (ss_one (s_asg (vs := []) (d_comp2 (own := [("chance", 10), ("calls", 11), ("letters", 12), ("called", 9)]) [9] rfl sc_called_by.nd (i_val (d_var 4)) (blk_by (N := ["program", "direct", "found", "name", "rows", "body", "reached", "left", "one", "called", "chance", "calls", "letters", "other"]) (sc := defScope s_called_by) rfl rfl (own := [("chance", 10), ("calls", 11), ("letters", 12), ("called", 9)]) (by decide +kernel)) (fun _ _ _ _ _ => (g_tup rfl (gs_cons (g_name 10 sc_called_by.nd (by decide)) (gs_cons (g_name 11 sc_called_by.nd (by decide)) (gs_cons (g_name 12 sc_called_by.nd (by decide)) gs_nil))))) (fun _ _ _ _ _ => ts_nil) (fun _ _ _ _ _ => (i_val (d_var 11))) (fun _ _ _ _ _ => (g_name 9 sc_called_by.nd (by decide))) (fun _ _ _ _ _ => ts_nil) (fun _ _ _ _ _ => (d_var 9))) (g_sub hr (d_var 1) (d_var 3)))))
    (ss_cons (s_set 2 sc_called_by.nd (d_lst SAs.nil))
    (ss_cons (s_for (vs := [3, 5]) PassesOwn.never rfl (i_val (d_var 0)) (g_tup rfl (gs_cons (g_name 3 sc_called_by.nd (by decide)) (gs_cons (g_name 5 sc_called_by.nd (by decide)) gs_nil))) (ss_cons (s_set 6 sc_called_by.nd d_dk)
    (ss_cons (s_set 7 sc_called_by.nd (d_lstOf rfl T.m_list (d_sub_ hr (d_var 1) (d_var 3))))
    (ss_cons (s_while PassesOwn.never (t_tru (d_var 7)) (ss_cons (s_set 8 sc_called_by.nd (d_pop (d_var 7)))
    (ss_one (s_if (t_cmp (op_notInA hr) notInS (d_var 8) (d_var 6) (by rfl)) (ss_cons (s_asg (vs := []) d_bl (g_sub hr (d_var 6) (d_var 8)))
    (ss_one (s_expr (d_extend (d_var 7) (d_sub_ hr (d_var 1) (d_var 8)))))) ss_nil))))
    (ss_one (s_expr (d_append (d_var 2) (d_tup (a_cons (d_var 3) (a_cons (d_tupOf T.m_tuple (d_comp (own := [("other", 13), ("body", 5)]) rfl sc_called_by.nd (i_val (d_var 0)) (blk_by (N := ["program", "direct", "found", "name", "rows", "body", "reached", "left", "one", "called", "chance", "calls", "letters", "other"]) (sc := defScope s_called_by) rfl rfl (own := [("other", 13), ("body", 5)]) (by decide +kernel)) (fun _ _ _ _ _ => (g_tup rfl (gs_cons (g_name 13 sc_called_by.nd (by decide)) (gs_cons (g_name 5 sc_called_by.nd (by decide)) gs_nil)))) (fun _ _ _ _ _ => ts_one (t_cmp (op_inA hr) inS (d_var 13) (d_var 6) (by rfl))) (fun _ _ _ _ _ => (d_var 13)))) SAs.nil))))))))))
    (ss_one (s_ret (d_tupOf T.m_tuple (d_var 2))))))))) ob_called_by
theorem ok_law_start (T : Tx K mg) {f : Addr} {fd : FuncData} (F : Fun K "_law_start" "_law_start" s_law_start f fd) : FnOk P w K mg base CX0 1 f fd ["script"] (spOf ⟨P, w, K, CA⟩ S_law_start) :=
  fn_l F sc_law_start len1 (gb := B_law_start) (fun cdv A outer s H E hr =>
    (ss_one (s_ret (d_lst (a_cons (d_comp (own := [("cell", 1)]) rfl sc_law_start.nd (i_val (d_slice (d_var 0) o_none (o_some d_int))) (blk_by (N := ["script", "cell"]) (sc := defScope s_law_start) rfl rfl (own := [("cell", 1)]) (by decide +kernel)) (fun _ _ _ _ _ => (g_name 1 sc_law_start.nd (by decide))) (fun _ _ _ _ _ => ts_nil) (fun _ _ _ _ _ => (d_intC T.m_int (d_var 1)))) (a_cons d_int (a_cons d_int (a_cons d_int (a_cons d_int SAs.nil))))))))) ob_law_start
theorem ok_law_fill (T : Tx K mg) {f : Addr} {fd : FuncData} (F : Fun K "_law_fill" "_law_fill" s_law_fill f fd) : FnOk P w K mg base CX0 1 f fd ["c"] (spOf ⟨P, w, K, CA⟩ S_law_fill) :=
  fn_l F sc_law_fill len1 (gb := B_law_fill) (fun cdv A outer s H E hr =>
    (ss_cons (s_asg (vs := []) (d_add (d_sub_ hr (d_var 0) d_int) d_int) (g_sub hr (d_var 0) d_int))
    (ss_cons (s_set 1 sc_law_fill.nd (d_add (d_mul (d_sub_ hr (d_var 0) d_int) d_int) d_int))
    (ss_cons (s_if (t_cmp op_lt ltS (d_sub_ hr (d_var 0) d_int) (d_len T.m_len (d_sub_ hr (d_var 0) d_int)) (nomark _)) (ss_cons (s_set 1 sc_law_fill.nd (d_sub_ hr (d_sub_ hr (d_var 0) d_int) (d_sub_ hr (d_var 0) d_int)))
    (ss_cons (s_asg (vs := []) (d_add (d_sub_ hr (d_var 0) d_int) d_int) (g_sub hr (d_var 0) d_int))
    (ss_cons (s_if (t_cmp op_lt ltS (d_var 1) d_int (nomark _)) (ss_one (s_set 1 sc_law_fill.nd (d_sub (d_sub d_int d_int) (d_var 1)))) ss_nil)
    (ss_one (s_if (t_cmp op_ge geS (d_var 1) (d_pow d_int d_int) (nomark _)) (ss_one (s_ret (d_var 1))) ss_nil))))) ss_nil)
    (ss_cons (s_if (t_w (w_and (t_tru (d_sub_ hr (d_var 0) d_int)) (w_and1 (t_cmp op_ge geS (d_sub_ hr (d_var 0) d_int) (d_len T.m_len (d_sub_ hr (d_var 0) d_int)) (nomark _))))) (ss_one (s_set 1 sc_law_fill.nd (d_add (d_var 1) (d_mod (d_intC T.m_int (d_sub_ hr (d_sub_ hr (d_var 0) d_int) (d_neg d_int))) d_int)))) ss_nil)
    (ss_cons (s_set 1 sc_law_fill.nd (d_mod (d_intC T.m_int (d_add (d_mul (d_var 1) d_int) (d_mul (d_sub_ hr (d_var 0) d_int) d_int))) d_int))
    (ss_one (s_ret (d_add (d_div (d_intC T.m_int (d_add (d_add (d_mul (d_var 1) (d_var 1)) (d_mul (d_sub_ hr (d_var 0) d_int) d_int)) d_int)) d_int) d_int))))))))) ob_law_fill
theorem ok_law_take (T : Tx K mg) {f : Addr} {fd : FuncData} (F : Fun K "_law_take" "_law_take" s_law_take f fd) (D_law_fill : FnD ⟨P, w, K, CA⟩ mg base CX0 1 "_law_fill" S_law_fill) : FnOk P w K mg base CX0 2 f fd ["c", "many"] (spOf ⟨P, w, K, CA⟩ S_law_take) :=
  fn_l F sc_law_take len2 (gb := B_law_take) (fun cdv A outer s H E hr =>
    (ss_cons (s_if (t_cmp op_lt ltS (d_sub_ hr (d_var 0) d_int) (d_var 1) (nomark _)) (ss_one (s_asg (vs := []) (d_call D_law_fill hr (by decide) passN (a_cons (d_var 0) SAs.nil)) (g_sub hr (d_var 0) d_int))) ss_nil)
    (ss_cons (s_set 2 sc_law_take.nd (d_mod (d_intC T.m_int (d_sub_ hr (d_var 0) d_int)) (d_var 1)))
    (ss_cons (s_asg (vs := []) (d_div (d_sub_ hr (d_var 0) d_int) (d_var 1)) (g_sub hr (d_var 0) d_int))
    (ss_one (s_ret (d_var 2))))))) ob_law_take
theorem ok_law_divisor (T : Tx K mg) {f : Addr} {fd : FuncData} (F : Fun K "_law_divisor" "_law_divisor" s_law_divisor f fd) : FnOk P w K mg base CX0 1 f fd ["a", "b"] (spOf ⟨P, w, K, CA⟩ S_law_divisor) :=
  fn_l F sc_law_divisor len2 (gb := B_law_divisor) (fun cdv A outer s H E hr =>
    (ss_cons (s_for (vs := [2]) PassesOwn.never rfl (i_range1 T.m_range d_int) (g_name 2 sc_law_divisor.nd (by decide)) (ss_cons (s_if (t_cmp (op_eqA hr) eqS (d_var 1) d_int (nomark _)) (ss_one (s_ret (d_abs T.m_abs (d_var 0)))) ss_nil)
    (ss_one (s_par 0 1 rfl sc_law_divisor.nd (by decide) (d_var 1) (d_mod (d_var 0) (d_var 1)) rfl))))
    (ss_one (s_ret d_int)))) ob_law_divisor
theorem ok_law_fraction (T : Tx K mg) {f : Addr} {fd : FuncData} (F : Fun K "_law_fraction" "_law_fraction" s_law_fraction f fd) (D_law_divisor : FnD ⟨P, w, K, CA⟩ mg base CX0 1 "_law_divisor" S_law_divisor) : FnOk P w K mg base CX0 2 f fd ["n", "d"] (spOf ⟨P, w, K, CA⟩ S_law_fraction) :=
  fn_l F sc_law_fraction len2 (gb := B_law_fraction) (fun cdv A outer s H E hr =>
    (ss_cons (s_set 2 sc_law_fraction.nd (d_call D_law_divisor hr (by decide) passN (a_cons (d_var 0) (a_cons (d_var 1) SAs.nil))))
    (ss_cons (s_set 2 sc_law_fraction.nd (d_ifE (t_cmp op_gt gtS (d_var 1) d_int (nomark _)) (d_var 2) (d_sub d_int (d_var 2))))
    (ss_one (s_ret (d_tup (a_cons (d_div (d_var 0) (d_var 2)) (a_cons (d_div (d_var 1) (d_var 2)) SAs.nil)))))))) ob_law_fraction
theorem ok_law_plus (T : Tx K mg) {f : Addr} {fd : FuncData} (F : Fun K "_law_plus" "_law_plus" s_law_plus f fd) (D_law_fraction : FnD ⟨P, w, K, CA⟩ mg base CX0 2 "_law_fraction" S_law_fraction) : FnOk P w K mg base CX0 3 f fd ["a", "b"] (spOf ⟨P, w, K, CA⟩ S_law_plus) :=
  fn_l F sc_law_plus len2 (gb := B_law_plus) (fun cdv A outer s H E hr =>
    (ss_one (s_ret (d_call D_law_fraction hr (by decide) passN (a_cons (d_add (d_mul (d_sub_ hr (d_var 0) d_int) (d_sub_ hr (d_var 1) d_int)) (d_mul (d_sub_ hr (d_var 1) d_int) (d_sub_ hr (d_var 0) d_int))) (a_cons (d_mul (d_sub_ hr (d_var 0) d_int) (d_sub_ hr (d_var 1) d_int)) SAs.nil)))))) ob_law_plus
theorem ok_law_times (T : Tx K mg) {f : Addr} {fd : FuncData} (F : Fun K "_law_times" "_law_times" s_law_times f fd) (D_law_fraction : FnD ⟨P, w, K, CA⟩ mg base CX0 2 "_law_fraction" S_law_fraction) : FnOk P w K mg base CX0 3 f fd ["a", "b"] (spOf ⟨P, w, K, CA⟩ S_law_times) :=
  fn_l F sc_law_times len2 (gb := B_law_times) (fun cdv A outer s H E hr =>
    (ss_one (s_ret (d_call D_law_fraction hr (by decide) passN (a_cons (d_mul (d_sub_ hr (d_var 0) d_int) (d_sub_ hr (d_var 1) d_int)) (a_cons (d_mul (d_sub_ hr (d_var 0) d_int) (d_sub_ hr (d_var 1) d_int)) SAs.nil)))))) ob_law_times
theorem ok_law_cut (T : Tx K mg) {f : Addr} {fd : FuncData} (F : Fun K "_law_cut" "_law_cut" s_law_cut f fd) (D_law_fraction : FnD ⟨P, w, K, CA⟩ mg base CX0 2 "_law_fraction" S_law_fraction) (D_law_take : FnD ⟨P, w, K, CA⟩ mg base CX0 2 "_law_take" S_law_take) (D_law_times : FnD ⟨P, w, K, CA⟩ mg base CX0 3 "_law_times" S_law_times) (D_law_plus : FnD ⟨P, w, K, CA⟩ mg base CX0 3 "_law_plus" S_law_plus) : FnOk P w K mg base CX0 4 f fd ["c"] (spOf ⟨P, w, K, CA⟩ S_law_cut) :=
  fn_l F sc_law_cut len1 (gb := B_law_cut) (fun cdv A outer s H E hr =>
    (ss_cons (s_set 1 sc_law_cut.nd (d_lst (a_cons (d_tup (a_cons d_int (a_cons d_int SAs.nil))) (a_cons (d_tup (a_cons d_int (a_cons d_int SAs.nil))) (a_cons (d_tup (a_cons d_int (a_cons d_int SAs.nil))) (a_cons (d_tup (a_cons d_int (a_cons d_int SAs.nil))) (a_cons (d_tup (a_cons d_int (a_cons d_int SAs.nil))) (a_cons (d_tup (a_cons d_int (a_cons d_int SAs.nil))) (a_cons (d_tup (a_cons d_int (a_cons d_int SAs.nil))) (a_cons (d_tup (a_cons d_int (a_cons d_int SAs.nil))) (a_cons (d_tup (a_cons d_int (a_cons d_int SAs.nil))) SAs.nil)))))))))))
    (ss_cons (s_asg (vs := [4, 5]) (d_sub_ hr (d_var 1) (d_call D_law_take hr (by decide) passN (a_cons (d_var 0) (a_cons d_int SAs.nil)))) (g_tup rfl (gs_cons (g_name 4 sc_law_cut.nd (by decide)) (gs_cons (g_name 5 sc_law_cut.nd (by decide)) gs_nil))))
    (ss_cons (s_if (t_cmp (op_eqA hr) eqS (d_var 5) d_int (nomark _)) (ss_one (s_ret (d_lst (a_cons (d_tup (a_cons d_int (a_cons d_int SAs.nil))) SAs.nil)))) ss_nil)
    (ss_cons (s_set 2 sc_law_cut.nd (d_lst (a_cons (d_tup (a_cons (d_var 4) (a_cons (d_var 5) SAs.nil))) SAs.nil)))
    (ss_cons (s_set 3 sc_law_cut.nd (d_call D_law_fraction hr (by decide) passN (a_cons (d_sub (d_var 5) (d_var 4)) (a_cons (d_var 5) SAs.nil))))
    (ss_cons (s_if (t_cmp (op_eqA hr) eqS (d_call D_law_take hr (by decide) passN (a_cons (d_var 0) (a_cons d_int SAs.nil))) d_int (nomark _)) (ss_cons (s_asg (vs := [4, 5]) (d_sub_ hr (d_var 1) (d_add d_int (d_call D_law_take hr (by decide) passN (a_cons (d_var 0) (a_cons d_int SAs.nil))))) (g_tup rfl (gs_cons (g_name 4 sc_law_cut.nd (by decide)) (gs_cons (g_name 5 sc_law_cut.nd (by decide)) gs_nil))))
    (ss_cons (s_set 6 sc_law_cut.nd (d_call D_law_times hr (by decide) passN (a_cons (d_var 3) (a_cons (d_tup (a_cons (d_var 4) (a_cons (d_var 5) SAs.nil))) SAs.nil))))
    (ss_cons (s_expr (d_append (d_var 2) (d_var 6)))
    (ss_one (s_set 3 sc_law_cut.nd (d_call D_law_plus hr (by decide) passN (a_cons (d_var 3) (a_cons (d_tup (a_cons (d_sub d_int (d_sub_ hr (d_var 6) d_int)) (a_cons (d_sub_ hr (d_var 6) d_int) SAs.nil))) SAs.nil)))))))) ss_nil)
    (ss_one (s_ret (d_add (d_var 2) (d_lst (a_cons (d_var 3) SAs.nil)))))))))))) ob_law_cut
theorem ok_law_body (T : Tx K mg) {f : Addr} {fd : FuncData} (F : Fun K "_law_body" "_law_body" s_law_body f fd) (hm : mg "_law_body" = some (.ref f)) (hb : Binds K fd ["c", "names", "letters", "deep"] []) (D_law_take : FnD ⟨P, w, K, CA⟩ mg base CX0 2 "_law_take" S_law_take) (D_law_cut : FnD ⟨P, w, K, CA⟩ mg base CX0 4 "_law_cut" S_law_cut) : ∀ n : Nat, FnOk P w K mg base CX0 (4 + n) f fd ["c", "names", "letters", "deep"] (spOf ⟨P, w, K, CA⟩ (S_law_body n))
  | 0 => fn_none no_law_body
  | n + 1 => by
    have D_self := FnOk.d (ok_law_body T F hm hb D_law_take D_law_cut n) hm F.kp hb
    exact fn_l F sc_law_body len4 (gb := B_law_body n) (fun cdv A outer s H E hr =>
    (ss_cons (s_set 4 sc_law_body.nd (d_call D_law_take hr (Nat.le_add_right_of_le (by decide)) passN (a_cons (d_var 0) (a_cons d_int SAs.nil))))
    (ss_cons (s_if (t_w (w_or (t_cmp op_lt ltS (d_var 3) d_int (nomark _)) (w_or1 (t_cmp (op_eqA hr) eqS (d_var 4) d_int (nomark _))))) (ss_one (s_ret (d_sub_ hr (d_lst (a_cons (d_tup (a_cons d_str SAs.nil)) (a_cons (d_tup (a_cons d_str SAs.nil)) (a_cons (d_tup (a_cons d_str SAs.nil)) (a_cons (d_tup (a_cons d_str SAs.nil)) (a_cons (d_tup (a_cons d_str SAs.nil)) SAs.nil)))))) (d_call D_law_take hr (Nat.le_add_right_of_le (by decide)) passN (a_cons (d_var 0) (a_cons d_int SAs.nil)))))) ss_nil)
    (ss_cons (s_if (t_w (w_and (t_cmp op_lt ltS (d_var 4) d_int (nomark _)) (w_and1 (t_tru (d_var 2))))) (ss_one (s_ret (d_tup (a_cons d_str (a_cons (d_sub_ hr (d_var 2) (d_call D_law_take hr (Nat.le_add_right_of_le (by decide)) passN (a_cons (d_var 0) (a_cons (d_len T.m_len (d_var 2)) SAs.nil)))) (a_cons (d_call D_self hr (Nat.le_refl _) passN (a_cons (d_var 0) (a_cons (d_var 1) (a_cons (d_var 2) (a_cons (d_sub (d_var 3) d_int) SAs.nil))))) SAs.nil)))))) ss_nil)
    (ss_cons (s_if (t_cmp op_lt ltS (d_var 4) d_int (nomark _)) (ss_one (s_ret (d_tup (a_cons d_str (a_cons (d_sub_ hr (d_var 1) (d_call D_law_take hr (Nat.le_add_right_of_le (by decide)) passN (a_cons (d_var 0) (a_cons (d_len T.m_len (d_var 1)) SAs.nil)))) (a_cons (d_call D_self hr (Nat.le_refl _) passN (a_cons (d_var 0) (a_cons (d_var 1) (a_cons (d_var 2) (a_cons (d_sub (d_var 3) d_int) SAs.nil))))) SAs.nil)))))) ss_nil)
    (ss_one (s_ret (d_tup (a_cons d_str (a_cons (d_tupOf T.m_tuple (d_comp (own := [("one", 5)]) rfl sc_law_body.nd (i_val (d_call D_law_cut hr (Nat.le_add_right_of_le (by decide)) passN (a_cons (d_var 0) SAs.nil))) (blk_by (N := ["c", "names", "letters", "deep", "way", "one"]) (sc := defScope s_law_body) rfl rfl (own := [("one", 5)]) (by decide +kernel)) (fun _ _ _ _ _ => (g_name 5 sc_law_body.nd (by decide))) (fun _ _ _ _ _ => ts_nil) (fun _ _ _ _ _ => (d_tup (a_cons (d_var 5) (a_cons (d_call D_self hr (Nat.le_refl _) passN (a_cons (d_var 0) (a_cons (d_var 1) (a_cons (d_var 2) (a_cons (d_sub (d_var 3) d_int) SAs.nil))))) SAs.nil)))))) SAs.nil)))))))))) (ob_law_body n)
theorem ok_law_program (T : Tx K mg) {f : Addr} {fd : FuncData} (F : Fun K "_law_program" "_law_program" s_law_program f fd) (D_law_take : FnD ⟨P, w, K, CA⟩ mg base CX0 2 "_law_take" S_law_take) (D_law_body : FnD ⟨P, w, K, CA⟩ mg base CX0 12 "_law_body" (S_law_body 8)) : FnOk P w K mg base CX0 13 f fd ["c"] (spOf ⟨P, w, K, CA⟩ S_law_program) :=
  fn_l F sc_law_program len1 (gb := B_law_program) (fun cdv A outer s H E hr =>
    (ss_cons (s_set 1 sc_law_program.nd (d_slice (d_lst (a_cons d_str (a_cons d_str (a_cons d_str (a_cons d_str SAs.nil))))) o_none (o_some (d_add d_int (d_call D_law_take hr (by decide) passN (a_cons (d_var 0) (a_cons d_int SAs.nil)))))))
    (ss_cons (s_set 2 sc_law_program.nd (d_call D_law_take hr (by decide) passN (a_cons (d_var 0) (a_cons (d_len T.m_len (d_var 1)) SAs.nil))))
    (ss_cons (s_set 1 sc_law_program.nd (d_add (d_slice (d_var 1) (o_some (d_var 2)) o_none) (d_slice (d_var 1) o_none (o_some (d_var 2)))))
    (ss_cons (s_set 3 sc_law_program.nd (d_slice (d_lst (a_cons d_str (a_cons d_str (a_cons d_str SAs.nil)))) o_none (o_some (d_call D_law_take hr (by decide) passN (a_cons (d_var 0) (a_cons d_int SAs.nil))))))
    (ss_one (s_ret (d_tupOf T.m_tuple (d_comp (own := [("name", 4)]) rfl sc_law_program.nd (i_val (d_var 1)) (blk_by (N := ["c", "names", "k", "letters", "name"]) (sc := defScope s_law_program) rfl rfl (own := [("name", 4)]) (by decide +kernel)) (fun _ _ _ _ _ => (g_name 4 sc_law_program.nd (by decide))) (fun _ _ _ _ _ => ts_nil) (fun _ _ _ _ _ => (d_tup (a_cons (d_var 4) (a_cons (d_call D_law_body hr (by decide) passN (a_cons (d_var 0) (a_cons (d_var 1) (a_cons (d_var 3) (a_cons (d_add d_int (d_call D_law_take hr (by decide) passN (a_cons (d_var 0) (a_cons d_int SAs.nil)))) SAs.nil))))) SAs.nil))))))))))))) ob_law_program
theorem ok_law_alike (T : Tx K mg) {f : Addr} {fd : FuncData} (F : Fun K "_law_alike" "_law_alike" s_law_alike f fd) (hm : mg "_law_alike" = some (.ref f)) (hb : Binds K fd ["value", "due"] []) : ∀ n : Nat, FnOk P w K mg base CX0 (0 + n) f fd ["value", "due"] (spOf ⟨P, w, K, CA⟩ (S_law_alike n))
  | 0 => fn_none no_law_alike
  | n + 1 => by
    have D_self := FnOk.d (ok_law_alike T F hm hb n) hm F.kp hb
    exact fn_l F sc_law_alike len2 (gb := B_law_alike n) (fun cdv A outer s H E hr =>
    (ss_cons (s_if (t_tru (d_isi1 T.m_isinstance T.m_tuple (by decide +kernel) (by decide) (d_var 1))) (ss_one (s_ret (d_and (d_isi1 T.m_isinstance T.m_tuple (by decide +kernel) (by decide) (d_var 0)) (d_and (d_cmp (op_eqA hr) eqS (d_len T.m_len (d_var 0)) (d_len T.m_len (d_var 1)) (nomark _)) (d_one (d_all rfl T.m_all (d_comp (own := [("k", 2)]) rfl sc_law_alike.nd (i_range1 T.m_range (d_len T.m_len (d_var 1))) (blk_by (N := ["value", "due", "k"]) (sc := defScope s_law_alike) rfl rfl (own := [("k", 2)]) (by decide +kernel)) (fun _ _ _ _ _ => (g_name 2 sc_law_alike.nd (by decide))) (fun _ _ _ _ _ => ts_nil) (fun _ _ _ _ _ => (d_call D_self hr (Nat.le_refl _) passN (a_cons (d_sub_ hr (d_var 0) (d_var 2)) (a_cons (d_sub_ hr (d_var 1) (d_var 2)) SAs.nil))))))))))) ss_nil)
    (ss_cons (s_if (t_w (w_or (t_tru (d_isi1 T.m_isinstance T.m_bool (by decide +kernel) (by decide) (d_var 0))) (w_or1 (t_cmp (op_neA hr) neS (d_isi1 T.m_isinstance T.m_str (by decide +kernel) (by decide) (d_var 0)) (d_isi1 T.m_isinstance T.m_str (by decide +kernel) (by decide) (d_var 1)) (nomark _))))) (ss_one (s_ret d_bl)) ss_nil)
    (ss_one (s_ret (d_and (d_isi2 T.m_isinstance T.m_int (by decide +kernel) (by decide) T.m_str (by decide +kernel) (by decide) (d_var 0)) (d_one (d_cmp (op_eqA hr) eqS (d_var 0) (d_var 1) (nomark _))))))))) (ob_law_alike n)
theorem ok_law_ways (T : Tx K mg) {f : Addr} {fd : FuncData} (F : Fun K "_law_ways" "_law_ways" s_law_ways f fd) (hm : mg "_law_ways" = some (.ref f)) (hb : Binds K fd ["body", "chance", "calls", "letters", "found"] []) (D_law_times : FnD ⟨P, w, K, CA⟩ mg base CX0 3 "_law_times" S_law_times) : ∀ n : Nat, FnOk P w K mg base CX0 (3 + n) f fd ["body", "chance", "calls", "letters", "found"] (spOf ⟨P, w, K, CA⟩ (S_law_ways n))
  | 0 => fn_none no_law_ways
  | n + 1 => by
    have D_self := FnOk.d (ok_law_ways T F hm hb D_law_times n) hm F.kp hb
    exact fn_l F sc_law_ways len5 (gb := B_law_ways n) (fun cdv A outer s H E hr =>
    (ss_one (s_if (t_cmp (op_eqA hr) eqS (d_sub_ hr (d_var 0) d_int) d_str (nomark _)) (ss_one (s_expr (d_append (d_var 4) (d_tup (a_cons (d_var 1) (a_cons (d_var 2) (a_cons (d_var 3) SAs.nil))))))) (ss_one (s_if (t_cmp (op_eqA hr) eqS (d_sub_ hr (d_var 0) d_int) d_str (nomark _)) (ss_one (s_expr (d_call D_self hr (Nat.le_refl _) passN (a_cons (d_sub_ hr (d_var 0) d_int) (a_cons (d_var 1) (a_cons (d_var 2) (a_cons (d_add (d_var 3) (d_tup (a_cons (d_sub_ hr (d_var 0) d_int) SAs.nil))) (a_cons (d_var 4) SAs.nil)))))))) (ss_one (s_if (t_cmp (op_eqA hr) eqS (d_sub_ hr (d_var 0) d_int) d_str (nomark _)) (ss_one (s_expr (d_call D_self hr (Nat.le_refl _) passN (a_cons (d_sub_ hr (d_var 0) d_int) (a_cons (d_var 1) (a_cons (d_add (d_var 2) (d_tup (a_cons (d_sub_ hr (d_var 0) d_int) SAs.nil))) (a_cons (d_var 3) (a_cons (d_var 4) SAs.nil)))))))) (ss_one (s_if (t_cmp (op_eqA hr) eqS (d_sub_ hr (d_var 0) d_int) d_str (nomark _)) (ss_one (s_for (vs := [5, 6]) PassesOwn.never rfl (i_val (d_sub_ hr (d_var 0) d_int)) (g_tup rfl (gs_cons (g_name 5 sc_law_ways.nd (by decide)) (gs_cons (g_name 6 sc_law_ways.nd (by decide)) gs_nil))) (ss_one (s_expr (d_call D_self hr (Nat.le_refl _) passN (a_cons (d_var 6) (a_cons (d_call D_law_times hr (Nat.le_add_right_of_le (by decide)) passN (a_cons (d_var 1) (a_cons (d_var 5) SAs.nil))) (a_cons (d_var 2) (a_cons (d_var 3) (a_cons (d_var 4) SAs.nil)))))))))) ss_nil))))))))) (ob_law_ways n)
theorem ok_law_alternatives (T : Tx K mg) {f : Addr} {fd : FuncData} (F : Fun K "_law_alternatives" "_law_alternatives" s_law_alternatives f fd) (D_law_ways : FnD ⟨P, w, K, CA⟩ mg base CX0 11 "_law_ways" (S_law_ways 8)) (D_law_plus : FnD ⟨P, w, K, CA⟩ mg base CX0 3 "_law_plus" S_law_plus) : FnOk P w K mg base CX0 12 f fd ["program"] (spOf ⟨P, w, K, CA⟩ S_law_alternatives) :=
  fn_l F sc_law_alternatives len1 (gb := B_law_alternatives) (fun cdv A outer s H E hr =>
    (ss_cons (s_set 1 sc_law_alternatives.nd (d_lst SAs.nil))
    (ss_cons (s_for (vs := [2, 3]) PassesOwn.never rfl (i_val (d_var 0)) (g_tup rfl (gs_cons (g_name 2 sc_law_alternatives.nd (by decide)) (gs_cons (g_name 3 sc_law_alternatives.nd (by decide)) gs_nil))) (ss_cons (s_set 4 sc_law_alternatives.nd (d_lst SAs.nil))
    (ss_cons (s_expr (d_call D_law_ways hr (by decide) passN (a_cons (d_var 3) (a_cons (d_tup (a_cons d_int (a_cons d_int SAs.nil))) (a_cons (d_tup SAs.nil) (a_cons (d_tup SAs.nil) (a_cons (d_var 4) SAs.nil)))))))
    (ss_cons (s_set 5 sc_law_alternatives.nd (d_lst SAs.nil))
    (ss_cons (s_for (vs := [6, 7, 8]) PassesOwn.never rfl (i_val (d_var 4)) (g_tup rfl (gs_cons (g_name 6 sc_law_alternatives.nd (by decide)) (gs_cons (g_name 7 sc_law_alternatives.nd (by decide)) (gs_cons (g_name 8 sc_law_alternatives.nd (by decide)) gs_nil)))) (ss_cons (s_setComp (own := [("k", 10)]) 9 rfl sc_law_alternatives.nd (sw_true rfl rfl rfl (by decide +kernel)) (i_range1 T.m_range (d_len T.m_len (d_var 5))) (blk_by (N := ["program", "found", "name", "body", "ways_v", "rows", "chance", "calls", "letters", "same", "k"]) (sc := defScope s_law_alternatives) rfl rfl (own := [("k", 10)]) (by decide +kernel)) (fun _ _ _ _ _ => (g_name 10 sc_law_alternatives.nd (by decide))) (fun _ _ _ _ _ => ts_one (t_cmp (op_eqA hr) eqS (d_slice (d_sub_ hr (d_var 5) (d_var 10)) (o_some d_int) o_none) (d_tup (a_cons (d_var 7) (a_cons (d_var 8) SAs.nil))) (nomark _))) (fun _ _ _ _ _ => (d_var 10)))
    (ss_one (s_if (t_tru (d_var 9)) (ss_cons (s_set 10 sc_law_alternatives.nd (d_sub_ hr (d_var 9) d_int))
    (ss_one (s_asg (vs := []) (d_tup (a_cons (d_call D_law_plus hr (by decide) passN (a_cons (d_sub_ hr (d_sub_ hr (d_var 5) (d_var 10)) d_int) (a_cons (d_var 6) SAs.nil))) (a_cons (d_var 7) (a_cons (d_var 8) SAs.nil)))) (g_sub hr (d_var 5) (d_var 10))))) (ss_one (s_expr (d_append (d_var 5) (d_tup (a_cons (d_var 6) (a_cons (d_var 7) (a_cons (d_var 8) SAs.nil)))))))))))
    (ss_one (s_expr (d_append (d_var 1) (d_tup (a_cons (d_var 2) (a_cons (d_tupOf T.m_tuple (d_var 5)) SAs.nil)))))))))))
    (ss_one (s_ret (d_tupOf T.m_tuple (d_var 1))))))) ob_law_alternatives
theorem ok_law (T : Tx K mg) {f : Addr} {fd : FuncData} (F : Fun K "law" "law" s_law f fd) (D_law_start : FnD ⟨P, w, K, CA⟩ mg base CX0 1 "_law_start" S_law_start) (D_law_program : FnD ⟨P, w, K, CA⟩ mg base CX0 13 "_law_program" S_law_program) (D_law_alternatives : FnD ⟨P, w, K, CA⟩ mg base CX0 12 "_law_alternatives" S_law_alternatives) (D_law_alike : FnD ⟨P, w, K, CA⟩ mg base CX0 8 "_law_alike" (S_law_alike 8)) (D_alternatives : FnD ⟨P, w, K, CA⟩ mg base CX0 6 "alternatives" S_alternatives) (D_called_by : FnD ⟨P, w, K, CA⟩ mg base CX0 7 "called_by" S_called_by) : FnOk P w K mg base CX0 14 f fd ["script"] (spOf ⟨P, w, K, CA⟩ S_law) :=
  fn_l F sc_law len1 (gb := B_law) (fun cdv A outer s H E hr =>
    (ss_cons (s_set 1 sc_law.nd (d_call D_law_start hr (by decide) passN (a_cons (d_var 0) SAs.nil)))
    (ss_cons (s_for (vs := [2]) PassesOwn.never rfl (i_range1 T.m_range d_int) (g_name 2 sc_law.nd (by decide)) (ss_cons (s_set 3 sc_law.nd (d_call D_law_program hr (by decide) passN (a_cons (d_var 1) SAs.nil)))
    (ss_cons (s_set 4 sc_law.nd (d_call D_law_alternatives hr (by decide) passN (a_cons (d_var 3) SAs.nil)))
    (ss_cons (s_if (t_not (t_tru (d_call D_law_alike hr (by decide) passN (a_cons (d_call D_alternatives hr (by decide) passN (a_cons (d_var 3) SAs.nil)) (a_cons (d_var 4) SAs.nil))))) (ss_one (s_ret d_bl)) ss_nil)
    (ss_cons (s_set 5 sc_law.nd d_dk)
    (ss_cons (s_for (vs := [9, 10]) PassesOwn.never rfl (i_val (d_var 4)) (g_tup rfl (gs_cons (g_name 9 sc_law.nd (by decide)) (gs_cons (g_name 10 sc_law.nd (by decide)) gs_nil))) (ss_cons (s_asg (vs := []) (d_lst SAs.nil) (g_sub hr (d_var 5) (d_var 9)))
    (ss_one (s_for (vs := [11]) PassesOwn.never rfl (i_val (d_var 10)) (g_name 11 sc_law.nd (by decide)) (ss_one (s_asg (vs := []) (d_add (d_sub_ hr (d_var 5) (d_var 9)) (d_lstOf rfl T.m_list (d_sub_ hr (d_var 11) d_int))) (g_sub hr (d_var 5) (d_var 9))))))))
    (ss_cons (s_set 6 sc_law.nd (d_dict rfl T.m_dict (d_lock 5 (d_comp (own := [("name", 9)]) rfl sc_law.nd (i_keys (d_var 5)) (blk_by (N := ["script", "c", "turn", "program", "due", "calls", "found", "again", "told", "name", "rows", "row", "body", "more", "one", "other"]) (sc := defScope s_law) rfl rfl (own := [("name", 9)]) (by decide +kernel)) (fun _ _ _ _ _ => (g_name 9 sc_law.nd (by decide))) (fun _ _ _ _ _ => ts_nil) (fun _ _ _ _ _ => (d_tup (a_cons (d_var 9) (a_cons (d_lstOf rfl T.m_list (d_sub_ hr (d_var 5) (d_var 9))) SAs.nil))))))))
    (ss_cons (s_for (vs := [7]) PassesOwn.never rfl (i_range1 T.m_range (d_len T.m_len (d_var 3))) (g_name 7 sc_law.nd (by decide)) (ss_one (s_for (vs := [9, 12]) PassesOwn.never rfl (i_val (d_var 3)) (g_tup rfl (gs_cons (g_name 9 sc_law.nd (by decide)) (gs_cons (g_name 12 sc_law.nd (by decide)) gs_nil))) (ss_cons (s_set 13 sc_law.nd (d_lst SAs.nil))
    (ss_cons (s_for (vs := [14]) PassesOwn.never rfl (i_val (d_sub_ hr (d_var 6) (d_var 9))) (g_name 14 sc_law.nd (by decide)) (ss_one (s_set 13 sc_law.nd (d_add (d_var 13) (d_sub_ hr (d_var 5) (d_var 14))))))
    (ss_one (s_asg (vs := []) (d_add (d_sub_ hr (d_var 6) (d_var 9)) (d_comp (own := [("other", 15)]) rfl sc_law.nd (i_val (d_var 13)) (blk_by (N := ["script", "c", "turn", "program", "due", "calls", "found", "again", "told", "name", "rows", "row", "body", "more", "one", "other"]) (sc := defScope s_law) rfl rfl (own := [("other", 15)]) (by decide +kernel)) (fun _ _ _ _ _ => (g_name 15 sc_law.nd (by decide))) (fun _ _ _ _ _ => ts_one (t_cmp (op_notInA hr) notInS (d_var 15) (d_sub_ hr (d_var 6) (d_var 9)) (by rfl))) (fun _ _ _ _ _ => (d_var 15)))) (g_sub hr (d_var 6) (d_var 9)))))))))
    (ss_cons (s_set 8 sc_law.nd (d_tupOf T.m_tuple (d_comp (own := [("name", 9), ("body", 12)]) rfl sc_law.nd (i_val (d_var 3)) (blk_by (N := ["script", "c", "turn", "program", "due", "calls", "found", "again", "told", "name", "rows", "row", "body", "more", "one", "other"]) (sc := defScope s_law) rfl rfl (own := [("name", 9), ("body", 12)]) (by decide +kernel)) (fun _ _ _ _ _ => (g_tup rfl (gs_cons (g_name 9 sc_law.nd (by decide)) (gs_cons (g_name 12 sc_law.nd (by decide)) gs_nil)))) (fun _ _ _ _ _ => ts_nil) (fun _ _ _ _ _ => (d_tup (a_cons (d_var 9) (a_cons (d_tupOf T.m_tuple (d_comp (own := [("other", 15), ("body", 12)]) rfl sc_law.nd (i_val (d_var 3)) (blk_by (N := ["script", "c", "turn", "program", "due", "calls", "found", "again", "told", "name", "rows", "row", "body", "more", "one", "other"]) rfl rfl (own := [("other", 15), ("body", 12)]) (by rfl)) (fun _ _ _ _ _ => (g_tup rfl (gs_cons (g_name 15 sc_law.nd (by decide)) (gs_cons (g_name 12 sc_law.nd (by decide)) gs_nil)))) (fun _ _ _ _ _ => ts_one (t_cmp (op_inA hr) inS (d_var 15) (d_sub_ hr (d_var 6) (d_var 9)) (by rfl))) (fun _ _ _ _ _ => (d_var 15)))) SAs.nil)))))))
    (ss_one (s_if (t_not (t_tru (d_call D_law_alike hr (by decide) passN (a_cons (d_call D_called_by hr (by decide) passN (a_cons (d_var 3) SAs.nil)) (a_cons (d_var 8) SAs.nil))))) (ss_one (s_ret d_bl)) ss_nil)))))))))))
    (ss_one (s_ret d_bl))))) ob_law
end
theorem all_mk {l : PySem.W.OpenLaw} {w : World} {K : PySem.W.Frag} {h : Heap} {mg : Str → Option Value} {fa : Addr} (X : K.In h) (G : h.Ns mainGlobals mg) (hfa : mg "law" = some (.ref fa)) (CA : String → Addr)
    (z_abs : PySem.W.nsIn K mainGlobals "abs" = some none)
    (z_all : PySem.W.nsIn K mainGlobals "all" = some none)
    (z_bool : PySem.W.nsIn K mainGlobals "bool" = some none)
    (z_dict : PySem.W.nsIn K mainGlobals "dict" = some none)
    (z_int : PySem.W.nsIn K mainGlobals "int" = some none)
    (z_isinstance : PySem.W.nsIn K mainGlobals "isinstance" = some none)
    (z_len : PySem.W.nsIn K mainGlobals "len" = some none)
    (z_list : PySem.W.nsIn K mainGlobals "list" = some none)
    (z_range : PySem.W.nsIn K mainGlobals "range" = some none)
    (z_str : PySem.W.nsIn K mainGlobals "str" = some none)
    (z_tuple : PySem.W.nsIn K mainGlobals "tuple" = some none)
    {a_ZERO : Addr} {t_ZERO u_ZERO : Tok} {n_ZERO : Nat} {sl_ZERO : Array (Option Value)} (v_ZERO : PySem.W.nsIn K mainGlobals "ZERO" = some (some (.ref a_ZERO))) (w_ZERO : K.lookup a_ZERO = some ⟨.type "tuple", none, .seq #[.int 0 t_ZERO, .int 1 u_ZERO] n_ZERO, sl_ZERO⟩)
    {a_ONE : Addr} {t_ONE u_ONE : Tok} {n_ONE : Nat} {sl_ONE : Array (Option Value)} (v_ONE : PySem.W.nsIn K mainGlobals "ONE" = some (some (.ref a_ONE))) (w_ONE : K.lookup a_ONE = some ⟨.type "tuple", none, .seq #[.int 1 t_ONE, .int 1 u_ONE] n_ONE, sl_ONE⟩)
    {f_common_divisor : Addr} {od_common_divisor an_common_divisor : Option Addr} {sl_common_divisor : Array (Option Value)} {oc_common_divisor kV_common_divisor dc_common_divisor pm_common_divisor cd_common_divisor ct_common_divisor : Value} (a_common_divisor : PySem.W.nsIn K mainGlobals "common_divisor" = some (some (.ref f_common_divisor))) (l_common_divisor : K.lookup f_common_divisor = some ⟨oc_common_divisor, od_common_divisor, .func (PySem.W.fnOf "common_divisor" "common_divisor" (defArgs s_common_divisor) (defBody s_common_divisor) (defScope s_common_divisor) .none kV_common_divisor dc_common_divisor pm_common_divisor an_common_divisor cd_common_divisor ct_common_divisor), sl_common_divisor⟩) (c_common_divisor : PySem.W.codeIn K cd_common_divisor "common_divisor" = true) (k_common_divisor : PySem.W.keepIn K (.ref f_common_divisor) = true)
    {f_ratio : Addr} {od_ratio an_ratio : Option Addr} {sl_ratio : Array (Option Value)} {oc_ratio kV_ratio dc_ratio pm_ratio cd_ratio ct_ratio : Value} (a_ratio : PySem.W.nsIn K mainGlobals "ratio" = some (some (.ref f_ratio))) (l_ratio : K.lookup f_ratio = some ⟨oc_ratio, od_ratio, .func (PySem.W.fnOf "ratio" "ratio" (defArgs s_ratio) (defBody s_ratio) (defScope s_ratio) .none kV_ratio dc_ratio pm_ratio an_ratio cd_ratio ct_ratio), sl_ratio⟩) (c_ratio : PySem.W.codeIn K cd_ratio "ratio" = true) (k_ratio : PySem.W.keepIn K (.ref f_ratio) = true)
    {f_plus : Addr} {od_plus an_plus : Option Addr} {sl_plus : Array (Option Value)} {oc_plus kV_plus dc_plus pm_plus cd_plus ct_plus : Value} (a_plus : PySem.W.nsIn K mainGlobals "plus" = some (some (.ref f_plus))) (l_plus : K.lookup f_plus = some ⟨oc_plus, od_plus, .func (PySem.W.fnOf "plus" "plus" (defArgs s_plus) (defBody s_plus) (defScope s_plus) .none kV_plus dc_plus pm_plus an_plus cd_plus ct_plus), sl_plus⟩) (c_plus : PySem.W.codeIn K cd_plus "plus" = true) (k_plus : PySem.W.keepIn K (.ref f_plus) = true)
    {f_times : Addr} {od_times an_times : Option Addr} {sl_times : Array (Option Value)} {oc_times kV_times dc_times pm_times cd_times ct_times : Value} (a_times : PySem.W.nsIn K mainGlobals "times" = some (some (.ref f_times))) (l_times : K.lookup f_times = some ⟨oc_times, od_times, .func (PySem.W.fnOf "times" "times" (defArgs s_times) (defBody s_times) (defScope s_times) .none kV_times dc_times pm_times an_times cd_times ct_times), sl_times⟩) (c_times : PySem.W.codeIn K cd_times "times" = true) (k_times : PySem.W.keepIn K (.ref f_times) = true)
    {f_ways : Addr} {od_ways an_ways : Option Addr} {sl_ways : Array (Option Value)} {oc_ways kV_ways dc_ways pm_ways cd_ways ct_ways : Value} (a_ways : PySem.W.nsIn K mainGlobals "ways" = some (some (.ref f_ways))) (l_ways : K.lookup f_ways = some ⟨oc_ways, od_ways, .func (PySem.W.fnOf "ways" "ways" (defArgs s_ways) (defBody s_ways) (defScope s_ways) .none kV_ways dc_ways pm_ways an_ways cd_ways ct_ways), sl_ways⟩) (c_ways : PySem.W.codeIn K cd_ways "ways" = true) (k_ways : PySem.W.keepIn K (.ref f_ways) = true)
    {f_alternatives_of : Addr} {od_alternatives_of an_alternatives_of : Option Addr} {sl_alternatives_of : Array (Option Value)} {oc_alternatives_of kV_alternatives_of dc_alternatives_of pm_alternatives_of cd_alternatives_of ct_alternatives_of : Value} (a_alternatives_of : PySem.W.nsIn K mainGlobals "alternatives_of" = some (some (.ref f_alternatives_of))) (l_alternatives_of : K.lookup f_alternatives_of = some ⟨oc_alternatives_of, od_alternatives_of, .func (PySem.W.fnOf "alternatives_of" "alternatives_of" (defArgs s_alternatives_of) (defBody s_alternatives_of) (defScope s_alternatives_of) .none kV_alternatives_of dc_alternatives_of pm_alternatives_of an_alternatives_of cd_alternatives_of ct_alternatives_of), sl_alternatives_of⟩) (c_alternatives_of : PySem.W.codeIn K cd_alternatives_of "alternatives_of" = true) (k_alternatives_of : PySem.W.keepIn K (.ref f_alternatives_of) = true)
    {f_alternatives : Addr} {od_alternatives an_alternatives : Option Addr} {sl_alternatives : Array (Option Value)} {oc_alternatives kV_alternatives dc_alternatives pm_alternatives cd_alternatives ct_alternatives : Value} (a_alternatives : PySem.W.nsIn K mainGlobals "alternatives" = some (some (.ref f_alternatives))) (l_alternatives : K.lookup f_alternatives = some ⟨oc_alternatives, od_alternatives, .func (PySem.W.fnOf "alternatives" "alternatives" (defArgs s_alternatives) (defBody s_alternatives) (defScope s_alternatives) .none kV_alternatives dc_alternatives pm_alternatives an_alternatives cd_alternatives ct_alternatives), sl_alternatives⟩) (c_alternatives : PySem.W.codeIn K cd_alternatives "alternatives" = true) (k_alternatives : PySem.W.keepIn K (.ref f_alternatives) = true)
    {f_called_by : Addr} {od_called_by an_called_by : Option Addr} {sl_called_by : Array (Option Value)} {oc_called_by kV_called_by dc_called_by pm_called_by cd_called_by ct_called_by : Value} (a_called_by : PySem.W.nsIn K mainGlobals "called_by" = some (some (.ref f_called_by))) (l_called_by : K.lookup f_called_by = some ⟨oc_called_by, od_called_by, .func (PySem.W.fnOf "called_by" "called_by" (defArgs s_called_by) (defBody s_called_by) (defScope s_called_by) .none kV_called_by dc_called_by pm_called_by an_called_by cd_called_by ct_called_by), sl_called_by⟩) (c_called_by : PySem.W.codeIn K cd_called_by "called_by" = true) (k_called_by : PySem.W.keepIn K (.ref f_called_by) = true)
    {f_law_start : Addr} {od_law_start an_law_start : Option Addr} {sl_law_start : Array (Option Value)} {oc_law_start kV_law_start dc_law_start pm_law_start cd_law_start ct_law_start : Value} (a_law_start : PySem.W.nsIn K mainGlobals "_law_start" = some (some (.ref f_law_start))) (l_law_start : K.lookup f_law_start = some ⟨oc_law_start, od_law_start, .func (PySem.W.fnOf "_law_start" "_law_start" (defArgs s_law_start) (defBody s_law_start) (defScope s_law_start) .none kV_law_start dc_law_start pm_law_start an_law_start cd_law_start ct_law_start), sl_law_start⟩) (c_law_start : PySem.W.codeIn K cd_law_start "_law_start" = true) (k_law_start : PySem.W.keepIn K (.ref f_law_start) = true)
    {f_law_fill : Addr} {od_law_fill an_law_fill : Option Addr} {sl_law_fill : Array (Option Value)} {oc_law_fill kV_law_fill dc_law_fill pm_law_fill cd_law_fill ct_law_fill : Value} (a_law_fill : PySem.W.nsIn K mainGlobals "_law_fill" = some (some (.ref f_law_fill))) (l_law_fill : K.lookup f_law_fill = some ⟨oc_law_fill, od_law_fill, .func (PySem.W.fnOf "_law_fill" "_law_fill" (defArgs s_law_fill) (defBody s_law_fill) (defScope s_law_fill) .none kV_law_fill dc_law_fill pm_law_fill an_law_fill cd_law_fill ct_law_fill), sl_law_fill⟩) (c_law_fill : PySem.W.codeIn K cd_law_fill "_law_fill" = true) (k_law_fill : PySem.W.keepIn K (.ref f_law_fill) = true)
    {f_law_take : Addr} {od_law_take an_law_take : Option Addr} {sl_law_take : Array (Option Value)} {oc_law_take kV_law_take dc_law_take pm_law_take cd_law_take ct_law_take : Value} (a_law_take : PySem.W.nsIn K mainGlobals "_law_take" = some (some (.ref f_law_take))) (l_law_take : K.lookup f_law_take = some ⟨oc_law_take, od_law_take, .func (PySem.W.fnOf "_law_take" "_law_take" (defArgs s_law_take) (defBody s_law_take) (defScope s_law_take) .none kV_law_take dc_law_take pm_law_take an_law_take cd_law_take ct_law_take), sl_law_take⟩) (c_law_take : PySem.W.codeIn K cd_law_take "_law_take" = true) (k_law_take : PySem.W.keepIn K (.ref f_law_take) = true)
    {f_law_divisor : Addr} {od_law_divisor an_law_divisor : Option Addr} {sl_law_divisor : Array (Option Value)} {oc_law_divisor kV_law_divisor dc_law_divisor pm_law_divisor cd_law_divisor ct_law_divisor : Value} (a_law_divisor : PySem.W.nsIn K mainGlobals "_law_divisor" = some (some (.ref f_law_divisor))) (l_law_divisor : K.lookup f_law_divisor = some ⟨oc_law_divisor, od_law_divisor, .func (PySem.W.fnOf "_law_divisor" "_law_divisor" (defArgs s_law_divisor) (defBody s_law_divisor) (defScope s_law_divisor) .none kV_law_divisor dc_law_divisor pm_law_divisor an_law_divisor cd_law_divisor ct_law_divisor), sl_law_divisor⟩) (c_law_divisor : PySem.W.codeIn K cd_law_divisor "_law_divisor" = true) (k_law_divisor : PySem.W.keepIn K (.ref f_law_divisor) = true)
    {f_law_fraction : Addr} {od_law_fraction an_law_fraction : Option Addr} {sl_law_fraction : Array (Option Value)} {oc_law_fraction kV_law_fraction dc_law_fraction pm_law_fraction cd_law_fraction ct_law_fraction : Value} (a_law_fraction : PySem.W.nsIn K mainGlobals "_law_fraction" = some (some (.ref f_law_fraction))) (l_law_fraction : K.lookup f_law_fraction = some ⟨oc_law_fraction, od_law_fraction, .func (PySem.W.fnOf "_law_fraction" "_law_fraction" (defArgs s_law_fraction) (defBody s_law_fraction) (defScope s_law_fraction) .none kV_law_fraction dc_law_fraction pm_law_fraction an_law_fraction cd_law_fraction ct_law_fraction), sl_law_fraction⟩) (c_law_fraction : PySem.W.codeIn K cd_law_fraction "_law_fraction" = true) (k_law_fraction : PySem.W.keepIn K (.ref f_law_fraction) = true)
    {f_law_plus : Addr} {od_law_plus an_law_plus : Option Addr} {sl_law_plus : Array (Option Value)} {oc_law_plus kV_law_plus dc_law_plus pm_law_plus cd_law_plus ct_law_plus : Value} (a_law_plus : PySem.W.nsIn K mainGlobals "_law_plus" = some (some (.ref f_law_plus))) (l_law_plus : K.lookup f_law_plus = some ⟨oc_law_plus, od_law_plus, .func (PySem.W.fnOf "_law_plus" "_law_plus" (defArgs s_law_plus) (defBody s_law_plus) (defScope s_law_plus) .none kV_law_plus dc_law_plus pm_law_plus an_law_plus cd_law_plus ct_law_plus), sl_law_plus⟩) (c_law_plus : PySem.W.codeIn K cd_law_plus "_law_plus" = true) (k_law_plus : PySem.W.keepIn K (.ref f_law_plus) = true)
    {f_law_times : Addr} {od_law_times an_law_times : Option Addr} {sl_law_times : Array (Option Value)} {oc_law_times kV_law_times dc_law_times pm_law_times cd_law_times ct_law_times : Value} (a_law_times : PySem.W.nsIn K mainGlobals "_law_times" = some (some (.ref f_law_times))) (l_law_times : K.lookup f_law_times = some ⟨oc_law_times, od_law_times, .func (PySem.W.fnOf "_law_times" "_law_times" (defArgs s_law_times) (defBody s_law_times) (defScope s_law_times) .none kV_law_times dc_law_times pm_law_times an_law_times cd_law_times ct_law_times), sl_law_times⟩) (c_law_times : PySem.W.codeIn K cd_law_times "_law_times" = true) (k_law_times : PySem.W.keepIn K (.ref f_law_times) = true)
    {f_law_cut : Addr} {od_law_cut an_law_cut : Option Addr} {sl_law_cut : Array (Option Value)} {oc_law_cut kV_law_cut dc_law_cut pm_law_cut cd_law_cut ct_law_cut : Value} (a_law_cut : PySem.W.nsIn K mainGlobals "_law_cut" = some (some (.ref f_law_cut))) (l_law_cut : K.lookup f_law_cut = some ⟨oc_law_cut, od_law_cut, .func (PySem.W.fnOf "_law_cut" "_law_cut" (defArgs s_law_cut) (defBody s_law_cut) (defScope s_law_cut) .none kV_law_cut dc_law_cut pm_law_cut an_law_cut cd_law_cut ct_law_cut), sl_law_cut⟩) (c_law_cut : PySem.W.codeIn K cd_law_cut "_law_cut" = true) (k_law_cut : PySem.W.keepIn K (.ref f_law_cut) = true)
    {f_law_body : Addr} {od_law_body an_law_body : Option Addr} {sl_law_body : Array (Option Value)} {oc_law_body kV_law_body dc_law_body pm_law_body cd_law_body ct_law_body : Value} (a_law_body : PySem.W.nsIn K mainGlobals "_law_body" = some (some (.ref f_law_body))) (l_law_body : K.lookup f_law_body = some ⟨oc_law_body, od_law_body, .func (PySem.W.fnOf "_law_body" "_law_body" (defArgs s_law_body) (defBody s_law_body) (defScope s_law_body) .none kV_law_body dc_law_body pm_law_body an_law_body cd_law_body ct_law_body), sl_law_body⟩) (c_law_body : PySem.W.codeIn K cd_law_body "_law_body" = true) (k_law_body : PySem.W.keepIn K (.ref f_law_body) = true)
    {f_law_program : Addr} {od_law_program an_law_program : Option Addr} {sl_law_program : Array (Option Value)} {oc_law_program kV_law_program dc_law_program pm_law_program cd_law_program ct_law_program : Value} (a_law_program : PySem.W.nsIn K mainGlobals "_law_program" = some (some (.ref f_law_program))) (l_law_program : K.lookup f_law_program = some ⟨oc_law_program, od_law_program, .func (PySem.W.fnOf "_law_program" "_law_program" (defArgs s_law_program) (defBody s_law_program) (defScope s_law_program) .none kV_law_program dc_law_program pm_law_program an_law_program cd_law_program ct_law_program), sl_law_program⟩) (c_law_program : PySem.W.codeIn K cd_law_program "_law_program" = true) (k_law_program : PySem.W.keepIn K (.ref f_law_program) = true)
    {f_law_alike : Addr} {od_law_alike an_law_alike : Option Addr} {sl_law_alike : Array (Option Value)} {oc_law_alike kV_law_alike dc_law_alike pm_law_alike cd_law_alike ct_law_alike : Value} (a_law_alike : PySem.W.nsIn K mainGlobals "_law_alike" = some (some (.ref f_law_alike))) (l_law_alike : K.lookup f_law_alike = some ⟨oc_law_alike, od_law_alike, .func (PySem.W.fnOf "_law_alike" "_law_alike" (defArgs s_law_alike) (defBody s_law_alike) (defScope s_law_alike) .none kV_law_alike dc_law_alike pm_law_alike an_law_alike cd_law_alike ct_law_alike), sl_law_alike⟩) (c_law_alike : PySem.W.codeIn K cd_law_alike "_law_alike" = true) (k_law_alike : PySem.W.keepIn K (.ref f_law_alike) = true)
    {f_law_ways : Addr} {od_law_ways an_law_ways : Option Addr} {sl_law_ways : Array (Option Value)} {oc_law_ways kV_law_ways dc_law_ways pm_law_ways cd_law_ways ct_law_ways : Value} (a_law_ways : PySem.W.nsIn K mainGlobals "_law_ways" = some (some (.ref f_law_ways))) (l_law_ways : K.lookup f_law_ways = some ⟨oc_law_ways, od_law_ways, .func (PySem.W.fnOf "_law_ways" "_law_ways" (defArgs s_law_ways) (defBody s_law_ways) (defScope s_law_ways) .none kV_law_ways dc_law_ways pm_law_ways an_law_ways cd_law_ways ct_law_ways), sl_law_ways⟩) (c_law_ways : PySem.W.codeIn K cd_law_ways "_law_ways" = true) (k_law_ways : PySem.W.keepIn K (.ref f_law_ways) = true)
    {f_law_alternatives : Addr} {od_law_alternatives an_law_alternatives : Option Addr} {sl_law_alternatives : Array (Option Value)} {oc_law_alternatives kV_law_alternatives dc_law_alternatives pm_law_alternatives cd_law_alternatives ct_law_alternatives : Value} (a_law_alternatives : PySem.W.nsIn K mainGlobals "_law_alternatives" = some (some (.ref f_law_alternatives))) (l_law_alternatives : K.lookup f_law_alternatives = some ⟨oc_law_alternatives, od_law_alternatives, .func (PySem.W.fnOf "_law_alternatives" "_law_alternatives" (defArgs s_law_alternatives) (defBody s_law_alternatives) (defScope s_law_alternatives) .none kV_law_alternatives dc_law_alternatives pm_law_alternatives an_law_alternatives cd_law_alternatives ct_law_alternatives), sl_law_alternatives⟩) (c_law_alternatives : PySem.W.codeIn K cd_law_alternatives "_law_alternatives" = true) (k_law_alternatives : PySem.W.keepIn K (.ref f_law_alternatives) = true)
    {f_law : Addr} {od_law an_law : Option Addr} {sl_law : Array (Option Value)} {oc_law kV_law dc_law pm_law cd_law ct_law : Value} (a_law : PySem.W.nsIn K mainGlobals "law" = some (some (.ref f_law))) (l_law : K.lookup f_law = some ⟨oc_law, od_law, .func (PySem.W.fnOf "law" "law" (defArgs s_law) (defBody s_law) (defScope s_law) .none kV_law dc_law pm_law an_law cd_law ct_law), sl_law⟩) (c_law : PySem.W.codeIn K cd_law "law" = true) (k_law : PySem.W.keepIn K (.ref f_law) = true) :
    ∃ fd : FuncData, (∀ (s : Shared) (v : Value), BindsTo s fd ⟨[v], []⟩ [("script", v)]) ∧ ∀ base : Heap, K.In base → base.Ns mainGlobals mg → FnOk l.prog w K mg base CX0 14 fa fd ["script"] (spOf ⟨l.prog, w, K, CA⟩ lawS) := by
  have e := hfa.symm.trans (PySem.W.mg_of X G a_law)
  cases e
  have T : Tx K mg := ⟨PySem.W.mg_none_of X G z_abs, PySem.W.mg_none_of X G z_all, PySem.W.mg_none_of X G z_bool, PySem.W.mg_none_of X G z_dict, PySem.W.mg_none_of X G z_int, PySem.W.mg_none_of X G z_isinstance, PySem.W.mg_none_of X G z_len, PySem.W.mg_none_of X G z_list, PySem.W.mg_none_of X G z_range, PySem.W.mg_none_of X G z_str, PySem.W.mg_none_of X G z_tuple, grep_2 (PySem.W.mg_of X G v_ZERO) w_ZERO, grep_2 (PySem.W.mg_of X G v_ONE) w_ONE⟩
  have F_common_divisor := fun_mk (st := s_common_divisor) l_common_divisor c_common_divisor k_common_divisor
  have b_common_divisor := F_common_divisor.binds (ps := ["first", "second"]) fun _ _ _ _ _ _ us hl => match us, hl with | [_, _], _ => rfl
  have m_common_divisor := PySem.W.mg_of X G a_common_divisor
  have F_ratio := fun_mk (st := s_ratio) l_ratio c_ratio k_ratio
  have b_ratio := F_ratio.binds (ps := ["above", "below"]) fun _ _ _ _ _ _ us hl => match us, hl with | [_, _], _ => rfl
  have m_ratio := PySem.W.mg_of X G a_ratio
  have F_plus := fun_mk (st := s_plus) l_plus c_plus k_plus
  have b_plus := F_plus.binds (ps := ["first", "second"]) fun _ _ _ _ _ _ us hl => match us, hl with | [_, _], _ => rfl
  have m_plus := PySem.W.mg_of X G a_plus
  have F_times := fun_mk (st := s_times) l_times c_times k_times
  have b_times := F_times.binds (ps := ["first", "second"]) fun _ _ _ _ _ _ us hl => match us, hl with | [_, _], _ => rfl
  have m_times := PySem.W.mg_of X G a_times
  have F_ways := fun_mk (st := s_ways) l_ways c_ways k_ways
  have b_ways := F_ways.binds (ps := ["body"]) fun _ _ _ _ _ _ us hl => match us, hl with | [_], _ => rfl
  have m_ways := PySem.W.mg_of X G a_ways
  have F_alternatives_of := fun_mk (st := s_alternatives_of) l_alternatives_of c_alternatives_of k_alternatives_of
  have b_alternatives_of := F_alternatives_of.binds (ps := ["body"]) fun _ _ _ _ _ _ us hl => match us, hl with | [_], _ => rfl
  have m_alternatives_of := PySem.W.mg_of X G a_alternatives_of
  have F_alternatives := fun_mk (st := s_alternatives) l_alternatives c_alternatives k_alternatives
  have b_alternatives := F_alternatives.binds (ps := ["program"]) fun _ _ _ _ _ _ us hl => match us, hl with | [_], _ => rfl
  have m_alternatives := PySem.W.mg_of X G a_alternatives
  have F_called_by := fun_mk (st := s_called_by) l_called_by c_called_by k_called_by
  have b_called_by := F_called_by.binds (ps := ["program"]) fun _ _ _ _ _ _ us hl => match us, hl with | [_], _ => rfl
  have m_called_by := PySem.W.mg_of X G a_called_by
  have F_law_start := fun_mk (st := s_law_start) l_law_start c_law_start k_law_start
  have b_law_start := F_law_start.binds (ps := ["script"]) fun _ _ _ _ _ _ us hl => match us, hl with | [_], _ => rfl
  have m_law_start := PySem.W.mg_of X G a_law_start
  have F_law_fill := fun_mk (st := s_law_fill) l_law_fill c_law_fill k_law_fill
  have b_law_fill := F_law_fill.binds (ps := ["c"]) fun _ _ _ _ _ _ us hl => match us, hl with | [_], _ => rfl
  have m_law_fill := PySem.W.mg_of X G a_law_fill
  have F_law_take := fun_mk (st := s_law_take) l_law_take c_law_take k_law_take
  have b_law_take := F_law_take.binds (ps := ["c", "many"]) fun _ _ _ _ _ _ us hl => match us, hl with | [_, _], _ => rfl
  have m_law_take := PySem.W.mg_of X G a_law_take
  have F_law_divisor := fun_mk (st := s_law_divisor) l_law_divisor c_law_divisor k_law_divisor
  have b_law_divisor := F_law_divisor.binds (ps := ["a", "b"]) fun _ _ _ _ _ _ us hl => match us, hl with | [_, _], _ => rfl
  have m_law_divisor := PySem.W.mg_of X G a_law_divisor
  have F_law_fraction := fun_mk (st := s_law_fraction) l_law_fraction c_law_fraction k_law_fraction
  have b_law_fraction := F_law_fraction.binds (ps := ["n", "d"]) fun _ _ _ _ _ _ us hl => match us, hl with | [_, _], _ => rfl
  have m_law_fraction := PySem.W.mg_of X G a_law_fraction
  have F_law_plus := fun_mk (st := s_law_plus) l_law_plus c_law_plus k_law_plus
  have b_law_plus := F_law_plus.binds (ps := ["a", "b"]) fun _ _ _ _ _ _ us hl => match us, hl with | [_, _], _ => rfl
  have m_law_plus := PySem.W.mg_of X G a_law_plus
  have F_law_times := fun_mk (st := s_law_times) l_law_times c_law_times k_law_times
  have b_law_times := F_law_times.binds (ps := ["a", "b"]) fun _ _ _ _ _ _ us hl => match us, hl with | [_, _], _ => rfl
  have m_law_times := PySem.W.mg_of X G a_law_times
  have F_law_cut := fun_mk (st := s_law_cut) l_law_cut c_law_cut k_law_cut
  have b_law_cut := F_law_cut.binds (ps := ["c"]) fun _ _ _ _ _ _ us hl => match us, hl with | [_], _ => rfl
  have m_law_cut := PySem.W.mg_of X G a_law_cut
  have F_law_body := fun_mk (st := s_law_body) l_law_body c_law_body k_law_body
  have b_law_body := F_law_body.binds (ps := ["c", "names", "letters", "deep"]) fun _ _ _ _ _ _ us hl => match us, hl with | [_, _, _, _], _ => rfl
  have m_law_body := PySem.W.mg_of X G a_law_body
  have F_law_program := fun_mk (st := s_law_program) l_law_program c_law_program k_law_program
  have b_law_program := F_law_program.binds (ps := ["c"]) fun _ _ _ _ _ _ us hl => match us, hl with | [_], _ => rfl
  have m_law_program := PySem.W.mg_of X G a_law_program
  have F_law_alike := fun_mk (st := s_law_alike) l_law_alike c_law_alike k_law_alike
  have b_law_alike := F_law_alike.binds (ps := ["value", "due"]) fun _ _ _ _ _ _ us hl => match us, hl with | [_, _], _ => rfl
  have m_law_alike := PySem.W.mg_of X G a_law_alike
  have F_law_ways := fun_mk (st := s_law_ways) l_law_ways c_law_ways k_law_ways
  have b_law_ways := F_law_ways.binds (ps := ["body", "chance", "calls", "letters", "found"]) fun _ _ _ _ _ _ us hl => match us, hl with | [_, _, _, _, _], _ => rfl
  have m_law_ways := PySem.W.mg_of X G a_law_ways
  have F_law_alternatives := fun_mk (st := s_law_alternatives) l_law_alternatives c_law_alternatives k_law_alternatives
  have b_law_alternatives := F_law_alternatives.binds (ps := ["program"]) fun _ _ _ _ _ _ us hl => match us, hl with | [_], _ => rfl
  have m_law_alternatives := PySem.W.mg_of X G a_law_alternatives
  have F_law := fun_mk (st := s_law) l_law c_law k_law
  have b_law := F_law.binds (ps := ["script"]) fun _ _ _ _ _ _ us hl => match us, hl with | [_], _ => rfl
  have m_law := PySem.W.mg_of X G a_law
  refine ⟨PySem.W.fnOf "law" "law" (defArgs s_law) (defBody s_law) (defScope s_law) .none kV_law dc_law pm_law an_law cd_law ct_law, fun s v => .of_eq rfl, fun base _ _ => ?_⟩ 
  have D_law_start := FnOk.d (ok_law_start (P := l.prog) (w := w) (base := base) (CA := CA) T F_law_start) m_law_start k_law_start b_law_start
  have D_law_fill := FnOk.d (ok_law_fill (P := l.prog) (w := w) (base := base) (CA := CA) T F_law_fill) m_law_fill k_law_fill b_law_fill
  have D_law_take := FnOk.d (ok_law_take (P := l.prog) (w := w) (base := base) (CA := CA) T F_law_take D_law_fill) m_law_take k_law_take b_law_take
  have D_law_divisor := FnOk.d (ok_law_divisor (P := l.prog) (w := w) (base := base) (CA := CA) T F_law_divisor) m_law_divisor k_law_divisor b_law_divisor
  have D_law_fraction := FnOk.d (ok_law_fraction (P := l.prog) (w := w) (base := base) (CA := CA) T F_law_fraction D_law_divisor) m_law_fraction k_law_fraction b_law_fraction
  have D_law_times := FnOk.d (ok_law_times (P := l.prog) (w := w) (base := base) (CA := CA) T F_law_times D_law_fraction) m_law_times k_law_times b_law_times
  have D_law_plus := FnOk.d (ok_law_plus (P := l.prog) (w := w) (base := base) (CA := CA) T F_law_plus D_law_fraction) m_law_plus k_law_plus b_law_plus
  have D_law_cut := FnOk.d (ok_law_cut (P := l.prog) (w := w) (base := base) (CA := CA) T F_law_cut D_law_fraction D_law_take D_law_times D_law_plus) m_law_cut k_law_cut b_law_cut
  have D_law_body := FnOk.d (ok_law_body (P := l.prog) (w := w) (base := base) (CA := CA) T F_law_body m_law_body b_law_body D_law_take D_law_cut 8) m_law_body k_law_body b_law_body
  have D_law_program := FnOk.d (ok_law_program (P := l.prog) (w := w) (base := base) (CA := CA) T F_law_program D_law_take D_law_body) m_law_program k_law_program b_law_program
  have D_law_ways := FnOk.d (ok_law_ways (P := l.prog) (w := w) (base := base) (CA := CA) T F_law_ways m_law_ways b_law_ways D_law_times 8) m_law_ways k_law_ways b_law_ways
  have D_law_alternatives := FnOk.d (ok_law_alternatives (P := l.prog) (w := w) (base := base) (CA := CA) T F_law_alternatives D_law_ways D_law_plus) m_law_alternatives k_law_alternatives b_law_alternatives
  have D_law_alike := FnOk.d (ok_law_alike (P := l.prog) (w := w) (base := base) (CA := CA) T F_law_alike m_law_alike b_law_alike 8) m_law_alike k_law_alike b_law_alike
  have D_common_divisor := FnOk.d (ok_common_divisor (P := l.prog) (w := w) (base := base) (CA := CA) T F_common_divisor) m_common_divisor k_common_divisor b_common_divisor
  have D_ratio := FnOk.d (ok_ratio (P := l.prog) (w := w) (base := base) (CA := CA) T F_ratio D_common_divisor) m_ratio k_ratio b_ratio
  have D_times := FnOk.d (ok_times (P := l.prog) (w := w) (base := base) (CA := CA) T F_times D_ratio) m_times k_times b_times
  have D_ways := FnOk.d (ok_ways (P := l.prog) (w := w) (base := base) (CA := CA) T F_ways D_times) m_ways k_ways b_ways
  have D_plus := FnOk.d (ok_plus (P := l.prog) (w := w) (base := base) (CA := CA) T F_plus D_ratio) m_plus k_plus b_plus
  have D_alternatives_of := FnOk.d (ok_alternatives_of (P := l.prog) (w := w) (base := base) (CA := CA) T F_alternatives_of D_ways D_plus) m_alternatives_of k_alternatives_of b_alternatives_of
  have D_alternatives := FnOk.d (ok_alternatives (P := l.prog) (w := w) (base := base) (CA := CA) T F_alternatives D_alternatives_of) m_alternatives k_alternatives b_alternatives
  have D_called_by := FnOk.d (ok_called_by (P := l.prog) (w := w) (base := base) (CA := CA) T F_called_by D_alternatives) m_called_by k_called_by b_called_by
  exact ok_law T F_law D_law_start D_law_program D_law_alternatives D_law_alike D_alternatives D_called_by
end DL

set_option Elab.async false
set_option maxRecDepth 100000
open PySem PySem.W PyProof.Rows in
set_option maxRecDepth 100000 in
set_option maxHeartbeats 0 in
theorem PySem.Challenge.cw_hazardry_k31_alternatives_holds : PySem.Challenge.rw_hazardry_k31_alternatives.Holds := by
  w_on; o_law; k_head; (case hw => w_witness2)
  k_fill
  refine DL.law_walk (l := PySem.Challenge.rw_hazardry_k31_alternatives) (k := 14) (fun _ _ => 0) rfl rfl ⟨rfl, by decide, by decide⟩ (fun w h Y => PySem.W.kIn_of Y) ?F
  case F =>
    intro w mg fa h KX G hmg
    refine' DL.all_mk KX G hmg (fun _ => 0) ?z_abs ?z_all ?z_bool ?z_dict ?z_int ?z_isinstance ?z_len ?z_list ?z_range ?z_str ?z_tuple ?v_ZERO ?w_ZERO ?v_ONE ?w_ONE ?a_common_divisor ?l_common_divisor ?c_common_divisor ?k_common_divisor ?a_ratio ?l_ratio ?c_ratio ?k_ratio ?a_plus ?l_plus ?c_plus ?k_plus ?a_times ?l_times ?c_times ?k_times ?a_ways ?l_ways ?c_ways ?k_ways ?a_alternatives_of ?l_alternatives_of ?c_alternatives_of ?k_alternatives_of ?a_alternatives ?l_alternatives ?c_alternatives ?k_alternatives ?a_called_by ?l_called_by ?c_called_by ?k_called_by ?a_law_start ?l_law_start ?c_law_start ?k_law_start ?a_law_fill ?l_law_fill ?c_law_fill ?k_law_fill ?a_law_take ?l_law_take ?c_law_take ?k_law_take ?a_law_divisor ?l_law_divisor ?c_law_divisor ?k_law_divisor ?a_law_fraction ?l_law_fraction ?c_law_fraction ?k_law_fraction ?a_law_plus ?l_law_plus ?c_law_plus ?k_law_plus ?a_law_times ?l_law_times ?c_law_times ?k_law_times ?a_law_cut ?l_law_cut ?c_law_cut ?k_law_cut ?a_law_body ?l_law_body ?c_law_body ?k_law_body ?a_law_program ?l_law_program ?c_law_program ?k_law_program ?a_law_alike ?l_law_alike ?c_law_alike ?k_law_alike ?a_law_ways ?l_law_ways ?c_law_ways ?k_law_ways ?a_law_alternatives ?l_law_alternatives ?c_law_alternatives ?k_law_alternatives ?a_law ?l_law ?c_law ?k_law
    (case z_abs => k_is)
    (case z_all => k_is)
    (case z_bool => k_is)
    (case z_dict => k_is)
    (case z_int => k_is)
    (case z_isinstance => k_is)
    (case z_len => k_is)
    (case z_list => k_is)
    (case z_range => k_is)
    (case z_str => k_is)
    (case z_tuple => k_is)
    (case v_ZERO => k_is)
    (case w_ZERO => k_is)
    (case v_ONE => k_is)
    (case w_ONE => k_is)
    (case a_common_divisor => k_is)
    (case l_common_divisor => k_is)
    (case c_common_divisor => k_is)
    (case k_common_divisor => k_is)
    (case a_ratio => k_is)
    (case l_ratio => k_is)
    (case c_ratio => k_is)
    (case k_ratio => k_is)
    (case a_plus => k_is)
    (case l_plus => k_is)
    (case c_plus => k_is)
    (case k_plus => k_is)
    (case a_times => k_is)
    (case l_times => k_is)
    (case c_times => k_is)
    (case k_times => k_is)
    (case a_ways => k_is)
    (case l_ways => k_is)
    (case c_ways => k_is)
    (case k_ways => k_is)
    (case a_alternatives_of => k_is)
    (case l_alternatives_of => k_is)
    (case c_alternatives_of => k_is)
    (case k_alternatives_of => k_is)
    (case a_alternatives => k_is)
    (case l_alternatives => k_is)
    (case c_alternatives => k_is)
    (case k_alternatives => k_is)
    (case a_called_by => k_is)
    (case l_called_by => k_is)
    (case c_called_by => k_is)
    (case k_called_by => k_is)
    (case a_law_start => k_is)
    (case l_law_start => k_is)
    (case c_law_start => k_is)
    (case k_law_start => k_is)
    (case a_law_fill => k_is)
    (case l_law_fill => k_is)
    (case c_law_fill => k_is)
    (case k_law_fill => k_is)
    (case a_law_take => k_is)
    (case l_law_take => k_is)
    (case c_law_take => k_is)
    (case k_law_take => k_is)
    (case a_law_divisor => k_is)
    (case l_law_divisor => k_is)
    (case c_law_divisor => k_is)
    (case k_law_divisor => k_is)
    (case a_law_fraction => k_is)
    (case l_law_fraction => k_is)
    (case c_law_fraction => k_is)
    (case k_law_fraction => k_is)
    (case a_law_plus => k_is)
    (case l_law_plus => k_is)
    (case c_law_plus => k_is)
    (case k_law_plus => k_is)
    (case a_law_times => k_is)
    (case l_law_times => k_is)
    (case c_law_times => k_is)
    (case k_law_times => k_is)
    (case a_law_cut => k_is)
    (case l_law_cut => k_is)
    (case c_law_cut => k_is)
    (case k_law_cut => k_is)
    (case a_law_body => k_is)
    (case l_law_body => k_is)
    (case c_law_body => k_is)
    (case k_law_body => k_is)
    (case a_law_program => k_is)
    (case l_law_program => k_is)
    (case c_law_program => k_is)
    (case k_law_program => k_is)
    (case a_law_alike => k_is)
    (case l_law_alike => k_is)
    (case c_law_alike => k_is)
    (case k_law_alike => k_is)
    (case a_law_ways => k_is)
    (case l_law_ways => k_is)
    (case c_law_ways => k_is)
    (case k_law_ways => k_is)
    (case a_law_alternatives => k_is)
    (case l_law_alternatives => k_is)
    (case c_law_alternatives => k_is)
    (case k_law_alternatives => k_is)
    (case a_law => k_is)
    (case l_law => k_is)
    (case c_law => k_is)
    (case k_law => k_is)

