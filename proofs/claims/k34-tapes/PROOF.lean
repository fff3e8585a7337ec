import PyProof.Rows.All
import Wide.All
import OpenK.AllK
import Wide.FinOn
import PySem.Str
import PyProof.Fits
import PyProof.NoPylong
import HandS.List
import HandS.ForMost
import HandS.TupAny
import HandS.IsInst
import HandS.Wide
import HandS.Style
import HandS.Conv
import HandS.Deep
import HandS.EndBits
import KE.KDictKeyed
import KE.KDictPairs
import KE.IntBitsLaws
import PyProof.EqLayable
import HandS.DictComp
import HandS.Zip
import KE.SortKeyHeap
import HandS.More
import HandS.SortKw
import PySem.Challenge.RW_hazardry_k34_chances_over_all_tapes
set_option Elab.async false
set_option linter.all false
/-! DL: a clean level over the hand layer. Values (tuples by value, lists and dicts by address), a store, and what Python's
expressions and statements ask, as predicate transformers. -/
namespace DL
open PySem

/-! ## values -/
inductive D where
  | non | bl (b : Bool) | int (i : Int) | str (x : Str) | tup (xs : List D) | ref (a : Addr) | ty (n : String)
  /-- a list that is read alone -/
  | lro (xs : List D)
  deriving Inhabited

mutual
def D.beq : D → D → Bool
  | .non, .non => true
  | .bl a, .bl b => a == b
  | .int a, .int b => decide (a = b)
  | .str a, .str b => decide (a = b)
  | .tup a, .tup b => D.beqs a b
  | .lro a, .lro b => D.beqs a b
  | .ref a, .ref b => decide (a = b)
  | .ty a, .ty b => decide (a = b)
  | _, _ => false
def D.beqs : List D → List D → Bool
  | [], [] => true
  | a :: as, b :: bs => D.beq a b && D.beqs as bs
  | _, _ => false
end
mutual
theorem D.beq_self : ∀ a : D, D.beq a a = true
  | .non => rfl
  | .bl a => by simp [D.beq]
  | .int a => by simp [D.beq]
  | .str a => by simp [D.beq]
  | .tup a => by rw [D.beq]; exact D.beqs_self a
  | .lro a => by rw [D.beq]; exact D.beqs_self a
  | .ref a => by simp [D.beq]
  | .ty a => by simp [D.beq]
theorem D.beqs_self : ∀ a : List D, D.beqs a a = true
  | [] => rfl
  | a :: as => by rw [D.beqs, D.beq_self a, D.beqs_self as]; rfl
end
mutual
theorem D.eq_of_beq : ∀ a b : D, D.beq a b = true → a = b
  | .non, b, h => by cases b <;> simp [D.beq] at h ⊢
  | .bl a, b, h => by cases b <;> simp [D.beq] at h ⊢; exact h
  | .int a, b, h => by cases b <;> simp [D.beq] at h ⊢; exact h
  | .str a, b, h => by cases b <;> simp [D.beq] at h ⊢; exact h
  | .tup a, b, h => by
    cases b <;> simp [D.beq] at h ⊢
    exact D.eq_of_beqs a _ h
  | .lro a, b, h => by
    cases b <;> simp [D.beq] at h ⊢
    exact D.eq_of_beqs a _ h
  | .ref a, b, h => by cases b <;> simp [D.beq] at h ⊢; exact h
  | .ty a, b, h => by cases b <;> simp [D.beq] at h ⊢; exact h
theorem D.eq_of_beqs : ∀ a b : List D, D.beqs a b = true → a = b
  | [], b, h => by cases b <;> simp [D.beqs] at h ⊢
  | a :: as, b, h => by
    cases b with
    | nil => simp [D.beqs] at h
    | cons b bs =>
      simp only [D.beqs, Bool.and_eq_true] at h
      rw [D.eq_of_beq a b h.1, D.eq_of_beqs as bs h.2]
end
instance : DecidableEq D := fun a b => if h : D.beq a b = true then isTrue (D.eq_of_beq a b h) else isFalse fun e => h (e ▸ D.beq_self a)

/-! ## the store -/
abbrev Key := Sum Int Str
inductive O where
  | lst (xs : List D)
  /-- a dict whose keys are ints and texts; one whose keys are tuples (of ints, texts, None, tuples) -/
  | dk (kvs : List (Key × D)) | dn (kvs : List (D × D))
  /-- an instance of a class of the text -/
  | ins (C : String) (fs : List (Str × D))
  /-- dicts while they are walked: read, not written -/
  | dkF (kvs : List (Key × D)) | dnF (kvs : List (D × D))
def O.un : O → O
  | .dkF k => .dk k
  | .dnF k => .dn k
  | o => o
abbrev Sto := Addr → Option O
def Sto.set (M : Sto) (a : Addr) (o : O) : Sto := fun b => if b = a then some o else M b
@[simp] theorem set_same {M : Sto} {a : Addr} {o : O} : M.set a o a = some o := if_pos rfl
theorem set_ne {M : Sto} {a b : Addr} {o : O} (h : b ≠ a) : M.set a o b = M b := if_neg h
theorem set_set {M : Sto} {a : Addr} {o u : O} : (M.set a o).set a u = M.set a u := by
  funext b; unfold Sto.set; split <;> rfl
theorem set_comm {M : Sto} {a b : Addr} {o u : O} (h : a ≠ b) : (M.set a o).set b u = (M.set b u).set a o := by
  funext c; unfold Sto.set
  by_cases h1 : c = b
  · subst h1; rw [if_pos rfl, if_neg (Ne.symm h), if_pos rfl]
  · rw [if_neg h1, if_neg h1]
theorem set_self {M : Sto} {a : Addr} {o : O} (h : M a = some o) : M.set a o = M := by
  funext b; unfold Sto.set; split
  · rename_i e; rw [e, h]
  · rfl
theorem ne_of {M : Sto} {a b : Addr} {o : O} (h : M a = some o) (h' : M b = none) : a ≠ b := by
  intro e; subst e; rw [h] at h'; cases h'

/-! ## names -/
abbrev Ev := List (Option D)
@[simp] def gt : Ev → Nat → Option D
  | [], _ => none
  | x :: _, 0 => x
  | _ :: r, i + 1 => gt r i
@[simp] def put : Ev → Nat → D → Ev
  | [], _, _ => []
  | _ :: r, 0, d => some d :: r
  | x :: r, i + 1, d => x :: put r i d
@[simp] def wipe (e : Ev) : List Nat → Ev
  | [] => e
  | i :: r => (wipe e r).set i none
@[simp] def start (n : Nat) (ds : List D) : Ev := ds.map some ++ List.replicate (n - ds.length) none

/-! ## what is wanted -/
/-- of an exception: its class, its own fields -/
abbrev XW := String → List (Str × D) → Sto → Prop
abbrev KD := D → Sto → Prop
abbrev WE := XW → Ev → Sto → KD → Prop
abbrev WT := XW → Ev → Sto → (Bool → Sto → Prop) → Prop
structure Ends where
  nx : Ev → Sto → Prop
  rt : KD
  bk : Ev → Sto → Prop
  ct : Ev → Sto → Prop
abbrev WS := XW → Ends → Ev → Sto → Prop
abbrev WG := D → XW → Ev → Sto → (Ev → Sto → Prop) → Prop
abbrev FD := XW → List D → Sto → KD → Prop
abbrev X0 : XW := fun _ _ _ => False

/-! ## operations by values -/
abbrev B2 := D → D → Sto → KD → Prop
abbrev C2 := D → D → Sto → (Bool → Prop) → Prop
def opAdd : B2 := fun x y M Q => match x, y with
  | .int i, .int j => Q (.int (i + j)) M
  | .str a, .str b => a.length + b.length ≤ sizeLine ∧ Q (.str (a ++ b)) M
  | .tup xs, .tup ys => xs.length + ys.length ≤ sizeLine ∧ Q (.tup (xs ++ ys)) M
  | .ref a, .ref b => match M a, M b with
    | some (.lst xs), some (.lst ys) => xs.length + ys.length ≤ sizeLine ∧ ∀ p, M p = none → Q (.ref p) (M.set p (.lst (xs ++ ys)))
    | _, _ => False
  | _, _ => False
/-- + in place, of ints, texts and tuples -/
def ipAdd : B2 := fun x y M Q => match x, y with
  | .int i, .int j => Q (.int (i + j)) M
  | _, _ => False
def opSub : B2 := fun x y M Q => match x, y with
  | .int i, .int j => Q (.int (i - j)) M
  | _, _ => False
def opMul : B2 := fun x y M Q => match x, y with
  | .int i, .int j => IntMulOk i j ∧ Q (.int (i * j)) M
  | _, _ => False
def opDiv : B2 := fun x y M Q => match x, y with
  | .int i, .int j => j ≠ 0 ∧ Builtin.divisionGoesByPylong i j = false ∧ Q (.int (i.fdiv j)) M
  | _, _ => False
def opMod : B2 := fun x y M Q => match x, y with
  | .int i, .int j => j ≠ 0 ∧ Q (.int (i.fmod j)) M
  | _, _ => False
def opPow : B2 := fun x y M Q => match x, y with
  | .int i, .int j => 0 ≤ j ∧ j ≤ 1000000 ∧ i.natAbs < 2 ^ 64 ∧ Q (.int (i ^ j.toNat)) M
  | _, _ => False
/-- a flat value -/
def flat : D → Bool
  | .non | .bl _ | .int _ | .str _ => true
  | _ => false
/-- x == y of flat values -/
def eqF : D → D → Bool
  | .non, .non => true
  | .bl a, .bl b => a == b
  | .bl a, .int b => (if a then 1 else 0) == b
  | .int a, .bl b => a == (if b then 1 else 0)
  | .int a, .int b => decide (a = b)
  | .str a, .str b => decide (a = b)
  | _, _ => false
mutual
/-- as data -/
def D.py : D → PyData
  | .non => .none
  | .bl b => .bool b
  | .int i => .int i
  | .str x => .str x
  | .tup xs => .tuple (D.pys xs)
  | .ref _ => .dict []
  | .ty _ => .dict []
  | .lro _ => .dict []
def D.pys : List D → List PyData
  | [] => []
  | x :: xs => x.py :: D.pys xs
end
def D.scal : D → D → Bool
  | .int _, .int _ | .str _, .str _ | .bl _, .bl _ => true
  | _, _ => false
def cEq : C2 := fun x y M k => match x, y with
  | .int i, .int j => k (decide (i = j))
  | .str a, .str b => k (decide (a = b))
  | .bl a, .bl b => k (a == b)
  | x, y => SeqAt.shaped x.py = true ∧ SeqAt.shaped y.py = true ∧ k (PyData.eqv x.py y.py)
def cNe : C2 := fun x y M k => cEq x y M fun b => k (!b)
def cLt : C2 := fun x y M k => match x, y with
  | .int i, .int j => k (decide (i < j))
  | _, _ => False
def cLe : C2 := fun x y M k => match x, y with
  | .int i, .int j => k (decide (i ≤ j))
  | _, _ => False
def cGt : C2 := fun x y M k => match x, y with
  | .int i, .int j => k (decide (j < i))
  | _, _ => False
def cGe : C2 := fun x y M k => match x, y with
  | .int i, .int j => k (decide (j ≤ i))
  | _, _ => False
def cIsN : C2 := fun x y _ k => match y with
  | .non => k (decide (x = .non))
  | _ => False
def cNotN : C2 := fun x y _ k => match y with
  | .non => k (!decide (x = .non))
  | _ => False
/-- a key of a dict -/
def keyD : D → Option Key
  | .int i => some (.inl i)
  | .str x => some (.inr x)
  | _ => none
def dKey : Key → D
  | .inl i => .int i
  | .inr x => .str x
mutual
def nest : D → Option Nat
  | .non | .int _ | .str _ => some 0
  | .tup xs => (nests xs).map (· + 1)
  | _ => none
def nests : List D → Option Nat
  | [] => some 0
  | x :: xs => match nest x, nests xs with
    | some a, some b => some (max a b)
    | _, _ => none
end
/-- a tuple that may be a key -/
def nkOk (x : D) : Bool := match x with
  | .tup _ => match nest x with
    | some n => decide (n ≤ 8)
    | none => false
  | _ => false
section
variable {κ : Type} [DecidableEq κ]
def lk : List (κ × D) → κ → Option D
  | [], _ => none
  | p :: r, k => if p.1 = k then some p.2 else lk r k
def ins (kvs : List (κ × D)) (k : κ) (v : D) : List (κ × D) :=
  if (kvs.any fun kv => decide (kv.1 = k)) = true then kvs.map fun kv => if kv.1 = k then (kv.1, v) else kv else kvs ++ [(k, v)]
end
/-- k in d, or what stands there -/
def dLk (x : O) (y : D) (k : Option D → Prop) : Prop := match x.un with
  | .dk kvs => match keyD y with
    | some κ => k (lk kvs κ)
    | none => False
  | .dn kvs => nkOk y = true ∧ k (lk kvs y)
  | _ => False
def cIn : C2 := fun x y M k => match y with
  | .tup xs => flat x = true ∧ xs.all flat = true ∧ k (xs.any fun z => eqF z x)
  | .str s => match x with
    | .str t => k (!(Builtin.Str.occurrences s t 0 s.length 1).isEmpty)
    | _ => False
  | .ref a => match M a with
    | some (.lst xs) => flat x = true ∧ xs.all flat = true ∧ k (xs.any fun z => eqF z x)
    | some o => dLk o x fun r => k r.isSome
    | none => False
  | _ => False
def cNotIn : C2 := fun x y M k => cIn x y M fun b => k (!b)

/-! ## truth, length, items -/
def truD (x : D) (M : Sto) (k : Bool → Prop) : Prop := match x with
  | .non => k false
  | .bl b => k b
  | .int i => k (i != 0)
  | .str s => s.length ≤ sizeLine ∧ k ((s.length : Int) != 0)
  | .tup xs => k (!xs.isEmpty)
  | .lro xs => k (!xs.isEmpty)
  | .ref a => match M a with
    | some (.lst xs) => k (!xs.isEmpty)
    | some (.dk kvs) => k (!kvs.isEmpty)
    | _ => False
  | .ty _ => False
def lenD (x : D) (M : Sto) (k : Nat → Prop) : Prop := match x with
  | .str s => s.length ≤ sizeLine ∧ k s.length
  | .tup xs => k xs.length
  | .lro xs => k xs.length
  | .ref a => match M a with
    | some (.lst xs) => k xs.length
    | _ => False
  | _ => False
def at' (xs : List D) (i : Int) (k : D → Prop) : Prop := match L2.atI xs i with
  | some d => k d
  | none => False
def subD (x y : D) (M : Sto) (k : D → Prop) : Prop := match x with
  | .tup xs => match y with
    | .int i => at' xs i k
    | _ => False
  | .lro xs => match y with
    | .int i => at' xs i k
    | _ => False
  | .str s => match y with
    | .int i => s.length ≤ sizeLine ∧ match L2.atI s.cps.toList i with
      | some c => k (.str ⟨#[c]⟩)
      | none => False
    | _ => False
  | .ref a => match M a with
    | some (.lst xs) => match y with
      | .int i => at' xs i k
      | _ => False
    | some o => dLk o y fun r => match r with
      | some d => k d
      | none => False
    | none => False
  | _ => False
def cut {α : Type} (xs : List α) (lo hi : Option Int) : List α := (xs.drop (HT.sIx xs.length 0 lo)).take (HT.sIx xs.length xs.length hi - HT.sIx xs.length 0 lo)
def slD (x : D) (lo hi : Option Int) (M : Sto) (Q : KD) : Prop := match x with
  | .tup xs => Q (.tup (cut xs lo hi)) M
  | .lro xs => ∀ p, M p = none → Q (.ref p) (M.set p (.lst (cut xs lo hi)))
  | .ref a => match M a with
    | some (.lst xs) => ∀ p, M p = none → Q (.ref p) (M.set p (.lst (cut xs lo hi)))
    | _ => False
  | _ => False
def revD (x : D) (M : Sto) (Q : KD) : Prop := match x with
  | .tup xs => Q (.tup xs.reverse) M
  | .ref a => match M a with
    | some (.lst xs) => ∀ p, M p = none → Q (.ref p) (M.set p (.lst xs.reverse))
    | _ => False
  | _ => False

/-! ## expressions -/
def eVar (i : Nat) : WE := fun _ env M Q => match gt env i with
  | some d => Q d M
  | none => False
def eC (d : D) : WE := fun _ _ M Q => Q d M
def argsW : List WE → XW → Ev → Sto → (List D → Sto → Prop) → Prop
  | [], _, _, M, Q => Q [] M
  | f :: fs, E, env, M, Q => f E env M fun d M1 => argsW fs E env M1 fun ds M2 => Q (d :: ds) M2
def eTup (fs : List WE) : WE := fun E env M Q => argsW fs E env M fun ds M1 => Q (.tup ds) M1
def eLst (fs : List WE) : WE := fun E env M Q => argsW fs E env M fun ds M1 => ∀ p, M1 p = none → Q (.ref p) (M1.set p (.lst ds))
def eBin (op : B2) (f g : WE) : WE := fun E env M Q => f E env M fun x M1 => g E env M1 fun y M2 => op x y M2 Q
def eNeg (f : WE) : WE := fun E env M Q => f E env M fun x M1 => match x with
  | .int i => Q (.int (-i)) M1
  | _ => False
def eCmp (c : C2) (f g : WE) : WE := fun E env M Q => f E env M fun x M1 => g E env M1 fun y M2 => c x y M2 fun b => Q (.bl b) M2
def tCmp (c : C2) (f g : WE) : WT := fun E env M Q => f E env M fun x M1 => g E env M1 fun y M2 => c x y M2 fun b => Q b M2
/-- a < b < c -/
def tChain (c c' : C2) (f g h : WE) : WT := fun E env M Q => f E env M fun x M1 => g E env M1 fun y M2 => c x y M2 fun b =>
  if b = true then h E env M2 fun z M3 => c' y z M3 fun b' => Q b' M3 else Q false M2
def tTru (f : WE) : WT := fun E env M Q => f E env M fun x M1 => truD x M1 fun b => Q b M1
def tAnd (t u : WT) : WT := fun E env M Q => t E env M fun b M1 => if b = true then u E env M1 Q else Q false M1
def tOr (t u : WT) : WT := fun E env M Q => t E env M fun b M1 => if b = true then Q true M1 else u E env M1 Q
def tNot (t : WT) : WT := fun E env M Q => t E env M fun b M1 => Q (!b) M1
/-- and, or, not as values (of bools) -/
def eAnd (f g : WE) : WE := fun E env M Q => f E env M fun x M1 => match x with
  | .bl b => if b = true then g E env M1 Q else Q (.bl false) M1
  | _ => False
def eOr (f g : WE) : WE := fun E env M Q => f E env M fun x M1 => match x with
  | .bl b => if b = true then Q (.bl true) M1 else g E env M1 Q
  | _ => False
def eNotB (f : WE) : WE := fun E env M Q => f E env M fun x M1 => match x with
  | .bl b => Q (.bl (!b)) M1
  | _ => False
def eIf (t : WT) (f g : WE) : WE := fun E env M Q => t E env M fun b M1 => if b = true then f E env M1 Q else g E env M1 Q
def eSub (f g : WE) : WE := fun E env M Q => f E env M fun x M1 => g E env M1 fun y M2 => subD x y M2 fun d => Q d M2
def optW : Option WE → XW → Ev → Sto → (Option Int → Sto → Prop) → Prop
  | none, _, _, M, Q => Q none M
  | some f, E, env, M, Q => f E env M fun x M1 => match x with
    | .int i => Q (some i) M1
    | _ => False
def eSl (f : WE) (lo hi : Option WE) : WE := fun E env M Q => f E env M fun x M1 => optW lo E env M1 fun l M2 => optW hi E env M2 fun h M3 => slD x l h M3 Q
def eRev (f : WE) : WE := fun E env M Q => f E env M fun x M1 => revD x M1 Q
def eFld (C : String) (f : WE) (name : Str) : WE := fun E env M Q => f E env M fun x M1 => match x with
  | .ref a => match M1 a with
    | some (.ins C' fs) => C' = C ∧ match fs.lookup name with
      | some d => Q d M1
      | none => False
    | _ => False
  | _ => False
/-! calls -/
def eCall (g : FD) (fs : List WE) : WE := fun E env M Q => argsW fs E env M fun ds M1 => g E ds M1 Q
def eMeth (C : String) (m : Str) (g : FD) (f : WE) (fs : List WE) : WE := fun E env M Q => f E env M fun x M1 => match x with
  | .ref a => match M1 a with
    | some (.ins C' flds) => C' = C ∧ flds.lookup m = none ∧ argsW fs E env M1 fun ds M2 => g E (x :: ds) M2 Q
    | _ => False
  | _ => False
def eNew (C : String) (g : FD) (fs : List WE) : WE := fun E env M Q => argsW fs E env M fun ds M1 => ∀ x, M1 x = none →
  g E (.ref x :: ds) (M1.set x (.ins C [])) fun v M2 => v = .non ∧ Q (.ref x) M2
def eLen (f : WE) : WE := fun E env M Q => f E env M fun x M1 => lenD x M1 fun n => Q (.int n) M1
def eAbs (f : WE) : WE := fun E env M Q => f E env M fun x M1 => match x with
  | .int i => Q (.int (if i < 0 then -i else i)) M1
  | _ => False
def eInt (f : WE) : WE := fun E env M Q => f E env M fun x M1 => match x with
  | .int i => Q (.int i) M1
  | .bl b => Q (.int (if b then 1 else 0)) M1
  | _ => False
def eTupOf (f : WE) : WE := fun E env M Q => f E env M fun x M1 => match x with
  | .tup xs => Q (.tup xs) M1
  | .ref a => match M1 a with
    | some (.lst xs) => Q (.tup xs) M1
    | _ => False
  | _ => False
def eLstOf (f : WE) : WE := fun E env M Q => f E env M fun x M1 => match x with
  | .tup xs => ∀ p, M1 p = none → Q (.ref p) (M1.set p (.lst xs))
  | .ref a => match M1 a with
    | some (.lst xs) => ∀ p, M1 p = none → Q (.ref p) (M1.set p (.lst xs))
    | some (.dk kvs) => ∀ p, M1 p = none → Q (.ref p) (M1.set p (.lst (kvs.map fun kv => dKey kv.1)))
    | _ => False
  | _ => False
def asBools : List D → Option (List Bool)
  | [] => some []
  | .bl b :: r => (asBools r).map (b :: ·)
  | _ => none
def asInts : List D → Option (List Int)
  | [] => some []
  | .int i :: r => (asInts r).map (i :: ·)
  | _ => none
def eAll (f : WE) : WE := fun E env M Q => f E env M fun x M1 => match x with
  | .ref a => match M1 a with
    | some (.lst xs) => match asBools xs with
      | some bs => Q (.bl (bs.all id)) M1
      | none => False
    | _ => False
  | _ => False
def eAny (f : WE) : WE := fun E env M Q => f E env M fun x M1 => match x with
  | .ref a => match M1 a with
    | some (.lst xs) => match asBools xs with
      | some bs => Q (.bl (bs.any id)) M1
      | none => False
    | _ => False
  | _ => False
def eSum (f : WE) : WE := fun E env M Q => f E env M fun x M1 => match x with
  | .ref a => match M1 a with
    | some (.lst xs) => match asInts xs with
      | some ks => Q (.int ks.sum) M1
      | none => False
    | _ => False
  | _ => False
/-- the type's name of a value -/
def tyD (x : D) (M : Sto) (k : String → Prop) : Prop := match x with
  | .non => k "NoneType"
  | .bl _ => k "bool"
  | .int _ => k "int"
  | .str _ => k "str"
  | .tup _ => k "tuple"
  | .ref a => match M a with
    | some (.lst _) => k "list"
    | some (.dk _) => k "dict"
    | _ => False
  | .lro _ => k "list"
  | .ty _ => False
def isTy (t c : String) : Bool := t == c || (t == "bool" && c == "int")
def eIsi (f : WE) (cs : List String) : WE := fun E env M Q => f E env M fun x M1 => tyD x M1 fun t => Q (.bl (cs.any (isTy t))) M1
/-! dicts -/
def eDk : WE := fun _ _ M Q => ∀ p, M p = none → Q (.ref p) (M.set p (.dk []))
def eDn : WE := fun _ _ M Q => ∀ p, M p = none → Q (.ref p) (M.set p (.dn []))
def refD (x : D) (M : Sto) (k : O → Prop) : Prop := match x with
  | .ref a => match M a with
    | some o => k o
    | none => False
  | _ => False
def isDct (x : D) (M : Sto) (k : Prop) : Prop := match x with
  | .ref a => match M a with
    | some (.dk _) => k
    | some (.dn _) => k
    | _ => False
  | _ => False
def eGet1 (f g : WE) : WE := fun E env M Q => f E env M fun x M1 => isDct x M1 <| g E env M1 fun y M2 => refD x M2 fun o => dLk o y fun r => Q (r.getD .non) M2
def eGet2 (f g h : WE) : WE := fun E env M Q => f E env M fun x M1 => isDct x M1 <| g E env M1 fun y M2 => h E env M2 fun z M3 => refD x M3 fun o => dLk o y fun r => Q (r.getD z) M3
/-- dict(pairs) of texts or ints -/
def pairsK : List D → Option (List (Key × D))
  | [] => some []
  | .tup [k, v] :: r => match keyD k, pairsK r with
    | some κ, some s => some ((κ, v) :: s)
    | _, _ => none
  | _ => none
def insAll (kvs : List (Key × D)) (more : List (Key × D)) : List (Key × D) := more.foldl (fun acc kv => ins acc kv.1 kv.2) kvs
def itemsD (x : D) (M : Sto) (k : List D → Prop) : Prop := match x with
  | .tup xs => k xs
  | .ref a => match M a with
    | some (.lst xs) => k xs
    | _ => False
  | _ => False
def eDict (f : WE) : WE := fun E env M Q => f E env M fun x M1 => itemsD x M1 fun xs => match pairsK xs with
    | some kvs => ∀ p, M1 p = none → Q (.ref p) (M1.set p (.dk (insAll [] kvs)))
    | none => False
/-! methods of lists -/
def lstAt (x : D) (M : Sto) (k : Addr → List D → Prop) : Prop := match x with
  | .ref a => match M a with
    | some (.lst xs) => k a xs
    | _ => False
  | _ => False
def eAppend (f g : WE) : WE := fun E env M Q => f E env M fun x M1 => lstAt x M1 fun _ _ => g E env M1 fun y M2 => lstAt x M2 fun a xs => xs.length < sizeLine ∧ Q .non (M2.set a (.lst (xs ++ [y])))
def ePop (f : WE) : WE := fun E env M Q => f E env M fun x M1 => lstAt x M1 fun a xs => match xs.getLast? with
  | some y => Q y (M1.set a (.lst xs.dropLast))
  | none => False
def eExtend (f g : WE) : WE := fun E env M Q => f E env M fun x M1 => lstAt x M1 fun _ _ => g E env M1 fun y M2 => lstAt x M2 fun a xs => lstAt y M2 fun _ ys => xs.length + ys.length ≤ sizeLine ∧ Q .non (M2.set a (.lst (xs ++ ys)))

/-! ## what a loop walks: a check at each turn, the items -/
abbrev WI := XW → Ev → Sto → ((Sto → Prop) → List D → Sto → Prop) → Prop
def iVal (f : WE) : WI := fun E env M k => f E env M fun x M1 => match x with
  | .tup xs => k (fun _ => True) xs M1
  | .lro xs => k (fun _ => True) xs M1
  | .ref a => match M1 a with
    | some (.lst xs) => k (fun M' => M' a = some (.lst xs)) xs M1
    | _ => False
  | _ => False
def rangeL (lo hi : Int) : List D := (List.range (hi - lo).toNat).map fun (i : Nat) => .int (lo + i)
def iRange1 (f : WE) : WI := fun E env M k => f E env M fun x M1 => match x with
  | .int j => -(2 ^ 62) ≤ j ∧ j < 2 ^ 62 ∧ k (fun _ => True) (rangeL 0 j) M1
  | _ => False
def iRange2 (f g : WE) : WI := fun E env M k => f E env M fun x M1 => g E env M1 fun y M2 => match x, y with
  | .int i, .int j => (-(2 ^ 62) ≤ i ∧ i < 2 ^ 62 ∧ -(2 ^ 62) ≤ j ∧ j < 2 ^ 62) ∧ k (fun _ => True) (rangeL i j) M2
  | _, _ => False

def charsOf (s : Str) : List D := s.cps.toList.map fun c => .str ⟨#[c]⟩
def iChars (f : WE) : WI := fun E env M k => f E env M fun x M1 => match x with
  | .str s => k (fun _ => True) (charsOf s) M1
  | _ => False
def cIsB : C2 := fun x y _ k => match x, y with
  | .bl a, .bl b => k (a == b)
  | _, _ => False
def cNotB : C2 := fun x y _ k => match x, y with
  | .bl a, .bl b => k (!(a == b))
  | _, _ => False
/-! dicts that are walked: locked the while -/
def lockO (o : Option O) (k : O → O → Prop) : Prop := match o with
  | some (.dk kvs) => k (.dk kvs) (.dkF kvs)
  | some (.dn kvs) => k (.dn kvs) (.dnF kvs)
  | _ => False
def lockD (x : Option D) (M : Sto) (k : Addr → O → O → Prop) : Prop := match x with
  | some (.ref a) => lockO (M a) (k a)
  | _ => False
def eLock (i : Nat) (f : WE) : WE := fun _ env M Q => lockD (gt env i) M fun a o o' => f X0 env (M.set a o') fun d M' => M' a = some o' ∧ Q d (M'.set a o)
/-- the keys of a locked dict -/
def keysO (o : Option O) (k : O → List D → Prop) : Prop := match o with
  | some (.dkF kvs) => k (.dkF kvs) (kvs.map fun kv => dKey kv.1)
  | some (.dnF kvs) => k (.dnF kvs) (kvs.map Prod.fst)
  | _ => False
def iKeysD (f : WE) : WI := fun E env M k => f E env M fun x M1 => match x with
  | .ref a => keysO (M1 a) fun o xs => k (fun M' => M' a = some o) xs M1
  | _ => False
/-! ## targets -/
def gName (i : Nat) : WG := fun d _ env M Q => Q (put env i d) M
def gAll : List WG → List D → XW → Ev → Sto → (Ev → Sto → Prop) → Prop
  | [], [], _, env, M, Q => Q env M
  | g :: gs, d :: ds, E, env, M, Q => g d E env M fun env1 M1 => gAll gs ds E env1 M1 Q
  | _, _, _, _, _, _ => False
def gTup (gs : List WG) : WG := fun d E env M Q => match d with
  | .tup ds => ds.length = gs.length ∧ gAll gs ds E env M Q
  | _ => False
/-- o[i] = d -/
def setD (o i d : D) (M : Sto) (Q : Sto → Prop) : Prop := match o with
  | .ref a => match M a with
    | some (.lst xs) => match i with
      | .int k => match L2.ixN xs.length k with
        | some j => Q (M.set a (.lst (xs.set j d)))
        | none => False
      | _ => False
    | some (.dk kvs) => match keyD i with
      | some κ => kvs.length < sizeLine ∧ Q (M.set a (.dk (ins kvs κ d)))
      | none => False
    | some (.dn kvs) => nkOk i = true ∧ kvs.length < sizeLine ∧ Q (M.set a (.dn (ins kvs i d)))
    | _ => False
  | _ => False
def gSub (f g : WE) : WG := fun d E env M Q => f E env M fun o M1 => g E env M1 fun i M2 => setD o i d M2 fun M3 => Q env M3
def putF (name : Str) (d : D) : List (Str × D) → List (Str × D)
  | [] => [(name, d)]
  | p :: r => if p.1 = name then (name, d) :: r else p :: putF name d r
def gFld (C : String) (f : WE) (name : Str) : WG := fun d E env M Q => f E env M fun o M1 => match o with
  | .ref a => match M1 a with
    | some (.ins C' fs) => C' = C ∧ fs.length < 1000 ∧ Q env (M1.set a (.ins C (putF name d fs)))
    | _ => False
  | _ => False

/-! ## statements -/
def sNil : WS := fun _ D env M => D.nx env M
def sSeq (s t : WS) : WS := fun E D env M => s E { D with nx := fun e m => t E D e m } env M
def sAsg (f : WE) (g : WG) : WS := fun E D env M => f E env M fun d M1 => g d E env M1 D.nx
def sAug (i : Nat) (op : B2) (f : WE) : WS := fun E D env M => match gt env i with
  | some x => f E env M fun y M1 => op x y M1 fun z M2 => D.nx (put env i z) M2
  | none => False
/-- o.name op= e -/
def sAugF (C : String) (o : WE) (name : Str) (op : B2) (f : WE) : WS := fun E D env M => o E env M fun x M1 => match x with
  | .ref a => match M1 a with
    | some (.ins C0 fs) => C0 = C ∧ match fs.lookup name with
      | some old => f E env M1 fun y M2 => op old y M2 fun z M3 => match M3 a with
        | some (.ins C' fs') => C' = C ∧ fs'.length < 1000 ∧ D.nx env (M3.set a (.ins C (putF name z fs')))
        | _ => False
      | none => False
    | _ => False
  | _ => False
def sExpr (f : WE) : WS := fun E D env M => f E env M fun _ M1 => D.nx env M1
def sRet (f : WE) : WS := fun E D env M => f E env M D.rt
def sRetN : WS := fun _ D _ M => D.rt .non M
def sIf (t : WT) (a b : WS) : WS := fun E D env M => t E env M fun c M1 => if c = true then a E D env M1 else b E D env M1
def sBreak : WS := fun _ D env M => D.bk env M
def sCont : WS := fun _ D env M => D.ct env M
def sNever : WS := fun _ _ _ _ => False
def forL (g : WG) (b : WS) (chk : Sto → Prop) : List D → XW → Ends → Ev → Sto → Prop
  | [], _, D, env, M => chk M ∧ D.nx env M
  | x :: xs, E, D, env, M => chk M ∧ g x E env M fun env1 M1 => b E { D with nx := fun e m => forL g b chk xs E D e m, ct := fun e m => forL g b chk xs E D e m, bk := D.nx } env1 M1
def sFor (src : WI) (g : WG) (b : WS) : WS := fun E D env M => src E env M fun chk xs M1 => forL g b chk xs E D env M1
def sWhile (c : WT) (b : WS) : WS := fun E D env M => ∃ W : Nat → Ev → Sto → Prop, (∃ m, W m env M) ∧ ∀ m env M, W m env M →
  c E env M fun t M1 => if t = true then b E { D with nx := fun e M' => ∃ m', m' < m ∧ W m' e M', ct := fun e M' => ∃ m', m' < m ∧ W m' e M', bk := D.nx } env M1 else D.nx env M1

/-! ## comprehensions -/
def compL (p : Addr) (vs : List Nat) (g : WG) (t : WT) (f : WE) (env : Ev) (chk : Sto → Prop) : List D → Sto → (Sto → Prop) → Prop
  | [], M, Q => chk M ∧ Q M
  | x :: xs, M, Q => chk M ∧ g x X0 (wipe env vs) M fun env1 M1 => t X0 env1 M1 fun b M2 =>
    if b = true then f X0 env1 M2 fun d M3 => (match M3 p with
      | some (.lst acc) => acc.length < sizeLine ∧ compL p vs g t f env chk xs (M3.set p (.lst (acc ++ [d]))) Q
      | _ => False)
    else compL p vs g t f env chk xs M2 Q
def tYes : WT := fun _ _ M Q => Q true M
def eComp (src : WI) (vs : List Nat) (g : WG) (t : WT) (f : WE) : WE := fun E env M Q => src E env M fun chk xs M1 => ∀ p, M1 p = none →
  compL p vs g t f env chk xs (M1.set p (.lst [])) fun M2 => Q (.ref p) M2

/-! ## defs -/
def endsOf (Q : KD) : Ends := ⟨fun _ M => Q .non M, Q, fun _ _ => False, fun _ _ => False⟩
@[simp] def fn1 (g : D → XW → Sto → KD → Prop) : FD := fun E ds M Q => match ds with
  | [x] => g x E M Q
  | _ => False
@[simp] def fn2 (g : D → D → XW → Sto → KD → Prop) : FD := fun E ds M Q => match ds with
  | [x, y] => g x y E M Q
  | _ => False
@[simp] def fn3 (g : D → D → D → XW → Sto → KD → Prop) : FD := fun E ds M Q => match ds with
  | [x, y, z] => g x y z E M Q
  | _ => False
@[simp] def fn4 (g : D → D → D → D → XW → Sto → KD → Prop) : FD := fun E ds M Q => match ds with
  | [x, y, z, u] => g x y z u E M Q
  | _ => False
@[simp] def fn5 (g : D → D → D → D → D → XW → Sto → KD → Prop) : FD := fun E ds M Q => match ds with
  | [x, y, z, u, v] => g x y z u v E M Q
  | _ => False
end DL

set_option Elab.async false
set_option linter.all false
set_option maxRecDepth 100000
set_option maxHeartbeats 4000000
/-! DS: the clean level is sound over the hand layer -/
namespace DL
open PySem PySem.Spec PyProof.Rows L2

/-! ## what a value stands for -/
/-- a list that nobody writes -/
def SqF (K : PySem.W.Frag) (H : Hp) (a : Addr) (xs : List V) : Prop :=
  (∃ o, H a = some (.frz o (.lst xs))) ∨
    ∃ (o : Obj) (its : Array Value) (n : Nat), K.lookup a = some o ∧ o.cls = .type "list" ∧ o.dict = none ∧ o.data = .seq its n ∧ its.size ≤ sizeLine ∧ Vals xs its.toList
theorem SqF.l {K : PySem.W.Frag} {H : Hp} {a : Addr} {xs : List V} (h : SqF K H a xs) : SqL K H a xs := h.elim (fun h => .inl (.inr h)) .inr
/-- the object of a tuple as the text makes it -/
abbrev TupO (its : List Value) : Obj := { cls := .type "tuple", data := .seq its.toArray }
/-- a tuple, known to the object -/
def SqD (K : PySem.W.Frag) (H : Hp) (a : Addr) (xs : List V) : Prop :=
  (∃ its, H a = some (.frz (TupO its) (.tup xs))) ∨
    ∃ (o : Obj) (its : Array Value) (n : Nat), K.lookup a = some o ∧ o.cls = .type "tuple" ∧ o.dict = none ∧ o.data = .seq its n ∧ its.size ≤ sizeLine ∧ Vals xs its.toList
theorem SqD.s {K : PySem.W.Frag} {H : Hp} {a : Addr} {xs : List V} (h : SqD K H a xs) : SqT K H a xs :=
  h.elim (fun ⟨_, h⟩ => .inl (.inr ⟨_, h⟩)) fun ⟨o, its, n, a, b, _, c, d, e⟩ => .inr ⟨o, its, n, a, b, c, d, e⟩
mutual
inductive Rep (K : PySem.W.Frag) (H : Hp) : V → D → Prop
  | non : Rep K H .non .non
  | bl (b : Bool) : Rep K H (.bl b) (.bl b)
  | int (i : Int) : Rep K H (.int i) (.int i)
  | str (x : Str) : Rep K H (.str x) (.str x)
  | ref (a : Addr) : Rep K H (.ref a) (.ref a)
  | ty (n : String) : Rep K H (.ty n) (.ty n)
  | tup {a : Addr} {vs : List V} {ds : List D} : SqD K H a vs → Reps K H vs ds → Rep K H (.ref a) (.tup ds)
  | lro {a : Addr} {vs : List V} {ds : List D} : SqF K H a vs → Reps K H vs ds → Rep K H (.ref a) (.lro ds)
inductive Reps (K : PySem.W.Frag) (H : Hp) : List V → List D → Prop
  | nil : Reps K H [] []
  | cons {v : V} {d : D} {vs : List V} {ds : List D} : Rep K H v d → Reps K H vs ds → Reps K H (v :: vs) (d :: ds)
end
/-- tuples and lists that nobody writes stand still -/
structure TF (K : PySem.W.Frag) (H H' : Hp) : Prop where
  t : ∀ a vs, SqD K H a vs → SqD K H' a vs
  f : ∀ a vs, SqF K H a vs → SqF K H' a vs
/-- .. and what is locked stays so -/
structure Tups (K : PySem.W.Frag) (H H' : Hp) : Prop extends TF K H H' where
  z : ∀ a o u, H a = some (.frz o u) → H' a = some (.frz o u)
theorem Tups.refl {K : PySem.W.Frag} {H : Hp} : Tups K H H := ⟨⟨fun _ _ h => h, fun _ _ h => h⟩, fun _ _ _ h => h⟩
theorem Tups.trans {K : PySem.W.Frag} {H H1 H2 : Hp} (a : Tups K H H1) (b : Tups K H1 H2) : Tups K H H2 := ⟨⟨fun x vs h => b.t x vs (a.t x vs h), fun x vs h => b.f x vs (a.f x vs h)⟩, fun x o u h => b.z x o u (a.z x o u h)⟩
section
variable {K : PySem.W.Frag} {H H' : Hp}
mutual
theorem Rep.mono (t : TF K H H') : ∀ (d : D) {v : V}, Rep K H v d → Rep K H' v d
  | .non, _, h => by cases h; exact .non
  | .bl b, _, h => by cases h; exact .bl b
  | .int b, _, h => by cases h; exact .int b
  | .str b, _, h => by cases h; exact .str b
  | .ref b, _, h => by cases h; exact .ref b
  | .ty b, _, h => by cases h; exact .ty b
  | .tup ds, _, h => by
    cases h with
    | tup s r => exact .tup (t.t _ _ s) (Reps.mono t ds r)
  | .lro ds, _, h => by
    cases h with
    | lro s r => exact .lro (t.f _ _ s) (Reps.mono t ds r)
theorem Reps.mono (t : TF K H H') : ∀ (ds : List D) {vs : List V}, Reps K H vs ds → Reps K H' vs ds
  | [], _, h => by cases h; exact .nil
  | d :: ds, _, h => by
    cases h with
    | cons a b => exact .cons (Rep.mono t d a) (Reps.mono t ds b)
end
theorem Rep.m0 {v : V} {d : D} (h : Rep K H v d) (t : TF K H H') : Rep K H' v d := Rep.mono t d h
theorem Reps.m0 {vs : List V} {ds : List D} (h : Reps K H vs ds) (t : TF K H H') : Reps K H' vs ds := Reps.mono t ds h
theorem Rep.m {v : V} {d : D} (h : Rep K H v d) (t : Tups K H H') : Rep K H' v d := Rep.mono t.toTF d h
theorem Reps.m {vs : List V} {ds : List D} (h : Reps K H vs ds) (t : Tups K H H') : Reps K H' vs ds := Reps.mono t.toTF ds h
theorem Reps.length : ∀ {vs : List V} {ds : List D}, Reps K H vs ds → vs.length = ds.length
  | _, _, .nil => rfl
  | _, _, .cons _ t => by rw [List.length_cons, List.length_cons, Reps.length t]
theorem Reps.get : ∀ {vs : List V} {ds : List D} {i : Nat} {d : D}, Reps K H vs ds → ds[i]? = some d → ∃ v, vs[i]? = some v ∧ Rep K H v d
  | _, _, _, _, .nil, e => by simp at e
  | _, _, 0, _, .cons r _, e => by simp at e; subst e; exact ⟨_, rfl, r⟩
  | _, _, i + 1, d, .cons _ t, e => by
    obtain ⟨u, h1, h2⟩ := Reps.get (i := i) (d := d) t (by simpa using e)
    exact ⟨u, by simpa using h1, h2⟩
theorem Reps.getV : ∀ {vs : List V} {ds : List D} {i : Nat} {v : V}, Reps K H vs ds → vs[i]? = some v → ∃ d, ds[i]? = some d ∧ Rep K H v d
  | _, _, _, _, .nil, e => by simp at e
  | _, _, 0, _, .cons r _, e => by simp at e; subst e; exact ⟨_, rfl, r⟩
  | _, _, i + 1, d, .cons _ t, e => by
    obtain ⟨u, h1, h2⟩ := Reps.getV (i := i) (v := d) t (by simpa using e)
    exact ⟨u, by simpa using h1, h2⟩
theorem Reps.append : ∀ {vs ws : List V} {ds es : List D}, Reps K H vs ds → Reps K H ws es → Reps K H (vs ++ ws) (ds ++ es)
  | _, _, _, _, .nil, s => s
  | _, _, _, _, .cons r t, s => .cons r (Reps.append t s)
theorem Reps.take : ∀ {vs : List V} {ds : List D} (n : Nat), Reps K H vs ds → Reps K H (vs.take n) (ds.take n)
  | _, _, 0, _ => .nil
  | _, _, _ + 1, .nil => .nil
  | _, _, n + 1, .cons r t => .cons r (Reps.take n t)
theorem Reps.drop : ∀ {vs : List V} {ds : List D} (n : Nat), Reps K H vs ds → Reps K H (vs.drop n) (ds.drop n)
  | _, _, 0, r => r
  | _, _, _ + 1, .nil => .nil
  | _, _, n + 1, .cons _ t => Reps.drop n t
theorem Reps.reverse : ∀ {vs : List V} {ds : List D}, Reps K H vs ds → Reps K H vs.reverse ds.reverse
  | _, _, .nil => .nil
  | _, _, .cons r t => by
    rw [List.reverse_cons, List.reverse_cons]
    exact (Reps.reverse t).append (.cons r .nil)
theorem Reps.set {v : V} {d : D} (r : Rep K H v d) : ∀ {vs : List V} {ds : List D} (i : Nat), Reps K H vs ds → Reps K H (vs.set i v) (ds.set i d)
  | _, _, _, .nil => .nil
  | _, _, 0, .cons _ t => .cons r t
  | _, _, i + 1, .cons q t => .cons q (Reps.set r i t)
theorem Reps.dropLast : ∀ {vs : List V} {ds : List D}, Reps K H vs ds → Reps K H vs.dropLast ds.dropLast
  | _, _, .nil => .nil
  | _, _, .cons _ .nil => .nil
  | _, _, .cons r (.cons q t) => .cons r (Reps.dropLast (.cons q t))
end

/-! ## constants of the context -/
structure Cn where
  P : Program
  w : World
  K : PySem.W.Frag
  CA : String → Addr
abbrev cn (X : Cx) (CA : String → Addr) : Cn := ⟨X.prog, X.w, X.K, CA⟩

/-! ## what stands at an address -/
mutual
/-- a key of nested tuples -/
def nkD : D → NestedKey
  | .non => .none
  | .int i => .num i
  | .str x => .text x
  | .tup xs => .tup (nkDs xs)
  | _ => .none
def nkDs : List D → List NestedKey
  | [] => []
  | x :: xs => nkD x :: nkDs xs
end
abbrev Ent := NestedKey × Addr × V
def NDict (c : Cn) (a : Addr) (es : List Ent) : HO := .ext fun h => es.length ≤ sizeLine ∧ (a == sysModules) = false ∧
  ∃ xs : List (NestedKey × Addr × Value), Paired (fun (p : Ent) (q : NestedKey × Addr × Value) => p.1 = q.1 ∧ p.2.1 = q.2.1 ∧ RelV p.2.2 q.2.2) es xs ∧
    (∃ o es ep, h.get? a = some o ∧ o.ExactDict ∧ o.data = .dict es ep ∧ es.toList = xs.map (entryOfKey (nestedKind c.P c.w))) ∧ (xs.map (·.1)).Nodup
abbrev PKV (K : PySem.W.Frag) (H : Hp) : List (L2.Key × V) → List (Key × D) → Prop := Paired fun p q => p.1 = q.1 ∧ Rep K H p.2 q.2
abbrev PFs (K : PySem.W.Frag) (H : Hp) : List (Str × V) → List (Str × D) → Prop := Paired fun p q => p.1 = q.1 ∧ Rep K H p.2 q.2
def RepO (c : Cn) (H : Hp) (a : Addr) : O → Prop
  | .lst xs => ∃ vs, H a = some (.lst vs) ∧ Reps c.K H vs xs
  | .dk kvs => ∃ vs : List (L2.Key × V), H a = some (.dK vs) ∧ PKV c.K H vs kvs
  | .dn kvs => ∃ es : List Ent, H a = some (NDict c a es) ∧ Paired (fun (p : Ent) (q : D × D) => p.1 = nkD q.1 ∧ nkOk q.1 = true ∧ Rep c.K H (.ref p.2.1) q.1 ∧ Rep c.K H p.2.2 q.2) es kvs
  | .ins C fs => ∃ (dx : Addr) (vs : List (Str × V)), H a = some (.ins (c.CA C) dx vs) ∧ PFs c.K H vs fs
  | .dkF kvs => ∃ (od : Obj) (vs : List (L2.Key × V)), H a = some (.frz od (.dK vs)) ∧ PKV c.K H vs kvs
  | .dnF kvs => ∃ (od : Obj) (es : List Ent), H a = some (.frz od (NDict c a es)) ∧ Paired (fun (p : Ent) (q : D × D) => p.1 = nkD q.1 ∧ nkOk q.1 = true ∧ Rep c.K H (.ref p.2.1) q.1 ∧ Rep c.K H p.2.2 q.2) es kvs
def R (c : Cn) (M : Sto) (H : Hp) : Prop := ∀ a o, M a = some o → RepO c H a o
section
variable {c : Cn} {M : Sto} {H H' : Hp} {a p : Addr} {o : O} {ho : HO}
theorem paired_mono {α β : Type} {F G : α → β → Prop} {l : List α} {r : List β} (h : Paired F l r) (f : ∀ a b, F a b → G a b) : Paired G l r := Paired.mapP h f
theorem PFs.m0 {K : PySem.W.Frag} {H H' : Hp} {vs : List (Str × V)} {fs : List (Str × D)} (h : PFs K H vs fs) (t : TF K H H') : PFs K H' vs fs := paired_mono h fun _ _ z => ⟨z.1, z.2.m0 t⟩
theorem PFs.m {K : PySem.W.Frag} {H H' : Hp} {vs : List (Str × V)} {fs : List (Str × D)} (h : PFs K H vs fs) (t : Tups K H H') : PFs K H' vs fs := h.m0 t.toTF
theorem RepO.mono0 (h : RepO c H a o) (t : TF c.K H H') (e : H' a = H a) : RepO c H' a o := by
  cases o with
  | lst xs => obtain ⟨vs, h1, h2⟩ := h; exact ⟨vs, by rw [e]; exact h1, h2.m0 t⟩
  | dk kvs => obtain ⟨vs, h1, h2⟩ := h; exact ⟨vs, by rw [e]; exact h1, paired_mono h2 fun p q z => ⟨z.1, z.2.m0 t⟩⟩
  | dn kvs => obtain ⟨vs, h1, h2⟩ := h; exact ⟨vs, by rw [e]; exact h1, paired_mono h2 fun p q z => ⟨z.1, z.2.1, z.2.2.1.m0 t, z.2.2.2.m0 t⟩⟩
  | ins C fs => obtain ⟨dx, vs, h1, h2⟩ := h; exact ⟨dx, vs, by rw [e]; exact h1, h2.m0 t⟩
  | dkF kvs => obtain ⟨od, vs, h1, h2⟩ := h; exact ⟨od, vs, by rw [e]; exact h1, paired_mono h2 fun p q z => ⟨z.1, z.2.m0 t⟩⟩
  | dnF kvs => obtain ⟨od, vs, h1, h2⟩ := h; exact ⟨od, vs, by rw [e]; exact h1, paired_mono h2 fun p q z => ⟨z.1, z.2.1, z.2.2.1.m0 t, z.2.2.2.m0 t⟩⟩
theorem RepO.mono (h : RepO c H a o) (t : Tups c.K H H') (e : H' a = H a) : RepO c H' a o := h.mono0 t.toTF e
/-- a dict that is read -/
theorem RepO.dk_rd {kvs : List (Key × D)} (h : RepO c H a o) (e : o.un = .dk kvs) : ∃ vs : List (L2.Key × V), Rd H a (.dK vs) ∧ PKV c.K H vs kvs := by
  cases o <;> cases e
  · obtain ⟨vs, h1, h2⟩ := h; exact ⟨vs, .inl h1, h2⟩
  · obtain ⟨od, vs, h1, h2⟩ := h; exact ⟨vs, .inr ⟨od, h1⟩, h2⟩
theorem RepO.dn_rd {kvs : List (D × D)} (h : RepO c H a o) (e : o.un = .dn kvs) : ∃ es : List Ent, Rd H a (NDict c a es) ∧ Paired (fun (p : Ent) (q : D × D) => p.1 = nkD q.1 ∧ nkOk q.1 = true ∧ Rep c.K H (.ref p.2.1) q.1 ∧ Rep c.K H p.2.2 q.2) es kvs := by
  cases o <;> cases e
  · obtain ⟨vs, h1, h2⟩ := h; exact ⟨vs, .inl h1, h2⟩
  · obtain ⟨od, vs, h1, h2⟩ := h; exact ⟨vs, .inr ⟨od, h1⟩, h2⟩
theorem ne_frz {u : HO} (h : match u with | .frz _ _ => False | _ => True) : ∀ o xs, u ≠ .frz o xs := by
  intro o xs z; subst z; exact h
theorem RepO.there (h : RepO c H a o) : ∃ u, H a = some u := by
  cases o with
  | lst xs => obtain ⟨vs, h1, h2⟩ := h; exact ⟨_, h1⟩
  | dk kvs => obtain ⟨vs, h1, h2⟩ := h; exact ⟨_, h1⟩
  | dn kvs => obtain ⟨vs, h1, h2⟩ := h; exact ⟨_, h1⟩
  | ins C fs => obtain ⟨dx, vs, h1, h2⟩ := h; exact ⟨_, h1⟩
  | dkF kvs => obtain ⟨od, vs, h1, h2⟩ := h; exact ⟨_, h1⟩
  | dnF kvs => obtain ⟨od, vs, h1, h2⟩ := h; exact ⟨_, h1⟩
theorem tups_at {K : PySem.W.Frag} (n : ∀ o xs, H p ≠ some (.frz o xs)) : Tups K H (upd H p ho) := by
  refine ⟨⟨fun a vs h => ?_, fun a vs h => ?_⟩, fun a o u h => ?_⟩
  · rcases h with ⟨u, h⟩ | h
    · exact .inl ⟨u, by rw [upd_ne (fun z => n _ _ (by rw [← z]; exact h))]; exact h⟩
    · exact .inr h
  · rcases h with ⟨u, h⟩ | h
    · exact .inl ⟨u, by rw [upd_ne (fun z => n u _ (by rw [← z]; exact h))]; exact h⟩
    · exact .inr h
  · rw [upd_ne (fun z => n _ _ (by rw [← z]; exact h))]; exact h
/-- what was locked, and is no tuple or list, is set free -/
theorem tf_un {K : PySem.W.Frag} {od : Obj} {u : HO} (e : H p = some (.frz od u)) (n : match u with | .tup _ => False | .lst _ => False | _ => True) : TF K H (upd H p ho) := by
  refine ⟨fun a vs h => ?_, fun a vs h => ?_⟩
  · rcases h with ⟨w, h⟩ | h
    · refine .inl ⟨w, ?_⟩
      rw [upd_ne (fun z => ?_)]; exact h
      subst z; rw [e] at h; cases h; exact n
    · exact .inr h
  · rcases h with ⟨w, h⟩ | h
    · refine .inl ⟨w, ?_⟩
      rw [upd_ne (fun z => ?_)]; exact h
      subst z; rw [e] at h; cases h; exact n
    · exact .inr h
theorem Tups.new {K : PySem.W.Frag} (hp : H p = none) : Tups K H (upd H p ho) := tups_at fun _ _ => by rw [hp]; exact nofun
/-- what may be written is no tuple -/
theorem Tups.wr {K : PySem.W.Frag} {u : HO} (hp : H p = some u) (nf : ∀ o xs, u ≠ .frz o xs) : Tups K H (upd H p ho) := tups_at
  fun o xs => by rw [hp]; exact fun z => nf o xs (Option.some.inj z)
theorem R.fresh (r : R c M H) (h : H p = none) : M p = none := by
  cases e : M p with
  | none => rfl
  | some o =>
    obtain ⟨u, q⟩ := (r p o e).there
    rw [h] at q; cases q
/-- one address is written (or new), all else stands -/
theorem R.at (r : R c M H) (t : Tups c.K H (upd H a ho)) (n : RepO c (upd H a ho) a o) : R c (M.set a o) (upd H a ho) := fun b u e => by
  by_cases hb : b = a
  · subst hb; rw [set_same] at e; cases e; exact n
  · rw [set_ne hb] at e; exact (r b u e).mono t (upd_ne hb)
theorem R.keep (r : R c M H) (h : H p = none) : R c M (upd H p ho) := fun b u e => by
  refine (r b u e).mono (Tups.new h) (upd_ne ?_)
  rintro rfl
  rw [r.fresh h] at e; cases e
end

/-! ## names -/
inductive RelEnv (K : PySem.W.Frag) (H : Hp) : L2.St → Ev → Prop
  | nil : RelEnv K H [] []
  | cons {ov : Option V} {od : Option D} {σ : L2.St} {env : Ev} : (∀ d, od = some d → ∃ v, ov = some v ∧ Rep K H v d) → RelEnv K H σ env → RelEnv K H (ov :: σ) (od :: env)
section
variable {K : PySem.W.Frag} {H H' : Hp}
theorem RelEnv.mono0 (t : TF K H H') : ∀ {σ : L2.St} {env : Ev}, RelEnv K H σ env → RelEnv K H' σ env
  | _, _, .nil => .nil
  | _, _, .cons h r => .cons (fun d e => let ⟨v, a, b⟩ := h d e; ⟨v, a, b.m0 t⟩) (RelEnv.mono0 t r)
theorem RelEnv.mono (t : Tups K H H') {σ : L2.St} {env : Ev} (h : RelEnv K H σ env) : RelEnv K H' σ env := h.mono0 t.toTF
theorem RelEnv.get : ∀ {σ : L2.St} {env : Ev} {i : Nat} {d : D}, RelEnv K H σ env → gt env i = some d → ∃ v, σ[i]? = some (some v) ∧ Rep K H v d
  | _, _, _, _, .nil, e => by simp [gt] at e
  | _, _, 0, d, .cons h _, e => by
    obtain ⟨v, a, b⟩ := h d e
    exact ⟨v, by simp [a], b⟩
  | _, _, i + 1, d, .cons _ r, e => by
    obtain ⟨v, a, b⟩ := RelEnv.get (i := i) r e
    exact ⟨v, by simpa using a, b⟩
theorem RelEnv.put {v : V} {d : D} (q : Rep K H v d) : ∀ {σ : L2.St} {env : Ev} (i : Nat), RelEnv K H σ env → RelEnv K H (σ.set i (some v)) (put env i d)
  | _, _, _, .nil => .nil
  | _, _, 0, .cons _ r => .cons (fun d' e => ⟨v, rfl, by cases e; exact q⟩) r
  | _, _, i + 1, .cons h r => .cons h (RelEnv.put q i r)
theorem RelEnv.clear : ∀ {σ : L2.St} {env : Ev} (i : Nat), RelEnv K H σ env → RelEnv K H (σ.set i none) (env.set i none)
  | _, _, _, .nil => .nil
  | _, _, 0, .cons _ r => .cons (nofun) r
  | _, _, i + 1, .cons h r => .cons h (RelEnv.clear i r)
theorem RelEnv.nones : ∀ (n : Nat), RelEnv K H (List.replicate n none) (List.replicate n none)
  | 0 => .nil
  | n + 1 => .cons nofun (RelEnv.nones n)
theorem RelEnv.app : ∀ {vs : List V} {ds : List D} {σ : L2.St} {env : Ev}, Reps K H vs ds → RelEnv K H σ env → RelEnv K H (vs.map some ++ σ) (ds.map some ++ env)
  | _, _, _, _, .nil, r => r
  | _, _, _, _, .cons q s, r => .cons (fun d e => ⟨_, rfl, by cases e; exact q⟩) (RelEnv.app s r)
theorem RelEnv.start {N : List Str} {vs : List V} {ds : List D} (r : Reps K H vs ds) : RelEnv K H (L2.start N vs) (start N.length ds) := by
  unfold L2.start DL.start
  rw [← r.length]
  exact RelEnv.app r (RelEnv.nones _)
end
end DL

set_option Elab.async false
set_option linter.all false
set_option maxRecDepth 100000
set_option maxHeartbeats 4000000
/-! DT: tuples, known to the object: made by a display, +, a slice, tuple(..), [::-1] -/
namespace DL
open PySem PySem.Spec PyProof.Rows L2
section
variable {X : Cx} {e : Expr} {es : List Expr} {te : TE} {t : TA} {pos : Pos} {pins : List (Addr × Obj)} {σ : L2.St} {H : Hp} {s : Shared}
theorem layT {xs : List V} {its : List Value} {h' : Heap} (I : Inv X pins σ H s) (k : ∀ b o, s.heap.get? b = some o → h'.get? b = some o) (r : Vals xs its) (z : xs.length ≤ sizeLine) {Q : VK} (hs : s.heap.objs.size ≤ h'.objs.size)
    (q : ∀ p its, H p = none → Q (.ref p) (upd H p (.frz (TupO its) (.tup xs)))) : EP X pins σ Q (.ref h'.objs.size) { s with heap := h'.push (TupO its) } := by
  have I1 : Inv X pins σ H { s with heap := h' } := I.kept (t' := s.toks) k
  refine ⟨.ref h'.objs.size, upd H h'.objs.size (.frz (TupO its) (.tup xs)), I1.laid (t' := s.toks) (fun b o e => Heap.get?_push_of_some _ e) (Nat.le_refl _) ?_, rfl, q _ _ (I1.hok.fresh (Nat.le_refl _))⟩
  exact ⟨Heap.get?_push_size _ rfl, z, its, r, _, Heap.get?_push_size _ rfl, rfl, _, rfl⟩
def tTupF (t : TA) : TE := fun σ H Q => t σ H fun xs H1 => xs.length ≤ sizeLine ∧ ∀ p its, H1 p = none → Q (.ref p) (upd H1 p (.frz (TupO its) (.tup xs)))
theorem pe_tupF {x1} (h : PA X es t) : PE X (.Tuple es x1 pos) (tTupF t) := by
  refine ⟨fun pins s σ H Q I hq => ?_⟩
  refine wpAny_Tuple_spliced (thn (h.run pos pins s σ H _ I hq) fun us s1 ⟨xs, H1, I1, r, z, q⟩ => ⟨by rw [← r.length]; exact z, ?_⟩)
  exact layT I1 (fun _ _ e => e) r z (Nat.le_refl _) q
def rCatF (K : PySem.W.Frag) : R2 := fun x y H Q => ∃ a b xs ys, x = .ref a ∧ y = .ref b ∧ SqT K H a xs ∧ SqT K H b ys ∧ xs.length + ys.length ≤ sizeLine ∧
  (xs = [] → Q (.ref b) H) ∧ (xs ≠ [] → ys = [] → Q (.ref a) H) ∧ (xs ≠ [] → ys ≠ [] → ∀ p its, H p = none → Q (.ref p) (upd H p (.frz (TupO its) (.tup (xs ++ ys)))))
theorem op_catF : OpR X (binaryOp .Add) (rCatF X.K) := by
  intro pins s σ H x y v u Q I rx ry h
  obtain ⟨a, b, xs, ys, rfl, rfl, ha, hb, hz, q0, q1, q2⟩ := h
  cases rx
  cases ry
  obtain ⟨its, r1, p1, _⟩ := I.tuple ha
  obtain ⟨its2, r2, p2, _⟩ := I.tuple hb
  by_cases hx : xs = []
  · subst hx
    cases r1
    exact cat_tup0 p1 p2 ⟨.ref b, H, I, rfl, q0 rfl⟩
  · refine HT.cat_tup p1 p2 (fun z => hx (r1.nil_iff.mp z)) (fun z => ⟨.ref a, H, I, rfl, q1 hx (r2.nil_iff.mp z)⟩) (fun z => ?_) (by rw [← r1.length, ← r2.length]; exact hz)
    exact layT I (fun _ _ e => e) (r1.append r2) (by rw [List.length_append]; exact hz) (Nat.le_refl _) (q2 hx fun w => z (r2.nil_iff.mpr w))
def rSlF (K : PySem.W.Frag) : V → Option Int → Option Int → Hp → VK → Prop := fun x lo hi H Q => ∃ a xs, x = .ref a ∧ SqT K H a xs ∧
  (HT.sIx xs.length 0 lo = 0 ∧ HT.sIx xs.length xs.length hi = xs.length → Q (.ref a) H) ∧ (¬ (HT.sIx xs.length 0 lo = 0 ∧ HT.sIx xs.length xs.length hi = xs.length) → ∀ p its, H p = none → Q (.ref p) (upd H p (.frz (TupO its) (.tup (cutV xs lo hi)))))
theorem sl_tupF : SlR X (rSlF X.K) := by
  intro pins s σ H x v vl vu lo hi sl Q I rx hs pl pu h
  obtain ⟨a, xs, rfl, hx, q1, q2⟩ := h
  cases rx
  obtain ⟨its, r, ht, hz⟩ := I.tuple hx
  have hlen : its.toArray.size = xs.length := by rw [List.size_toArray]; exact r.length.symm
  refine ⟨"tuple", _, PyProof.Rows.slot_tuple_getitem.lookup, ht.typeIs, ?_⟩
  by_cases hw : HT.sIx xs.length 0 lo = 0 ∧ HT.sIx xs.length xs.length hi = xs.length
  · exact getItem_tuple_whole ht hs pl pu (by rw [hlen]; exact hw) ⟨.ref a, H, I, rfl, q1 hw⟩
  · refine HT.getItem_tuple_cut ht hs pl pu (by rw [hlen]; exact hw) ?_ (by rw [hlen]; exact hz)
    rw [hlen]
    exact layT I (fun _ _ e => e) ((r.drop (HT.sIx xs.length 0 lo)).take (HT.sIx xs.length xs.length hi - HT.sIx xs.length 0 lo)) (Nat.le_trans (cutV_length xs lo hi) hz) (Nat.le_refl _) (q2 hw)
theorem call_tupleF : CallR X (.type "tuple") (fun xs H Q => ∃ p ys, xs = [.ref p] ∧ ((SqL X.K H p ys ∧ ∀ l its, H l = none → Q (.ref l) (upd H l (.frz (TupO its) (.tup ys)))) ∨ (SqT X.K H p ys ∧ Q (.ref p) H))) := by
  intro pins s σ H xs us Q I r h
  obtain ⟨p, ys, rfl, h⟩ := h
  obtain ⟨u, rfl, rx⟩ := vals1 r
  cases rx
  rcases h with ⟨hq, q⟩ | ⟨hq, q⟩
  · obtain ⟨its, r', pl, hz⟩ := I.list hq
    have hlen := r'.length
    refine call_tuple_list pl.isList (fun h' kp => ?_) (by simp only [List.size_toArray] <;> omega)
    have I1 : Inv X pins σ H { s with heap := h' } := I.kept (t' := s.toks) kp
    exact layT (s := { s with heap := h' }) I1 (fun _ _ e => e) r' hz (Nat.le_refl _) q
  · obtain ⟨its, r', pl, hz⟩ := I.tuple hq
    exact call_tuple_same pl ⟨.ref p, H, I, rfl, q⟩
end
section
variable {prog : Program} {w : World} {A : Around} {E : Value → Shared → Prop} {s : Shared}
theorem sliceApplied_rev {sl : Addr} {vl vu vs : Value} {n : Nat} {Q : Int × Int × Nat → Shared → Prop} (hs : s.heap.IsSliceOf sl vl vu vs) (pl : IsPart vl none) (pu : IsPart vu none) (ps : IsPart vs (some (-1)))
    (h : Q ((n : Int) - 1, -1, n) s) : wpAny (model prog w) A (Builtin.Slice.sliceApplied (.ref sl) (pure (n : Int))) Q E s := by
  obtain ⟨os, hos, hcs, hds⟩ := id hs
  unfold Builtin.Slice.sliceApplied Builtin.Slice.sliceFields
  refine wpAny_bind (wpAny_bind (wpAny_field hos hds (x := vl) rfl (wpAny_bind (wpAny_field hos hds (x := vu) rfl (wpAny_bind (wpAny_field hos hds (x := vs) rfl (wpAny_pure ?_)))))))
  refine wpAny_bind (HT.slicePart_ ps ?_)
  show wpAny _ _ (if ((-1 : Int) == 0) = true then _ else _) _ _ s
  rw [if_neg (by decide)]
  refine wpAny_bind (HT.slicePart_ pl (wpAny_bind (HT.slicePart_ pu (wpAny_bind (wpAny_pure ?_)))))
  show wpAny _ _ (match Builtin.Slice.sliceAdjust none none (-1) (n : Int) with | (lo, hi) => pure (lo, (-1 : Int), Builtin.Slice.slicePlaces lo hi (-1))) _ _ s
  have e : Builtin.Slice.sliceAdjust none none (-1) (n : Int) = ((n : Int) - 1, -1) := by
    unfold Builtin.Slice.sliceAdjust
    rfl
  rw [e]
  show wpAny _ _ (pure ((n : Int) - 1, (-1 : Int), Builtin.Slice.slicePlaces ((n : Int) - 1) (-1) (-1))) _ _ s
  have e2 : Builtin.Slice.slicePlaces ((n : Int) - 1) (-1) (-1) = n := by
    unfold Builtin.Slice.slicePlaces
    have h1 : ¬ ((-1 : Int) > 0) := by decide
    simp only [h1, if_false]
    split
    · rw [show (- -1 : Int) = 1 by decide, Int.ediv_one]; omega
    · omega
  rw [e2]
  exact wpAny_pure h
theorem pick_rev (xs : Array Value) : ((List.range xs.size).filterMap fun (k : Nat) => xs[((xs.size : Int) - 1 + (k : Int) * (-1)).toNat]?).toArray = xs.toList.reverse.toArray := by
  have e : (List.range xs.size).filterMap (fun (k : Nat) => xs[((xs.size : Int) - 1 + (k : Int) * (-1)).toNat]?) = ((List.range xs.size).map fun k => xs.size - 1 - k).filterMap (xs[·]?) := by
    rw [List.filterMap_map]
    have key : ∀ (l : List Nat), (∀ k ∈ l, k < xs.size) → l.filterMap (fun (k : Nat) => xs[((xs.size : Int) - 1 + (k : Int) * (-1)).toNat]?) = l.filterMap ((fun x => xs[x]?) ∘ fun k => xs.size - 1 - k) := by
      intro l
      induction l with
      | nil => intro _; rfl
      | cons k r ih =>
        intro hl
        have h1 := hl k List.mem_cons_self
        have h2 : ((xs.size : Int) - 1 + (k : Int) * (-1)).toNat = xs.size - 1 - k := by omega
        rw [List.filterMap_cons, List.filterMap_cons, ih fun j hj => hl j (List.mem_cons_of_mem _ hj), h2]
        rfl
    exact key _ fun k hk => List.mem_range.mp hk
  rw [e, PySem.W.krv_range, List.filterMap_reverse, PySem.W.krv_all]
theorem getItem_tuple_rev {t sl : Addr} {items : Array Value} {vl vu vs : Value} {Q : Value → Shared → Prop} (ht : IsTup s.heap t items) (hs : s.heap.IsSliceOf sl vl vu vs) (pl : IsPart vl none) (pu : IsPart vu none) (ps : IsPart vs (some (-1)))
    (h : Q (.ref s.heap.objs.size) { s with heap := s.heap.push { cls := .type "tuple", data := .seq items.toList.reverse.toArray } })
    (hsz : items.size ≤ sizeLine) : wpAny (model prog w) A (getItem (.ref t) (.ref sl)) Q E s := by
  have htake : sizeOk (.seq items.toList.reverse.toArray) := by
    show items.toList.reverse.toArray.size ≤ sizeLine
    rw [List.size_toArray, List.length_reverse, Array.length_toList]
    exact hsz
  obtain ⟨os, hos, hcs, hds⟩ := id hs
  have hTs : s.TypeIs (.ref sl) "slice" := ⟨os, hos, hcs⟩
  unfold getItem
  try with_reducible refine wpAny_holding ?_
  first | refine wpAny_bind (wpAny_pure ?_) | skip
  refine wpAny_bind (wpAny_sequenceKey ht.typeIs (by decide) ?_)
  refine wpAny_bind (wpAny_callSpecial?_slot (name := Str.ofString "__getitem__") ht.typeIs PyProof.Rows.slot_tuple_getitem
    (wpAny_call_entry PyProof.Rows.slot_tuple_getitem ht.typeIs entry_tuple_getitem ?_ (args_tuple_getitem _ _)))
  show wpAny _ _ (Builtin.Tuple.tupleItemsOf (.ref t) >>= _) _ _ s
  refine wpAny_bind (tupleItemsOf_ ht ?_)
  refine wpAny_bind (wpAny_typeOf hTs ?_)
  rw [if_pos (by decide)]
  refine wpAny_bind (sliceApplied_rev hs pl pu ps ?_)
  have hno : ¬ ((((items.size : Int) - 1) == 0 && (-1 : Int) == 1 && items.size == items.size) = true) := by
    intro q
    rw [Bool.and_eq_true, Bool.and_eq_true] at q
    exact absurd q.1.2 (by decide)
  show wpAny _ _ (if (((items.size : Int) - 1) == 0 && (-1 : Int) == 1 && items.size == items.size) = true then _ else _) _ _ s
  rw [if_neg hno, pick_rev]
  first
    | exact wpAny_bind (m := Builtin.Tuple.tupleExact _) (wpAny_newObj_type (wpAny_pure ⟨_, rfl, wpAny_pure h⟩) htake)
    | exact wpAny_bind (m := Builtin.Tuple.tupleExact _) (wpAny_newObj_type (wpAny_bind (wpAny_pure (wpAny_pure ⟨_, rfl, wpAny_pure h⟩))) htake)
end
section
variable {X : Cx} {e : Expr} {te : TE} {pos : Pos}
/-- x[::-1] of a tuple or a list -/
def tRevF (K : PySem.W.Frag) (te : TE) : TE := fun σ H Q => te σ H fun x H1 => ∃ a xs, x = .ref a ∧ ((SqT K H1 a xs ∧ ∀ p its, H1 p = none → Q (.ref p) (upd H1 p (.frz (TupO its) (.tup xs.reverse)))) ∨ (SqL K H1 a xs ∧ ∀ p, H1 p = none → Q (.ref p) (upd H1 p (.lst xs.reverse))))
theorem pe_revF {k : Nat} {p1 p2 p3 : Pos} (he : PE X e te) : PE X (.Subscript e (.Slice none none (some (.UnaryOp .USub (.Constant (.int 1) k p1) p2)) p3) pos) (tRevF X.K te) := by
  refine ⟨fun pins s σ H Q I h => ?_⟩
  refine Subscript_ (thn (he.run pins s σ H _ I h) fun v s1 ⟨x, H1, I1, r1, q1⟩ => ?_)
  obtain ⟨a, xs, ex, q1⟩ := q1
  subst ex
  cases r1
  have hst : PO X (some (.UnaryOp .USub (.Constant (.int 1) k p1) p2)) (tPart (tUn (rU fun i => .int (-i)) (tC (.int 1)))) := po_some (pe_un un_neg pe_int)
  refine wpAny_Slice (thn (po_none.run pins s1 σ H1 (fun o H2 => o = none ∧ H2 = H1) I1 ⟨rfl, rfl⟩) fun vl s2 ⟨l, H2, I2, pl, el, e2⟩ => ?_)
  subst el e2
  refine thn (po_none.run pins s2 σ H2 (fun o H3 => o = none ∧ H3 = H2) I2 ⟨rfl, rfl⟩) fun vu s3 ⟨u, H3, I3, pu, eu, e3⟩ => ?_
  subst eu e3
  refine thn (hst.run pins s3 σ H3 (fun o H4 => o = some (-1) ∧ H4 = H3) I3 ⟨1, rfl, -1, rfl, rfl, rfl⟩) fun vs s4 ⟨o, H4, I4, ps, eo, e4⟩ => ?_
  subst eo e4
  have I5 : Inv X pins σ H4 { s4 with heap := s4.heap.push { cls := .type "slice", data := .fields #[vl, vu, vs] } } := I4.kept (t' := s4.toks) fun b ob q => Heap.get?_push_of_some _ q
  show wpAny (model X.prog X.w) X.A (subscriptTail e (.Slice none none (some (.UnaryOp .USub (.Constant (.int 1) k p1) p2)) p3) (.ref a) (.ref s4.heap.objs.size)) (EP X pins σ Q) X.xe { s4 with heap := s4.heap.push { cls := .type "slice", data := .fields #[vl, vu, vs] } }
  rcases q1 with ⟨hx, q⟩ | ⟨hx, q⟩
  · obtain ⟨its, r, ht, hz⟩ := I5.tuple hx
    have hlen := r.length
    refine tail_any (ops := [.ref a, .ref s4.heap.objs.size]) ht.typeIs (PyProof.Rows.slot_tuple_getitem.lookup) ?_ (by with_unfolding_all rfl)
    refine getItem_tuple_rev ht (Heap.IsSliceOf.new _ vl vu vs) pl pu ps ?_ (by rw [List.size_toArray]; omega)
    exact layT I5 (fun _ _ e => e) r.reverse (by rw [List.length_reverse]; exact hz) (Nat.le_refl _) q
  · obtain ⟨its, r, ht, hz⟩ := I5.list hx
    have hlen := r.length
    refine tail_any (ops := [.ref a, .ref s4.heap.objs.size]) ht.isList.typeIs (PySem.slot_list_getitem.lookup) ?_ (by with_unfolding_all rfl)
    refine wpAny_getItem_list_slice ht.isList (Heap.IsSliceOf.new _ vl vu vs) pl pu ps (by decide) ?_ (by rw [List.size_toArray]; omega)
    rw [PySem.W.krv_pick]
    refine ⟨.ref _, _, I5.laid (t' := s4.toks) (o := .lst xs.reverse) (fun b ob q => Heap.get?_push_of_some _ q) (Nat.le_refl _) ?_, rfl, q _ (I5.hok.fresh (Nat.le_refl _))⟩
    exact ⟨by rw [List.length_reverse]; exact hz, _, 0, r.reverse, Heap.get?_push_size _ rfl⟩
end
end DL

set_option Elab.async false
set_option linter.all false
set_option maxRecDepth 100000
set_option maxHeartbeats 4000000
/-! DE: judgements; expressions -/
namespace DL
open PySem PySem.Spec PyProof.Rows L2
/-! ## the judgements -/
def KQ (c : Cn) (H : Hp) (Qd : KD) (Q : VK) : Prop := ∀ d M' v H', Qd d M' → Rep c.K H' v d → R c M' H' → Tups c.K H H' → Q v H'
def RepX (c : Cn) (H : Hp) (oa : Option Addr) (fs : List (Str × D)) : Prop := (oa = none ∧ fs = []) ∨ ∃ d vs, oa = some d ∧ H d = some (.xd vs) ∧ PFs c.K H vs fs
def KX (c : Cn) (H : Hp) (Ed : XW) (XE : XK) : Prop := ∀ C fs M' oa H', Ed C fs M' → RepX c H' oa fs → R c M' H' → Tups c.K H H' → XE (.ref (c.CA C)) oa H'
theorem KX.mono {c : Cn} {H H' : Hp} {Ed : XW} {XE : XK} (k : KX c H Ed XE) (t : Tups c.K H H') : KX c H' Ed XE := fun C fs M' oa H2 e x r t2 => k C fs M' oa H2 e x r (t.trans t2)
theorem KX.no {c : Cn} {H : Hp} {XE : XK} : KX c H X0 XE := fun _ _ _ _ _ e => e.elim
structure Pre (c : Cn) (XE : XK) (σ : L2.St) (H : Hp) (env : Ev) (M : Sto) (Ed : XW) : Prop where
  e : RelEnv c.K H σ env
  r : R c M H
  x : KX c H Ed XE
theorem Pre.to {c : Cn} {XE : XK} {σ : L2.St} {H H' : Hp} {env : Ev} {M M' : Sto} {Ed : XW} (p : Pre c XE σ H env M Ed) (t : Tups c.K H H') (r : R c M' H') : Pre c XE σ H' env M' Ed := ⟨p.e.mono t, r, p.x.mono t⟩
def tOf (c : Cn) (XE : XK) (f : WE) : TE := fun σ H Q => ∃ env M Ed Qd, Pre c XE σ H env M Ed ∧ f Ed env M Qd ∧ KQ c H Qd Q
def SE (X : Cx) (CA : String → Addr) (XE : XK) (e : Expr) (f : WE) : Prop := PE X e (tOf (cn X CA) XE f)
def tOfT (c : Cn) (XE : XK) (f : WT) : TT := fun σ H Q => ∃ env M Ed Qd, Pre c XE σ H env M Ed ∧ f Ed env M Qd ∧ ∀ b M' H', Qd b M' → R c M' H' → Tups c.K H H' → Q b H'
def ST (X : Cx) (CA : String → Addr) (XE : XK) (e : Expr) (f : WT) : Prop := PT X e (tOfT (cn X CA) XE f)
def SW (X : Cx) (CA : String → Addr) (XE : XK) (e : Expr) (f : WT) : Prop := PW X e (tOfT (cn X CA) XE f)
def tOfA (c : Cn) (XE : XK) (fs : List WE) : TA := fun σ H Q => ∃ env M Ed Qd, Pre c XE σ H env M Ed ∧ argsW fs Ed env M Qd ∧ ∀ ds M' vs H', Qd ds M' → Reps c.K H' vs ds → R c M' H' → Tups c.K H H' → vs.length = fs.length → Q vs H'
section
variable {X : Cx} {e : Expr} {es : List Expr}
theorem PE_weak {t t' : TE} (h : PE X e t) (w : ∀ σ H Q, t' σ H Q → t σ H Q) : PE X e t' := ⟨fun pins s σ H Q I q => h.run pins s σ H Q I (w σ H Q q)⟩
theorem PT_weak {t t' : TT} (h : PT X e t) (w : ∀ σ H Q, t' σ H Q → t σ H Q) : PT X e t' := ⟨fun pins s σ H Q I q => h.run pins s σ H Q I (w σ H Q q)⟩
theorem PW_weak {t t' : TT} (h : PW X e t) (w : ∀ σ H Q, t' σ H Q → t σ H Q) : PW X e t' := ⟨fun wh pins s σ H Q I q => h.run wh pins s σ H Q I (w σ H Q q)⟩
theorem PA_weak {t t' : TA} (h : PA X es t) (w : ∀ σ H Q, t' σ H Q → t σ H Q) : PA X es t' := ⟨fun pos pins s σ H Q I q => h.run pos pins s σ H Q I (w σ H Q q)⟩
end
section
variable {X : Cx} {CA : String → Addr} {XE : XK} {a b e : Expr} {es : List Expr} {f g h : WE} {fs : List WE} {pos : Pos}
/-! ## names and constants -/
theorem d_var (i : Nat) {x : Str} (hN : X.N[i]? = some x := by rfl) (hv : Vis X.env.scope x := by first | exact Or.inl rfl | exact Or.inr (Or.inl rfl) | exact Or.inr (Or.inr rfl)) (hd : (x == ("__debug__" : Str)) = false := by decide)
    (hcd : (x == ("__classdict__" : Str)) = false := by decide) : SE X CA XE (.Name x pos) (eVar i) :=
  PE_weak (pe_var hN hv hd hcd) fun σ H Q ⟨env, M, Ed, Qd, p, q, k⟩ => by
    unfold eVar at q
    split at q
    · rename_i d e
      obtain ⟨v, e1, r1⟩ := p.e.get e
      exact ⟨v, e1, k _ _ _ _ q r1 p.r .refl⟩
    · exact q.elim
theorem d_of {v : V} {d : D} (h : PE X e (tC v)) (r : ∀ H, Rep X.K H v d) : SE X CA XE e (eC d) :=
  PE_weak h fun σ H Q ⟨env, M, Ed, Qd, p, q, k⟩ => k _ _ _ _ q (r H) p.r .refl
theorem d_int {i j} : SE X CA XE (.Constant (.int i) j pos) (eC (.int i)) := d_of pe_int fun _ => .int i
theorem d_bl {b j} : SE X CA XE (.Constant (.bool b) j pos) (eC (.bl b)) := d_of pe_bl fun _ => .bl b
theorem d_non {j} : SE X CA XE (.Constant .none j pos) (eC .non) := d_of pe_non fun _ => .non
theorem d_str {x j} : SE X CA XE (.Constant (.str x) j pos) (eC (.str x)) := d_of pe_str fun _ => .str x
/-- a constant of the module -/
structure GRep (K : PySem.W.Frag) (mg : Str → Option Value) (x : Str) (d : D) : Prop where
  h : ∃ u v, mg x = some u ∧ RelV v u ∧ ∀ H, Rep K H v d
theorem d_glob {x : Str} {d : D} (G : GRep X.K X.mg x d) (hg : Gl X x := by rfl) (hd : (x == ("__debug__" : Str)) = false := by decide) : SE X CA XE (.Name x pos) (eC d) :=
  let ⟨_, _, hm, r, k⟩ := G.h
  d_of (pe_glob hg hm r hd) k
/-! ## argument lists, displays -/
inductive SAs (X : Cx) (CA : String → Addr) (XE : XK) : List Expr → List WE → Prop
  | nil : SAs X CA XE [] []
  | cons {e : Expr} {es : List Expr} {f : WE} {fs : List WE} (h : SE X CA XE e f) (r : SAs X CA XE es fs) (hs : starEach (e :: es) X.env = (false, eval e X.env) :: starEach es X.env) : SAs X CA XE (e :: es) (f :: fs)
theorem a_cons (h : SE X CA XE e f) (r : SAs X CA XE es fs) (hs : starEach (e :: es) X.env = (false, eval e X.env) :: starEach es X.env := by rfl) : SAs X CA XE (e :: es) (f :: fs) := .cons h r hs
theorem SAs.pa : ∀ {es : List Expr} {fs : List WE}, SAs X CA XE es fs → PA X es (tOfA (cn X CA) XE fs)
  | _, _, .nil => PA_weak pa_nil fun σ H Q ⟨env, M, Ed, Qd, p, q, k⟩ => k _ _ _ _ q .nil p.r .refl rfl
  | _, _, .cons h r hs => PA_weak (pa_cons h (SAs.pa r) hs) fun σ H Q ⟨env, M, Ed, Qd, p, q, k⟩ =>
    ⟨env, M, Ed, _, p, q, fun d1 M1 v1 H1 q1 r1 R1 T1 => ⟨env, M1, Ed, _, p.to T1 R1, q1, fun ds M2 vs H2 q2 r2 R2 T2 hl => k _ _ _ _ q2 (.cons (r1.m T2) r2) R2 (T1.trans T2) (by rw [List.length_cons, List.length_cons, hl])⟩⟩
theorem argsW_len : ∀ {fs : List WE} {E : XW} {env : Ev} {M : Sto} {Q : List D → Sto → Prop}, (∀ f ∈ fs, ∀ E env M Q Q', (∀ d M, Q d M → Q' d M) → f E env M Q → f E env M Q') → argsW fs E env M Q → argsW fs E env M fun ds M' => ds.length = fs.length ∧ Q ds M'
  | [], _, _, _, _, _, h => ⟨rfl, h⟩
  | f :: fs, E, env, M, Q, m, h => m f List.mem_cons_self _ _ _ _ _ (fun d M1 q => by
      have ih := argsW_len (fun f hf => m f (List.mem_cons_of_mem _ hf)) q
      simpa using ih) h
theorem lay_tup {c : Cn} {M : Sto} {H : Hp} {p : Addr} {xs : List V} {its : List Value} {ds : List D} (hp : H p = none) (r : Reps c.K H xs ds) (hR : R c M H) : Rep c.K (upd H p (.frz (TupO its) (.tup xs))) (.ref p) (.tup ds) ∧ R c M (upd H p (.frz (TupO its) (.tup xs))) ∧ Tups c.K H (upd H p (.frz (TupO its) (.tup xs))) :=
  ⟨.tup (.inl ⟨its, upd_same⟩) (r.m (Tups.new hp)), hR.keep hp, Tups.new hp⟩
theorem lay_lst {c : Cn} {M : Sto} {H : Hp} {p : Addr} {xs : List V} {ds : List D} (hp : H p = none) (r : Reps c.K H xs ds) (hR : R c M H) : R c (M.set p (.lst ds)) (upd H p (.lst xs)) ∧ Tups c.K H (upd H p (.lst xs)) :=
  ⟨hR.at (Tups.new hp) ⟨xs, upd_same, r.m (Tups.new hp)⟩, Tups.new hp⟩
theorem few {n : Nat} (h : n ≤ 1000) : n ≤ sizeLine := Nat.le_of_lt (small1000 h)
theorem d_tup {k : Nat} (h : SAs X CA XE es fs) (hl : fs.length ≤ 1000 := by exact Nat.le_of_ble_eq_true rfl) : SE X CA XE (.Tuple es k pos) (eTup fs) :=
  PE_weak (pe_tupF h.pa) fun σ H Q ⟨env, M, Ed, Qd, p, q, k⟩ => ⟨env, M, Ed, _, p, q, fun ds M1 vs H1 q1 r1 R1 T1 hn => ⟨by rw [hn]; exact few hl, fun a its ha => by
    obtain ⟨x, y, z⟩ := lay_tup ha r1 R1
    exact k _ _ _ _ q1 x y (T1.trans z)⟩⟩
theorem d_lst (h : SAs X CA XE es fs) (hl : fs.length ≤ 1000 := by exact Nat.le_of_ble_eq_true rfl) : SE X CA XE (.List es pos) (eLst fs) :=
  PE_weak (pe_lst h.pa) fun σ H Q ⟨env, M, Ed, Qd, p, q, k⟩ => ⟨env, M, Ed, _, p, q, fun ds M1 vs H1 q1 r1 R1 T1 hn => ⟨by rw [hn]; exact few hl, fun a ha => by
    obtain ⟨x, y⟩ := lay_lst ha r1 R1
    exact k _ _ _ _ (q1 a (R1.fresh ha)) (.ref a) x (T1.trans y)⟩⟩
/-! ## operators -/
def OpS (c : Cn) (op : B2) (r : R2) : Prop := ∀ v1 v2 d1 d2 M H Qd Q, Rep c.K H v1 d1 → Rep c.K H v2 d2 → R c M H → op d1 d2 M Qd → KQ c H Qd Q → r v1 v2 H Q
theorem KQ.mono {c : Cn} {H H' : Hp} {Qd : KD} {Q : VK} (k : KQ c H Qd Q) (t : Tups c.K H H') : KQ c H' Qd Q := fun d M v H2 q r R T => k d M v H2 q r R (t.trans T)
theorem d_bin {op : Operator} {r : R2} {b2 : B2} (ho : OpR X (binaryOp op) r) (hs : OpS (cn X CA) b2 r) (ha : SE X CA XE a f) (hb : SE X CA XE b g) : SE X CA XE (.BinOp a op b pos) (eBin b2 f g) :=
  PE_weak (pe_op ho ha hb) fun σ H Q ⟨env, M, Ed, Qd, p, q, k⟩ => ⟨env, M, Ed, _, p, q, fun d1 M1 v1 H1 q1 r1 R1 T1 => ⟨env, M1, Ed, _, p.to T1 R1, q1, fun d2 M2 v2 H2 q2 r2 R2 T2 => hs _ _ _ _ _ _ _ _ (r1.m T2) r2 R2 q2 (k.mono (T1.trans T2))⟩⟩
def rAddA (K : PySem.W.Frag) : R2 := fun x y H Q => rI0 (fun i j => .int (i + j)) x y H Q ∨ ((∃ i j, x = .str i ∧ y = .str j ∧ i.length + j.length ≤ sizeLine ∧ Q (.str (i ++ j)) H) ∨ (rCatF K x y H Q ∨ rCat x y H Q))
theorem op_addA : OpR X (binaryOp .Add) (rAddA X.K) := op_add.or (op_add_str.or (op_catF.or op_cat))
theorem addS {c : Cn} : OpS c opAdd (rAddA c.K) := by
  intro v1 v2 d1 d2 M H Qd Q r1 r2 hR h k
  unfold opAdd at h
  split at h
  · cases r1; cases r2
    exact .inl ⟨_, _, rfl, rfl, k _ _ _ _ h (.int _) hR .refl⟩
  · cases r1; cases r2
    exact .inr (.inl ⟨_, _, rfl, rfl, h.1, k _ _ _ _ h.2 (.str _) hR .refl⟩)
  · cases r1 with
    | @tup a1 vs1 _ s1 p1 =>
      cases r2 with
      | @tup a2 vs2 _ s2 p2 =>
        refine .inr (.inr (.inl ⟨_, _, _, _, rfl, rfl, s1.s, s2.s, by rw [p1.length, p2.length]; exact h.1, fun e => ?_, fun e1 e2 => ?_, fun e1 e2 p its hp => ?_⟩))
        · subst e
          cases p1
          exact k _ _ _ _ h.2 (.tup s2 p2) hR .refl
        · subst e2
          cases p2
          exact k _ _ _ _ h.2 (by rw [List.append_nil]; exact .tup s1 p1) hR .refl
        · obtain ⟨x, y, z⟩ := lay_tup hp (p1.append p2) hR
          exact k _ _ _ _ h.2 x y z
  · split at h
    · rename_i xs ys e1 e2
      cases r1; cases r2
      obtain ⟨vs, h1, p1⟩ := hR _ _ e1
      obtain ⟨ws, h2, p2⟩ := hR _ _ e2
      refine .inr (.inr (.inr ⟨_, _, _, _, rfl, rfl, h1, h2, by rw [p1.length, p2.length]; exact h.1, fun p hp => ?_⟩))
      obtain ⟨x, y⟩ := lay_lst hp (p1.append p2) hR
      exact k _ _ _ _ (h.2 p (hR.fresh hp)) (.ref p) x y
    · exact h.elim
  · exact h.elim
theorem d_add (ha : SE X CA XE a f) (hb : SE X CA XE b g) : SE X CA XE (.BinOp a .Add b pos) (eBin opAdd f g) := d_bin op_addA addS ha hb
theorem subS {c : Cn} : OpS c opSub (rI0 fun i j => .int (i - j)) := by
  intro v1 v2 d1 d2 M H Qd Q r1 r2 hR h k
  unfold opSub at h
  split at h
  · cases r1; cases r2
    exact ⟨_, _, rfl, rfl, k _ _ _ _ h (.int _) hR .refl⟩
  · exact h.elim
theorem d_sub (ha : SE X CA XE a f) (hb : SE X CA XE b g) : SE X CA XE (.BinOp a .Sub b pos) (eBin opSub f g) := d_bin op_sub subS ha hb
theorem op_mulX : OpR X (binaryOp .Mult) (rI IntMulOk fun i j => .int (i * j)) := opI fun _ _ _ _ _ _ _ hc q => mul_int q hc
theorem mulS {c : Cn} : OpS c opMul (rI IntMulOk fun i j => .int (i * j)) := by
  intro v1 v2 d1 d2 M H Qd Q r1 r2 hR h k
  unfold opMul at h
  split at h
  · cases r1; cases r2
    exact ⟨_, _, rfl, rfl, h.1, k _ _ _ _ h.2 (.int _) hR .refl⟩
  · exact h.elim
theorem d_mul (ha : SE X CA XE a f) (hb : SE X CA XE b g) : SE X CA XE (.BinOp a .Mult b pos) (eBin opMul f g) := d_bin op_mulX mulS ha hb
def CDivX (i j : Int) : Prop := j ≠ 0 ∧ Builtin.divisionGoesByPylong i j = false
theorem op_divX : OpR X (binaryOp .FloorDiv) (rI CDivX fun i j => .int (i.fdiv j)) := opI fun _ _ _ _ _ _ _ hc q => floordiv_int hc.1 q (.inl hc.2)
theorem divS {c : Cn} : OpS c opDiv (rI CDivX fun i j => .int (i.fdiv j)) := by
  intro v1 v2 d1 d2 M H Qd Q r1 r2 hR h k
  unfold opDiv at h
  split at h
  · cases r1; cases r2
    exact ⟨_, _, rfl, rfl, ⟨h.1, h.2.1⟩, k _ _ _ _ h.2.2 (.int _) hR .refl⟩
  · exact h.elim
theorem d_div (ha : SE X CA XE a f) (hb : SE X CA XE b g) : SE X CA XE (.BinOp a .FloorDiv b pos) (eBin opDiv f g) := d_bin op_divX divS ha hb
theorem modS {c : Cn} : OpS c opMod (rI (fun _ j => j ≠ 0) fun i j => .int (i.fmod j)) := by
  intro v1 v2 d1 d2 M H Qd Q r1 r2 hR h k
  unfold opMod at h
  split at h
  · cases r1; cases r2
    exact ⟨_, _, rfl, rfl, h.1, k _ _ _ _ h.2 (.int _) hR .refl⟩
  · exact h.elim
theorem d_mod (ha : SE X CA XE a f) (hb : SE X CA XE b g) : SE X CA XE (.BinOp a .Mod b pos) (eBin opMod f g) := d_bin op_modN modS ha hb
theorem powS {c : Cn} : OpS c opPow (rI CPow fun i j => .int (i ^ j.toNat)) := by
  intro v1 v2 d1 d2 M H Qd Q r1 r2 hR h k
  unfold opPow at h
  split at h
  · cases r1; cases r2
    exact ⟨_, _, rfl, rfl, ⟨h.1, h.2.1, h.2.2.1⟩, k _ _ _ _ h.2.2.2 (.int _) hR .refl⟩
  · exact h.elim
theorem d_pow (ha : SE X CA XE a f) (hb : SE X CA XE b g) : SE X CA XE (.BinOp a .Pow b pos) (eBin opPow f g) := d_bin op_pow powS ha hb
theorem d_neg (ha : SE X CA XE a f) : SE X CA XE (.UnaryOp .USub a pos) (eNeg f) :=
  PE_weak (pe_un un_neg ha) fun σ H Q ⟨env, M, Ed, Qd, p, q, k⟩ => ⟨env, M, Ed, _, p, q, fun d1 M1 v1 H1 q1 r1 R1 T1 => by
    split at q1
    · cases r1
      exact ⟨_, rfl, k _ _ _ _ q1 (.int _) R1 T1⟩
    · exact q1.elim⟩
/-! ## comparisons -/
def CmpS (c : Cn) (op : C2) (r : R2) : Prop := ∀ v1 v2 d1 d2 M H (kd : Bool → Prop) Q, Rep c.K H v1 d1 → Rep c.K H v2 d2 → R c M H → op d1 d2 M kd → (∀ b, kd b → Q (.bl b) H) → r v1 v2 H Q
theorem d_cmp {op : CmpOp} {r : R2} {c2 : C2} (ho : OpR X (compareOp op) r) (hs : CmpS (cn X CA) c2 r) (ha : SE X CA XE a f) (hb : SE X CA XE b g) (hm : behindInMarks op b = false) : SE X CA XE (.Compare a [op] [b] pos) (eCmp c2 f g) :=
  PE_weak (pe_cmpR ho ha hb hm) fun σ H Q ⟨env, M, Ed, Qd, p, q, k⟩ => ⟨env, M, Ed, _, p, q, fun d1 M1 v1 H1 q1 r1 R1 T1 => ⟨env, M1, Ed, _, p.to T1 R1, q1, fun d2 M2 v2 H2 q2 r2 R2 T2 =>
    hs _ _ _ _ _ _ _ _ (r1.m T2) r2 R2 q2 fun b q3 => k _ _ _ _ q3 (.bl b) R2 (T1.trans T2)⟩⟩
theorem t_cmp {op : CmpOp} {r : R2} {c2 : C2} (ho : OpR X (compareOp op) r) (hs : CmpS (cn X CA) c2 r) (ha : SE X CA XE a f) (hb : SE X CA XE b g) (hm : behindInMarks op b = false) : ST X CA XE (.Compare a [op] [b] pos) (tCmp c2 f g) :=
  PT_weak (pt_cmpR ho ha hb hm) fun σ H Q ⟨env, M, Ed, Qd, p, q, k⟩ => ⟨env, M, Ed, _, p, q, fun d1 M1 v1 H1 q1 r1 R1 T1 => ⟨env, M1, Ed, _, p.to T1 R1, q1, fun d2 M2 v2 H2 q2 r2 R2 T2 =>
    hs _ _ _ _ _ _ _ _ (r1.m T2) r2 R2 q2 fun b q3 => ⟨b, rfl, k _ _ _ q3 R2 (T1.trans T2)⟩⟩⟩
mutual
theorem Rep.dp {K : PySem.W.Frag} {H : Hp} : ∀ (d : D) {v : V}, Rep K H v d → SeqAt.shaped d.py = true → Dp K H v d.py
  | .non, _, h, _ => by cases h; exact .non
  | .bl b, _, h, _ => by cases h; exact .bl b
  | .int b, _, h, _ => by cases h; exact .int b
  | .str b, _, h, _ => by cases h; exact .str b
  | .ref b, _, h, z => by simp [D.py, SeqAt.shaped, PyData.canLay0] at z
  | .ty b, _, h, z => by simp [D.py, SeqAt.shaped, PyData.canLay0] at z
  | .lro b, _, h, z => by simp [D.py, SeqAt.shaped, PyData.canLay0] at z
  | .tup ds, _, h, z => by
    cases h with
    | tup s r =>
      refine .tup s.s (Reps.dp ds r ?_)
      simp only [D.py, SeqAt.shaped, PyData.canLay0, Bool.and_eq_true, decide_eq_true_eq, PyData.depth] at z
      exact ⟨z.1, by omega⟩
theorem Reps.dp {K : PySem.W.Frag} {H : Hp} : ∀ (ds : List D) {vs : List V}, Reps K H vs ds → PyData.canLayAll0 (D.pys ds) = true ∧ PyData.depthAll (D.pys ds) ≤ 64 → DpAll K H vs (D.pys ds)
  | [], _, h, _ => by cases h; exact .nil
  | d :: ds, _, h, z => by
    cases h with
    | cons a b =>
      simp only [D.pys, PyData.canLayAll0, PyData.depthAll, Bool.and_eq_true] at z
      exact .cons (Rep.dp d a (by simp only [SeqAt.shaped, Bool.and_eq_true, decide_eq_true_eq]; exact ⟨z.1.1, by omega⟩)) (Reps.dp ds b ⟨z.1.2, by omega⟩)
end
def rEqA (K : PySem.W.Frag) : R2 := fun x y H Q => rEq x y H Q ∨ rEqD K x y H Q
def rNeA (K : PySem.W.Frag) : R2 := fun x y H Q => rNe x y H Q ∨ rNeD K x y H Q
theorem eqS {c : Cn} : CmpS c cEq (rEqA c.K) := by
  intro v1 v2 d1 d2 M H kd Q r1 r2 hR h k
  unfold cEq at h
  split at h
  · cases r1; cases r2
    exact .inl ⟨rfl, by rw [dec_int, Bool.beq_eq_decide_eq]; exact k _ h⟩
  · cases r1; cases r2
    exact .inl ⟨rfl, by rw [dec_str, Bool.beq_eq_decide_eq]; exact k _ h⟩
  · cases r1; cases r2
    exact .inl ⟨rfl, by rw [dec_bl]; exact k _ h⟩
  · exact .inr ⟨_, _, r1.dp _ h.1, r2.dp _ h.2.1, h.1, h.2.1, k _ h.2.2⟩
theorem neS {c : Cn} : CmpS c cNe (rNeA c.K) := by
  intro v1 v2 d1 d2 M H kd Q r1 r2 hR h k
  unfold cNe cEq at h
  split at h
  · cases r1; cases r2
    exact .inl ⟨rfl, by rw [dec_int, Bool.beq_eq_decide_eq]; exact k _ h⟩
  · cases r1; cases r2
    exact .inl ⟨rfl, by rw [dec_str, Bool.beq_eq_decide_eq]; exact k _ h⟩
  · cases r1; cases r2
    exact .inl ⟨rfl, by rw [dec_bl]; exact k _ h⟩
  · exact .inr ⟨_, _, r1.dp _ h.1, r2.dp _ h.2.1, h.1, h.2.1, k _ h.2.2⟩
theorem op_eqA {k : Nat} (hr : Room k X.A) : OpR X (compareOp .Eq) (rEqA X.K) := op_eq.or (op_eqD hr.units)
theorem op_neA {k : Nat} (hr : Room k X.A) : OpR X (compareOp .NotEq) (rNeA X.K) := op_ne.or (op_neD hr.units)
theorem intCmp {c : Cn} {p : Int → Int → Bool} {c2 : C2} (h : ∀ x y M k, c2 x y M k → ∃ i j, x = .int i ∧ y = .int j ∧ k (p i j)) : CmpS c c2 (rI0 fun i j => .bl (p i j)) := by
  intro v1 v2 d1 d2 M H kd Q r1 r2 hR q k
  obtain ⟨i, j, rfl, rfl, q'⟩ := h _ _ _ _ q
  cases r1; cases r2
  exact ⟨_, _, rfl, rfl, k _ q'⟩
theorem ltS {c : Cn} : CmpS c cLt (rI0 fun i j => .bl (decide (i < j))) := intCmp fun x y M k h => by
  unfold cLt at h; split at h
  · exact ⟨_, _, rfl, rfl, h⟩
  · exact h.elim
theorem leS {c : Cn} : CmpS c cLe (rI0 fun i j => .bl (decide (i ≤ j))) := intCmp fun x y M k h => by
  unfold cLe at h; split at h
  · exact ⟨_, _, rfl, rfl, h⟩
  · exact h.elim
theorem gtS {c : Cn} : CmpS c cGt (rI0 fun i j => .bl (decide (j < i))) := intCmp fun x y M k h => by
  unfold cGt at h; split at h
  · exact ⟨_, _, rfl, rfl, h⟩
  · exact h.elim
theorem geS {c : Cn} : CmpS c cGe (rI0 fun i j => .bl (decide (j ≤ i))) := intCmp fun x y M k h => by
  unfold cGe at h; split at h
  · exact ⟨_, _, rfl, rfl, h⟩
  · exact h.elim
theorem Rep.isNon {K : PySem.W.Frag} {H : Hp} {v : V} {d : D} (r : Rep K H v d) : decide (v = .non) = decide (d = .non) := by
  cases r <;> simp
theorem isNS {c : Cn} : CmpS c cIsN (fun x y H Q => y = .non ∧ Q (.bl (decide (x = .non))) H) := by
  intro v1 v2 d1 d2 M H kd Q r1 r2 hR h k
  unfold cIsN at h
  split at h
  · cases r2
    exact ⟨rfl, by rw [r1.isNon]; exact k _ h⟩
  · exact h.elim
theorem notNS {c : Cn} : CmpS c cNotN (fun x y H Q => y = .non ∧ Q (.bl (!decide (x = .non))) H) := by
  intro v1 v2 d1 d2 M H kd Q r1 r2 hR h k
  unfold cNotN at h
  split at h
  · cases r2
    exact ⟨rfl, by rw [r1.isNon]; exact k _ h⟩
  · exact h.elim
end
end DL

set_option Elab.async false
set_option linter.all false
set_option maxRecDepth 100000
set_option maxHeartbeats 4000000
/-! DE2: truth, subscripts, calls of built-ins, dicts -/
namespace DL
open PySem PySem.Spec PyProof.Rows L2
section
variable {X : Cx} {CA : String → Addr} {XE : XK} {a b e : Expr} {es : List Expr} {f g h : WE} {fs : List WE} {pos : Pos}
/-! ## membership -/
theorem Rep.flat {K : PySem.W.Frag} {H : Hp} {v : V} {d : D} (r : Rep K H v d) (h : flat d = true) : flatV v = true := by
  cases r <;> first | rfl | (simp [DL.flat] at h)
theorem Reps.flat {K : PySem.W.Frag} {H : Hp} : ∀ {vs : List V} {ds : List D}, Reps K H vs ds → ds.all DL.flat = true → vs.all flatV = true
  | _, _, .nil, _ => rfl
  | _, _, .cons r t, h => by
    simp only [List.all_cons, Bool.and_eq_true] at h ⊢
    exact ⟨r.flat h.1, Reps.flat t h.2⟩
theorem Rep.eqF {K : PySem.W.Frag} {H : Hp} {v w : V} {d e : D} (r : Rep K H v d) (q : Rep K H w e) (h1 : DL.flat d = true) (h2 : DL.flat e = true) : eqV v w = eqF d e := by
  cases r <;> first | (simp [DL.flat] at h1; done) | (cases q <;> first | (simp [DL.flat] at h2; done) | (simp [eqV, DL.eqF]; done) | (simp [eqV, DL.eqF, Bool.beq_eq_decide_eq]; done))
theorem Reps.inV {K : PySem.W.Frag} {H : Hp} {v : V} {d : D} (r : Rep K H v d) (h1 : DL.flat d = true) : ∀ {vs : List V} {ds : List D}, Reps K H vs ds → ds.all DL.flat = true → L2.inV v vs = ds.any fun z => DL.eqF z d
  | _, _, .nil, _ => rfl
  | _, _, .cons q t, h => by
    simp only [List.all_cons, Bool.and_eq_true] at h
    have ih := Reps.inV r h1 t h.2
    unfold L2.inV at ih ⊢
    rw [List.any_cons, List.any_cons, ih, q.eqF r h.1 h1]
theorem Rep.key {K : PySem.W.Frag} {H : Hp} {v : V} {d : D} {κ : Key} (r : Rep K H v d) (h : keyD d = some κ) : v = kV κ := by
  cases r <;> simp [keyD] at h <;> subst h <;> rfl
theorem lk_val {K : PySem.W.Frag} {H : Hp} : ∀ {vs : List (L2.Key × V)} {kvs : List (Key × D)} (κ : Key), PKV K H vs kvs → (∀ d, lk kvs κ = some d → ∃ v, valV vs κ = some v ∧ Rep K H v d) ∧ (lk kvs κ = none → valV vs κ = none)
  | _, _, κ, .nil => ⟨fun _ e => by simp [lk] at e, fun _ => rfl⟩
  | _, _, κ, .cons (a := p) (b := q) r t => by
    have ih := lk_val κ t
    unfold lk
    by_cases e : q.1 = κ
    · rw [if_pos e, valV_pos (by rw [r.1]; exact e)]
      exact ⟨fun d z => ⟨_, rfl, by cases z; exact r.2⟩, nofun⟩
    · rw [if_neg e, valV_neg (by rw [r.1]; exact e)]
      exact ih
def rInDK : R2 := fun x y H Q => ∃ a kvs k, y = .ref a ∧ Rd H a (.dK kvs) ∧ x = kV k ∧ Q (.bl (valV kvs k).isSome) H
def rNotInDK : R2 := fun x y H Q => ∃ a kvs k, y = .ref a ∧ Rd H a (.dK kvs) ∧ x = kV k ∧ Q (.bl (!(valV kvs k).isSome)) H
theorem op_inDK (hu : X.A.units + 1 < cLine) : OpR X (compareOp .In) rInDK := by
  intro pins s σ H x y v u Q I rx ry h
  obtain ⟨a, kvs, k, rfl, e, rfl, q⟩ := h
  cases ry
  exact d_in hu I (.inl ⟨kvs, k, e, rfl, rfl⟩) rx fun s' I' => ⟨.bl _, H, I', rfl, q⟩
theorem op_notInDK (hu : X.A.units + 1 < cLine) : OpR X (compareOp .NotIn) rNotInDK := by
  intro pins s σ H x y v u Q I rx ry h
  obtain ⟨a, kvs, k, rfl, e, rfl, q⟩ := h
  cases ry
  exact d_notIn hu I (.inl ⟨kvs, k, e, rfl, rfl⟩) rx fun s' I' => ⟨.bl _, H, I', rfl, q⟩
/-! nested keys -/
section
variable {K : PySem.W.Frag}
mutual
theorem nk_depth : ∀ (d : D) (n : Nat), nest d = some n → (nkD d).depth = n
  | .non, n, h => by simp [nest] at h; subst h; rfl
  | .int _, n, h => by simp [nest] at h; subst h; rfl
  | .str _, n, h => by simp [nest] at h; subst h; rfl
  | .tup xs, n, h => by
    simp only [nest, Option.map_eq_some_iff] at h
    obtain ⟨m, e, rfl⟩ := h
    rw [nkD, NestedKey.depth, nks_depth xs m e]
  | .bl _, n, h => by simp [nest] at h
  | .ref _, n, h => by simp [nest] at h
  | .ty _, n, h => by simp [nest] at h
  | .lro _, n, h => by simp [nest] at h
theorem nks_depth : ∀ (ds : List D) (n : Nat), nests ds = some n → NestedKey.depthAll (nkDs ds) = n
  | [], n, h => by simp [nests] at h; subst h; rfl
  | d :: ds, n, h => by
    unfold nests at h
    split at h
    · rename_i x y e1 e2
      cases h
      rw [nkDs, NestedKey.depthAll, nk_depth d _ e1, nks_depth ds _ e2]
    · cases h
end
mutual
theorem nk_is {pins : List (Addr × Obj)} {σ : L2.St} {H : Hp} {s : Shared} (I : Inv X pins σ H s) : ∀ (d : D) {v : V} {u : Value} {n : Nat}, Rep X.K H v d → RelV v u → nest d = some n → NestedIs s.heap (nkD d) u
  | .non, _, _, _, r, q, _ => by cases r; cases q; exact .none
  | .int i, _, _, _, r, q, _ => by cases r; obtain ⟨t, rfl⟩ := q; exact .int i t
  | .str x, _, _, _, r, q, _ => by cases r; obtain ⟨t, rfl⟩ := q; exact .text x t
  | .tup ds, _, _, _, r, q, h => by
    cases r with
    | tup s1 r1 =>
      cases q
      obtain ⟨its, rv, ⟨o, ho, hc, n, hd⟩, _⟩ := I.tuple s1.s
      simp only [nest, Option.map_eq_some_iff] at h
      obtain ⟨m, e, _⟩ := h
      exact .tup ho hc hd (nks_is I ds r1 rv e)
  | .bl _, _, _, _, _, _, h => by simp [nest] at h
  | .ref _, _, _, _, _, _, h => by simp [nest] at h
  | .ty _, _, _, _, _, _, h => by simp [nest] at h
  | .lro _, _, _, _, _, _, h => by simp [nest] at h
theorem nks_is {pins : List (Addr × Obj)} {σ : L2.St} {H : Hp} {s : Shared} (I : Inv X pins σ H s) : ∀ (ds : List D) {vs : List V} {us : List Value} {n : Nat}, Reps X.K H vs ds → Vals vs us → nests ds = some n → NestedAll s.heap (nkDs ds) us
  | [], _, _, _, r, q, _ => by cases r; cases q; exact .nil
  | d :: ds, _, _, _, r, q, h => by
    cases r with
    | cons r1 r2 =>
      cases q with
      | cons q1 q2 =>
        unfold nests at h
        split at h
        · rename_i x y e1 e2
          exact .cons (nk_is I d r1 q1 e1) (nks_is I ds r2 q2 e2)
        · cases h
end
mutual
theorem nkD_inj : ∀ (d e : D) (m n : Nat), nest d = some m → nest e = some n → nkD d = nkD e → d = e
  | .non, e, _, _, _, h2, h => by cases e <;> simp [nkD, nest] at h h2 ⊢
  | .int _, e, _, _, _, h2, h => by cases e <;> simp [nkD, nest] at h h2 ⊢; exact h
  | .str _, e, _, _, _, h2, h => by cases e <;> simp [nkD, nest] at h h2 ⊢; exact h
  | .tup xs, e, _, _, h1, h2, h => by
    cases e <;> simp [nkD] at h
    rename_i ys
    simp only [nest, Option.map_eq_some_iff] at h1 h2
    obtain ⟨m, e1, _⟩ := h1
    obtain ⟨n, e2, _⟩ := h2
    rw [nkDs_inj xs ys m n e1 e2 h]
  | .bl _, _, _, _, h, _, _ => by simp [nest] at h
  | .ref _, _, _, _, h, _, _ => by simp [nest] at h
  | .ty _, _, _, _, h, _, _ => by simp [nest] at h
  | .lro _, _, _, _, h, _, _ => by simp [nest] at h
theorem nkDs_inj : ∀ (ds es : List D) (m n : Nat), nests ds = some m → nests es = some n → nkDs ds = nkDs es → ds = es
  | [], es, _, _, _, _, h => by cases es <;> simp [nkDs] at h ⊢
  | d :: ds, es, _, _, h1, h2, h => by
    cases es with
    | nil => simp [nkDs] at h
    | cons e es =>
      simp only [nkDs, List.cons.injEq] at h
      unfold nests at h1 h2
      split at h1
      · rename_i x y e1 e2
        split at h2
        · rename_i x' y' e1' e2'
          rw [nkD_inj d e _ _ e1 e1' h.1, nkDs_inj ds es _ _ e2 e2' h.2]
        · cases h2
      · cases h1
end
theorem nkOk_nest {d : D} (h : nkOk d = true) : ∃ xs n, d = .tup xs ∧ nest d = some n ∧ n ≤ 8 := by
  unfold nkOk at h
  split at h
  · split at h
    · rename_i n e
      exact ⟨_, n, rfl, e, of_decide_eq_true h⟩
    · cases h
  · cases h
end
/-- a key in hand, as the library wants it -/
theorem nk_at {pins : List (Addr × Obj)} {σ : L2.St} {H : Hp} {s : Shared} (I : Inv X pins σ H s) {d : D} {a : Addr} (r : Rep X.K H (.ref a) d) (h : nkOk d = true) : (nestedKind X.prog X.w).is s.heap (nkD d) a := by
  obtain ⟨xs, n, rfl, e, hn⟩ := nkOk_nest h
  exact ⟨nk_is I _ r rfl e, by rw [nk_depth _ _ e]; exact hn⟩
abbrev PDn (c : Cn) (H : Hp) : List Ent → List (D × D) → Prop := Paired fun p q => p.1 = nkD q.1 ∧ nkOk q.1 = true ∧ Rep c.K H (.ref p.2.1) q.1 ∧ Rep c.K H p.2.2 q.2
/-- the dict in hand, as the library wants it -/
theorem nd_of {pins : List (Addr × Obj)} {σ : L2.St} {H : Hp} {s : Shared} (I : Inv X pins σ H s) {a : Addr} {es : List Ent} {kvs : List (D × D)} (e : Rd H a (NDict (cn X CA) a es)) (p : PDn (cn X CA) H es kvs) :
    es.length ≤ sizeLine ∧ (a == sysModules) = false ∧ ∃ xs : List (NestedKey × Addr × Value), Paired (fun (p : Ent) (q : NestedKey × Addr × Value) => p.1 = q.1 ∧ p.2.1 = q.2.1 ∧ RelV p.2.2 q.2.2) es xs ∧ s.heap.DictOfH (nestedKind X.prog X.w) a xs := by
  obtain ⟨⟨z, hd, xs, pr, ⟨o, es', ep, ho, ex, hdat, hent⟩, nd⟩, _⟩ := e.ok I.hok
  refine ⟨z, hd, xs, pr, o, es', ep, ho, ex, hdat, hent, ?_, nd⟩
  have key : ∀ {es : List Ent} {xs : List (NestedKey × Addr × Value)} {kvs : List (D × D)}, Paired (fun (p : Ent) (q : NestedKey × Addr × Value) => p.1 = q.1 ∧ p.2.1 = q.2.1 ∧ RelV p.2.2 q.2.2) es xs → PDn (cn X CA) H es kvs → ∀ x ∈ xs, (nestedKind X.prog X.w).is s.heap x.1 x.2.1 := by
    intro es xs kvs h1
    induction h1 generalizing kvs with
    | nil => intro _ x hx; cases hx
    | cons a1 t ih =>
      intro h2 x hx
      cases h2 with
      | cons b1 t2 =>
        rcases List.mem_cons.mp hx with rfl | hx
        · rw [← a1.1, ← a1.2.1, b1.1]
          exact nk_at I b1.2.2.1 b1.2.1
        · exact ih t2 x hx
  exact key pr p
end
end DL

set_option Elab.async false
set_option linter.all false
set_option maxRecDepth 100000
set_option maxHeartbeats 4000000
/-! DE3: dicts by values; membership; subscripts; slices -/
namespace DL
open PySem PySem.Spec PyProof.Rows L2
section
variable {X : Cx} {CA : String → Addr} {XE : XK} {a b e : Expr} {es : List Expr} {f g h : WE} {fs : List WE} {pos : Pos}
abbrev PEx : List Ent → List (NestedKey × Addr × Value) → Prop := Paired fun (p : Ent) (q : NestedKey × Addr × Value) => p.1 = q.1 ∧ p.2.1 = q.2.1 ∧ RelV p.2.2 q.2.2
/-- what stands at a key -/
theorem nd_at {c : Cn} {H : Hp} {k : D} (hk : nkOk k = true) : ∀ {es : List Ent} {xs : List (NestedKey × Addr × Value)} {kvs : List (D × D)}, PEx es xs → PDn c H es kvs →
    (∀ d, lk kvs k = some d → ∃ b v u, atKey xs (nkD k) = some (b, u) ∧ RelV v u ∧ Rep c.K H v d) ∧ (lk kvs k = none → atKey xs (nkD k) = none)
  | _, _, _, .nil, .nil => ⟨fun _ e => by simp [lk] at e, fun _ => rfl⟩
  | _, _, _, .cons (a := p) (b := x) h1 t1, .cons (b := q) h2 t2 => by
    have ih := nd_at hk t1 t2
    obtain ⟨_, m, _, em, _⟩ := nkOk_nest hk
    obtain ⟨_, n, _, en, _⟩ := nkOk_nest h2.2.1
    have hx : x.1 = nkD q.1 := by rw [← h1.1, h2.1]
    unfold lk
    by_cases e : q.1 = k
    · rw [if_pos e]
      have e' : x.1 = nkD k := by rw [hx, e]
      refine ⟨fun d z => ⟨x.2.1, p.2.2, x.2.2, ?_, h1.2.2, ?_⟩, nofun⟩
      · simp [atKey, e']
      · cases z; exact h2.2.2.2
    · rw [if_neg e]
      have e' : ¬ x.1 = nkD k := fun z => e (nkD_inj q.1 k _ _ en em (by rw [← hx, z]))
      have e2 : ∀ r, atKey (x :: r) (nkD k) = atKey r (nkD k) := fun r => by simp [atKey, e']
      rw [e2]
      exact ih
/-- a nested dict is asked -/
def rInDN (c : Cn) : R2 := fun x y H Q => ∃ a b es kvs k, y = .ref a ∧ x = .ref b ∧ Rd H a (NDict c a es) ∧ PDn c H es kvs ∧ Rep c.K H (.ref b) k ∧ nkOk k = true ∧ Q (.bl (lk kvs k).isSome) H
def rNotInDN (c : Cn) : R2 := fun x y H Q => ∃ a b es kvs k, y = .ref a ∧ x = .ref b ∧ Rd H a (NDict c a es) ∧ PDn c H es kvs ∧ Rep c.K H (.ref b) k ∧ nkOk k = true ∧ Q (.bl (!(lk kvs k).isSome)) H
theorem room_n {A : Around} {k : Nat} (hr : Room k A) : (nestedKind X.prog X.w).room A.in1 := by
  show A.units + 1 + 8 < cLine
  have := hr.units
  omega
theorem isSome_nd {c : Cn} {H : Hp} {k : D} {es : List Ent} {xs : List (NestedKey × Addr × Value)} {kvs : List (D × D)} (hk : nkOk k = true) (h1 : PEx es xs) (h2 : PDn c H es kvs) : (atKey xs (nkD k)).isSome = (lk kvs k).isSome := by
  have q := nd_at hk h1 h2
  cases e : lk kvs k with
  | none => rw [q.2 e]; rfl
  | some d => obtain ⟨_, _, _, z, _⟩ := q.1 d e; rw [z]; rfl
theorem op_inDN {k : Nat} (hr : Room k X.A) : OpR X (compareOp .In) (rInDN (cn X CA)) := by
  intro pins s σ H x y v u Q I rx ry h
  obtain ⟨a, b, es, kvs, k, rfl, rfl, e, p, r, hk, q⟩ := h
  cases ry; cases rx
  obtain ⟨z, hd, xs, pr, dd⟩ := nd_of I e p
  refine wpAny_in_heap (room_n hr) (nk_at I r hk) hd dd ?_
  rw [isSome_nd hk pr p]
  exact ⟨.bl _, H, I.tok _, rfl, q⟩
theorem op_notInDN {k : Nat} (hr : Room k X.A) : OpR X (compareOp .NotIn) (rNotInDN (cn X CA)) := by
  intro pins s σ H x y v u Q I rx ry h
  obtain ⟨a, b, es, kvs, k, rfl, rfl, e, p, r, hk, q⟩ := h
  cases ry; cases rx
  obtain ⟨z, hd, xs, pr, dd⟩ := nd_of I e p
  refine PySem.notIn_keyed (kvs := pairsH xs) (room_n hr) (nk_at I r hk) hd ⟨xs, dd, rfl⟩ ?_
  rw [valueAt_pairsH, Option.isSome_map, isSome_nd hk pr p]
  exact ⟨.bl _, H, I.tok _, rfl, q⟩
def rInA (c : Cn) : R2 := fun x y H Q => rIn c.K false x y H Q ∨ ((∃ i j, x = .str i ∧ y = .str j ∧ Q (.bl (!(Builtin.Str.occurrences j i 0 j.length 1).isEmpty)) H) ∨ (rInDK x y H Q ∨ rInDN c x y H Q))
def rNotInA (c : Cn) : R2 := fun x y H Q => rIn c.K true x y H Q ∨ ((∃ i j, x = .str i ∧ y = .str j ∧ Q (.bl (!(!(Builtin.Str.occurrences j i 0 j.length 1).isEmpty))) H) ∨ (rNotInDK x y H Q ∨ rNotInDN c x y H Q))
theorem op_inA {k : Nat} (hr : Room k X.A) : OpR X (compareOp .In) (rInA (cn X CA)) := op_in_seq.or (op_in_str.or ((op_inDK (hu_of hr)).or (op_inDN hr)))
theorem op_notInA {k : Nat} (hr : Room k X.A) : OpR X (compareOp .NotIn) (rNotInA (cn X CA)) := op_notIn_seq.or (L2.op_notIn_str.or ((op_notInDK (hu_of hr)).or (op_notInDN hr)))
theorem inS0 {c : Cn} {v1 v2 : V} {d1 d2 : D} {M : Sto} {H : Hp} {kd : Bool → Prop} {Q1 Q2 Q3 Q4 : Bool → Prop} (r1 : Rep c.K H v1 d1) (r2 : Rep c.K H v2 d2) (hR : R c M H) (h : cIn d1 d2 M kd) :
    (∃ p xs, v2 = .ref p ∧ (SqL c.K H p xs ∨ SqT c.K H p xs) ∧ flatV v1 = true ∧ xs.all flatV = true ∧ kd (L2.inV v1 xs)) ∨
    (∃ i j, v1 = .str i ∧ v2 = .str j ∧ kd (!(Builtin.Str.occurrences j i 0 j.length 1).isEmpty)) ∨
    (∃ a kvs k, v2 = .ref a ∧ Rd H a (.dK kvs) ∧ v1 = kV k ∧ kd (valV kvs k).isSome) ∨
    (∃ a b es kvs k, v2 = .ref a ∧ v1 = .ref b ∧ Rd H a (NDict c a es) ∧ PDn c H es kvs ∧ Rep c.K H (.ref b) k ∧ nkOk k = true ∧ kd (lk kvs k).isSome) := by
  unfold cIn at h
  split at h
  · cases r2 with
    | tup s2 p2 => exact .inl ⟨_, _, rfl, .inr s2.s, r1.flat h.1, p2.flat h.2.1, by rw [p2.inV r1 h.1 h.2.1]; exact h.2.2⟩
  · split at h
    · cases r1; cases r2
      exact .inr (.inl ⟨_, _, rfl, rfl, h⟩)
    · exact h.elim
  · cases r2
    split at h
    · rename_i xs e
      obtain ⟨vs, h1, p1⟩ := hR _ _ e
      exact .inl ⟨_, _, rfl, .inl (SqL.of h1), r1.flat h.1, p1.flat h.2.1, by rw [p1.inV r1 h.1 h.2.1]; exact h.2.2⟩
    · rename_i o _ e
      unfold dLk at h
      split at h
      · split at h
        · rename_i κ ek
          obtain ⟨vs, h1, p1⟩ := (hR _ _ e).dk_rd (by assumption)
          refine .inr (.inr (.inl ⟨_, vs, κ, rfl, h1, r1.key ek, ?_⟩))
          have q := lk_val κ p1
          cases el : lk _ κ with
          | none => rw [q.2 el]; rw [el] at h; exact h
          | some d => obtain ⟨v, ev, _⟩ := q.1 d el; rw [ev]; rw [el] at h; exact h
        · exact h.elim
      · obtain ⟨es, h1, p1⟩ := (hR _ _ e).dn_rd (by assumption)
        obtain ⟨hk, h⟩ := h
        obtain ⟨xs, n, rfl, _, _⟩ := nkOk_nest hk
        cases r1 with
        | tup s1 q1 => exact .inr (.inr (.inr ⟨_, _, es, _, _, rfl, rfl, h1, p1, .tup s1 q1, hk, h⟩))
      · exact h.elim
    · exact h.elim
  · exact h.elim
theorem inS {c : Cn} : CmpS c cIn (rInA c) := by
  intro v1 v2 d1 d2 M H kd Q r1 r2 hR h k
  rcases inS0 (Q1 := fun _ => True) (Q2 := fun _ => True) (Q3 := fun _ => True) (Q4 := fun _ => True) r1 r2 hR h with ⟨p, xs, e, s, x, y, z⟩ | ⟨i, j, e1, e2, z⟩ | ⟨a, kvs, k', e1, e2, e3, z⟩ | ⟨a, b, es, kvs, k', e1, e2, e3, e4, e5, e6, z⟩
  · exact .inl ⟨p, xs, e, s, x, y, k _ z⟩
  · exact .inr (.inl ⟨i, j, e1, e2, k _ z⟩)
  · exact .inr (.inr (.inl ⟨a, kvs, k', e1, e2, e3, k _ z⟩))
  · exact .inr (.inr (.inr ⟨a, b, es, kvs, k', e1, e2, e3, e4, e5, e6, k _ z⟩))
theorem notInS {c : Cn} : CmpS c cNotIn (rNotInA c) := by
  intro v1 v2 d1 d2 M H kd Q r1 r2 hR h k
  rcases inS0 (Q1 := fun _ => True) (Q2 := fun _ => True) (Q3 := fun _ => True) (Q4 := fun _ => True) r1 r2 hR (show cIn d1 d2 M fun b => kd (!b) from h) with ⟨p, xs, e, s, x, y, z⟩ | ⟨i, j, e1, e2, z⟩ | ⟨a, kvs, k', e1, e2, e3, z⟩ | ⟨a, b, es, kvs, k', e1, e2, e3, e4, e5, e6, z⟩
  · exact .inl ⟨p, xs, e, s, x, y, k _ z⟩
  · exact .inr (.inl ⟨i, j, e1, e2, k _ z⟩)
  · exact .inr (.inr (.inl ⟨a, kvs, k', e1, e2, e3, k _ z⟩))
  · exact .inr (.inr (.inr ⟨a, b, es, kvs, k', e1, e2, e3, e4, e5, e6, k _ z⟩))
/-! ## subscripts -/
theorem atI_rep {K : PySem.W.Frag} {H : Hp} {vs : List V} {ds : List D} {i : Int} {d : D} (r : Reps K H vs ds) (h : atI ds i = some d) : ∃ v, atI vs i = some v ∧ Rep K H v d := by
  unfold atI at h ⊢
  rw [r.length]
  cases e : ixN ds.length i with
  | none => rw [e] at h; cases h
  | some j =>
    rw [e] at h
    obtain ⟨v, e1, r1⟩ := r.get (show ds[j]? = some d from h)
    exact ⟨v, e1, r1⟩
theorem ix_dk (hu : X.A.units + 1 < cLine) : IxR X (fun x y H Q => ∃ a kvs k v, x = .ref a ∧ y = kV k ∧ Rd H a (.dK kvs) ∧ valV kvs k = some v ∧ Q v H) := by
  intro value slice pins s σ H x y v u Q I rx ry h hs
  obtain ⟨a, kvs, k, z, rfl, rfl, e, el, q⟩ := h
  cases rx
  refine tail_any (dict_typeIs I ((.inl ⟨kvs, k, e, rfl, rfl⟩ : DGet H a (kV k) (valV kvs k)))) PySem.slot_dict_getitem.lookup (d_getItem hu I (by rw [← el]; exact .inl ⟨kvs, k, e, rfl, rfl⟩) ry fun w' s' I' rw' => ⟨z, H, I', rw', q⟩) hs
theorem ix_dn {k : Nat} (hr : Room k X.A) : IxR X (fun x y H Q => ∃ a b es kvs k, x = .ref a ∧ y = .ref b ∧ Rd H a (NDict (cn X CA) a es) ∧ PDn (cn X CA) H es kvs ∧ Rep X.K H (.ref b) k ∧ nkOk k = true ∧ ∃ d, lk kvs k = some d ∧ ∀ v, Rep X.K H v d → Q v H) := by
  intro value slice pins s σ H x y v u Q I rx ry h hs
  obtain ⟨a, b, es, kvs, k, rfl, rfl, e, p, r, hk, d, el, q⟩ := h
  cases rx; cases ry
  obtain ⟨z, hd, xs, pr, dd⟩ := nd_of I e p
  obtain ⟨b', v', u', e1, rv, rd⟩ := (nd_at hk pr p).1 d el
  refine tail_any dd.typeIs PySem.slot_dict_getitem.lookup (PySem.getItem_keyed (kvs := pairsH xs) (room_n hr) (nk_at I r hk) ⟨xs, dd, rfl⟩ (v := u') (by rw [valueAt_pairsH, e1]; rfl) ?_) hs
  exact ⟨v', H, I.tok _, rv, q v' rd⟩
theorem IxR.or {r r' : R2} (h : IxR X r) (h' : IxR X r') : IxR X fun x y H Q => r x y H Q ∨ r' x y H Q := by
  intro value slice pins s σ H x y v u Q I rx ry q hs
  rcases q with q | q
  · exact h value slice pins s σ H x y v u Q I rx ry q hs
  · exact h' value slice pins s σ H x y v u Q I rx ry q hs
def rSubA (c : Cn) : R2 := fun x y H Q => rIx c.K x y H Q ∨ ((∃ a kvs k v, x = .ref a ∧ y = kV k ∧ Rd H a (.dK kvs) ∧ valV kvs k = some v ∧ Q v H) ∨
  ∃ a b es kvs k, x = .ref a ∧ y = .ref b ∧ Rd H a (NDict c a es) ∧ PDn c H es kvs ∧ Rep c.K H (.ref b) k ∧ nkOk k = true ∧ ∃ d, lk kvs k = some d ∧ ∀ v, Rep c.K H v d → Q v H)
theorem ix_A {k : Nat} (hr : Room k X.A) : IxR X (rSubA (cn X CA)) := IxR.or ix_seq (IxR.or (ix_dk (hu_of hr)) (ix_dn hr))
theorem subDS {c : Cn} {v1 v2 : V} {d1 d2 : D} {M : Sto} {H : Hp} {kd : D → Prop} {Q : VK} (r1 : Rep c.K H v1 d1) (r2 : Rep c.K H v2 d2) (hR : R c M H) (h : subD d1 d2 M kd) (k : ∀ d v, kd d → Rep c.K H v d → Q v H) : rSubA c v1 v2 H Q := by
  unfold subD at h
  split at h
  · split at h
    · unfold at' at h
      split at h
      · rename_i xs i d e
        cases r2
        cases r1 with
        | tup s1 p1 =>
          obtain ⟨v, e1, rv⟩ := atI_rep p1 e
          exact .inl (.inr (.inl ⟨_, _, _, v, rfl, rfl, s1.s, e1, k d v h rv⟩))
      · exact h.elim
    · exact h.elim
  · split at h
    · unfold at' at h
      split at h
      · rename_i xs i d e
        cases r2
        cases r1 with
        | lro s1 p1 =>
          obtain ⟨v, e1, rv⟩ := atI_rep p1 e
          exact .inl (.inl ⟨_, _, _, v, rfl, rfl, s1.l, e1, k d v h rv⟩)
      · exact h.elim
    · exact h.elim
  · split at h
    · obtain ⟨hz, h⟩ := h
      split at h
      · cases r1; cases r2
        exact .inl (.inr (.inr ⟨_, _, _, rfl, rfl, hz, by assumption, k _ _ h (.str _)⟩))
      · exact h.elim
    · exact h.elim
  · split at h
    · rename_i xs e
      split at h
      · unfold at' at h
        split at h
        · rename_i i d el
          cases r1; cases r2
          obtain ⟨vs, h1, p1⟩ := hR _ _ e
          obtain ⟨v, e1, rv⟩ := atI_rep p1 el
          exact .inl (.inl ⟨_, _, _, v, rfl, rfl, SqL.of h1, e1, k d v h rv⟩)
        · exact h.elim
      · exact h.elim
    · rename_i o _ e
      unfold dLk at h
      split at h
      · split at h
        · rename_i κ ek
          split at h
          · rename_i d el
            obtain ⟨vs, h1, p1⟩ := (hR _ _ e).dk_rd (by assumption)
            obtain ⟨v, ev, rv⟩ := (lk_val κ p1).1 d el
            cases r1
            exact .inr (.inl ⟨_, vs, κ, v, rfl, r2.key ek, h1, ev, k d v h rv⟩)
          · exact h.elim
        · exact h.elim
      · obtain ⟨hk, h⟩ := h
        split at h
        · rename_i d el
          obtain ⟨es, h1, p1⟩ := (hR _ _ e).dn_rd (by assumption)
          obtain ⟨xs, n, rfl, _, _⟩ := nkOk_nest hk
          cases r1
          cases r2 with
          | tup s1 q1 => exact .inr (.inr ⟨_, _, es, _, _, rfl, rfl, h1, p1, .tup s1 q1, hk, d, el, fun v rv => k d v h rv⟩)
        · exact h.elim
      · exact h.elim
    · exact h.elim
  · exact h.elim
theorem d_sub_ {k : Nat} (hr : Room k X.A) (ha : SE X CA XE a f) (hb : SE X CA XE b g) (hs : PlainIx b := by exact fun _ _ => rfl) : SE X CA XE (.Subscript a b pos) (eSub f g) :=
  PE_weak (pe_ix (ix_A hr) ha hb hs) fun σ H Q ⟨env, M, Ed, Qd, p, q, kq⟩ => ⟨env, M, Ed, _, p, q, fun d1 M1 v1 H1 q1 r1 R1 T1 => ⟨env, M1, Ed, _, p.to T1 R1, q1, fun d2 M2 v2 H2 q2 r2 R2 T2 =>
    subDS (r1.m T2) r2 R2 q2 fun d v q3 r3 => kq _ _ _ _ q3 r3 R2 (T1.trans T2)⟩⟩
end
end DL

set_option Elab.async false
set_option linter.all false
set_option maxRecDepth 100000
set_option maxHeartbeats 4000000
/-! DE4: tests; slices; built-ins; lists; dicts -/
namespace DL
open PySem PySem.Spec PyProof.Rows L2
section
variable {X : Cx} {CA : String → Addr} {XE : XK} {a b e : Expr} {es rest : List Expr} {f g h : WE} {fs : List WE} {pos p : Pos} {t u : WT} {x : Str}
/-! ## tests -/
theorem truS {c : Cn} {v : V} {d : D} {M : Sto} {H : Hp} {kd : Bool → Prop} {Q : Bool → Hp → Prop} (r : Rep c.K H v d) (hR : R c M H) (h : truD d M kd) (k : ∀ b, kd b → Q b H) : ∃ b, TruV c.K v H b ∧ Q b H := by
  unfold truD at h
  split at h
  · cases r; exact ⟨_, rfl, k _ h⟩
  · cases r; exact ⟨_, rfl, k _ h⟩
  · cases r; exact ⟨_, rfl, k _ h⟩
  · cases r; exact ⟨_, ⟨h.1, rfl⟩, k _ h.2⟩
  · cases r with
    | tup s q => exact ⟨_, .inr (.inl ⟨_, s.s, by cases q <;> rfl⟩), k _ h⟩
  · cases r with
    | lro s q => exact ⟨_, .inl ⟨_, s.l, by cases q <;> rfl⟩, k _ h⟩
  · cases r
    split at h
    · obtain ⟨vs, h1, q⟩ := hR _ _ (by assumption)
      exact ⟨_, .inl ⟨_, SqL.of h1, by cases q <;> rfl⟩, k _ h⟩
    · obtain ⟨vs, h1, q⟩ := hR _ _ (by assumption)
      exact ⟨_, .inr (.inr ⟨_, h1, by cases q <;> rfl⟩), k _ h⟩
    · exact h.elim
  · exact h.elim
theorem t_tru (ha : SE X CA XE a f) (he : ∀ whole, isTrue a X.env whole = (do let v ← whole; standAt a.pos; holding [v] (truthy v)) := by intro _; rfl) : ST X CA XE a (tTru f) :=
  PT_weak (pt_truth ha he) fun σ H Q ⟨env, M, Ed, Qd, p, q, k⟩ => ⟨env, M, Ed, _, p, q, fun d M1 v H1 q1 r1 R1 T1 => truS (c := cn X CA) r1 R1 q1 fun b q2 => k _ _ _ q2 R1 T1⟩
theorem t_w (h : SW X CA XE a t) : ST X CA XE a t := ⟨h.run _⟩
theorem w_and1 (ha : ST X CA XE a t) : SW X CA XE (.BoolOp .And [a] pos) t := pw_and1 ha
theorem w_or1 (ha : ST X CA XE a t) : SW X CA XE (.BoolOp .Or [a] pos) t := pw_or1 ha
theorem w_and (ha : ST X CA XE a t) (hb : SW X CA XE (.BoolOp .And (b :: rest) pos) u) : SW X CA XE (.BoolOp .And (a :: b :: rest) pos) (tAnd t u) :=
  PW_weak (pw_and ha hb) fun σ H Q ⟨env, M, Ed, Qd, p, q, k⟩ => ⟨env, M, Ed, _, p, q, fun c M1 H1 q1 R1 T1 => by
    cases c with
    | true => exact ⟨env, M1, Ed, _, p.to T1 R1, q1, fun b M2 H2 q2 R2 T2 => k _ _ _ q2 R2 (T1.trans T2)⟩
    | false => exact k _ _ _ q1 R1 T1⟩
theorem w_or (ha : ST X CA XE a t) (hb : SW X CA XE (.BoolOp .Or (b :: rest) pos) u) : SW X CA XE (.BoolOp .Or (a :: b :: rest) pos) (tOr t u) :=
  PW_weak (pw_or ha hb) fun σ H Q ⟨env, M, Ed, Qd, p, q, k⟩ => ⟨env, M, Ed, _, p, q, fun c M1 H1 q1 R1 T1 => by
    cases c with
    | false => exact ⟨env, M1, Ed, _, p.to T1 R1, q1, fun b M2 H2 q2 R2 T2 => k _ _ _ q2 R2 (T1.trans T2)⟩
    | true => exact k _ _ _ q1 R1 T1⟩
theorem t_not (ha : ST X CA XE a t) : ST X CA XE (.UnaryOp .Not a pos) (tNot t) :=
  PT_weak (pt_not ha) fun σ H Q ⟨env, M, Ed, Qd, p, q, k⟩ => ⟨env, M, Ed, _, p, q, fun c M1 H1 q1 R1 T1 => k _ _ _ q1 R1 T1⟩
theorem t_chain {op op' : CmpOp} {r r' : R2} {c2 c2' : C2} {c : Expr} (ho : OpR X (compareOp op) r) (hs : CmpS (cn X CA) c2 r) (ho' : OpR X (compareOp op') r') (hs' : CmpS (cn X CA) c2' r') (ha : SE X CA XE a f) (hb : SE X CA XE b g) (hc : SE X CA XE c h)
    (hm : lastMarks [op, op'] [b, c] = false := by rfl) : ST X CA XE (.Compare a [op, op'] [b, c] pos) (tChain c2 c2' f g h) :=
  PT_weak (pt_chain ho ho' ha hb hc hm) fun σ H Q ⟨env, M, Ed, Qd, p, q, k⟩ => ⟨env, M, Ed, _, p, q, fun d1 M1 v1 H1 q1 r1 R1 T1 => ⟨env, M1, Ed, _, p.to T1 R1, q1, fun d2 M2 v2 H2 q2 r2 R2 T2 =>
    hs _ _ _ _ _ _ _ _ (r1.m T2) r2 R2 q2 fun b q3 => ⟨b, rfl, by
      cases b with
      | true => exact ⟨env, M2, Ed, _, p.to (T1.trans T2) R2, q3, fun d3 M3 v3 H3 q4 r3 R3 T3 => hs' _ _ _ _ _ _ _ _ (r2.m T3) r3 R3 q4 fun b' q5 => ⟨b', rfl, k _ _ _ q5 R3 (T1.trans (T2.trans T3))⟩⟩
      | false => exact ⟨false, rfl, k _ _ _ q3 R2 (T1.trans T2)⟩⟩⟩⟩
/-! as values -/
theorem d_one {op} (h : SE X CA XE a f) : SE X CA XE (.BoolOp op [a] pos) f := pe_one h
theorem d_and (ha : SE X CA XE a f) (hb : SE X CA XE (.BoolOp .And (b :: rest) pos) g) : SE X CA XE (.BoolOp .And (a :: b :: rest) pos) (eAnd f g) :=
  PE_weak (pe_and ha hb) fun σ H Q ⟨env, M, Ed, Qd, p, q, k⟩ => ⟨env, M, Ed, _, p, q, fun d M1 v H1 q1 r1 R1 T1 => by
    split at q1
    · rename_i c
      cases r1
      refine ⟨c, rfl, ?_⟩
      cases c with
      | true => exact ⟨env, M1, Ed, _, p.to T1 R1, q1, k.mono T1⟩
      | false => exact k _ _ _ _ q1 (.bl _) R1 T1
    · exact q1.elim⟩
theorem d_or (ha : SE X CA XE a f) (hb : SE X CA XE (.BoolOp .Or (b :: rest) pos) g) : SE X CA XE (.BoolOp .Or (a :: b :: rest) pos) (eOr f g) :=
  PE_weak (pe_or ha hb) fun σ H Q ⟨env, M, Ed, Qd, p, q, k⟩ => ⟨env, M, Ed, _, p, q, fun d M1 v H1 q1 r1 R1 T1 => by
    split at q1
    · rename_i c
      cases r1
      refine ⟨c, rfl, ?_⟩
      cases c with
      | false => exact ⟨env, M1, Ed, _, p.to T1 R1, q1, k.mono T1⟩
      | true => exact k _ _ _ _ q1 (.bl _) R1 T1
    · exact q1.elim⟩
/-- and, or of truths as a value: a value that is a bool -/
theorem d_notB (ha : SE X CA XE a f) : SE X CA XE (.UnaryOp .Not a pos) (eNotB f) :=
  PE_weak (pe_not ha) fun σ H Q ⟨env, M, Ed, Qd, p, q, k⟩ => ⟨env, M, Ed, _, p, q, fun d M1 v H1 q1 r1 R1 T1 => by
    split at q1
    · cases r1
      exact ⟨_, rfl, k _ _ _ _ q1 (.bl _) R1 T1⟩
    · exact q1.elim⟩
theorem d_ifE {c : Expr} (hc : ST X CA XE c t) (ha : SE X CA XE a f) (hb : SE X CA XE b g) : SE X CA XE (.IfExp c a b pos) (eIf t f g) :=
  PE_weak (pe_ifExp hc ha hb) fun σ H Q ⟨env, M, Ed, Qd, p, q, k⟩ => ⟨env, M, Ed, _, p, q, fun d M1 H1 q1 R1 T1 => by
    cases d with
    | true => exact ⟨env, M1, Ed, _, p.to T1 R1, q1, k.mono T1⟩
    | false => exact ⟨env, M1, Ed, _, p.to T1 R1, q1, k.mono T1⟩⟩
/-! ## slices -/
def tOfO (c : Cn) (XE : XK) (o : Option WE) : TO := fun σ H Q => ∃ env M Ed Qd, Pre c XE σ H env M Ed ∧ optW o Ed env M Qd ∧ ∀ i M' H', Qd i M' → R c M' H' → Tups c.K H H' → Q i H'
def SO (X : Cx) (CA : String → Addr) (XE : XK) (e : Option Expr) (o : Option WE) : Prop := PO X e (tOfO (cn X CA) XE o)
theorem PO_weak {o : Option Expr} {t t' : TO} (h : PO X o t) (w : ∀ σ H Q, t' σ H Q → t σ H Q) : PO X o t' := ⟨fun pins s σ H Q I q => h.run pins s σ H Q I (w σ H Q q)⟩
theorem o_none : SO X CA XE none none := PO_weak po_none fun σ H Q ⟨env, M, Ed, Qd, p, q, k⟩ => k _ _ _ q p.r .refl
theorem o_some (ha : SE X CA XE a f) : SO X CA XE (some a) (some f) :=
  PO_weak (po_some ha) fun σ H Q ⟨env, M, Ed, Qd, p, q, k⟩ => ⟨env, M, Ed, _, p, q, fun d M1 v H1 q1 r1 R1 T1 => by
    split at q1
    · cases r1
      exact ⟨_, rfl, k _ _ _ q1 R1 T1⟩
    · exact q1.elim⟩
def rSlAll (K : PySem.W.Frag) : V → Option Int → Option Int → Hp → VK → Prop := fun x lo hi H Q => rSlL K x lo hi H Q ∨ rSlF K x lo hi H Q
theorem sl_all : SlR X (rSlAll X.K) := SlR.or sl_list sl_tupF
theorem cut_reps {K : PySem.W.Frag} {H : Hp} {vs : List V} {ds : List D} (r : Reps K H vs ds) (lo hi : Option Int) : Reps K H (cutV vs lo hi) (cut ds lo hi) := by
  unfold cutV cut
  rw [r.length]
  exact (r.drop _).take _
theorem slS {c : Cn} {v : V} {d : D} {M : Sto} {H : Hp} {lo hi : Option Int} {Qd : KD} {Q : VK} (r : Rep c.K H v d) (hR : R c M H) (h : slD d lo hi M Qd) (k : KQ c H Qd Q) : rSlAll c.K v lo hi H Q := by
  unfold slD at h
  split at h
  · rename_i ds
    cases r with
    | @tup a vs _ s q =>
      refine .inr ⟨_, _, rfl, s.s, fun hw => ?_, fun hw p its hp => ?_⟩
      · have e : cut ds lo hi = ds := by
          unfold cut
          rw [← q.length, hw.1, hw.2, List.drop_zero, Nat.sub_zero, q.length, List.take_length]
        rw [e] at h
        exact k _ _ _ _ h (.tup s q) hR .refl
      · obtain ⟨x, y, z⟩ := lay_tup hp (cut_reps q lo hi) hR
        exact k _ _ _ _ h x y z
  · cases r with
    | lro s q =>
      refine .inl ⟨_, _, rfl, s.l, fun p hp => ?_⟩
      obtain ⟨x, y⟩ := lay_lst hp (cut_reps q lo hi) hR
      exact k _ _ _ _ (h p (hR.fresh hp)) (.ref p) x y
  · cases r
    split at h
    · obtain ⟨vs, h1, q⟩ := hR _ _ (by assumption)
      refine .inl ⟨_, _, rfl, SqL.of h1, fun p hp => ?_⟩
      obtain ⟨x, y⟩ := lay_lst hp (cut_reps q lo hi) hR
      exact k _ _ _ _ (h p (hR.fresh hp)) (.ref p) x y
    · exact h.elim
  · exact h.elim
theorem d_slice {lo hi : Option Expr} {l u : Option WE} {p2 : Pos} (ha : SE X CA XE a f) (hl : SO X CA XE lo l) (hu : SO X CA XE hi u) : SE X CA XE (.Subscript a (.Slice lo hi none p2) pos) (eSl f l u) :=
  PE_weak (pe_slice sl_all ha hl hu) fun σ H Q ⟨env, M, Ed, Qd, p, q, k⟩ => ⟨env, M, Ed, _, p, q, fun d M1 v H1 q1 r1 R1 T1 => ⟨env, M1, Ed, _, p.to T1 R1, q1, fun i M2 H2 q2 R2 T2 =>
    ⟨env, M2, Ed, _, p.to (T1.trans T2) R2, q2, fun j M3 H3 q3 R3 T3 => slS (c := cn X CA) (r1.m (T2.trans T3)) R3 q3 (k.mono (T1.trans (T2.trans T3)))⟩⟩⟩
theorem d_rev {k : Nat} {p1 p2 p3 : Pos} (ha : SE X CA XE a f) : SE X CA XE (.Subscript a (.Slice none none (some (.UnaryOp .USub (.Constant (.int 1) k p1) p2)) p3) pos) (eRev f) :=
  PE_weak (pe_revF ha) fun σ H Q ⟨env, M, Ed, Qd, p, q, k⟩ => ⟨env, M, Ed, _, p, q, fun d M1 v H1 q1 r1 R1 T1 => by
    unfold revD at q1
    split at q1
    · cases r1 with
      | tup s r =>
        refine ⟨_, _, rfl, .inl ⟨s.s, fun p its hp => ?_⟩⟩
        obtain ⟨x, y, z⟩ := lay_tup hp r.reverse R1
        exact k _ _ _ _ q1 x y (T1.trans z)
    · cases r1
      split at q1
      · obtain ⟨vs, h1, r⟩ := R1 _ _ (by assumption)
        refine ⟨_, _, rfl, .inr ⟨SqL.of h1, fun p hp => ?_⟩⟩
        obtain ⟨x, y⟩ := lay_lst hp r.reverse R1
        exact k _ _ _ _ (q1 p (R1.fresh hp)) (.ref p) x (T1.trans y)
      · exact q1.elim
    · exact q1.elim⟩
/-! ## calls of built-ins by one argument -/
theorem d_b1 {G : D → Sto → KD → Prop} {id : String} {r : List V → Hp → VK → Prop} (hc : CallR X (.builtin id) r) (hs : ∀ v d M H Qd Q, Rep X.K H v d → R (cn X CA) M H → G d M Qd → KQ (cn X CA) H Qd Q → r [v] H Q)
    (hg : Gl X x) (hm : X.mg x = none) (hv : bootBuiltins x = some (.builtin id)) (ha : SE X CA XE a f) (hn : x ≠ "__name__" := by decide) (hdb : (x == ("__debug__" : Str)) = false := by decide)
    (he : starEach [a] X.env = (false, eval a X.env) :: starEach [] X.env := by rfl) (hpl : (backTo pos (starEach [] X.env)).any (·.1) = false := by rfl) :
    SE X CA XE (.Call (.Name x p) [a] [] pos) (fun E env M Q => f E env M fun d M1 => G d M1 Q) :=
  PE_weak (pe_callB hc hg hm hv (pa_cons ha pa_nil he) hn hdb he hpl) fun σ H Q ⟨env, M, Ed, Qd, p, q, k⟩ => ⟨env, M, Ed, _, p, q, fun d M1 v H1 q1 r1 R1 T1 => hs _ _ _ _ _ _ r1 R1 q1 (k.mono T1)⟩
theorem d_ty1 {G : D → Sto → KD → Prop} {id : String} {r : List V → Hp → VK → Prop} (hc : CallR X (.type id) r) (hs : ∀ v d M H Qd Q, Rep X.K H v d → R (cn X CA) M H → G d M Qd → KQ (cn X CA) H Qd Q → r [v] H Q)
    (hg : Gl X x) (hm : X.mg x = none) (hv : bootBuiltins x = some (.type id)) (ha : SE X CA XE a f) (hn : x ≠ "__name__" := by decide) (hdb : (x == ("__debug__" : Str)) = false := by decide)
    (he : starEach [a] X.env = (false, eval a X.env) :: starEach [] X.env := by rfl) (hpl : (backTo pos (starEach [] X.env)).any (·.1) = false := by rfl) :
    SE X CA XE (.Call (.Name x p) [a] [] pos) (fun E env M Q => f E env M fun d M1 => G d M1 Q) :=
  PE_weak (pe_callTy hc hg hm hv (pa_cons ha pa_nil he) hn hdb he hpl) fun σ H Q ⟨env, M, Ed, Qd, p, q, k⟩ => ⟨env, M, Ed, _, p, q, fun d M1 v H1 q1 r1 R1 T1 => hs _ _ _ _ _ _ r1 R1 q1 (k.mono T1)⟩
theorem d_len (hm : X.mg "len" = none) (ha : SE X CA XE a f) (hg : Gl X "len" := by rfl) (he : starEach [a] X.env = (false, eval a X.env) :: starEach [] X.env := by rfl) (hpl : (backTo pos (starEach [] X.env)).any (·.1) = false := by rfl) : SE X CA XE (.Call (.Name "len" p) [a] [] pos) (eLen f) :=
  d_b1 (G := fun d M Q => lenD d M fun n => Q (.int n) M) call_len (fun v d M H Qd Q r1 hR h k => by
    unfold lenD at h
    split at h
    · cases r1; exact ⟨_, _, rfl, ⟨h.1, rfl⟩, k _ _ _ _ h.2 (.int _) hR .refl⟩
    · cases r1 with
      | tup s q => exact ⟨_, _, rfl, .inr ⟨_, s.s, rfl⟩, k _ _ _ _ (by rw [q.length]; exact h) (.int _) hR .refl⟩
    · cases r1 with
      | lro s q => exact ⟨_, _, rfl, .inl ⟨_, s.l, rfl⟩, k _ _ _ _ (by rw [q.length]; exact h) (.int _) hR .refl⟩
    · cases r1
      split at h
      · obtain ⟨vs, h1, q⟩ := hR _ _ (by assumption)
        exact ⟨_, _, rfl, .inl ⟨_, SqL.of h1, rfl⟩, k _ _ _ _ (by rw [q.length]; exact h) (.int _) hR .refl⟩
      · exact h.elim
    · exact h.elim) hg hm PySem.boot_len ha (he := he) (hpl := hpl)
theorem d_abs (hm : X.mg "abs" = none) (ha : SE X CA XE a f) (hg : Gl X "abs" := by rfl) (he : starEach [a] X.env = (false, eval a X.env) :: starEach [] X.env := by rfl) (hpl : (backTo pos (starEach [] X.env)).any (·.1) = false := by rfl) : SE X CA XE (.Call (.Name "abs" p) [a] [] pos) (eAbs f) :=
  d_b1 (G := fun d M Q => match d with | .int i => Q (.int (if i < 0 then -i else i)) M | _ => False) call_abs (fun v d M H Qd Q r1 hR h k => by
    split at h
    · cases r1; exact ⟨_, rfl, k _ _ _ _ h (.int _) hR .refl⟩
    · exact h.elim) hg hm (by decide +kernel) ha (he := he) (hpl := hpl)
theorem d_intC (hm : X.mg "int" = none) (ha : SE X CA XE a f) (hg : Gl X "int" := by rfl) (he : starEach [a] X.env = (false, eval a X.env) :: starEach [] X.env := by rfl) (hpl : (backTo pos (starEach [] X.env)).any (·.1) = false := by rfl) : SE X CA XE (.Call (.Name "int" p) [a] [] pos) (eInt f) :=
  d_ty1 (G := fun d M Q => match d with | .int i => Q (.int i) M | .bl b => Q (.int (if b then 1 else 0)) M | _ => False) call_int1 (fun v d M H Qd Q r1 hR h k => by
    split at h
    · cases r1; exact .inl ⟨_, rfl, k _ _ _ _ h (.int _) hR .refl⟩
    · cases r1; exact .inr ⟨_, rfl, k _ _ _ _ h (.int _) hR .refl⟩
    · exact h.elim) hg hm (by decide +kernel) ha (he := he) (hpl := hpl)
theorem d_tupOf (hm : X.mg "tuple" = none) (ha : SE X CA XE a f) (hg : Gl X "tuple" := by rfl) (he : starEach [a] X.env = (false, eval a X.env) :: starEach [] X.env := by rfl) (hpl : (backTo pos (starEach [] X.env)).any (·.1) = false := by rfl) : SE X CA XE (.Call (.Name "tuple" p) [a] [] pos) (eTupOf f) :=
  d_ty1 (G := fun d M Q => match d with
    | .tup xs => Q (.tup xs) M
    | .ref a => match M a with
      | some (.lst xs) => Q (.tup xs) M
      | _ => False
    | _ => False) call_tupleF (fun v d M H Qd Q r1 hR h k => by
    split at h
    · cases r1 with
      | tup s q => exact ⟨_, _, rfl, .inr ⟨s.s, k _ _ _ _ h (.tup s q) hR .refl⟩⟩
    · cases r1
      split at h
      · obtain ⟨vs, h1, q⟩ := hR _ _ (by assumption)
        refine ⟨_, _, rfl, .inl ⟨SqL.of h1, fun l its hl => ?_⟩⟩
        obtain ⟨x, y, z⟩ := lay_tup hl q hR
        exact k _ _ _ _ h x y z
      · exact h.elim
    · exact h.elim) hg hm (by decide +kernel) ha (he := he) (hpl := hpl)
theorem CallR.or {v : Value} {r r' : List V → Hp → VK → Prop} (h : CallR X v r) (h' : CallR X v r') : CallR X v fun xs H Q => r xs H Q ∨ r' xs H Q := by
  intro pins s σ H xs us Q I rv q
  rcases q with q | q
  · exact h pins s σ H xs us Q I rv q
  · exact h' pins s σ H xs us Q I rv q
theorem keys_reps {K : PySem.W.Frag} {H : Hp} : ∀ {vs : List (L2.Key × V)} {kvs : List (Key × D)}, PKV K H vs kvs → Reps K H (vs.map fun kv => kV kv.1) (kvs.map fun kv => dKey kv.1)
  | _, _, .nil => .nil
  | _, _, .cons (a := p) (b := q) r t => by
    rw [List.map_cons, List.map_cons, r.1]
    refine .cons ?_ (keys_reps t)
    cases q.1 with
    | inl i => exact .int i
    | inr y => exact .str y
theorem d_lstOf (hc : X.calm = true) (hm : X.mg "list" = none) (ha : SE X CA XE a f) (hg : Gl X "list" := by rfl) (he : starEach [a] X.env = (false, eval a X.env) :: starEach [] X.env := by rfl) (hpl : (backTo pos (starEach [] X.env)).any (·.1) = false := by rfl) : SE X CA XE (.Call (.Name "list" p) [a] [] pos) (eLstOf f) :=
  d_ty1 (G := fun d M Q => match d with
    | .tup xs => ∀ p, M p = none → Q (.ref p) (M.set p (.lst xs))
    | .ref a => match M a with
      | some (.lst xs) => ∀ p, M p = none → Q (.ref p) (M.set p (.lst xs))
      | some (.dk kvs) => ∀ p, M p = none → Q (.ref p) (M.set p (.lst (kvs.map fun kv => dKey kv.1)))
      | _ => False
    | _ => False) (CallR.or call_list_of (call_list_dK hc)) (fun v d M H Qd Q r1 hR h k => by
    split at h
    · cases r1 with
      | tup s q =>
        refine .inl ⟨_, _, rfl, .inr s.s, fun l hl => ?_⟩
        obtain ⟨x, y⟩ := lay_lst hl q hR
        exact k _ _ _ _ (h l (hR.fresh hl)) (.ref l) x y
    · cases r1
      split at h
      · obtain ⟨vs, h1, q⟩ := hR _ _ (by assumption)
        refine .inl ⟨_, _, rfl, .inl (SqL.of h1), fun l hl => ?_⟩
        obtain ⟨x, y⟩ := lay_lst hl q hR
        exact k _ _ _ _ (h l (hR.fresh hl)) (.ref l) x y
      · obtain ⟨vs, h1, q⟩ := hR _ _ (by assumption)
        refine .inr ⟨_, _, rfl, h1, fun l hl => ?_⟩
        obtain ⟨x, y⟩ := lay_lst hl (keys_reps q) hR
        exact k _ _ _ _ (h l (hR.fresh hl)) (.ref l) x y
      · exact h.elim
    · exact h.elim) hg hm (by decide +kernel) ha (he := he) (hpl := hpl)
theorem bools_rep {K : PySem.W.Frag} {H : Hp} : ∀ {vs : List V} {ds : List D} {bs : List Bool}, Reps K H vs ds → asBools ds = some bs → vs = bs.map V.bl
  | _, _, _, .nil, h => by simp [asBools] at h; subst h; rfl
  | _, _, _, .cons (d := d) r t, h => by
    cases r <;> simp only [asBools] at h <;> first | (cases h; done) | skip
    rename_i b
    rw [Option.map_eq_some_iff] at h
    obtain ⟨bs, e, rfl⟩ := h
    rw [List.map_cons, bools_rep t e]
theorem ints_rep {K : PySem.W.Frag} {H : Hp} : ∀ {vs : List V} {ds : List D} {bs : List Int}, Reps K H vs ds → asInts ds = some bs → vs = bs.map V.int
  | _, _, _, .nil, h => by simp [asInts] at h; subst h; rfl
  | _, _, _, .cons (d := d) r t, h => by
    cases r <;> simp only [asInts] at h <;> first | (cases h; done) | skip
    rename_i b
    rw [Option.map_eq_some_iff] at h
    obtain ⟨bs, e, rfl⟩ := h
    rw [List.map_cons, ints_rep t e]
theorem d_all (hc : X.calm = true) (hm : X.mg "all" = none) (ha : SE X CA XE a f) (hg : Gl X "all" := by rfl) (he : starEach [a] X.env = (false, eval a X.env) :: starEach [] X.env := by rfl) (hpl : (backTo pos (starEach [] X.env)).any (·.1) = false := by rfl) : SE X CA XE (.Call (.Name "all" p) [a] [] pos) (eAll f) :=
  d_b1 (G := fun d M Q => match d with
    | .ref a => match M a with
      | some (.lst xs) => match asBools xs with
        | some bs => Q (.bl (bs.all id)) M
        | none => False
      | _ => False
    | _ => False) (cr_all hc) (fun v d M H Qd Q r1 hR h k => by
    split at h
    · cases r1
      split at h
      · split at h
        · obtain ⟨vs, h1, q⟩ := hR _ _ (by assumption)
          have e := bools_rep q (by assumption)
          subst e
          exact ⟨_, _, rfl, SqL.of h1, k _ _ _ _ h (.bl _) hR .refl⟩
        · exact h.elim
      · exact h.elim
    · exact h.elim) hg hm (by decide +kernel) ha (he := he) (hpl := hpl)
theorem d_any (hc : X.calm = true) (hm : X.mg "any" = none) (ha : SE X CA XE a f) (hg : Gl X "any" := by rfl) (he : starEach [a] X.env = (false, eval a X.env) :: starEach [] X.env := by rfl) (hpl : (backTo pos (starEach [] X.env)).any (·.1) = false := by rfl) : SE X CA XE (.Call (.Name "any" p) [a] [] pos) (eAny f) :=
  d_b1 (G := fun d M Q => match d with
    | .ref a => match M a with
      | some (.lst xs) => match asBools xs with
        | some bs => Q (.bl (bs.any id)) M
        | none => False
      | _ => False
    | _ => False) (cr_any hc) (fun v d M H Qd Q r1 hR h k => by
    split at h
    · cases r1
      split at h
      · split at h
        · obtain ⟨vs, h1, q⟩ := hR _ _ (by assumption)
          have e := bools_rep q (by assumption)
          subst e
          exact ⟨_, _, rfl, SqL.of h1, k _ _ _ _ h (.bl _) hR .refl⟩
        · exact h.elim
      · exact h.elim
    · exact h.elim) hg hm (by decide +kernel) ha (he := he) (hpl := hpl)
theorem d_sum (hc : X.calm = true) (hm : X.mg "sum" = none) (ha : SE X CA XE a f) (hg : Gl X "sum" := by rfl) (he : starEach [a] X.env = (false, eval a X.env) :: starEach [] X.env := by rfl) (hpl : (backTo pos (starEach [] X.env)).any (·.1) = false := by rfl) : SE X CA XE (.Call (.Name "sum" p) [a] [] pos) (eSum f) :=
  d_b1 (G := fun d M Q => match d with
    | .ref a => match M a with
      | some (.lst xs) => match asInts xs with
        | some bs => Q (.int bs.sum) M
        | none => False
      | _ => False
    | _ => False) (cr_sum hc) (fun v d M H Qd Q r1 hR h k => by
    split at h
    · cases r1
      split at h
      · split at h
        · obtain ⟨vs, h1, q⟩ := hR _ _ (by assumption)
          have e := ints_rep q (by assumption)
          subst e
          exact ⟨_, _, rfl, SqL.of h1, k _ _ _ _ h (.int _) hR .refl⟩
        · exact h.elim
      · exact h.elim
    · exact h.elim) hg hm (by decide +kernel) ha (he := he) (hpl := hpl)
/-! ## isinstance -/
theorem ty_of {c : Cn} {v : V} {d : D} {M : Sto} {H : Hp} {k : String → Prop} (r : Rep c.K H v d) (hR : R c M H) (h : tyD d M k) : ∃ t ∈ ["NoneType", "bool", "int", "str", "tuple", "list", "dict"], TyX c.K H v (.type t) ∧ k t := by
  unfold tyD at h
  split at h
  · cases r; exact ⟨_, by simp, .base .non, h⟩
  · cases r; exact ⟨_, by simp, .base (.bl _), h⟩
  · cases r; exact ⟨_, by simp, .base (.int _), h⟩
  · cases r; exact ⟨_, by simp, .base (.str _), h⟩
  · cases r with
    | tup s q =>
      refine ⟨"tuple", by simp, ?_, h⟩
      rcases s with ⟨its, s⟩ | ⟨o, its, n, e, cl, _⟩
      · exact .fTuple s
      · exact .kTuple e cl
  · cases r
    split at h
    · obtain ⟨vs, h1, q⟩ := hR _ _ (by assumption)
      exact ⟨"list", by simp, .base (.lst h1), h⟩
    · obtain ⟨vs, h1, q⟩ := hR _ _ (by assumption)
      exact ⟨"dict", by simp, .base (.dK h1), h⟩
    · exact h.elim
  · cases r with
    | lro s q =>
      refine ⟨"list", by simp, ?_, h⟩
      rcases s with ⟨o, s⟩ | ⟨o, its, n, e, cl, _⟩
      · exact .base (.frz s)
      · exact .kList e cl
  · exact h.elim
theorem kit_all : (["NoneType", "bool", "int", "str", "tuple", "list", "dict"].all fun t => ["int", "str", "bool", "tuple", "list", "dict"].all fun c => kitB t c == some (isTy t c)) = true := by decide +kernel
theorem kit_at {K : PySem.W.Frag} {t c : String} (ht : t ∈ ["NoneType", "bool", "int", "str", "tuple", "list", "dict"]) (hc : c ∈ ["int", "str", "bool", "tuple", "list", "dict"]) : PySem.W.kitOne K (.type t) (.type c) = some (isTy t c) :=
  kit_ty (beq_iff_eq.mp (List.all_eq_true.mp (List.all_eq_true.mp kit_all t ht) c hc))
theorem d_isi1 {c : String} {y : Str} {py : Pos} (hm : X.mg "isinstance" = none) (hmy : X.mg y = none) (hvy : bootBuiltins y = some (.type c)) (hc : c ∈ ["int", "str", "bool", "tuple", "list", "dict"]) (ha : SE X CA XE a f) (hg : Gl X "isinstance" := by rfl) (hgy : Gl X y := by rfl)
    (hny : y ≠ "__name__" := by decide) (hdy : (y == ("__debug__" : Str)) = false := by decide)
    (he : starEach [a, .Name y py] X.env = (false, eval a X.env) :: starEach [.Name y py] X.env := by rfl) (he2 : starEach [.Name y py] X.env = (false, eval (.Name y py) X.env) :: starEach [] X.env := by rfl) (hpl : (backTo pos (starEach [.Name y py] X.env)).any (·.1) = false := by rfl) :
    SE X CA XE (.Call (.Name "isinstance" p) [a, .Name y py] [] pos) (eIsi f [c]) :=
  PE_weak (pe_callB call_isi hg hm (by decide +kernel) (pa_cons ha (pa_cons (pe_bltn (v := .ty c) hgy hmy hvy rfl hny hdy) pa_nil he2) he) (by decide) (by decide) he hpl) fun σ H Q ⟨env, M, Ed, Qd, p, q, k⟩ => ⟨env, M, Ed, _, p, q, fun d M1 v H1 q1 r1 R1 T1 => by
    obtain ⟨t, ht, ty, q2⟩ := ty_of (c := cn X CA) r1 R1 q1
    exact ⟨_, _, _, _, _, rfl, .ty c, ty, kit_at ht hc, k _ _ _ _ (by simpa using q2) (.bl _) R1 T1⟩⟩
theorem d_isi2 {c c' : String} {y y' : Str} {py py' pt : Pos} {kt : Nat} (hm : X.mg "isinstance" = none) (hmy : X.mg y = none) (hvy : bootBuiltins y = some (.type c)) (hc : c ∈ ["int", "str", "bool", "tuple", "list", "dict"])
    (hmy' : X.mg y' = none) (hvy' : bootBuiltins y' = some (.type c')) (hc' : c' ∈ ["int", "str", "bool", "tuple", "list", "dict"]) (ha : SE X CA XE a f) (hg : Gl X "isinstance" := by rfl) (hgy : Gl X y := by rfl) (hgy' : Gl X y' := by rfl)
    (hny : y ≠ "__name__" := by decide) (hdy : (y == ("__debug__" : Str)) = false := by decide) (hny' : y' ≠ "__name__" := by decide) (hdy' : (y' == ("__debug__" : Str)) = false := by decide)
    (he : starEach [a, .Tuple [.Name y py, .Name y' py'] kt pt] X.env = (false, eval a X.env) :: starEach [.Tuple [.Name y py, .Name y' py'] kt pt] X.env := by rfl) (he2 : starEach [.Tuple [.Name y py, .Name y' py'] kt pt] X.env = (false, eval (.Tuple [.Name y py, .Name y' py'] kt pt) X.env) :: starEach [] X.env := by rfl)
    (he3 : starEach [.Name y py, .Name y' py'] X.env = (false, eval (.Name y py) X.env) :: starEach [.Name y' py'] X.env := by rfl) (he4 : starEach [.Name y' py'] X.env = (false, eval (.Name y' py') X.env) :: starEach [] X.env := by rfl)
    (hpl : (backTo pos (starEach [.Tuple [.Name y py, .Name y' py'] kt pt] X.env)).any (·.1) = false := by rfl) :
    SE X CA XE (.Call (.Name "isinstance" p) [a, .Tuple [.Name y py, .Name y' py'] kt pt] [] pos) (eIsi f [c, c']) :=
  PE_weak (pe_callB call_isiT hg hm (by decide +kernel) (pa_cons ha (pa_cons (pe_tup (pa_cons (pe_bltn (v := .ty c) hgy hmy hvy rfl hny hdy) (pa_cons (pe_bltn (v := .ty c') hgy' hmy' hvy' rfl hny' hdy') pa_nil he4) he3)) pa_nil he2) he) (by decide) (by decide) he hpl) fun σ H Q ⟨env, M, Ed, Qd, p, q, k⟩ => ⟨env, M, Ed, _, p, q, fun d M1 v H1 q1 r1 R1 T1 => by
    refine ⟨by show 2 ≤ sizeLine; decide, fun l hl => ?_⟩
    obtain ⟨t, ht, ty, q2⟩ := ty_of (c := cn X CA) (r1.m (Tups.new (ho := .tup [.ty c, .ty c']) hl)) (R1.keep (ho := .tup [.ty c, .ty c']) hl) q1
    refine ⟨_, l, _, _, [.type c, .type c'], isTy t c || isTy t c', rfl, upd_same, .cons (.ty c) (.cons (.ty c') .nil), ty, ?_, k _ _ _ _ (by simpa using q2) (.bl _) (R1.keep hl) (T1.trans (Tups.new hl))⟩
    refine kitAny_cons (kit_at ht hc) (fun e => ?_) (fun e => by rw [e]; rfl)
    rw [e, Bool.false_or]
    refine kitAny_cons (kit_at ht hc') (fun e => ?_) (fun e => e)
    rw [e]
    rfl⟩
end
end DL

set_option Elab.async false
set_option linter.all false
set_option maxRecDepth 100000
set_option maxHeartbeats 4000000
/-! DE5: dicts and lists that are made and changed -/
namespace DL
open PySem PySem.Spec PyProof.Rows L2
section
variable {X : Cx} {CA : String → Addr} {XE : XK} {a b e : Expr} {es rest : List Expr} {f g h : WE} {fs : List WE} {pos p apos cpos : Pos} {t u : WT} {x : Str}
theorem d_dk : SE X CA XE (.Dict [] [] pos) eDk :=
  PE_weak pe_dnewK fun σ H Q ⟨env, M, Ed, Qd, p, q, k⟩ l hl => k _ _ _ _ (q l (p.r.fresh hl)) (.ref l) (p.r.at (Tups.new hl) ⟨[], upd_same, .nil⟩) (Tups.new hl)
def tDNewN (c : Cn) : TE := fun _ H Q => ∀ p, H p = none → Q (.ref p) (upd H p (NDict c p []))
theorem pe_dnewN : PE X (.Dict [] [] pos) (tDNewN (cn X CA)) := ⟨fun pins s σ H Q I h =>
  wpAny_Dict_empty ⟨.ref s.heap.objs.size, _, I.laid (a := s.heap.objs.size) (o := NDict (cn X CA) s.heap.objs.size []) (t' := s.toks) (fun _ _ q => Heap.get?_push_of_some _ q) (Nat.le_refl _)
    ⟨⟨Nat.zero_le _, beq_eq_false_iff_ne.mpr (Ne.symm (Nat.ne_of_lt I.big)), [], .nil, ⟨_, #[], 0, Heap.get?_push_size _ rfl, ⟨rfl, rfl, rfl⟩, rfl, rfl⟩, List.nodup_nil⟩, ⟨_, Heap.get?_push_size _ rfl⟩,
      fun h1 h2 ⟨a, b, xs, c, ⟨o, es, ep, d, e⟩, f⟩ k => ⟨a, b, xs, c, ⟨o, es, ep, k _ d, e⟩, f⟩⟩, rfl, h _ (I.hok.fresh (Nat.le_refl _))⟩⟩
theorem d_dn : SE X CA XE (.Dict [] [] pos) eDn :=
  PE_weak (pe_dnewN (CA := CA)) fun σ H Q ⟨env, M, Ed, Qd, p, q, k⟩ l hl => k _ _ _ _ (q l (p.r.fresh hl)) (.ref l) (p.r.at (Tups.new hl) ⟨[], upd_same, .nil⟩) (Tups.new hl)
/-! ## d.get -/
def IsDA (c : Cn) (H : Hp) (a : Addr) : Prop := (∃ kvs, H a = some (.dK kvs)) ∨ ∃ es, H a = some (NDict c a es)
theorem isDA_at {pins : List (Addr × Obj)} {σ : L2.St} {H : Hp} {s : Shared} {a : Addr} (I : Inv X pins σ H s) (d : IsDA (cn X CA) H a) :
    s.TypeIs (.ref a) "dict" ∧ (∀ b, Value.ref a = .ref b → ∃ ob, s.heap.get? b = some ob ∧ ob.dict = none) := by
  rcases d with ⟨kvs, e⟩ | ⟨es, e⟩
  · obtain ⟨x, y, _⟩ := isD_at I (.inl ⟨kvs, .inl e⟩)
    exact ⟨x, y⟩
  · obtain ⟨⟨_, _, _, _, ⟨o, es', ep, h1, h2, _⟩, _⟩, _⟩ := I.hok a _ e
    refine ⟨⟨o, h1, h2.1⟩, fun b q => ?_⟩
    cases q
    exact ⟨o, h1, h2.2.1⟩
/-- what d.get(y, z) hands on -/
def GetA (c : Cn) (a : Addr) (y z : V) (H : Hp) (Q : VK) : Prop := (∃ o, DGet H a y o ∧ Q (o.getD z) H) ∨
  ∃ b es kvs k, y = .ref b ∧ Rd H a (NDict c a es) ∧ PDn c H es kvs ∧ Rep c.K H (.ref b) k ∧ nkOk k = true ∧ (∀ d v, lk kvs k = some d → Rep c.K H v d → Q v H) ∧ (lk kvs k = none → Q z H)
def tGet1A (c : Cn) (td ty : TE) : TE := fun σ H Q => td σ H fun x H1 => ∃ a, x = .ref a ∧ IsDA c H1 a ∧ ty σ H1 fun y H2 => GetA c a y .non H2 Q
def tGet2A (c : Cn) (td ty tz : TE) : TE := fun σ H Q => td σ H fun x H1 => ∃ a, x = .ref a ∧ IsDA c H1 a ∧ ty σ H1 fun y H2 => tz σ H2 fun z H3 => GetA c a y z H3 Q
theorem pe_get1A {k : Nat} {td ty : TE} (hr : Room k X.A) (ho : PE X a td) (he : PE X b ty) (m : M1 X a "get" apos b cpos) : PE X (.Call (.Attribute a "get" apos) [b] [] cpos) (tGet1A (cn X CA) td ty) := by
  refine ⟨fun pins s σ H Q I h => ?_⟩
  refine wpAny_Call_method m.base m.few m.line PySem.F.plainAttrs_dict PySem.F.slot_dict_get PySem.F.type_dict_get (thn (ho.run pins s σ H _ I h) fun u s1 ⟨x, H1, I1, rx, a, ex, d, q1⟩ => ?_)
  subst ex
  obtain rfl : u = Value.ref a := rx
  obtain ⟨t1, t2⟩ := isDA_at I1 d
  refine ⟨t1, t2, ?_⟩
  rw [m.trees]
  refine Calls.callWith_builtin rfl (Calls.evalArgs_plain (Calls.spliced_cons (thn (he.run pins s1 σ H1 _ I1 q1) fun iv s2 ⟨y, H2, I2, ry, q2⟩ => Calls.spliced_nil ?_)))
  rcases q2 with ⟨ov, g, q2⟩ | ⟨bb, es, kvs, k', ey, e, p, r, hk, h1, h2⟩
  · exact d_get1 (hu_of hr) I2 g ry fun w' s3 I3 rw' => ⟨_, H2, I3, rw', q2⟩
  · subst ey
    cases ry
    obtain ⟨z, hd, xs, pr, dd⟩ := nd_of I2 e p
    refine PySem.get_keyed (kvs := pairsH xs) (room_n hr) (nk_at I2 r hk) hd ⟨xs, dd, rfl⟩ ?_
    rw [valueAt_pairsH]
    have q := nd_at hk pr p
    cases el : lk kvs k' with
    | none => rw [q.2 el]; exact ⟨.non, H2, I2.tok _, rfl, h2 el⟩
    | some d => obtain ⟨b', v', u', e1, rv, rd⟩ := q.1 d el; rw [e1]; exact ⟨v', H2, I2.tok _, rv, h1 d v' el rd⟩
theorem pe_get2A {k : Nat} {td ty tz : TE} (hr : Room k X.A) (ho : PE X a td) (he : PE X b ty) (hf : PE X e tz) (m : M2 X a "get" apos b e cpos) : PE X (.Call (.Attribute a "get" apos) [b, e] [] cpos) (tGet2A (cn X CA) td ty tz) := by
  refine ⟨fun pins s σ H Q I h => ?_⟩
  refine wpAny_Call_method m.base m.few m.line PySem.F.plainAttrs_dict PySem.F.slot_dict_get PySem.F.type_dict_get (thn (ho.run pins s σ H _ I h) fun u s1 ⟨x, H1, I1, rx, a, ex, d, q1⟩ => ?_)
  subst ex
  obtain rfl : u = Value.ref a := rx
  obtain ⟨t1, t2⟩ := isDA_at I1 d
  refine ⟨t1, t2, ?_⟩
  rw [m.trees]
  refine Calls.callWith_builtin rfl (Calls.evalArgs_plain (Calls.spliced_cons (thn (he.run pins s1 σ H1 _ I1 q1) fun iv s2 ⟨y, H2, I2, ry, q2⟩ =>
    Calls.spliced_cons (thn (hf.run pins s2 σ H2 _ I2 q2) fun zv s3 ⟨z, H3, I3, rz, q3⟩ => Calls.spliced_nil ?_))))
  rcases q3 with ⟨ov, g, q2⟩ | ⟨bb, es, kvs, k', ey, e, p, r, hk, h1, h2⟩
  · exact d_get2 (hu_of hr) I3 g ry rz fun w' s4 I4 rw' => ⟨_, H3, I4, rw', q2⟩
  · subst ey
    cases ry
    obtain ⟨z', hd, xs, pr, dd⟩ := nd_of I3 e p
    refine PySem.getOr_keyed (kvs := pairsH xs) (room_n hr) (nk_at I3 r hk) hd ⟨xs, dd, rfl⟩ ?_
    rw [valueAt_pairsH]
    have q := nd_at hk pr p
    cases el : lk kvs k' with
    | none => rw [q.2 el]; exact ⟨z, H3, I3.tok _, rz, h2 el⟩
    | some d => obtain ⟨b', v', u', e1, rv, rd⟩ := q.1 d el; rw [e1]; exact ⟨v', H3, I3.tok _, rv, h1 d v' el rd⟩
theorem isDA_of {c : Cn} {v : V} {d : D} {M : Sto} {H : Hp} {k : Prop} (r : Rep c.K H v d) (hR : R c M H) (h : isDct d M k) : ∃ a, v = .ref a ∧ d = .ref a ∧ IsDA c H a ∧ k := by
  unfold isDct at h
  split at h
  · cases r
    split at h
    · obtain ⟨vs, h1, _⟩ := hR _ _ (by assumption)
      exact ⟨_, rfl, rfl, .inl ⟨_, h1⟩, h⟩
    · obtain ⟨vs, h1, _⟩ := hR _ _ (by assumption)
      exact ⟨_, rfl, rfl, .inr ⟨_, h1⟩, h⟩
    · exact h.elim
  · exact h.elim
theorem getA_of {c : Cn} {a : Addr} {y z : V} {dy : D} {M : Sto} {H : Hp} {Q : VK} {k : Option D → Prop} (ry : Rep c.K H y dy) (hR : R c M H) (h : refD (.ref a) M fun o => dLk o dy k) (h1 : ∀ d v, k (some d) → Rep c.K H v d → Q v H) (h2 : k none → Q z H) : GetA c a y z H Q := by
  unfold refD at h
  simp only at h
  split at h
  · rename_i o e
    unfold dLk at h
    split at h
    · split at h
      · rename_i κ ek
        obtain ⟨vs, e1, p1⟩ := (hR _ _ e).dk_rd (by assumption)
        have q := lk_val κ p1
        refine .inl ⟨valV vs κ, by rw [ry.key ek]; exact .inl ⟨vs, κ, e1, rfl, rfl⟩, ?_⟩
        cases el : lk _ κ with
        | none => rw [q.2 el]; rw [el] at h; exact h2 h
        | some d => obtain ⟨v, ev, rv⟩ := q.1 d el; rw [ev]; rw [el] at h; exact h1 d v h rv
      · exact h.elim
    · obtain ⟨es, e1, p1⟩ := (hR _ _ e).dn_rd (by assumption)
      obtain ⟨hk, h⟩ := h
      obtain ⟨xs, n, rfl, _, _⟩ := nkOk_nest hk
      cases ry with
      | tup s1 q1 => exact .inr ⟨_, es, _, _, rfl, e1, p1, .tup s1 q1, hk, fun d v el rv => h1 d v (by rw [el] at h; exact h) rv, fun el => h2 (by rw [el] at h; exact h)⟩
    · exact h.elim
  · exact h.elim
theorem d_get1 {k : Nat} (hr : Room k X.A) (ha : SE X CA XE a f) (hb : SE X CA XE b g) (m : M1 X a "get" apos b cpos := by exact ⟨rfl, rfl, rfl, rfl⟩) : SE X CA XE (.Call (.Attribute a "get" apos) [b] [] cpos) (eGet1 f g) :=
  PE_weak (pe_get1A (CA := CA) hr ha hb m) fun σ H Q ⟨env, M, Ed, Qd, p, q, k⟩ => ⟨env, M, Ed, _, p, q, fun d1 M1 v1 H1 q1 r1 R1 T1 => by
    obtain ⟨a', e1, e2, i, q1⟩ := isDA_of (c := cn X CA) r1 R1 q1
    subst e2
    exact ⟨a', e1, i, env, M1, Ed, _, p.to T1 R1, q1, fun d2 M2 v2 H2 q2 r2 R2 T2 => getA_of (c := cn X CA) r2 R2 q2 (fun d v q rv => k _ _ _ _ q rv R2 (T1.trans T2)) fun q => k _ _ _ _ q .non R2 (T1.trans T2)⟩⟩
theorem d_get2 {k : Nat} (hr : Room k X.A) (ha : SE X CA XE a f) (hb : SE X CA XE b g) (he : SE X CA XE e h) (m : M2 X a "get" apos b e cpos := by exact ⟨rfl, rfl, rfl, rfl⟩) : SE X CA XE (.Call (.Attribute a "get" apos) [b, e] [] cpos) (eGet2 f g h) :=
  PE_weak (pe_get2A (CA := CA) hr ha hb he m) fun σ H Q ⟨env, M, Ed, Qd, p, q, k⟩ => ⟨env, M, Ed, _, p, q, fun d1 M1 v1 H1 q1 r1 R1 T1 => by
    obtain ⟨a', e1, e2, i, q1⟩ := isDA_of (c := cn X CA) r1 R1 q1
    subst e2
    exact ⟨a', e1, i, env, M1, Ed, _, p.to T1 R1, q1, fun d2 M2 v2 H2 q2 r2 R2 T2 => ⟨env, M2, Ed, _, p.to (T1.trans T2) R2, q2, fun d3 M3 v3 H3 q3 r3 R3 T3 =>
      getA_of (c := cn X CA) (r2.m T3) R3 q3 (fun d v q rv => k _ _ _ _ q rv R3 (T1.trans (T2.trans T3))) fun q => k _ _ _ _ q r3 R3 (T1.trans (T2.trans T3))⟩⟩⟩
/-! ## d[k] = v -/
theorem ins_len {κ : Type} [DecidableEq κ] (kvs : List (κ × D)) (k : κ) (d : D) : (ins kvs k d).length ≤ kvs.length + 1 := by
  unfold ins
  split
  · rw [List.length_map]; omega
  · rw [List.length_append, List.length_singleton]; omega
theorem valV_none_notin {κ : Type} [DecidableEq κ] {vs : List (κ × V)} {k : κ} (h : valV vs k = none) : ∀ p ∈ vs, ¬ p.1 = k := fun p hp e => by
  have := (valV_any k vs)
  rw [h] at this
  have h2 : (vs.any fun kv => decide (kv.1 = k)) = true := List.any_eq_true.mpr ⟨p, hp, by simp [e]⟩
  rw [h2] at this; cases this
theorem paired_map {α β γ δ : Type} {F : α → β → Prop} {G : γ → δ → Prop} {f : α → γ} {g : β → δ} {l : List α} {r : List β} (h : Paired F l r) (k : ∀ a b, F a b → G (f a) (g b)) : Paired G (l.map f) (r.map g) := by
  induction h with
  | nil => exact .nil
  | cons r t ih => exact .cons (k _ _ r) ih
theorem paired_app {α β : Type} {F : α → β → Prop} {l l' : List α} {r r' : List β} (h : Paired F l r) (h' : Paired F l' r') : Paired F (l ++ l') (r ++ r') := by
  induction h with
  | nil => exact h'
  | cons r t ih => exact .cons r ih
theorem paired_any {α β : Type} {F : α → β → Prop} {l : List α} {r : List β} {f : α → Bool} {g : β → Bool} (h : Paired F l r) (k : ∀ a b, F a b → f a = g b) : l.any f = r.any g := by
  induction h with
  | nil => rfl
  | cons r t ih => rw [List.any_cons, List.any_cons, ih, k _ _ r]
theorem put_ins {K : PySem.W.Frag} {H : Hp} {κ : Key} {v : V} {d : D} (rv : Rep K H v d) {vs : List (L2.Key × V)} {kvs : List (Key × D)} (h : PKV K H vs kvs) : PKV K H (putK vs κ v) (ins kvs κ d) := by
  unfold putK ins
  rw [paired_any (g := fun kv => decide (kv.1 = κ)) h fun a b r => by rw [r.1]]
  split
  · refine paired_map h fun a b r => ?_
    by_cases e : b.1 = κ
    · rw [if_pos (by rw [r.1]; exact e), if_pos e]; exact ⟨r.1, rv⟩
    · rw [if_neg (by rw [r.1]; exact e), if_neg e]; exact r
  · exact paired_app h (.cons ⟨rfl, rv⟩ .nil)
/-- the nested one -/
def putN (es : List Ent) (k : NestedKey) (b : Addr) (v : V) : List Ent := if (es.any fun x => decide (x.1 = k)) = true then es.map fun x => if x.1 = k then (x.1, x.2.1, v) else x else es ++ [(k, b, v)]
theorem putN_x {es : List Ent} {xs : List (NestedKey × Addr × Value)} {k : NestedKey} {b : Addr} {v : V} {u : Value} (rv : RelV v u) (h : PEx es xs) : PEx (putN es k b v) (storedH xs k b u) := by
  have e1 : (atKey xs k).isSome = (es.any fun x => decide (x.1 = k)) := by
    induction h with
    | nil => rfl
    | @cons p q es xs r t ih =>
      rw [List.any_cons, ← ih, r.1]
      by_cases e : q.1 = k
      · simp [atKey, e]
      · simp [atKey, e]
  unfold putN storedH
  rw [e1]
  split
  · refine paired_map h fun a c r => ?_
    unfold putAt
    by_cases e : c.1 = k
    · rw [if_pos (by rw [r.1]; exact e), if_pos e]; exact ⟨r.1, r.2.1, rv⟩
    · rw [if_neg (by rw [r.1]; exact e), if_neg e]; exact r
  · exact paired_app h (.cons ⟨rfl, rfl, rv⟩ .nil)
theorem putN_d {c : Cn} {H : Hp} {es : List Ent} {kvs : List (D × D)} {k : D} {b : Addr} {v : V} {d : D} (hk : nkOk k = true) (rk : Rep c.K H (.ref b) k) (rv : Rep c.K H v d) (h : PDn c H es kvs) : PDn c H (putN es (nkD k) b v) (ins kvs k d) := by
  obtain ⟨_, m, _, em, _⟩ := nkOk_nest hk
  have key : ∀ (p : Ent) (q : D × D), (p.1 = nkD q.1 ∧ nkOk q.1 = true ∧ Rep c.K H (.ref p.2.1) q.1 ∧ Rep c.K H p.2.2 q.2) → (p.1 = nkD k ↔ q.1 = k) := fun p q r => by
    obtain ⟨_, n, _, en, _⟩ := nkOk_nest r.2.1
    exact ⟨fun z => nkD_inj q.1 k _ _ en em (by rw [← r.1, z]), fun z => by rw [r.1, z]⟩
  unfold putN ins
  rw [paired_any (g := fun kv => decide (kv.1 = k)) h fun a b r => by rw [decide_eq_decide]; exact key a b r]
  split
  · refine paired_map h fun a q r => ?_
    by_cases e : q.1 = k
    · rw [if_pos ((key a q r).mpr e), if_pos e]; exact ⟨r.1, r.2.1, r.2.2.1, rv⟩
    · rw [if_neg (fun z => e ((key a q r).mp z)), if_neg e]; exact r
  · exact paired_app h (.cons ⟨rfl, hk, rk, rv⟩ .nil)
theorem putN_len (es : List Ent) (k : NestedKey) (b : Addr) (v : V) : (putN es k b v).length ≤ es.length + 1 := by
  unfold putN
  split
  · rw [List.length_map]; omega
  · rw [List.length_append, List.length_singleton]; omega
/-- o[i] = v, by values: a list, a dict of either kind -/
def rSetA (c : Cn) : TSet := fun o i v H Q => rSetL o i v H Q ∨ ((∃ a kvs k, o = .ref a ∧ i = kV k ∧ H a = some (.dK kvs) ∧ kvs.length < sizeLine ∧ Q (upd H a (.dK (putK kvs k v)))) ∨
  ∃ a b es kvs k, o = .ref a ∧ i = .ref b ∧ H a = some (NDict c a es) ∧ PDn c H es kvs ∧ Rep c.K H (.ref b) k ∧ nkOk k = true ∧ es.length < sizeLine ∧ Q (upd H a (NDict c a (putN es (nkD k) b v))))
theorem set_A {k : Nat} (hr : Room k X.A) : PSet X (rSetA (cn X CA)) := by
  intro pins s σ H o i v ov iv u Q I ro ri rv h
  rcases h with h | ⟨a, kvs, k, rfl, rfl, e, hz, q⟩ | ⟨a, b, es, kvs, k, rfl, rfl, e, p, r, hk, hz, q⟩
  · exact set_list pins s σ H o i v ov iv u Q I ro ri rv h
  · cases ro
    exact d_setItem (hu_of hr) I (DPut.k e hz) ri rv fun s' I' => ⟨_, I', q⟩
  · cases ro; cases ri
    obtain ⟨z, hd, xs, pr, dd⟩ := nd_of I (.inl e) p
    have hl : es.length = xs.length := Paired.length pr
    refine wpAny_setItem_heap (knd := nestedKind X.prog X.w) (room_n hr) (nk_at I r hk) dd (fun h' hm' hs => ?_) (hsz := by rw [← hl]; exact z)
    obtain ⟨o', es', ep, h1, h2, h3, h4, _, h6⟩ := hm'
    refine ⟨_, d_write I (by rw [e]; exact trivial) hs ⟨o', h1⟩ ?_, q⟩
    refine ⟨⟨Nat.le_trans (putN_len _ _ _ _) hz, hd, _, putN_x rv pr, ⟨o', es', ep, h1, h2, h3, h4⟩, h6⟩, ⟨o', h1⟩, fun h1 h2 ⟨a, b, xs, c, ⟨o, es, ep, d, e⟩, f⟩ k => ⟨a, b, xs, c, ⟨o, es, ep, k _ d, e⟩, f⟩⟩
end
end DL

set_option Elab.async false
set_option linter.all false
set_option maxRecDepth 100000
set_option maxHeartbeats 4000000
/-! DE6: methods of lists, dict(pairs), calls of the text's defs -/
namespace DL
open PySem PySem.Spec PyProof.Rows L2
section
variable {X : Cx} {CA : String → Addr} {XE : XK} {a b e o : Expr} {es rest : List Expr} {f g h : WE} {fs : List WE} {pos p apos cpos : Pos} {t u : WT} {x m : Str}
theorem lstAt_of {c : Cn} {v : V} {d : D} {M : Sto} {H : Hp} {k : Addr → List D → Prop} (r : Rep c.K H v d) (hR : R c M H) (h : lstAt d M k) : ∃ a xs vs, v = .ref a ∧ d = .ref a ∧ M a = some (.lst xs) ∧ H a = some (.lst vs) ∧ Reps c.K H vs xs ∧ k a xs := by
  unfold lstAt at h
  split at h
  · cases r
    split at h
    · rename_i xs e
      obtain ⟨vs, h1, q⟩ := hR _ _ e
      exact ⟨_, xs, vs, rfl, rfl, e, h1, q, h⟩
    · exact h.elim
  · exact h.elim
theorem wr_lst {c : Cn} {M : Sto} {H : Hp} {a : Addr} {xs ys : List D} {vs ws : List V} (hR : R c M H) (hM : M a = some (.lst xs)) (h1 : H a = some (.lst vs)) (r : Reps c.K H ws ys) : R c (M.set a (.lst ys)) (upd H a (.lst ws)) ∧ Tups c.K H (upd H a (.lst ws)) := by
  have T : Tups c.K H (upd H a (.lst ws)) := Tups.wr h1 (ne_frz trivial)
  exact ⟨hR.at T ⟨ws, upd_same, r.m T⟩, T⟩
theorem d_append (ha : SE X CA XE a f) (hb : SE X CA XE b g) (hbase : attributeBase a "append" X.env (eval a X.env) = eval a X.env := by rfl)
    (hfew : ((backTo cpos (starEach [b] X.env)).all (fun x => !x.1) && (backToKw cpos (keywordEach [] X.env)).all (fun x => x.1.isSome) && decide ([b].length + ([] : List Keyword).length + (if ([] : List Keyword).isEmpty then 0 else 1) < 30)) = true := by rfl)
    (hline : (apos.endLine == cpos.line) = true := by rfl) (hs : starEach [b] X.env = (false, eval b X.env) :: starEach [] X.env := by rfl) (hplain : (backTo cpos (starEach [] X.env)).any (·.1) = false := by rfl) :
    SE X CA XE (.Call (.Attribute a "append" apos) [b] [] cpos) (eAppend f g) :=
  PE_weak (pe_bm PySem.F.plainAttrs_list PySem.F.slot_list_append PySem.F.type_list_append mt_append ha (pa_cons hb pa_nil hs) hbase hfew hline hs hplain) fun σ H Q ⟨env, M, Ed, Qd, p, q, k⟩ => ⟨env, M, Ed, _, p, q, fun d1 M1 v1 H1 q1 r1 R1 T1 => by
    obtain ⟨l, xs, vs, e1, e2, _, h1, _, q1⟩ := lstAt_of (c := cn X CA) r1 R1 q1
    subst e1 e2
    refine ⟨.inl ⟨rfl, _, SqL.of h1⟩, env, M1, Ed, _, p.to T1 R1, q1, fun d2 M2 v2 H2 q2 r2 R2 T2 => ?_⟩
    obtain ⟨l', ys, ws, e3, e4, hM, h2, rr, hz, q2⟩ := lstAt_of (c := cn X CA) (.ref l) R2 q2
    cases e3
    obtain ⟨x, y⟩ := wr_lst R2 hM h2 (rr.append (.cons r2 .nil))
    exact ⟨l, ws, v2, rfl, rfl, h2, by rw [rr.length]; exact hz, k _ _ _ _ q2 .non x (T1.trans (T2.trans y))⟩⟩
theorem d_extend (ha : SE X CA XE a f) (hb : SE X CA XE b g) (hbase : attributeBase a "extend" X.env (eval a X.env) = eval a X.env := by rfl)
    (hfew : ((backTo cpos (starEach [b] X.env)).all (fun x => !x.1) && (backToKw cpos (keywordEach [] X.env)).all (fun x => x.1.isSome) && decide ([b].length + ([] : List Keyword).length + (if ([] : List Keyword).isEmpty then 0 else 1) < 30)) = true := by rfl)
    (hline : (apos.endLine == cpos.line) = true := by rfl) (hs : starEach [b] X.env = (false, eval b X.env) :: starEach [] X.env := by rfl) (hplain : (backTo cpos (starEach [] X.env)).any (·.1) = false := by rfl) :
    SE X CA XE (.Call (.Attribute a "extend" apos) [b] [] cpos) (eExtend f g) :=
  PE_weak (pe_bm PySem.F.plainAttrs_list PySem.F.slot_list_extend PySem.F.type_list_extend mt_extend ha (pa_cons hb pa_nil hs) hbase hfew hline hs hplain) fun σ H Q ⟨env, M, Ed, Qd, p, q, k⟩ => ⟨env, M, Ed, _, p, q, fun d1 M1 v1 H1 q1 r1 R1 T1 => by
    obtain ⟨l, xs, vs, e1, e2, _, h1, _, q1⟩ := lstAt_of (c := cn X CA) r1 R1 q1
    subst e1 e2
    refine ⟨.inl ⟨rfl, _, SqL.of h1⟩, env, M1, Ed, _, p.to T1 R1, q1, fun d2 M2 v2 H2 q2 r2 R2 T2 => ?_⟩
    obtain ⟨l', ys, ws, e3, e4, hM, h2, rr, q2⟩ := lstAt_of (c := cn X CA) (.ref l) R2 q2
    cases e3
    obtain ⟨b', zs, us, e5, e6, hM3, h3, rr3, hz, q3⟩ := lstAt_of (c := cn X CA) r2 R2 q2
    subst e5
    obtain ⟨x, y⟩ := wr_lst R2 hM h2 (rr.append rr3)
    exact ⟨l, b', ws, us, rfl, rfl, h2, h3, by rw [rr.length, rr3.length]; exact hz, k _ _ _ _ q3 .non x (T1.trans (T2.trans y))⟩⟩
theorem last_get {α : Type} (xs : List α) : xs.getLast? = xs[xs.length - 1]? := List.getLast?_eq_getElem?
theorem d_pop (ha : SE X CA XE a f) (hbase : attributeBase a "pop" X.env (eval a X.env) = eval a X.env := by rfl) (hline : (apos.endLine == cpos.line) = true := by rfl) :
    SE X CA XE (.Call (.Attribute a "pop" apos) [] [] cpos) (ePop f) :=
  PE_weak (pe_bm0 PySem.F.plainAttrs_list PySem.F.slot_list_pop PySem.F.type_list_pop mt_pop ha hbase hline) fun σ H Q ⟨env, M, Ed, Qd, p, q, k⟩ => ⟨env, M, Ed, _, p, q, fun d1 M1 v1 H1 q1 r1 R1 T1 => by
    obtain ⟨l, xs, vs, e1, e2, hM, h1, rr, q2⟩ := lstAt_of (c := cn X CA) r1 R1 q1
    clear q1
    subst e1 e2
    split at q2
    · rename_i d e
      obtain ⟨v, ev, rv⟩ := rr.get (i := vs.length - 1) (by rw [rr.length, ← last_get]; exact e)
      obtain ⟨x, y⟩ := wr_lst R1 hM h1 rr.dropLast
      exact ⟨.inl ⟨rfl, _, SqL.of h1⟩, l, vs, v, rfl, rfl, h1, ev, k _ _ _ _ q2 (rv.m y) x (T1.trans y)⟩
    · exact q2.elim⟩
/-! ## dict(pairs) -/
theorem pairsK_at {pins : List (Addr × Obj)} {σ : L2.St} {H : Hp} {s : Shared} (I : Inv X pins σ H s) : ∀ {vs : List V} {us : List Value} {ds : List D} {kvs : List (Key × D)}, Reps X.K H vs ds → Vals vs us → pairsK ds = some kvs →
    ∃ (Ts : List Addr) (prs : List (Value × Value)) (vk : List (Key × Value)) (vkv : List (L2.Key × V)), us = Ts.map Value.ref ∧ Ts.length = prs.length ∧ prs.length = kvs.length ∧ vk.length = kvs.length ∧ KV vkv vk ∧ PKV X.K H vkv kvs ∧
      (∀ (j : Nat) (k v : Value), prs[j]? = some (k, v) → ∃ T : Addr, Ts[j]? = some T ∧ PairAt s.heap T k v) ∧ (∀ (j : Nat) (k v : Value), prs[j]? = some (k, v) → ∃ κ : L2.Key, vk[j]? = some (κ, v) ∧ keyIs κ k = true)
  | _, _, _, _, .nil, .nil, h => by
    simp [pairsK] at h; subst h
    exact ⟨[], [], [], [], rfl, rfl, rfl, rfl, .nil, .nil, fun j k v e => by simp at e, fun j k v e => by simp at e⟩
  | _, _, _, kvs, .cons (d := d) r t, .cons rv tv, h => by
    unfold pairsK at h
    split at h
    · rename_i e
      cases e
    · rename_i k v r' e
      cases e
      split at h
      · rename_i κ s' ek es
        cases h
        obtain ⟨Ts, prs, vk, vkv, e1, e2, e3, e4, e5, e6, e7, e8⟩ := pairsK_at I t tv es
        cases r with
        | @tup a vs _ s1 p1 =>
          cases rv
          obtain ⟨its, rr, ht, hz⟩ := I.tuple s1.s
          cases p1 with
          | @cons v1 _ _ _ q1 p2 =>
            cases p2 with
            | @cons v2 _ _ _ q2 p3 =>
              cases p3
              obtain ⟨u1, u2, rfl, w1, w2⟩ := vals2 rr
              refine ⟨a :: Ts, (u1, u2) :: prs, (κ, u2) :: vk, (κ, v2) :: vkv, by rw [e1]; rfl, by simp [e2], by simp [e3], by simp [e4], .cons ⟨rfl, w2⟩ e5, .cons ⟨rfl, q2⟩ e6, ?_, ?_⟩
              · intro j k' v' e
                cases j with
                | zero =>
                  simp at e
                  obtain ⟨rfl, rfl⟩ := e
                  exact ⟨a, rfl, .inl ht⟩
                | succ j => exact e7 j k' v' (by simpa using e)
              · intro j k' v' e
                cases j with
                | zero =>
                  simp at e
                  obtain ⟨rfl, rfl⟩ := e
                  refine ⟨κ, rfl, ?_⟩
                  have := q1.key ek
                  subst this
                  exact kV_is (P := X.prog) (w := X.w) w1
                | succ j => exact e8 j k' v' (by simpa using e)
      · cases h
    · cases h
theorem merge_ins {K : PySem.W.Frag} {H : Hp} : ∀ {vs : List (L2.Key × V)} {kvs : List (Key × D)} {as : List (L2.Key × V)} {bs : List (Key × D)}, PKV K H vs kvs → PKV K H as bs → PKV K H (mergeK as vs) (insAll bs kvs)
  | _, _, _, _, .nil, h => h
  | _, _, _, _, .cons (a := p) (b := q) r t, h => by
    unfold mergeK insAll
    rw [List.foldl_cons, List.foldl_cons, r.1]
    exact merge_ins t (put_ins r.2 h)
def rDictA (K : PySem.W.Frag) : List V → Hp → VK → Prop := fun xs H Q => ∃ a vs ds kvs, xs = [.ref a] ∧ (SqD K H a vs ∨ H a = some (.lst vs)) ∧ Reps K H vs ds ∧ pairsK ds = some kvs ∧ ∀ p vkv, H p = none → PKV K H vkv kvs → Q (.ref p) (upd H p (.dK (mergeK [] vkv)))
theorem call_dictA (hcalm : X.calm = true) : CallR X (.type "dict") (rDictA X.K) := by
  intro pins s σ H xs us Q I r q
  obtain ⟨a, vs, ds, kvs, rfl, hs, rp, hp, q⟩ := q
  obtain ⟨u, rfl, rx⟩ := vals1 r
  cases rx
  have fin : ∀ (T : String) (its : List Value), (T = "tuple" ∨ T = "list") → Vals vs its → vs.length ≤ sizeLine → (∃ o n, s.heap.get? a = some o ∧ o.cls = .type T ∧ o.dict = none ∧ o.data = .seq its.toArray n) →
      wpAny (model X.prog X.w) X.A (call (.type "dict") [.ref a]) (EP X pins σ Q) X.xe s := by
    intro T its hT rv hz hpl
    obtain ⟨Ts, prs, vk, vkv, e1, e2, e3, e4, e5, e6, e7, e8⟩ := pairsK_at I rp rv hp
    have hlen : its.length = prs.length := by rw [e1, List.length_map, e2]
    have ok : PlainSeq T s.heap a its.toArray ∧ PairItems s.heap its.toArray (fun j => Ts.getD j 0) prs := by
      refine ⟨hpl, by rw [List.size_toArray]; exact hlen, fun j k v e => ?_⟩
      obtain ⟨T', h1, h2⟩ := e7 j k v e
      have h3 : Ts.getD j 0 = T' := by rw [List.getD_eq_getElem?_getD, h1]; rfl
      refine ⟨?_, by show PairAt s.heap (Ts.getD j 0) k v; rw [h3]; exact h2⟩
      show its.toArray[j]? = some (Value.ref (Ts.getD j 0))
      rw [List.getElem?_toArray, e1, List.getElem?_map, h1, h3]
      rfl
    have hv : PairsHave (mixKind X.prog X.w) prs.length (PairRel prs) vk := ⟨by rw [e4, e3], fun j k v e => e8 j k v e⟩
    have hz' : prs.length ≤ sizeLine := by rw [← hlen, ← rv.length]; exact hz
    have last : ∀ (h' : Heap) (tk : Nat), h'.DictOf (mixKind X.prog X.w) s.heap.objs.size (merged [] vk) → (∀ (b : Addr) (o : Obj), ¬b ∈ ([] : List Addr) → s.heap.get? b = some o → h'.get? b = some o) → EP X pins σ Q (.ref s.heap.objs.size) { s with heap := h', toks := tk } := by
      intro h' tk hd' k
      have hm : (s.heap.objs.size == sysModules) = false := beq_eq_false_iff_ne.mpr (Nat.ne_of_gt I.big)
      have hl2 : (mergeK [] vkv).length ≤ sizeLine := by
        refine Nat.le_trans (length_mergeK vkv []) ?_
        rw [List.length_nil, Nat.zero_add, Paired.length e6, ← e3]
        exact hz'
      exact ⟨.ref s.heap.objs.size, upd H s.heap.objs.size (.dK (mergeK [] vkv)), I.laid (t' := tk) (fun b o e => k b o (by simp) e) (Nat.le_refl _) (show ObjOk X.prog X.w _ _ _ (.dK (mergeK [] vkv)) from ⟨hl2, hm, merged [] vk, KV.merge e5 .nil, hd'⟩), rfl, q _ _ (I.hok.fresh (Nat.le_refl _)) e6⟩
    rcases hT with rfl | rfl
    · exact PySem.call_dict_pairs (PairArg.tuple a its.toArray (fun j => Ts.getD j 0) prs) (I.ok.hd hcalm) ok hv hz' last
    · exact PySem.call_dict_pairs (PairArg.list a its.toArray (fun j => Ts.getD j 0) prs) (I.ok.hd hcalm) ok hv hz' last
  rcases hs with (⟨its, h1⟩ | ⟨o, its, n, h1, h2, h3, h4, h5, h6⟩) | h1
  · obtain ⟨e, z, its', rv, o', e', c, n, d⟩ := (show ObjOk X.prog X.w H s.heap a (.frz (TupO its) (.tup vs)) from I.hok a _ h1)
    rw [e] at e'
    cases e'
    have ee : its = its' := by
      have d' : Data.seq its.toArray _ = Data.seq its'.toArray n := d
      injection d' with d1 _
      simpa using congrArg Array.toList d1
    subst ee
    exact fin "tuple" its (.inl rfl) rv z ⟨_, _, e, rfl, rfl, rfl⟩
  · have el := h6.length
    exact fin "tuple" its.toList (.inl rfl) h6 (by rw [el, Array.length_toList]; exact h5) ⟨o, n, I.kIn a o h1, h2, h3, by rw [h4, Array.toArray_toList]⟩
  · obtain ⟨z, its, n, rv, e⟩ := (show ObjOk X.prog X.w H s.heap a (.lst vs) from I.hok a _ h1)
    exact fin "list" its (.inr rfl) rv z ⟨_, n, e, rfl, rfl, rfl⟩
theorem d_dict (hc : X.calm = true) (hm : X.mg "dict" = none) (ha : SE X CA XE a f) (hg : Gl X "dict" := by rfl) (he : starEach [a] X.env = (false, eval a X.env) :: starEach [] X.env := by rfl) (hpl : (backTo pos (starEach [] X.env)).any (·.1) = false := by rfl) : SE X CA XE (.Call (.Name "dict" p) [a] [] pos) (eDict f) :=
  d_ty1 (G := fun d M Q => itemsD d M fun xs => match pairsK xs with
    | some kvs => ∀ p, M p = none → Q (.ref p) (M.set p (.dk (insAll [] kvs)))
    | none => False) (call_dictA hc) (fun v d M H Qd Q r1 hR h k => by
    unfold itemsD at h
    split at h
    · split at h
      · cases r1 with
        | tup s q =>
          refine ⟨_, _, _, _, rfl, .inl s, q, by assumption, fun p vkv hp hv => ?_⟩
          exact k _ _ _ _ (h p (hR.fresh hp)) (.ref p) (hR.at (Tups.new hp) ⟨_, upd_same, paired_mono (merge_ins hv .nil) fun _ _ z => ⟨z.1, z.2.m (Tups.new hp)⟩⟩) (Tups.new hp)
      · exact h.elim
    · cases r1
      split at h
      · split at h
        · obtain ⟨vs, h1, q⟩ := hR _ _ (by assumption)
          refine ⟨_, _, _, _, rfl, .inr h1, q, by assumption, fun p vkv hp hv => ?_⟩
          exact k _ _ _ _ (h p (hR.fresh hp)) (.ref p) (hR.at (Tups.new hp) ⟨_, upd_same, paired_mono (merge_ins hv .nil) fun _ _ z => ⟨z.1, z.2.m (Tups.new hp)⟩⟩) (Tups.new hp)
        · exact h.elim
      · exact h.elim
    · exact h.elim) hg hm (by decide +kernel) ha (he := he) (hpl := hpl)
end
end DL

set_option Elab.async false
set_option linter.all false
set_option maxRecDepth 100000
set_option maxHeartbeats 4000000
/-! DSt: statements, targets, loops, comprehensions, defs -/
namespace DL
open PySem PySem.Spec PyProof.Rows L2
structure KE (c : Cn) (H : Hp) (Dd : DL.Ends) (D : L2.Ends) : Prop where
  nx : ∀ env' M' σ' H', Dd.nx env' M' → RelEnv c.K H' σ' env' → R c M' H' → Tups c.K H H' → D.nx σ' H'
  rt : KQ c H Dd.rt D.rt
  bk : ∀ env' M' σ' H', Dd.bk env' M' → RelEnv c.K H' σ' env' → R c M' H' → Tups c.K H H' → D.bk σ' H'
  ct : ∀ env' M' σ' H', Dd.ct env' M' → RelEnv c.K H' σ' env' → R c M' H' → Tups c.K H H' → D.ct σ' H'
theorem KE.mono {c : Cn} {H H' : Hp} {Dd : DL.Ends} {D : L2.Ends} (k : KE c H Dd D) (t : Tups c.K H H') : KE c H' Dd D :=
  ⟨fun e m σ h q r a b => k.nx e m σ h q r a (t.trans b), k.rt.mono t, fun e m σ h q r a b => k.bk e m σ h q r a (t.trans b), fun e m σ h q r a b => k.ct e m σ h q r a (t.trans b)⟩
def tOfS (c : Cn) (XE : XK) (g : WS) : TS := fun D σ H => ∃ env M Ed Dd, Pre c XE σ H env M Ed ∧ g Ed Dd env M ∧ KE c H Dd D
def SS (X : Cx) (CA : String → Addr) (XE : XK) (st : Stmt) (g : WS) : Prop := PS X st (tOfS (cn X CA) XE g)
def SSs (X : Cx) (CA : String → Addr) (XE : XK) (st : List Stmt) (g : WS) : Prop := PSs X st (tOfS (cn X CA) XE g)
def OwnW (vs : List Nat) (σ σ1 : L2.St) : Prop := σ1.length = σ.length ∧ ∀ j, j ∉ vs → σ1[j]? = σ[j]?
theorem OwnW.refl {vs : List Nat} {σ : L2.St} : OwnW vs σ σ := ⟨rfl, fun _ _ => rfl⟩
theorem OwnW.trans {vs : List Nat} {σ σ1 σ2 : L2.St} (a : OwnW vs σ σ1) (b : OwnW vs σ1 σ2) : OwnW vs σ σ2 := ⟨b.1.trans a.1, fun j h => (b.2 j h).trans (a.2 j h)⟩
theorem wipe_get {σ : L2.St} {i : Nat} : ∀ {vs : List Nat}, i ∈ vs → i < σ.length → (L2.wipe σ vs)[i]? = some none
  | v :: vs, h, hl => by
    unfold L2.wipe
    by_cases e : i = v
    · subst e
      rw [List.getElem?_set_self (by rw [wipe_length]; exact hl)]
    · rw [List.getElem?_set_ne (Ne.symm e)]
      exact wipe_get ((List.mem_cons.mp h).resolve_left e) hl
theorem OwnW.wipe {vs : List Nat} {σ σ1 : L2.St} (a : OwnW vs (L2.wipe σ vs) σ1) : L2.wipe σ1 vs = L2.wipe σ vs := by
  have hl : σ1.length = σ.length := by rw [a.1, wipe_length]
  apply List.ext_getElem?
  intro i
  by_cases hi : i ∈ vs
  · by_cases hlt : i < σ.length
    · rw [wipe_get hi (by rw [hl]; exact hlt), wipe_get hi hlt]
    · rw [List.getElem?_eq_none (by rw [wipe_length, hl]; omega), List.getElem?_eq_none (by rw [wipe_length]; omega)]
  · rw [L2.wipe_out hi, a.2 i hi]
theorem RelEnv.wipe {K : PySem.W.Frag} {H : Hp} {σ : L2.St} {env : Ev} (r : RelEnv K H σ env) : ∀ vs : List Nat, RelEnv K H (L2.wipe σ vs) (DL.wipe env vs)
  | [] => r
  | v :: vs => by unfold L2.wipe DL.wipe; exact (RelEnv.wipe r vs).clear v
/-- a yielded pair may be a tuple that is no more than read -/
inductive RepY (K : PySem.W.Frag) (H : Hp) : V → D → Prop
  | rep {v : V} {d : D} : Rep K H v d → RepY K H v d
  | pair {a : Addr} {vs : List V} {ds : List D} : SqT K H a vs → Reps K H vs ds → RepY K H (.ref a) (.tup ds)
def RepB (y : Bool) (K : PySem.W.Frag) (H : Hp) (v : V) (d : D) : Prop := if y = true then RepY K H v d else Rep K H v d
theorem RepB.y {y : Bool} {K : PySem.W.Frag} {H : Hp} {v : V} {d : D} (r : RepB y K H v d) : RepY K H v d := by
  cases y with
  | true => exact r
  | false => exact .rep r
theorem Rep.b {y : Bool} {K : PySem.W.Frag} {H : Hp} {v : V} {d : D} (r : Rep K H v d) : RepB y K H v d := by
  cases y with
  | true => exact RepY.rep r
  | false => exact r
def tOfG (y : Bool) (c : Cn) (XE : XK) (vs : List Nat) (g : WG) : TG := fun v σ H Q => ∃ d env M Ed Qd, RepB y c.K H v d ∧ Pre c XE σ H env M Ed ∧ g d Ed env M Qd ∧
  ∀ env1 M1 σ1 H1, Qd env1 M1 → RelEnv c.K H1 σ1 env1 → R c M1 H1 → Tups c.K H H1 → OwnW vs σ σ1 → Q σ1 H1
def SG (y : Bool) (X : Cx) (CA : String → Addr) (XE : XK) (vs : List Nat) (tg : Expr) (g : WG) : Prop := PG X tg (tOfG y (cn X CA) XE vs g)
def tOfGs (c : Cn) (XE : XK) (vs : List Nat) (gs : List WG) : TGs := fun ws σ H Q => ∃ ds env M Ed Qd, Reps c.K H ws ds ∧ Pre c XE σ H env M Ed ∧ gAll gs ds Ed env M Qd ∧
  ∀ env1 M1 σ1 H1, Qd env1 M1 → RelEnv c.K H1 σ1 env1 → R c M1 H1 → Tups c.K H H1 → OwnW vs σ σ1 → Q σ1 H1
def SGs (X : Cx) (CA : String → Addr) (XE : XK) (vs : List Nat) (ts : List Expr) (gs : List WG) : Prop := PGs X ts (tOfGs (cn X CA) XE vs gs)
structure ItR (c : Cn) (y : Bool) (H1 : Hp) (J : It) (chk : Sto → Prop) (xs : List D) : Prop where
  go : ∀ i H M, Tups c.K H1 H → R c M H → chk M → i < xs.length → J.go i H
  stop : ∀ H M, Tups c.K H1 H → R c M H → chk M → J.stop xs.length H
  yld : ∀ i H x H' M, Tups c.K H1 H → R c M H → chk M → J.yld i H x H' → ∀ d, xs[i]? = some d → RepB y c.K H' x d ∧ R c M H' ∧ Tups c.K H H'
def tOfI (y : Bool) (c : Cn) (XE : XK) (src : WI) : TI := fun σ H Rk => ∃ env M Ed kd, Pre c XE σ H env M Ed ∧ src Ed env M kd ∧ ∀ chk xs M1 H1 J, kd chk xs M1 → R c M1 H1 → Tups c.K H H1 → ItR c y H1 J chk xs → Rk J H1
def SI (y : Bool) (X : Cx) (CA : String → Addr) (XE : XK) (tg iter : Expr) (src : WI) : Prop := PI X tg iter (tOfI y (cn X CA) XE src)
section
variable {X : Cx} {st : Stmt} {sts : List Stmt} {tg iter : Expr} {ts : List Expr}
theorem PS_weak {t t' : TS} (h : PS X st t) (w : ∀ D σ H, t' D σ H → t D σ H) : PS X st t' := ⟨fun pins s σ H D I q => h.run pins s σ H D I (w D σ H q)⟩
theorem PSs_weak {t t' : TS} (h : PSs X sts t) (w : ∀ D σ H, t' D σ H → t D σ H) : PSs X sts t' := ⟨fun pins s σ H D I q => h.run pins s σ H D I (w D σ H q)⟩
theorem PG_weak {t t' : TG} (h : PG X tg t) (w : ∀ v σ H Q, t' v σ H Q → t v σ H Q) : PG X tg t' := ⟨fun pins s σ H v u Q I r q => h.run pins s σ H v u Q I r (w v σ H Q q)⟩
theorem PGs_weak {t t' : TGs} (h : PGs X ts t) (w : ∀ v σ H Q, t' v σ H Q → t v σ H Q) : PGs X ts t' := ⟨fun pins s σ H v u Q I r q => h.run pins s σ H v u Q I r (w v σ H Q q)⟩
theorem PI_weak {t t' : TI} (h : PI X tg iter t) (w : ∀ σ H Q, t' σ H Q → t σ H Q) : PI X tg iter t' := ⟨fun pins s σ H Q I q => h.run pins s σ H Q I (w σ H Q q)⟩
end
section
variable {X : Cx} {CA : String → Addr} {XE : XK} {a b e o : Expr} {es : List Expr} {f g h : WE} {gt gs' : WG} {fs : List WE} {pos : Pos} {t u : WT} {x m : Str} {st : Stmt} {sts sts' : List Stmt} {s s' : WS} {y : Bool} {vs : List Nat} {tg iter : Expr} {ts : List Expr} {gs : List WG} {src : WI}
/-! ## targets -/
theorem g_name (i : Nat) {x : Str} (hN : X.N.Nodup) (hv : i ∈ vs) (hi : X.N[i]? = some x := by rfl) (hx : Loc X.env.scope x := by first | exact Or.inl rfl | exact Or.inr rfl) (hf : X.fn x = true ∨ X.env.scope.names.lookup x = some .local := by first | exact .inl rfl | exact .inr rfl | assumption) : SG false X CA XE vs (.Name x pos) (gName i) :=
  PG_weak (pg_name hN hi hx hf) fun v σ H Q ⟨d, env, M, Ed, Qd, r, p, q, k⟩ => k _ _ _ _ q (p.e.put r i) p.r .refl ⟨List.length_set, fun j hj => List.getElem?_set_ne (fun z => hj (by rw [← z]; exact hv))⟩
theorem gs_nil : SGs X CA XE vs [] [] := PGs_weak pgs_nil fun v σ H Q ⟨ds, env, M, Ed, Qd, r, p, q, k⟩ => by
  cases r with
  | nil => exact ⟨rfl, k _ _ _ _ q p.e p.r .refl .refl⟩
  | cons _ _ => exact q.elim
theorem gs_cons (h1 : SG false X CA XE vs e gt) (h2 : SGs X CA XE vs es gs) (hs : (assignEach (e :: es) X.env).map (·.2) = assign e X.env :: (assignEach es X.env).map (·.2) := by rfl) : SGs X CA XE vs (e :: es) (gt :: gs) :=
  PGs_weak (pgs_cons h1 h2 hs) fun v σ H Q ⟨ds, env, M, Ed, Qd, r, p, q, k⟩ => by
    cases r with
    | nil => exact q.elim
    | @cons v d vs' ds' r1 r2 =>
      exact ⟨v, vs', rfl, d, env, M, Ed, _, r1, p, q, fun env1 M1 σ1 H1 q1 e1 R1 T1 O1 => ⟨ds', env1, M1, Ed, Qd, r2.m T1, ⟨e1, R1, p.x.mono T1⟩, q1, fun env2 M2 σ2 H2 q2 e2 R2 T2 O2 => k _ _ _ _ q2 e2 R2 (T1.trans T2) (O1.trans O2)⟩⟩
theorem g_tup {k n : Nat} (hc : X.calm = true) (h : SGs X CA XE vs es gs) (hl : gs.length = n := by rfl)
    (hn : (assignEach es X.env).length = n := by rfl) (hst : (assignEach es X.env).findIdx? (·.1) = none := by rfl) : SG y X CA XE vs (.Tuple es k pos) (gTup gs) :=
  PG_weak (pg_tup hc h hn hst) fun v σ H Q ⟨d, env, M, Ed, Qd, r, p, q, k⟩ => by
    have r := r.y
    unfold DL.gTup at q
    split at q
    · obtain ⟨hd, q⟩ := q
      cases r with
      | rep r =>
        cases r with
        | tup s r1 => exact ⟨_, _, rfl, s.s, by rw [r1.length, hd, hl], _, env, M, Ed, Qd, r1, p, q, k⟩
      | pair s r1 => exact ⟨_, _, rfl, s, by rw [r1.length, hd, hl], _, env, M, Ed, Qd, r1, p, q, k⟩
    · exact q.elim
theorem g_sub {k : Nat} (hr : Room k X.A) (ha : SE X CA XE a f) (hb : SE X CA XE b g)
    (hq : ∀ v, assign (.Subscript a b pos) X.env v = (do
      let ov ← holding [v] (eval a X.env)
      let iv ← holding [v, ov] (eval b X.env)
      standAt pos
      holding [v, ov, iv] (setItem ov iv v)
      release [v, ov, iv] []) := by intro _; rfl) : SG false X CA XE vs (.Subscript a b pos) (gSub f g) :=
  PG_weak (pg_sub ha hb (set_A (CA := CA) hr) hq) fun v σ H Q ⟨d, env, M, Ed, Qd, r, p, q, k⟩ => by
    refine ⟨env, M, Ed, _, p, q, fun d1 M1 v1 H1 q1 r1 R1 T1 => ⟨env, M1, Ed, _, p.to T1 R1, q1, fun d2 M2 v2 H2 q2 r2 R2 T2 => ?_⟩⟩
    have r0 : Rep (cn X CA).K H2 v d := Rep.m r (T1.trans T2)
    have r1 := r1.m T2
    have T := T1.trans T2
    unfold setD at q2
    split at q2
    · cases r1
      split at q2
      · split at q2
        · split at q2
          · rename_i j ej
            cases r2
            obtain ⟨ws, h1, rr⟩ := R2 _ _ (by assumption)
            have T3 : Tups (cn X CA).K H2 (upd H2 _ (.lst (ws.set j v))) := Tups.wr h1 (ne_frz trivial)
            exact .inl ⟨_, ws, _, j, rfl, rfl, h1, by rw [rr.length]; exact ej, k _ _ _ _ q2 (p.e.mono (T.trans T3)) (R2.at T3 ⟨_, upd_same, (rr.set r0 j).m T3⟩) (T.trans T3) .refl⟩
          · exact q2.elim
        · exact q2.elim
      · split at q2
        · rename_i κ ek
          obtain ⟨ws, h1, rr⟩ := R2 _ _ (by assumption)
          have T3 : Tups (cn X CA).K H2 (upd H2 _ (.dK (putK ws κ v))) := Tups.wr h1 (ne_frz trivial)
          exact .inr (.inl ⟨_, ws, κ, rfl, r2.key ek, h1, by rw [Paired.length rr]; exact q2.1, k _ _ _ _ q2.2 (p.e.mono (T.trans T3)) (R2.at T3 ⟨_, upd_same, paired_mono (put_ins r0 rr) fun _ _ z => ⟨z.1, z.2.m T3⟩⟩) (T.trans T3) .refl⟩)
        · exact q2.elim
      · rename_i aa _ kvs eM
        obtain ⟨ws, h1, rr⟩ := R2 _ _ eM
        obtain ⟨hk, hz, q2⟩ := q2
        obtain ⟨xs, n, rfl, _, _⟩ := nkOk_nest hk
        cases r2 with
        | @tup bb _ _ s1 p1 =>
          have T3 : Tups (cn X CA).K H2 (upd H2 aa (NDict (cn X CA) aa (putN ws (nkD (.tup xs)) bb v))) := Tups.wr h1 (ne_frz trivial)
          exact .inr (.inr ⟨_, bb, ws, _, .tup xs, rfl, rfl, h1, rr, .tup s1 p1, hk, by rw [Paired.length rr]; exact hz, k _ _ _ _ q2 (p.e.mono (T.trans T3)) (R2.at T3 ⟨_, upd_same, paired_mono (putN_d hk (.tup s1 p1) r0 rr) fun _ _ z => ⟨z.1, z.2.1, z.2.2.1.m T3, z.2.2.2.m T3⟩⟩) (T.trans T3) .refl⟩)
      · exact q2.elim
    · exact q2.elim
/-! ## statements -/
theorem ss_nil : SSs X CA XE [] sNil := PSs_weak pss_nil fun D σ H ⟨env, M, Ed, Dd, p, q, k⟩ => k.nx _ _ _ _ q p.e p.r .refl
theorem ss_cons (h1 : SS X CA XE st s) (h2 : SSs X CA XE sts s') : SSs X CA XE (st :: sts) (sSeq s s') :=
  PSs_weak (pss_cons h1 h2) fun D σ H ⟨env, M, Ed, Dd, p, q, k⟩ => ⟨env, M, Ed, _, p, q, ⟨fun e' M' σ' H' q' r' R' T' => ⟨e', M', Ed, Dd, ⟨r', R', p.x.mono T'⟩, q', k.mono T'⟩, k.rt, k.bk, k.ct⟩⟩
theorem ss_one (h1 : SS X CA XE st s) : SSs X CA XE [st] s := pss_one h1
theorem s_asg (ha : SE X CA XE a f) (hg : SG false X CA XE vs tg gt) (hs : swapsWithSole [tg] a pos.line X.env = pure false := by rfl) (hw : swappedStores [tg] a X.env = pure none := by rfl)
    (h1 : (assignEach [tg] X.env).map (·.2) = [assign tg X.env] := by rfl) : SS X CA XE (.Assign [tg] a pos) (sAsg f gt) :=
  PS_weak (ps_asg ha hg hs hw h1) fun D σ H ⟨env, M, Ed, Dd, p, q, k⟩ => ⟨env, M, Ed, _, p, q, fun d M1 v H1 q1 r1 R1 T1 => ⟨d, env, M1, Ed, _, r1, p.to T1 R1, q1, fun e' M' σ' H' q' r' R' T' _ => k.nx _ _ _ _ q' r' R' (T1.trans T')⟩⟩
theorem s_set (i : Nat) {x : Str} {pos' : Pos} (hN : X.N.Nodup) (ha : SE X CA XE a f) (hi : X.N[i]? = some x := by rfl) (hx : Loc X.env.scope x := by first | exact Or.inl rfl | exact Or.inr rfl) (hs : swapsWith a (some (.Name x pos')) pos.line X.env = pure false := by rfl)
    (hf : X.fn x = true ∨ X.env.scope.names.lookup x = some .local := by first | exact .inl rfl | exact .inr rfl | assumption) : SS X CA XE (.Assign [.Name x pos'] a pos) (sAsg f (gName i)) :=
  PS_weak (ps_set hN hi hx ha hs hf) fun D σ H ⟨env, M, Ed, Dd, p, q, k⟩ => ⟨env, M, Ed, _, p, q, fun d M1 v H1 q1 r1 R1 T1 => k.nx _ _ _ _ q1 ((p.e.mono T1).put r1 i) R1 T1⟩
/-- a, b = x, y of local names -/
theorem s_par (i j : Nat) {x y : Str} {px py pt : Pos} {kt k2 pt2} (hc : X.calm = true) (hN : X.N.Nodup) (hij : i ≠ j) (ha : SE X CA XE a f) (hb : SE X CA XE b g)
    (hw : swappedStores [.Tuple [.Name x px, .Name y py] kt pt] (.Tuple [a, b] k2 pt2) X.env = pure (some [x, y])) (hi : X.N[i]? = some x := by rfl) (hj : X.N[j]? = some y := by rfl)
    (hx : X.env.scope.names.lookup x = some .local := by rfl) (hy : X.env.scope.names.lookup y = some .local := by rfl) (he : starEach [a, b] X.env = (false, eval a X.env) :: starEach [b] X.env := by rfl) (he2 : starEach [b] X.env = (false, eval b X.env) :: starEach [] X.env := by rfl)
    (hs : swapsWithSole [.Tuple [.Name x px, .Name y py] kt pt] (.Tuple [a, b] k2 pt2) pos.line X.env = pure false := by rfl) :
    SS X CA XE (.Assign [.Tuple [.Name x px, .Name y py] kt pt] (.Tuple [a, b] k2 pt2) pos) (sAsg (eTup [f, g]) (gTup [gName i, gName j])) :=
  PS_weak (ps_par hc hN hi hj hij hx hy (pa_cons ha (pa_cons hb pa_nil he2) he) hw hs) fun D σ H ⟨env, M, Ed, Dd, p, q, k⟩ => ⟨env, M, Ed, _, p, q, fun d1 M1 v1 H1 q1 r1 R1 T1 => ⟨env, M1, Ed, _, p.to T1 R1, q1, fun d2 M2 v2 H2 q2 r2 R2 T2 =>
    ⟨v1, v2, rfl, k.nx _ _ _ _ q2.2 ((((p.e.mono (T1.trans T2)).put (r1.m T2) i)).put r2 j) R2 (T1.trans T2)⟩⟩⟩
theorem s_par3 (i j l : Nat) {c : Expr} {x y z : Str} {px py pz pt : Pos} {kt k2 pt2} (hc : X.calm = true) (hN : X.N.Nodup) (hij : i ≠ j) (hil : i ≠ l) (hjl : j ≠ l) (ha : SE X CA XE a f) (hb : SE X CA XE b g) (hcc : SE X CA XE c h)
    (hw : swappedStores [.Tuple [.Name x px, .Name y py, .Name z pz] kt pt] (.Tuple [a, b, c] k2 pt2) X.env = pure (some [x, y, z])) (hi : X.N[i]? = some x := by rfl) (hj : X.N[j]? = some y := by rfl) (hl : X.N[l]? = some z := by rfl)
    (hx : X.env.scope.names.lookup x = some .local := by rfl) (hy : X.env.scope.names.lookup y = some .local := by rfl) (hz : X.env.scope.names.lookup z = some .local := by rfl) (he : starEach [a, b, c] X.env = (false, eval a X.env) :: starEach [b, c] X.env := by rfl) (he2 : starEach [b, c] X.env = (false, eval b X.env) :: starEach [c] X.env := by rfl) (he3 : starEach [c] X.env = (false, eval c X.env) :: starEach [] X.env := by rfl)
    (hs : swapsWithSole [.Tuple [.Name x px, .Name y py, .Name z pz] kt pt] (.Tuple [a, b, c] k2 pt2) pos.line X.env = pure false := by rfl) :
    SS X CA XE (.Assign [.Tuple [.Name x px, .Name y py, .Name z pz] kt pt] (.Tuple [a, b, c] k2 pt2) pos) (sAsg (eTup [f, g, h]) (gTup [gName i, gName j, gName l])) :=
  PS_weak (ps_par3 hc hN hi hj hl hij hil hjl hx hy hz (pa_cons ha (pa_cons hb (pa_cons hcc pa_nil he3) he2) he) hw hs) fun D σ H ⟨env, M, Ed, Dd, p, q, k⟩ => ⟨env, M, Ed, _, p, q, fun d1 M1 v1 H1 q1 r1 R1 T1 => ⟨env, M1, Ed, _, p.to T1 R1, q1, fun d2 M2 v2 H2 q2 r2 R2 T2 =>
    ⟨env, M2, Ed, _, p.to (T1.trans T2) R2, q2, fun d3 M3 v3 H3 q3 r3 R3 T3 => ⟨v1, v2, v3, rfl, k.nx _ _ _ _ q3.2 (((((p.e.mono (T1.trans (T2.trans T3))).put (r1.m (T2.trans T3)) i)).put (r2.m T3) j).put r3 l) R3 (T1.trans (T2.trans T3))⟩⟩⟩⟩
theorem s_expr (ha : SE X CA XE a f) (hs : swapsWith a none pos.line X.env = pure false := by rfl) : SS X CA XE (.Expr a pos) (sExpr f) :=
  PS_weak (ps_expr ha hs) fun D σ H ⟨env, M, Ed, Dd, p, q, k⟩ => ⟨env, M, Ed, _, p, q, fun d M1 v H1 q1 r1 R1 T1 => k.nx _ _ _ _ q1 (p.e.mono T1) R1 T1⟩
theorem s_ret (ha : SE X CA XE a f) : SS X CA XE (.Return (some a) pos) (sRet f) :=
  PS_weak (ps_ret ha) fun D σ H ⟨env, M, Ed, Dd, p, q, k⟩ => ⟨env, M, Ed, _, p, q, k.rt⟩
theorem s_retN : SS X CA XE (.Return none pos) sRetN := PS_weak ps_retN fun D σ H ⟨env, M, Ed, Dd, p, q, k⟩ => k.rt _ _ _ _ q .non p.r .refl
theorem s_pass : SS X CA XE (.Pass pos) sNil := PS_weak ps_pass fun D σ H ⟨env, M, Ed, Dd, p, q, k⟩ => k.nx _ _ _ _ q p.e p.r .refl
theorem s_break : SS X CA XE (.Break pos) sBreak := PS_weak ps_break fun D σ H ⟨env, M, Ed, Dd, p, q, k⟩ => k.bk _ _ _ _ q p.e p.r .refl
theorem s_cont : SS X CA XE (.Continue pos) sCont := PS_weak ps_continue fun D σ H ⟨env, M, Ed, Dd, p, q, k⟩ => k.ct _ _ _ _ q p.e p.r .refl
theorem s_never : SS X CA XE st sNever := PS_weak ps_never fun D σ H ⟨env, M, Ed, Dd, p, q, k⟩ => q
theorem s_if {c : Expr} (hc : ST X CA XE c t) (ha : SSs X CA XE sts s) (hb : SSs X CA XE sts' s') : SS X CA XE (.If c sts sts' pos) (sIf t s s') :=
  PS_weak (ps_if hc ha hb) fun D σ H ⟨env, M, Ed, Dd, p, q, k⟩ => ⟨env, M, Ed, _, p, q, fun c M1 H1 q1 R1 T1 => by
    cases c with
    | true => exact ⟨env, M1, Ed, Dd, p.to T1 R1, q1, k.mono T1⟩
    | false => exact ⟨env, M1, Ed, Dd, p.to T1 R1, q1, k.mono T1⟩⟩
theorem s_aug (i : Nat) {x : Str} {op : Operator} {b2 : B2} {ti : TIp} {pos' : Pos} (hN : X.N.Nodup) (ho : PIp X op ti) (hs : ∀ v1 v2 d1 d2 M H Qd Q, Rep X.K H v1 d1 → Rep X.K H v2 d2 → R (cn X CA) M H → b2 d1 d2 M Qd → KQ (cn X CA) H Qd Q → ti v1 v2 H Q) (ha : SE X CA XE a f)
    (hi : X.N[i]? = some x := by rfl) (hx : Loc X.env.scope x := by first | exact Or.inl rfl | exact Or.inr rfl) (hf : X.fn x = true ∨ X.env.scope.names.lookup x = some .local := by first | exact .inl rfl | exact .inr rfl | assumption) :
    SS X CA XE (.AugAssign (.Name x pos') op a pos) (sAug i b2 f) :=
  PS_weak (ps_aug hN hi hx ha ho hf) fun D σ H ⟨env, M, Ed, Dd, p, q, k⟩ => by
    unfold sAug at q
    split at q
    · rename_i d e
      obtain ⟨v, e1, r1⟩ := p.e.get e
      exact ⟨v, e1, env, M, Ed, _, p, q, fun d2 M1 v2 H1 q1 r2 R1 T1 => hs _ _ _ _ _ _ _ _ (r1.m T1) r2 R1 q1 fun d3 M2 v3 H2 q2 r3 R2 T2 => k.nx _ _ _ _ q2 ((p.e.mono (T1.trans T2)).put r3 i) R2 (T1.trans T2)⟩
    · exact q.elim
theorem s_augAdd (i : Nat) {x : Str} {pos' : Pos} (hN : X.N.Nodup) (ha : SE X CA XE a f)
    (hi : X.N[i]? = some x := by rfl) (hx : Loc X.env.scope x := by first | exact Or.inl rfl | exact Or.inr rfl) (hf : X.fn x = true ∨ X.env.scope.names.lookup x = some .local := by first | exact .inl rfl | exact .inr rfl | assumption) :
    SS X CA XE (.AugAssign (.Name x pos') .Add a pos) (sAug i ipAdd f) :=
  s_aug i hN ip_add (fun v1 v2 d1 d2 M H Qd Q r1 r2 hR h k => by
    unfold ipAdd at h
    split at h
    · cases r1; cases r2; exact ⟨_, _, rfl, rfl, k _ _ _ _ h (.int _) hR .refl⟩
    · exact h.elim) ha hi hx hf
theorem s_augSub (i : Nat) {x : Str} {pos' : Pos} (hN : X.N.Nodup) (ha : SE X CA XE a f)
    (hi : X.N[i]? = some x := by rfl) (hx : Loc X.env.scope x := by first | exact Or.inl rfl | exact Or.inr rfl) (hf : X.fn x = true ∨ X.env.scope.names.lookup x = some .local := by first | exact .inl rfl | exact .inr rfl | assumption) :
    SS X CA XE (.AugAssign (.Name x pos') .Sub a pos) (sAug i opSub f) :=
  s_aug i hN ip_sub (fun v1 v2 d1 d2 M H Qd Q r1 r2 hR h k => by
    unfold opSub at h
    split at h
    · cases r1; cases r2; exact ⟨_, _, rfl, rfl, k _ _ _ _ h (.int _) hR .refl⟩
    · exact h.elim) ha hi hx hf
/-! ## loops -/
section
variable {pins : List (Addr × Obj)} {σ : L2.St} {H : Hp} {s1 : Shared} {l : Addr} {xs : List V} {Rk : It → Hp → Prop}
theorem it_list (I1 : Inv X pins σ H s1) (hq : SqL X.K H l xs) (q : Rk (Itl X.K l) H) : wpAny (model X.prog X.w) X.A (pyIter (.ref l)) (PIE X pins σ tg Rk) X.xe s1 := by
  obtain ⟨its, rv, p, hz⟩ := I1.list hq
  refine wpAny_pyIter_list p.isList ?_
  refine ⟨s1.heap.objs.size, [s1.heap.objs.size], _, _, H, rfl, I1.kept (t' := s1.toks) fun b o e => Heap.get?_push_of_some _ e, turn_list l _, ⟨_, Heap.get?_push_size _ rfl, rfl, rfl⟩, fun b hb => ?_, q⟩
  have e : b = s1.heap.objs.size := by simpa using hb
  subst e
  exact I1.fpOk (Nat.le_refl _) (I1.hok.fresh (Nat.le_refl _))
theorem it_tup (I1 : Inv X pins σ H s1) (hq : SqT X.K H l xs) (q : Rk (Itt X.K l) H) : wpAny (model X.prog X.w) X.A (pyIter (.ref l)) (PIE X pins σ tg Rk) X.xe s1 := by
  obtain ⟨its, rv, p, hz⟩ := I1.tuple hq
  refine wpAny_pyIter_tuple (show s1.heap.IsTuple l its.toArray from p) ?_
  refine ⟨s1.heap.objs.size, [s1.heap.objs.size], _, _, H, rfl, I1.kept (t' := s1.toks) fun b o e => Heap.get?_push_of_some _ e, turn_tuple l _, ⟨_, Heap.get?_push_size _ rfl, rfl, rfl⟩, fun b hb => ?_, q⟩
  have e : b = s1.heap.objs.size := by simpa using hb
  subst e
  exact I1.fpOk (Nat.le_refl _) (I1.hok.fresh (Nat.le_refl _))
end
theorem itR_tup {c : Cn} {H1 : Hp} {l : Addr} {ws : List V} {ds : List D} (s : SqD c.K H1 l ws) (r : Reps c.K H1 ws ds) : ItR c false H1 (Itt c.K l) (fun _ => True) ds where
  go := fun i H M T R _ hi => ⟨ws, _, (T.t _ _ s).s, List.getElem?_eq_getElem (by rw [r.length]; exact hi)⟩
  stop := fun H M T R _ => ⟨ws, (T.t _ _ s).s, by rw [r.length]; exact Nat.le_refl _⟩
  yld := fun i H x H' M T R _ h d e => by
    obtain ⟨rfl, h⟩ := h
    obtain ⟨v, e1, rv⟩ := r.get e
    have := h ws (T.t _ _ s).s
    rw [e1] at this
    cases this
    exact ⟨Rep.m rv T, R, .refl⟩
theorem itR_lro {c : Cn} {H1 : Hp} {l : Addr} {ws : List V} {ds : List D} (s : SqF c.K H1 l ws) (r : Reps c.K H1 ws ds) : ItR c false H1 (Itl c.K l) (fun _ => True) ds where
  go := fun i H M T R _ hi => ⟨ws, _, (T.f _ _ s).l, List.getElem?_eq_getElem (by rw [r.length]; exact hi)⟩
  stop := fun H M T R _ => ⟨ws, (T.f _ _ s).l, by rw [r.length]; exact Nat.le_refl _⟩
  yld := fun i H x H' M T R _ h d e => by
    obtain ⟨rfl, h⟩ := h
    obtain ⟨v, e1, rv⟩ := r.get e
    have := h ws (T.f _ _ s).l
    rw [e1] at this
    cases this
    exact ⟨Rep.m rv T, R, .refl⟩
theorem itR_lst {c : Cn} {H1 : Hp} {l : Addr} {ds : List D} : ItR c false H1 (Itl c.K l) (fun M => M l = some (.lst ds)) ds where
  go := fun i H M T hR e hi => by
    obtain ⟨ws, h1, r⟩ := hR _ _ e
    exact ⟨ws, _, SqL.of h1, List.getElem?_eq_getElem (by rw [r.length]; exact hi)⟩
  stop := fun H M T hR e => by
    obtain ⟨ws, h1, r⟩ := hR _ _ e
    exact ⟨ws, SqL.of h1, by rw [r.length]; exact Nat.le_refl _⟩
  yld := fun i H x H' M T hR em h d e => by
    obtain ⟨rfl, h⟩ := h
    obtain ⟨ws, h1, r⟩ := hR _ _ em
    obtain ⟨v, e1, rv⟩ := r.get e
    have := h ws (SqL.of h1)
    rw [e1] at this
    cases this
    exact ⟨rv, hR, .refl⟩
theorem i_val (ha : SE X CA XE a f) : SI false X CA XE tg a (iVal f) := by
  refine ⟨fun pins s σ H Rk I ⟨env, M, Ed, kd, p, q, k⟩ => ?_⟩
  refine thn (ha.run pins s σ H (fun v H1 => ∃ d M1, (match d with
    | .tup xs => kd (fun _ => True) xs M1
    | .lro xs => kd (fun _ => True) xs M1
    | .ref a => match M1 a with
      | some (.lst xs) => kd (fun M' => M' a = some (.lst xs)) xs M1
      | _ => False
    | _ => False) ∧ Rep X.K H1 v d ∧ R (cn X CA) M1 H1 ∧ Tups X.K H H1) I ⟨env, M, Ed, _, p, q, fun d M1 v H1 q1 r1 R1 T1 => ⟨d, M1, q1, r1, R1, T1⟩⟩) fun v s1 ⟨x, H1, I1, rx, d, M1, q1, r1, R1, T1⟩ => ?_
  split at q1
  · cases r1 with
    | tup s1 p1 =>
      cases rx
      exact it_tup I1 s1.s (k _ _ _ _ _ q1 R1 T1 (itR_tup s1 p1))
  · cases r1 with
    | lro s1 p1 =>
      cases rx
      exact it_list I1 s1.l (k _ _ _ _ _ q1 R1 T1 (itR_lro s1 p1))
  · cases r1
    cases rx
    split at q1
    · obtain ⟨ws, h1, r⟩ := R1 _ _ (by assumption)
      exact it_list I1 (SqL.of h1) (k _ _ _ _ _ q1 R1 T1 itR_lst)
    · exact q1.elim
  · exact q1.elim
theorem rangeL_get {lo hi : Int} {i : Nat} {d : D} (h : (rangeL lo hi)[i]? = some d) : d = .int (lo + i) ∧ i < (hi - lo).toNat := by
  unfold rangeL at h
  rw [List.getElem?_map] at h
  by_cases hi' : i < (hi - lo).toNat
  · rw [List.getElem?_range hi'] at h
    cases h
    exact ⟨rfl, hi'⟩
  · rw [List.getElem?_eq_none (by rw [List.length_range]; omega)] at h
    cases h
theorem rangeL_length (lo hi : Int) : (rangeL lo hi).length = (hi - lo).toNat := by unfold rangeL; rw [List.length_map, List.length_range]
theorem itR_range {c : Cn} {H1 : Hp} {lo hi : Int} : ItR c false H1 (Itr lo (hi - lo).toNat) (fun _ => True) (rangeL lo hi) where
  go := fun i H M T hR e h => by rw [rangeL_length] at h; exact h
  stop := fun H M T hR e => by rw [rangeL_length]; exact Nat.le_refl _
  yld := fun i H x H' M T hR em h d e => by
    obtain ⟨rfl, rfl⟩ := h
    obtain ⟨rfl, _⟩ := rangeL_get e
    exact ⟨.int _, hR, .refl⟩
theorem i_range1 {p : Pos} (hm : X.mg "range" = none) (ha : SE X CA XE a f) (hg : Gl X "range" := by rfl) (he : starEach [a] X.env = (false, eval a X.env) :: starEach [] X.env := by rfl) (hs : starEach [a] X.env = [(false, eval a X.env)] := by rfl) : SI false X CA XE tg (.Call (.Name "range" p) [a] [] pos) (iRange1 f) :=
  PI_weak (pi_range1 hg hm (pa_cons ha pa_nil he) hs) fun σ H Rk ⟨env, M, Ed, kd, p, q, k⟩ => ⟨env, M, Ed, _, p, q, fun d M1 v H1 q1 r1 R1 T1 => by
    split at q1
    · rename_i j
      cases r1
      refine ⟨_, rfl, q1.1, q1.2.1, ?_⟩
      have := k _ _ _ _ _ q1.2.2 R1 T1 (itR_range (lo := 0) (hi := j))
      rw [Int.sub_zero] at this
      exact this
    · exact q1.elim⟩
theorem i_range2 {p : Pos} (hm : X.mg "range" = none) (ha : SE X CA XE a f) (hb : SE X CA XE b g) (hg : Gl X "range" := by rfl) (he : starEach [a, b] X.env = (false, eval a X.env) :: starEach [b] X.env := by rfl) (he2 : starEach [b] X.env = (false, eval b X.env) :: starEach [] X.env := by rfl) (hs : starEach [a, b] X.env = [(false, eval a X.env), (false, eval b X.env)] := by rfl) (hs2 : starEach [b] X.env = [(false, eval b X.env)] := by rfl) : SI false X CA XE tg (.Call (.Name "range" p) [a, b] [] pos) (iRange2 f g) :=
  PI_weak (pi_range2 hg hm (pa_cons ha (pa_cons hb pa_nil he2) he) hs hs2) fun σ H Rk ⟨env, M, Ed, kd, p, q, k⟩ => ⟨env, M, Ed, _, p, q, fun d M1 v H1 q1 r1 R1 T1 => ⟨env, M1, Ed, _, p.to T1 R1, q1, fun d2 M2 v2 H2 q2 r2 R2 T2 => by
    split at q2
    · cases r1; cases r2
      exact ⟨_, _, rfl, q2.1, k _ _ _ _ _ q2.2 R2 (T1.trans T2) itR_range⟩
    · exact q2.elim⟩⟩
theorem drop_get {α : Type} {xs : List α} {i : Nat} (h : i < xs.length) : xs.drop i = xs[i] :: xs.drop (i + 1) := List.drop_eq_getElem_cons h
theorem s_for (hp : PassesOwn (model X.prog X.w) X.A X.env X.xe) (hc : X.calm = true) (hi : SI y X CA XE tg iter src) (hg : SG y X CA XE vs tg gt) (hb : SSs X CA XE sts s) (hs : ∀ x, foldedSetIterable iter X.env x = pure x := by intro _; rfl) : SS X CA XE (.For tg iter sts [] pos) (sFor src gt s) :=
  PS_weak (ps_for hp hc hi hg hb hs) fun D σ H ⟨env, M, Ed, Dd, p, q, k⟩ => by
    refine ⟨env, M, Ed, _, p, q, fun chk xs M1 H1 J q1 R1 T1 it => ?_⟩
    refine ⟨fun i m σ' H' => m = xs.length - i ∧ i ≤ xs.length ∧ ∃ env' M', RelEnv X.K H' σ' env' ∧ R (cn X CA) M' H' ∧ Tups X.K H1 H' ∧ forL gt s chk (xs.drop i) Ed Dd env' M', ⟨xs.length, by simp, Nat.zero_le _, env, M1, p.e.mono T1, R1, .refl, by rw [List.drop_zero]; exact q1⟩, ?_⟩
    rintro i m σ' H' ⟨rfl, hi, env', M', e', R', T', q'⟩
    by_cases hlt : i < xs.length
    · rw [drop_get hlt] at q'
      obtain ⟨hck, q'⟩ := q'
      refine .inr ⟨it.go i H' M' T' R' hck hlt, fun σ2 H2 => (xs.length - (i + 1)) = xs.length - (i + 1) ∧ i + 1 ≤ xs.length ∧ ∃ env' M', RelEnv X.K H2 σ2 env' ∧ R (cn X CA) M' H2 ∧ Tups X.K H1 H2 ∧ forL gt s chk (xs.drop (i + 1)) Ed Dd env' M', fun σ2 H2 h2 => ⟨xs.length - (i + 1), by omega, h2⟩, fun x H2 yl => ?_⟩
      obtain ⟨rx, R2, T2⟩ := it.yld i H' x H2 M' T' R' hck yl xs[i] (List.getElem?_eq_getElem hlt)
      refine ⟨xs[i], env', M', Ed, _, rx, ⟨e'.mono T2, R2, p.x.mono (T1.trans (T'.trans T2))⟩, q', fun env3 M3 σ3 H3 q3 e3 R3 T3 _ => ?_⟩
      have T4 : Tups X.K H1 H3 := T'.trans (T2.trans T3)
      refine ⟨env3, M3, Ed, _, ⟨e3, R3, p.x.mono (T1.trans T4)⟩, q3, ⟨?_, k.rt.mono (T1.trans T4), (k.mono (T1.trans T4)).nx, ?_⟩⟩
      · exact fun e5 M5 σ5 H5 q5 r5 R5 T5 => ⟨rfl, hlt, e5, M5, r5, R5, T4.trans T5, q5⟩
      · exact fun e5 M5 σ5 H5 q5 r5 R5 T5 => ⟨rfl, hlt, e5, M5, r5, R5, T4.trans T5, q5⟩
    · have e : i = xs.length := by omega
      subst e
      rw [List.drop_length] at q'
      exact .inl ⟨it.stop H' M' T' R' q'.1, k.nx _ _ _ _ q'.2 e' R' (T1.trans T')⟩
theorem s_while {c : Expr} (hp : PassesOwn (model X.prog X.w) X.A X.env X.xe) (hc : ST X CA XE c t) (hb : SSs X CA XE sts s) : SS X CA XE (.While c sts [] pos) (sWhile t s) :=
  PS_weak (ps_while hp hc hb) fun D σ H ⟨env, M, Ed, Dd, p, q, k⟩ => by
    obtain ⟨W, ⟨m0, w0⟩, turn⟩ := q
    refine ⟨fun m σ' H' => ∃ env' M', RelEnv X.K H' σ' env' ∧ R (cn X CA) M' H' ∧ Tups X.K H H' ∧ W m env' M', ⟨m0, env, M, p.e, p.r, .refl, w0⟩, ?_⟩
    rintro m σ' H' ⟨env', M', e', R', T', w'⟩
    refine ⟨env', M', Ed, _, ⟨e', R', p.x.mono T'⟩, turn m env' M' w', fun b M2 H2 q2 R2 T2 => ?_⟩
    cases b with
    | true =>
      refine ⟨fun σ3 H3 => ∃ m', m' < m ∧ ∃ env' M', RelEnv X.K H3 σ3 env' ∧ R (cn X CA) M' H3 ∧ Tups X.K H H3 ∧ W m' env' M', fun σ3 H3 h => h, ?_⟩
      have T4 : Tups X.K H H2 := T'.trans T2
      refine ⟨env', M2, Ed, _, ⟨e'.mono T2, R2, p.x.mono T4⟩, q2, ⟨?_, k.rt.mono T4, (k.mono T4).nx, ?_⟩⟩
      · exact fun e5 M5 σ5 H5 ⟨m', hm, q5⟩ r5 R5 T5 => ⟨m', hm, e5, M5, r5, R5, T4.trans T5, q5⟩
      · exact fun e5 M5 σ5 H5 ⟨m', hm, q5⟩ r5 R5 T5 => ⟨m', hm, e5, M5, r5, R5, T4.trans T5, q5⟩
    | false => exact k.nx _ _ _ _ q2 (e'.mono T2) R2 (T'.trans T2)
/-! ## comprehensions -/
def STs (X : Cx) (CA : String → Addr) (XE : XK) (es : List Expr) (t : WT) : Prop := PTs X es (tOfT (cn X CA) XE t)
theorem PTs_weak {t t' : TT} (h : PTs X es t) (w : ∀ σ H Q, t' σ H Q → t σ H Q) : PTs X es t' := ⟨fun pins s σ H Q I q => h.run pins s σ H Q I (w σ H Q q)⟩
theorem ts_nil : STs X CA XE [] tYes := PTs_weak pts_nil fun σ H Q ⟨env, M, Ed, Qd, p, q, k⟩ => k _ _ _ q p.r .refl
theorem ts_one {c : Expr} (h : ST X CA XE c t) : STs X CA XE [c] t := pts_one h
theorem comp_of {own : List Nat} {t : WT} {f : WE} {src : WI} {gt : WG} {σ : L2.St} {H : Hp} {Q : VK} {env : Ev} {M : Sto} {Ed : XW} {Qd : KD} (p : Pre (cn X CA) XE σ H env M Ed) (q : eComp src own gt t f Ed env M Qd) (k : KQ (cn X CA) H Qd Q) :
    tLc (tOfI y (cn X CA) XE src) (tOfG y (cn X CA) E0 own gt) (tOfT (cn X CA) E0 t) (tOf (cn X CA) E0 f) own σ H Q := by
  refine ⟨env, M, Ed, _, p, q, fun chk xs M1 H1 J q1 R1 T1 it => fun D hD => ?_⟩
  obtain ⟨Rl, Tl⟩ := lay_lst (c := cn X CA) hD .nil R1
  have q1 := q1 D (R1.fresh hD)
  refine ⟨fun i m H' => m = xs.length - i ∧ i ≤ xs.length ∧ ∃ M', R (cn X CA) M' H' ∧ Tups X.K H1 H' ∧ compL D own gt t f env chk (xs.drop i) M' fun M2 => Qd (.ref D) M2, ⟨xs.length, by simp, Nat.zero_le _, _, Rl, Tl, by rw [List.drop_zero]; exact q1⟩, ?_⟩
  rintro i m H' ⟨rfl, hi, M', R', T', q'⟩
  by_cases hlt : i < xs.length
  · rw [drop_get hlt] at q'
    obtain ⟨hck, q'⟩ := q'
    refine .inr ⟨it.go i H' M' T' R' hck hlt, fun H2 => (xs.length - (i + 1)) = xs.length - (i + 1) ∧ i + 1 ≤ xs.length ∧ ∃ M', R (cn X CA) M' H2 ∧ Tups X.K H1 H2 ∧ compL D own gt t f env chk (xs.drop (i + 1)) M' fun M2 => Qd (.ref D) M2, fun H2 h2 => ⟨xs.length - (i + 1), by omega, h2⟩, fun x H2 yl => ?_⟩
    obtain ⟨rx, R2, T2⟩ := it.yld i H' x H2 M' T' R' hck yl xs[i] (List.getElem?_eq_getElem hlt)
    refine ⟨xs[i], DL.wipe env own, M', X0, _, rx, ⟨(p.e.wipe own).mono (T1.trans (T'.trans T2)), R2, KX.no⟩, q', fun env3 M3 σ3 H3 q3 e3 R3 T3 O3 => ⟨O3.wipe, ?_⟩⟩
    refine ⟨env3, M3, X0, _, ⟨e3, R3, KX.no⟩, q3, fun b M4 H4 q4 R4 T4 => ?_⟩
    have T5 : Tups X.K H1 H4 := T'.trans (T2.trans (T3.trans T4))
    cases b with
    | false => exact ⟨rfl, hlt, M4, R4, T5, q4⟩
    | true =>
      refine ⟨env3, M4, X0, _, ⟨e3.mono T4, R4, KX.no⟩, q4, fun d M6 v H6 q6 r6 R6 T6 => ?_⟩
      split at q6
      · obtain ⟨ws, h1, rr⟩ := R6 _ _ (by assumption)
        obtain ⟨a1, a2⟩ := wr_lst (c := cn X CA) R6 (by assumption) h1 (rr.append (.cons r6 .nil))
        exact ⟨ws, h1, by rw [rr.length]; exact q6.1, rfl, hlt, _, a1, T5.trans (T6.trans a2), q6.2⟩
      · exact q6.elim
  · have e : i = xs.length := by omega
    subst e
    rw [List.drop_length] at q'
    exact .inl ⟨it.stop H' M' T' R' q'.1, k _ _ _ _ q'.2 (.ref D) R' (T1.trans T')⟩
theorem d_comp {elt : Expr} {ifs : List Expr} {scope : Scope} {own : List (Str × Nat)} (hc : X.calm = true) (hN : X.N.Nodup) (hi : SI y X CA XE tg iter src) (ok : BlkOk X.N X.env.scope scope own)
    (hg : ∀ (s : Shared) (H : Hp) (C : Addr) (cl : List (Str × Addr)) (fp : List Addr), SG y (X.blk s H scope (compEnvC scope cl C X.env) fp) CA E0 (own.map (·.2)) tg gt)
    (ht : ∀ (s : Shared) (H : Hp) (C : Addr) (cl : List (Str × Addr)) (fp : List Addr), STs (X.blk s H scope (compEnvC scope cl C X.env) fp) CA E0 ifs t)
    (he : ∀ (s : Shared) (H : Hp) (C : Addr) (cl : List (Str × Addr)) (fp : List Addr), SE (X.blk s H scope (compEnvC scope cl C X.env) fp) CA E0 elt f) (hs : ∀ x, foldedSetIterable iter X.env x = pure x := by intro _; rfl) :
    SE X CA XE (.ListComp elt [⟨tg, iter, ifs, 0⟩] scope pos) (eComp src (own.map (·.2)) gt t f) :=
  PE_weak (pe_lc (g := tOfG y (cn X CA) E0 (own.map fun z : Str × Nat => z.2) gt) (tt := tOfT (cn X CA) E0 t) (te := tOf (cn X CA) E0 f) hc hN hi ok hg ht he hs) fun σ H Q ⟨env, M, Ed, Qd, p, q, k⟩ => comp_of p q k
theorem s_setComp (i : Nat) {v : Str} {py : Pos} {elt : Expr} {ifs : List Expr} {scope : Scope} {own : List (Str × Nat)} {lpos : Pos} (hc : X.calm = true) (hN : X.N.Nodup) (hsw : swapsWith (.ListComp elt [⟨tg, iter, ifs, 0⟩] scope lpos) (some (.Name v py)) pos.line X.env = pure true) (hi : SI y X CA XE tg iter src) (ok : BlkOk X.N X.env.scope scope own)
    (hg : ∀ (s : Shared) (H : Hp) (C : Addr) (cl : List (Str × Addr)) (fp : List Addr), SG y (X.blk s H scope (compEnvC scope cl C X.env) fp) CA E0 (own.map (·.2)) tg gt)
    (ht : ∀ (s : Shared) (H : Hp) (C : Addr) (cl : List (Str × Addr)) (fp : List Addr), STs (X.blk s H scope (compEnvC scope cl C X.env) fp) CA E0 ifs t)
    (he : ∀ (s : Shared) (H : Hp) (C : Addr) (cl : List (Str × Addr)) (fp : List Addr), SE (X.blk s H scope (compEnvC scope cl C X.env) fp) CA E0 elt f)
    (hy : X.N[i]? = some v := by rfl) (hyl : X.env.scope.names.lookup v = some .local := by rfl) (hs : ∀ x, foldedSetIterable iter X.env x = pure x := by intro _; rfl) :
    SS X CA XE (.Assign [.Name v py] (.ListComp elt [⟨tg, iter, ifs, 0⟩] scope lpos) pos) (sAsg (eComp src (own.map (·.2)) gt t f) (gName i)) :=
  PS_weak (ps_setLc (g := tOfG y (cn X CA) E0 (own.map fun z : Str × Nat => z.2) gt) (tt := tOfT (cn X CA) E0 t) (te := tOf (cn X CA) E0 f) hc hN hy hyl hsw hi ok hg ht he hs) fun D σ H ⟨env, M, Ed, Dd, p, q, k⟩ =>
    comp_of (Q := fun x H1 => L2.gName i x σ H1 D.nx) p q fun d M1 v H1 q1 r1 R1 T1 => k.nx _ _ _ _ q1 ((p.e.mono T1).put r1 i) R1 T1
end
end DL

set_option Elab.async false
set_option linter.all false
set_option maxRecDepth 100000
set_option maxHeartbeats 4000000
/-! DU: more rules: texts that are walked, is True -/
namespace DL
open PySem PySem.Spec PyProof.Rows L2
section
variable {X : Cx} {CA : String → Addr} {XE : XK} {a : Expr} {tg : Expr} {f : WE}
theorem itR_str {c : Cn} {H1 : Hp} {x : Str} : ItR c false H1 (Its x) (fun _ => True) (charsOf x) where
  go := fun i H M T hR e h => by show i < x.cps.size; simpa [charsOf] using h
  stop := fun H M T hR e => by show x.cps.size ≤ _; simp [charsOf]
  yld := fun i H v H' M T hR em h d e => by
    obtain ⟨rfl, c, hc, rfl⟩ := h
    have : d = .str ⟨#[c]⟩ := by
      unfold charsOf at e
      rw [List.getElem?_map, Array.getElem?_toList, hc] at e
      exact (Option.some.inj e).symm
    subst this
    exact ⟨.str _, hR, .refl⟩
theorem i_str (ha : SE X CA XE a f) : SI false X CA XE tg a (iChars f) :=
  PI_weak (pi_str ha) fun σ H Rk ⟨env, M, Ed, kd, p, q, k⟩ => ⟨env, M, Ed, _, p, q, fun d M1 v H1 q1 r1 R1 T1 => by
    split at q1
    · cases r1
      exact ⟨_, rfl, k _ _ _ _ _ q1 R1 T1 itR_str⟩
    · exact q1.elim⟩
theorem op_isB : OpR X (compareOp .Is) (fun x y H Q => ∃ a b, x = .bl a ∧ y = .bl b ∧ Q (.bl (a == b)) H) := by
  intro pins s σ H x y v u Q I rx ry h
  obtain ⟨a, b, rfl, rfl, q⟩ := h
  cases rx; cases ry
  show wpAny _ _ ((isSame (Value.bool a) (Value.bool b)) >>= fun z => pure (Value.bool z)) _ _ s
  exact wpAny_bind (wpAny_isSame_plain rfl (wpAny_pure (fin_bl I q (by cases a <;> cases b <;> rfl))))
theorem op_notB : OpR X (compareOp .IsNot) (fun x y H Q => ∃ a b, x = .bl a ∧ y = .bl b ∧ Q (.bl (!(a == b))) H) := by
  intro pins s σ H x y v u Q I rx ry h
  obtain ⟨a, b, rfl, rfl, q⟩ := h
  cases rx; cases ry
  show wpAny _ _ ((isSame (Value.bool a) (Value.bool b)) >>= fun z => pure (Value.bool (!z))) _ _ s
  exact wpAny_bind (wpAny_isSame_plain rfl (wpAny_pure (fin_bl I q (by cases a <;> cases b <;> rfl))))
theorem isBS {c : Cn} : CmpS c cIsB (fun x y H Q => ∃ a b, x = .bl a ∧ y = .bl b ∧ Q (.bl (a == b)) H) := by
  intro v1 v2 d1 d2 M H kd Q r1 r2 hR h k
  unfold cIsB at h
  split at h
  · cases r1; cases r2
    exact ⟨_, _, rfl, rfl, k _ h⟩
  · exact h.elim
theorem notBS {c : Cn} : CmpS c cNotB (fun x y H Q => ∃ a b, x = .bl a ∧ y = .bl b ∧ Q (.bl (!(a == b))) H) := by
  intro v1 v2 d1 d2 M H kd Q r1 r2 hR h k
  unfold cNotB at h
  split at h
  · cases r1; cases r2
    exact ⟨_, _, rfl, rfl, k _ h⟩
  · exact h.elim
end
end DL

set_option Elab.async false
set_option linter.all false
set_option maxRecDepth 100000
/-! DX: what proofs over the clean level lean on -/
namespace DL
open PySem
/-- of a smaller store: what lies in it lies in the other, too -/
def Le (M M' : Sto) : Prop := ∀ x o, M x = some o → M' x = some o
/-- what a def leaves behind beside what was asked may be forgotten -/
def endsL (Q : KD) : Ends := endsOf fun d M' => ∃ M0, Le M0 M' ∧ Q d M0
/-! ## the steps, one at a time -/
/-- what comes after a statement: simp stops here -/
def K (f : Ev → Sto → Prop) : Ev → Sto → Prop := f
theorem go {f : Ev → Sto → Prop} {e : Ev} {m : Sto} (h : f e m) : K f e m := h
def onS (x : Option D) (k : D → Prop) : Prop := match x with
  | some d => k d
  | none => False
@[simp] theorem onS_some {d : D} {k : D → Prop} : onS (some d) k = k d := id rfl
@[simp] theorem onS_none {k : D → Prop} : onS none k = False := id rfl
def subO (o : Option O) (y : D) (k : D → Prop) : Prop := match o with
  | some (.lst xs) => match y with
    | .int i => at' xs i k
    | _ => False
  | some o => dLk o y fun r => match r with
      | some d => k d
      | none => False
  | none => False
def lenO (o : Option O) (k : Nat → Prop) : Prop := match o with
  | some (.lst xs) => k xs.length
  | _ => False
def truO (o : Option O) (k : Bool → Prop) : Prop := match o with
  | some (.lst xs) => k (!xs.isEmpty)
  | some (.dk kvs) => k (!kvs.isEmpty)
  | _ => False
def lstO (o : Option O) (k : List D → Prop) : Prop := match o with
  | some (.lst xs) => k xs
  | _ => False
@[simp] theorem lstO_lst {xs : List D} {k : List D → Prop} : lstO (some (.lst xs)) k = k xs := id rfl
@[simp] theorem lenO_lst {xs : List D} {k : Nat → Prop} : lenO (some (.lst xs)) k = k xs.length := id rfl
@[simp] theorem truO_lst {xs : List D} {k : Bool → Prop} : truO (some (.lst xs)) k = k (!xs.isEmpty) := id rfl
@[simp] theorem truO_dk {xs : List (Key × D)} {k : Bool → Prop} : truO (some (.dk xs)) k = k (!xs.isEmpty) := id rfl
section
variable {E : XW} {env : Ev} {M : Sto} {Q : KD} {f g h : WE} {fs : List WE} {d e : D} {ds : List D} {D' : Ends} {s t : WS} {i j : Int} {n : Nat} {a b : Addr} {k : D → Prop} {xs ys : List D} {u v : WT} {T : Bool → Sto → Prop} {G H : WG} {B : Bool → Prop}
@[simp] theorem eVar_s : eVar n E env M Q = onS (gt env n) fun d => Q d M := id rfl
@[simp] theorem eC_s : eC d E env M Q = Q d M := id rfl
@[simp] theorem argsW_nil {Q : List D → Sto → Prop} : argsW [] E env M Q = Q [] M := id rfl
@[simp] theorem argsW_cons {Q : List D → Sto → Prop} : argsW (f :: fs) E env M Q = f E env M fun d M1 => argsW fs E env M1 fun ds M2 => Q (d :: ds) M2 := id rfl
@[simp] theorem eTup_s : eTup fs E env M Q = argsW fs E env M fun ds M1 => Q (.tup ds) M1 := id rfl
@[simp] theorem eLst_s : eLst fs E env M Q = argsW fs E env M fun ds M1 => ∀ p, M1 p = none → Q (.ref p) (M1.set p (.lst ds)) := id rfl
@[simp] theorem eBin_s {op : B2} : eBin op f g E env M Q = f E env M fun x M1 => g E env M1 fun y M2 => op x y M2 Q := id rfl
def negD (x : D) (k : Int → Prop) : Prop := match x with
  | .int i => k (-i)
  | _ => False
@[simp] theorem negD_int {k : Int → Prop} : negD (.int i) k = k (-i) := id rfl
@[simp] theorem eNeg_s : eNeg f E env M Q = f E env M fun x M1 => negD x fun i => Q (.int i) M1 := id rfl
@[simp] theorem eCmp_s {c : C2} : eCmp c f g E env M Q = f E env M fun x M1 => g E env M1 fun y M2 => c x y M2 fun b => Q (.bl b) M2 := id rfl
@[simp] theorem tCmp_s {c : C2} : tCmp c f g E env M T = f E env M fun x M1 => g E env M1 fun y M2 => c x y M2 fun b => T b M2 := id rfl
@[simp] theorem tChain_s {c c' : C2} : tChain c c' f g h E env M T = f E env M fun x M1 => g E env M1 fun y M2 => c x y M2 fun b =>
  if b = true then h E env M2 fun z M3 => c' y z M3 fun b' => T b' M3 else T false M2 := id rfl
@[simp] theorem tTru_s : tTru f E env M T = f E env M fun x M1 => truD x M1 fun b => T b M1 := id rfl
@[simp] theorem tAnd_s : tAnd u v E env M T = u E env M fun b M1 => if b = true then v E env M1 T else T false M1 := id rfl
@[simp] theorem tOr_s : tOr u v E env M T = u E env M fun b M1 => if b = true then T true M1 else v E env M1 T := id rfl
@[simp] theorem tNot_s : tNot u E env M T = u E env M fun b M1 => T (!b) M1 := id rfl
@[simp] theorem tYes_s : tYes E env M T = T true M := id rfl
def blD (x : D) (k : Bool → Prop) : Prop := match x with
  | .bl b => k b
  | _ => False
@[simp] theorem blD_bl {b : Bool} : blD (.bl b) B = B b := id rfl
@[simp] theorem eAnd_s : eAnd f g E env M Q = f E env M fun x M1 => blD x fun b => if b = true then g E env M1 Q else Q (.bl false) M1 := id rfl
@[simp] theorem eOr_s : eOr f g E env M Q = f E env M fun x M1 => blD x fun b => if b = true then Q (.bl true) M1 else g E env M1 Q := id rfl
@[simp] theorem eNotB_s : eNotB f E env M Q = f E env M fun x M1 => blD x fun b => Q (.bl (!b)) M1 := id rfl
@[simp] theorem eIf_s : eIf u f g E env M Q = u E env M fun b M1 => if b = true then f E env M1 Q else g E env M1 Q := id rfl
@[simp] theorem eSub_s : eSub f g E env M Q = f E env M fun x M1 => g E env M1 fun y M2 => subD x y M2 fun d => Q d M2 := id rfl
@[simp] theorem optW_none {Q : Option Int → Sto → Prop} : optW none E env M Q = Q none M := id rfl
def intD (x : D) (k : Int → Prop) : Prop := match x with
  | .int i => k i
  | _ => False
@[simp] theorem intD_int {k : Int → Prop} : intD (.int i) k = k i := id rfl
@[simp] theorem optW_some {Q : Option Int → Sto → Prop} : optW (some f) E env M Q = f E env M fun x M1 => intD x fun i => Q (some i) M1 := id rfl
@[simp] theorem eSl_s {lo hi : Option WE} : eSl f lo hi E env M Q = f E env M fun x M1 => optW lo E env M1 fun l M2 => optW hi E env M2 fun h M3 => slD x l h M3 Q := id rfl
@[simp] theorem eRev_s : eRev f E env M Q = f E env M fun x M1 => revD x M1 Q := id rfl
@[simp] theorem eCall_s {S : FD} : eCall S fs E env M Q = argsW fs E env M fun ds M1 => S E ds M1 Q := id rfl
@[simp] theorem eLen_s : eLen f E env M Q = f E env M fun x M1 => lenD x M1 fun n => Q (.int n) M1 := id rfl
@[simp] theorem eAbs_s : eAbs f E env M Q = f E env M fun x M1 => intD x fun i => Q (.int (if i < 0 then -i else i)) M1 := id rfl
def int1D (x : D) (k : Int → Prop) : Prop := match x with
  | .int i => k i
  | .bl b => k (if b then 1 else 0)
  | _ => False
@[simp] theorem int1D_int {k : Int → Prop} : int1D (.int i) k = k i := id rfl
@[simp] theorem int1D_bl {b : Bool} {k : Int → Prop} : int1D (.bl b) k = k (if b then 1 else 0) := id rfl
@[simp] theorem eInt_s : eInt f E env M Q = f E env M fun x M1 => int1D x fun i => Q (.int i) M1 := by
  unfold eInt int1D
  first | rfl | (congr 1; done) | (congr 1; funext x M1; cases x <;> rfl)
def itD (x : D) (M : Sto) (k : List D → Prop) : Prop := match x with
  | .tup xs => k xs
  | .ref a => lstO (M a) k
  | _ => False
@[simp] theorem itD_tup {k : List D → Prop} : itD (.tup xs) M k = k xs := id rfl
@[simp] theorem itD_ref {k : List D → Prop} : itD (.ref a) M k = lstO (M a) k := id rfl
@[simp] theorem eTupOf_s : eTupOf f E env M Q = f E env M fun x M1 => itD x M1 fun xs => Q (.tup xs) M1 := by
  unfold eTupOf itD lstO
  first | rfl | (congr 1; done) | (congr 1; funext x M1; cases x <;> rfl)
@[simp] theorem subD_tup : subD (.tup xs) (.int i) M k = at' xs i k := id rfl
@[simp] theorem subD_lro : subD (.lro xs) (.int i) M k = at' xs i k := id rfl
@[simp] theorem subD_ref : subD (.ref a) d M k = subO (M a) d k := id rfl
@[simp] theorem subO_lst : subO (some (.lst xs)) (.int i) k = at' xs i k := id rfl
@[simp] theorem subO_dkS {kvs : List (Key × D)} {z : Str} : subO (some (.dk kvs)) (.str z) k = onS (lk kvs (.inr z)) k := id rfl
@[simp] theorem subO_dkI {kvs : List (Key × D)} {z : Int} : subO (some (.dk kvs)) (.int z) k = onS (lk kvs (.inl z)) k := id rfl
@[simp] theorem at_s : at' xs i k = onS (L2.atI xs i) k := id rfl
@[simp] theorem lenD_tup {k : Nat → Prop} : lenD (.tup xs) M k = k xs.length := id rfl
@[simp] theorem lenD_lro {k : Nat → Prop} : lenD (.lro xs) M k = k xs.length := id rfl
@[simp] theorem lenD_str {z : Str} {k : Nat → Prop} : lenD (.str z) M k = (z.length ≤ sizeLine ∧ k z.length) := id rfl
@[simp] theorem lenD_ref {k : Nat → Prop} : lenD (.ref a) M k = lenO (M a) k := id rfl
@[simp] theorem truD_non : truD .non M B = B false := id rfl
@[simp] theorem truD_bl {b : Bool} : truD (.bl b) M B = B b := id rfl
@[simp] theorem truD_int : truD (.int i) M B = B (i != 0) := id rfl
@[simp] theorem truD_tup : truD (.tup xs) M B = B (!xs.isEmpty) := id rfl
@[simp] theorem truD_ref : truD (.ref a) M B = truO (M a) B := id rfl
@[simp] theorem opAdd_int : opAdd (.int i) (.int j) M Q = Q (.int (i + j)) M := id rfl
@[simp] theorem opAdd_str {a b : Str} : opAdd (.str a) (.str b) M Q = (a.length + b.length ≤ sizeLine ∧ Q (.str (a ++ b)) M) := id rfl
@[simp] theorem opAdd_tup : opAdd (.tup xs) (.tup ys) M Q = (xs.length + ys.length ≤ sizeLine ∧ Q (.tup (xs ++ ys)) M) := id rfl
@[simp] theorem opAdd_ref : opAdd (.ref a) (.ref b) M Q = (lstO (M a) fun xs => lstO (M b) fun ys => xs.length + ys.length ≤ sizeLine ∧ ∀ p, M p = none → Q (.ref p) (M.set p (.lst (xs ++ ys)))) := by
  unfold opAdd lstO
  dsimp only
  generalize M a = x
  generalize M b = y
  rcases x with _ | o <;> rcases y with _ | o' <;> first | rfl | (cases o <;> first | rfl | (cases o' <;> rfl))
@[simp] theorem ipAdd_int : ipAdd (.int i) (.int j) M Q = Q (.int (i + j)) M := id rfl
@[simp] theorem opSub_int : opSub (.int i) (.int j) M Q = Q (.int (i - j)) M := id rfl
@[simp] theorem opMul_int : opMul (.int i) (.int j) M Q = (IntMulOk i j ∧ Q (.int (i * j)) M) := id rfl
@[simp] theorem opDiv_int : opDiv (.int i) (.int j) M Q = (j ≠ 0 ∧ Builtin.divisionGoesByPylong i j = false ∧ Q (.int (i.fdiv j)) M) := id rfl
@[simp] theorem opMod_int : opMod (.int i) (.int j) M Q = (j ≠ 0 ∧ Q (.int (i.fmod j)) M) := id rfl
@[simp] theorem opPow_int : opPow (.int i) (.int j) M Q = (0 ≤ j ∧ j ≤ 1000000 ∧ i.natAbs < 2 ^ 64 ∧ Q (.int (i ^ j.toNat)) M) := id rfl
@[simp] theorem cEq_int : cEq (.int i) (.int j) M B = B (decide (i = j)) := id rfl
@[simp] theorem cEq_str {a b : Str} : cEq (.str a) (.str b) M B = B (decide (a = b)) := id rfl
@[simp] theorem cEq_bl {a b : Bool} : cEq (.bl a) (.bl b) M B = B (a == b) := id rfl
@[simp] theorem cNe_s : cNe d e M B = cEq d e M fun b => B (!b) := id rfl
@[simp] theorem cLt_int : cLt (.int i) (.int j) M B = B (decide (i < j)) := id rfl
@[simp] theorem cLe_int : cLe (.int i) (.int j) M B = B (decide (i ≤ j)) := id rfl
@[simp] theorem cGt_int : cGt (.int i) (.int j) M B = B (decide (j < i)) := id rfl
@[simp] theorem cGe_int : cGe (.int i) (.int j) M B = B (decide (j ≤ i)) := id rfl
@[simp] theorem cIsN_s : cIsN d .non M B = B (decide (d = .non)) := id rfl
@[simp] theorem cNotN_s : cNotN d .non M B = B (!decide (d = .non)) := id rfl
@[simp] theorem cNotIn_s : cNotIn d e M B = cIn d e M fun b => B (!b) := id rfl
@[simp] theorem slD_tup {lo hi : Option Int} : slD (.tup xs) lo hi M Q = Q (.tup (cut xs lo hi)) M := id rfl
@[simp] theorem slD_lro {lo hi : Option Int} : slD (.lro xs) lo hi M Q = ∀ p, M p = none → Q (.ref p) (M.set p (.lst (cut xs lo hi))) := id rfl
@[simp] theorem slD_ref {lo hi : Option Int} : slD (.ref a) lo hi M Q = lstO (M a) fun xs => ∀ p, M p = none → Q (.ref p) (M.set p (.lst (cut xs lo hi))) := id rfl
@[simp] theorem lstAt_s {k : Addr → List D → Prop} : lstAt (.ref a) M k = lstO (M a) fun xs => k a xs := id rfl
@[simp] theorem eAppend_s : eAppend f g E env M Q = f E env M fun x M1 => lstAt x M1 fun _ _ => g E env M1 fun y M2 => lstAt x M2 fun a xs => xs.length < sizeLine ∧ Q .non (M2.set a (.lst (xs ++ [y]))) := id rfl
@[simp] theorem ePop_s : ePop f E env M Q = f E env M fun x M1 => lstAt x M1 fun a xs => onS xs.getLast? fun y => Q y (M1.set a (.lst xs.dropLast)) := id rfl
@[simp] theorem eExtend_s : eExtend f g E env M Q = f E env M fun x M1 => lstAt x M1 fun _ _ => g E env M1 fun y M2 => lstAt x M2 fun a xs => lstAt y M2 fun _ ys => xs.length + ys.length ≤ sizeLine ∧ Q .non (M2.set a (.lst (xs ++ ys))) := id rfl
/-! what is walked -/
@[simp] theorem iRange1_s {k : (Sto → Prop) → List D → Sto → Prop} : iRange1 f E env M k = f E env M fun x M1 => intD x fun j => -(2 ^ 62) ≤ j ∧ j < 2 ^ 62 ∧ k (fun _ => True) (rangeL 0 j) M1 := id rfl
def valI (x : D) (M : Sto) (k : (Sto → Prop) → List D → Sto → Prop) : Prop := match x with
  | .tup xs => k (fun _ => True) xs M
  | .lro xs => k (fun _ => True) xs M
  | .ref a => lstO (M a) fun xs => k (fun M' => M' a = some (.lst xs)) xs M
  | _ => False
@[simp] theorem valI_tup {k : (Sto → Prop) → List D → Sto → Prop} : valI (.tup xs) M k = k (fun _ => True) xs M := id rfl
@[simp] theorem valI_lro {k : (Sto → Prop) → List D → Sto → Prop} : valI (.lro xs) M k = k (fun _ => True) xs M := id rfl
@[simp] theorem valI_ref {k : (Sto → Prop) → List D → Sto → Prop} : valI (.ref a) M k = lstO (M a) fun xs => k (fun M' => M' a = some (.lst xs)) xs M := id rfl
@[simp] theorem iVal_s {k : (Sto → Prop) → List D → Sto → Prop} : iVal f E env M k = f E env M fun x M1 => valI x M1 k := by
  unfold iVal valI lstO
  first | rfl | (congr 1; done) | (congr 1; funext x M1; cases x <;> rfl)
/-! targets, statements -/
@[simp] theorem gName_s {P : Ev → Sto → Prop} : gName n d E env M P = P (put env n d) M := id rfl
@[simp] theorem gAll_nil {P : Ev → Sto → Prop} : gAll [] [] E env M P = P env M := id rfl
@[simp] theorem gAll_cons {P : Ev → Sto → Prop} {gs : List WG} : gAll (G :: gs) (d :: ds) E env M P = G d E env M fun env1 M1 => gAll gs ds E env1 M1 P := id rfl
@[simp] theorem gTup_s {P : Ev → Sto → Prop} {gs : List WG} : gTup gs (.tup ds) E env M P = (ds.length = gs.length ∧ gAll gs ds E env M P) := id rfl
@[simp] theorem gSub_s {P : Ev → Sto → Prop} : gSub f g d E env M P = f E env M fun o M1 => g E env M1 fun i M2 => setD o i d M2 fun M3 => P env M3 := id rfl
def onN (x : Option Nat) (k : Nat → Prop) : Prop := match x with
  | some d => k d
  | none => False
@[simp] theorem onN_some {k : Nat → Prop} : onN (some n) k = k n := id rfl
def setO (o : Option O) (i d : D) (Q : O → Prop) : Prop := match o with
    | some (.lst xs) => match i with
      | .int k => onN (L2.ixN xs.length k) fun j => Q (.lst (xs.set j d))
      | _ => False
    | some (.dk kvs) => match keyD i with
      | some κ => kvs.length < sizeLine ∧ Q (.dk (ins kvs κ d))
      | none => False
    | some (.dn kvs) => nkOk i = true ∧ kvs.length < sizeLine ∧ Q (.dn (ins kvs i d))
    | _ => False
@[simp] theorem setD_ref {P : Sto → Prop} {y : D} : setD (.ref a) y d M P = setO (M a) y d fun o => P (M.set a o) := by
  unfold setD setO
  dsimp only
  generalize M a = x
  rcases x with _ | o
  · rfl
  · cases o with
    | lst xs => cases y <;> first | rfl | (dsimp only; split <;> simp_all [onN])
    | dk _ => first | (dsimp only; done) | (dsimp only; cases keyD y <;> rfl)
    | dn _ => rfl
    | ins _ _ => rfl
    | dkF _ => rfl
    | dnF _ => rfl
@[simp] theorem setO_lst {P : O → Prop} : setO (some (.lst xs)) (.int i) d P = onN (L2.ixN xs.length i) fun j => P (.lst (xs.set j d)) := id rfl
@[simp] theorem setO_dkS {P : O → Prop} {kvs : List (Key × D)} {z : Str} : setO (some (.dk kvs)) (.str z) d P = (kvs.length < sizeLine ∧ P (.dk (ins kvs (.inr z) d))) := id rfl
@[simp] theorem setO_dkI {P : O → Prop} {kvs : List (Key × D)} {z : Int} : setO (some (.dk kvs)) (.int z) d P = (kvs.length < sizeLine ∧ P (.dk (ins kvs (.inl z) d))) := id rfl
@[simp] theorem setO_dn {P : O → Prop} {kvs : List (D × D)} : setO (some (.dn kvs)) e d P = (nkOk e = true ∧ kvs.length < sizeLine ∧ P (.dn (ins kvs e d))) := by
  cases e <;> rfl
@[simp] theorem sNil_s : sNil E D' env M = D'.nx env M := id rfl
@[simp] theorem sSeq_s : sSeq s t E D' env M = s E { D' with nx := K (t E D') } env M := id rfl
@[simp] theorem sAsg_s : sAsg f G E D' env M = f E env M fun d M1 => G d E env M1 D'.nx := id rfl
@[simp] theorem sAug_s {op : B2} : sAug n op f E D' env M = onS (gt env n) fun x => f E env M fun y M1 => op x y M1 fun z M2 => D'.nx (put env n z) M2 := id rfl
@[simp] theorem sExpr_s : sExpr f E D' env M = f E env M fun _ M1 => D'.nx env M1 := id rfl
@[simp] theorem sRet_s : sRet f E D' env M = f E env M D'.rt := id rfl
@[simp] theorem sRetN_s : sRetN E D' env M = D'.rt .non M := id rfl
@[simp] theorem sIf_s : sIf u s t E D' env M = u E env M fun c M1 => if c = true then s E D' env M1 else t E D' env M1 := id rfl
@[simp] theorem sBreak_s : sBreak E D' env M = D'.bk env M := id rfl
@[simp] theorem sCont_s : sCont E D' env M = D'.ct env M := id rfl
@[simp] theorem sFor_s {src : WI} : sFor src G s E D' env M = src E env M fun chk xs M1 => forL G s chk xs E D' env M1 := id rfl
@[simp] theorem eComp_s {src : WI} {vs : List Nat} : eComp src vs G u f E env M Q = src E env M fun chk xs M1 => ∀ p, M1 p = none →
  compL p vs G u f env chk xs (M1.set p (.lst [])) fun M2 => Q (.ref p) M2 := id rfl
/-! loops -/
theorem forL_nil {chk : Sto → Prop} : forL G s chk [] E D' env M = (chk M ∧ D'.nx env M) := id rfl
theorem forL_cons {chk : Sto → Prop} {x : D} : forL G s chk (x :: xs) E D' env M = (chk M ∧ G x E env M fun env1 M1 => s E { D' with nx := K (forL G s chk xs E D'), ct := K (forL G s chk xs E D'), bk := D'.nx } env1 M1) := id rfl
theorem compL_nil {p : Addr} {vs : List Nat} {chk : Sto → Prop} {P : Sto → Prop} : compL p vs G u f env chk [] M P = (chk M ∧ P M) := id rfl
theorem compL_cons {p : Addr} {vs : List Nat} {chk : Sto → Prop} {P : Sto → Prop} {x : D} : compL p vs G u f env chk (x :: xs) M P = (chk M ∧ G x X0 (wipe env vs) M fun env1 M1 => u X0 env1 M1 fun b M2 =>
    if b = true then f X0 env1 M2 fun d M3 => lstO (M3 p) fun acc => acc.length < sizeLine ∧ compL p vs G u f env chk xs (M3.set p (.lst (acc ++ [d]))) P
    else compL p vs G u f env chk xs M2 P) := id rfl
end
theorem Le.refl {M : Sto} : Le M M := fun _ _ h => h
theorem Le.trans {M M' M'' : Sto} (h : Le M M') (h' : Le M' M'') : Le M M'' := fun x o e => h' x o (h x o e)
theorem Le.fresh {M M' : Sto} {p : Addr} {o : O} (h : Le M M') (hp : M p = none) : Le M (M'.set p o) := fun x u e => by
  have : x ≠ p := fun he => by subst he; rw [hp] at e; cases e
  rw [set_ne this]; exact h x u e
theorem Le.set {M M' : Sto} {p : Addr} {o : O} (h : Le M M') : Le (M.set p o) (M'.set p o) := fun x u e => by
  by_cases hx : x = p
  · subst hx; rw [set_same] at e ⊢; exact e
  · rw [set_ne hx] at e ⊢; exact h x u e
/-- beside one place -/
def LeX (a : Addr) (M M' : Sto) : Prop := ∀ x o, x ≠ a → M x = some o → M' x = some o
theorem LeX.refl {a : Addr} {M : Sto} : LeX a M M := fun _ _ _ h => h
theorem LeX.fresh {a : Addr} {M M' : Sto} {p : Addr} {o : O} (h : LeX a M M') (hp : M p = none) : LeX a M (M'.set p o) := fun x u n e => by
  have : x ≠ p := fun he => by subst he; rw [hp] at e; cases e
  rw [set_ne this]; exact h x u n e
theorem LeX.at {a : Addr} {M M' : Sto} {o : O} (h : LeX a M M') : LeX a M (M'.set a o) := fun x u n e => by
  rw [set_ne n]; exact h x u n e
theorem LeX.trans {a : Addr} {M M' M'' : Sto} (h : LeX a M M') (h' : LeX a M' M'') : LeX a M M'' := fun x o n e => h' x o n (h x o n e)
theorem LeX.le {a : Addr} {M M' : Sto} {o : O} (h : LeX a M M') (e : M' a = some o) : Le (M.set a o) M' := fun x u ex => by
  by_cases hx : x = a
  · subst hx; rw [set_same] at ex; rw [e]; exact ex
  · rw [set_ne hx] at ex; exact h x u hx ex
theorem set_none {M : Sto} {a p : Addr} {o : O} : M.set a o p = none ↔ p ≠ a ∧ M p = none := by
  by_cases h : p = a
  · subst h; rw [set_same]; simp
  · rw [set_ne h]; simp [h]
theorem fdiv_pos {a b : Int} (h : 0 < b) : a.fdiv b = a / b := Int.fdiv_eq_ediv_of_nonneg a (Int.le_of_lt h)
theorem fmod_pos {a b : Int} (h : 0 < b) : a.fmod b = a % b := Int.fmod_eq_emod_of_nonneg a (Int.le_of_lt h)
theorem mulOk_small {a b : Int} (h : b.natAbs < 2 ^ 63) : IntMulOk a b := IntMulOk.of_right (intBits_le_64 (by omega) (by omega))
theorem mulOk_small' {a b : Int} (h : a.natAbs < 2 ^ 63) : IntMulOk a b := IntMulOk.of_left (intBits_le_64 (by omega) (by omega))
theorem getElem_map {α : Type} {xs : List α} {f : α → D} {i : Nat} : (xs.map f)[i]? = xs[i]?.map f := by simp
@[simp] theorem atI_s {α : Type} (xs : List α) (i : Int) : L2.atI xs i = (L2.ixN xs.length i).bind fun j => xs[j]? := id rfl
@[simp] theorem ixN_s (n : Nat) (i : Int) : L2.ixN n i = if 0 ≤ i then (if i < n then some i.toNat else none) else if -(n : Int) ≤ i then some (i + n).toNat else none := id rfl
/-! ## how big a number is -/
structure Sm (m : Nat) (x : Int) : Prop where
  h : x.natAbs < 2 ^ m
theorem Sm.bits {m : Nat} {x : Int} (h : Sm m x) : Builtin.Int.intBits x ≤ m := intBits_le_iff.mpr h.h
theorem Sm.of_bits {m : Nat} {x : Int} (h : Builtin.Int.intBits x ≤ m) : Sm m x := ⟨intBits_le_iff.mp h⟩
theorem Sm.mono {m n : Nat} {x : Int} (h : Sm m x) (hl : m ≤ n) : Sm n x := ⟨Nat.lt_of_lt_of_le h.h (Nat.pow_le_pow_right (by decide) hl)⟩
theorem Sm.mul {m n : Nat} {x y : Int} (hx : Sm m x) (hy : Sm n y) : Sm (m + n) (x * y) := .of_bits (intBits_mul_le hx.bits hy.bits)
theorem Sm.add {m n : Nat} {x y : Int} (hx : Sm m x) (hy : Sm n y) : Sm (max m n + 1) (x + y) := .of_bits (intBits_add_le hx.bits hy.bits)
theorem Sm.of_le {m : Nat} {x y : Int} (h : x.natAbs ≤ y.natAbs) (hy : Sm m y) : Sm m x := ⟨Nat.lt_of_le_of_lt h hy.h⟩
theorem Sm.neg {m : Nat} {x : Int} (hx : Sm m x) : Sm m (-x) := hx.of_le (by omega)
theorem Sm.lit {m : Nat} {x : Int} (h : x.natAbs < 2 ^ 60) (hm : 60 ≤ m) : Sm m x := Sm.mono (m := 60) ⟨h⟩ hm
theorem Sm.mulOk {m n : Nat} {x y : Int} (hx : Sm m x) (hy : Sm n y) (h : m + n ≤ 134217728) : IntMulOk x y := IntMulOk.of_le hx.bits hy.bits h
theorem Sm.np {m : Nat} {x y : Int} (h : Sm m y) (hm : m < 9000) : Builtin.divisionGoesByPylong x y = false := by
  refine PyProof.noPylong_of_log2 ?_
  by_cases h0 : y.natAbs = 0
  · rw [h0, Nat.log2_zero]; omega
  · exact Nat.lt_of_lt_of_le ((Nat.log2_lt h0).mpr h.h) (Nat.le_of_lt hm)
theorem np_small {x y : Int} (h : y.natAbs < 1073741824) : Builtin.divisionGoesByPylong x y = false := PyProof.noPylong_small h
theorem fn1_e {g : D → XW → Sto → KD → Prop} {E : XW} {ds : List D} {M : Sto} {Q : KD} (h : fn1 g E ds M Q) : ∃ x, ds = [x] ∧ g x E M Q := by
  unfold fn1 at h; split at h
  · exact ⟨_, rfl, h⟩
  · exact h.elim
theorem fn2_e {g : D → D → XW → Sto → KD → Prop} {E : XW} {ds : List D} {M : Sto} {Q : KD} (h : fn2 g E ds M Q) : ∃ x y, ds = [x, y] ∧ g x y E M Q := by
  unfold fn2 at h; split at h
  · exact ⟨_, _, rfl, h⟩
  · exact h.elim
theorem fn3_e {g : D → D → D → XW → Sto → KD → Prop} {E : XW} {ds : List D} {M : Sto} {Q : KD} (h : fn3 g E ds M Q) : ∃ x y z, ds = [x, y, z] ∧ g x y z E M Q := by
  unfold fn3 at h; split at h
  · exact ⟨_, _, _, rfl, h⟩
  · exact h.elim
theorem fn4_e {g : D → D → D → D → XW → Sto → KD → Prop} {E : XW} {ds : List D} {M : Sto} {Q : KD} (h : fn4 g E ds M Q) : ∃ x y z u, ds = [x, y, z, u] ∧ g x y z u E M Q := by
  unfold fn4 at h; split at h
  · exact ⟨_, _, _, _, rfl, h⟩
  · exact h.elim
theorem fn5_e {g : D → D → D → D → D → XW → Sto → KD → Prop} {E : XW} {ds : List D} {M : Sto} {Q : KD} (h : fn5 g E ds M Q) : ∃ x y z u v, ds = [x, y, z, u, v] ∧ g x y z u v E M Q := by
  unfold fn5 at h; split at h
  · exact ⟨_, _, _, _, _, rfl, h⟩
  · exact h.elim
theorem rt_endsL {Q : KD} {d : D} {M0 M : Sto} (l : Le M0 M) (q : Q d M0) : (endsL Q).rt d M := ⟨M0, l, q⟩
@[simp] theorem endsL_rt {Q : KD} {d : D} {M : Sto} : (endsL Q).rt d M ↔ ∃ M0, Le M0 M ∧ Q d M0 := Iff.rfl
@[simp] theorem endsL_nx {Q : KD} {e : Ev} {M : Sto} : (endsL Q).nx e M ↔ ∃ M0, Le M0 M ∧ Q .non M0 := Iff.rfl
/-! ## loops and comprehensions by what stays -/
section
variable {E : XW} {env : Ev} {M : Sto} {f : WE} {D' : Ends} {s : WS} {G : WG} {p : Addr} {vs : List Nat} {chk : Sto → Prop} {P : Sto → Prop}
theorem for_ind (I : List D → Ev → Sto → Prop)
    (step : ∀ x xs e m, I (x :: xs) e m → chk m ∧ ∀ N : Ev → Sto → Prop, (∀ e' m', I xs e' m' → N e' m') → G x E e m fun e1 m1 => s E { D' with nx := N, ct := N, bk := D'.nx } e1 m1)
    (last : ∀ e m, I [] e m → chk m ∧ D'.nx e m) : ∀ xs e m, I xs e m → forL G s chk xs E D' e m
  | [], e, m, h => by rw [forL_nil]; exact last e m h
  | x :: xs, e, m, h => by
    rw [forL_cons]
    have h' := step x xs e m h
    exact ⟨h'.1, h'.2 _ fun e' m' hi => for_ind I step last xs e' m' hi⟩
theorem comp_ind (I : List D → List D → Sto → Prop)
    (step : ∀ x xs acc m, I acc (x :: xs) m → chk m ∧ acc.length < sizeLine ∧ ∀ T : KD, (∀ d m', m' p = some (.lst acc) → I (acc ++ [d]) xs (m'.set p (.lst (acc ++ [d]))) → T d m') →
      G x X0 (wipe env vs) m fun e1 m1 => f X0 e1 m1 T)
    (last : ∀ acc m, I acc [] m → chk m ∧ P m) : ∀ xs acc m, I acc xs m → compL p vs G tYes f env chk xs m P
  | [], acc, m, h => by rw [compL_nil]; exact last acc m h
  | x :: xs, acc, m, h => by
    rw [compL_cons]
    have h' := step x xs acc m h
    refine ⟨h'.1, ?_⟩
    simp only [tYes_s, if_pos]
    exact h'.2.2 _ fun d m' e hi => by
      rw [e, lstO_lst]; exact ⟨h'.2.1, comp_ind I step last xs _ _ hi⟩
theorem comp_map (val : D → D) (R : Sto → Prop) (hR : ∀ m o, R m → R (m.set p o)) (hc : ∀ m, R m → chk m) : ∀ (xs acc : List D) (M : Sto),
    (∀ x ∈ xs, ∀ m (T : KD), R m → T (val x) m → G x X0 (wipe env vs) m fun e1 m1 => f X0 e1 m1 T) → acc.length + xs.length ≤ sizeLine → M p = some (.lst acc) → R M → P (M.set p (.lst (acc ++ xs.map val))) →
    compL p vs G tYes f env chk xs M P
  | [], acc, M, _, _, e, r, h => by
    rw [compL_nil]; refine ⟨hc M r, ?_⟩
    simp only [List.map_nil, List.append_nil] at h
    rw [set_self e] at h; exact h
  | x :: xs, acc, M, hb, hl, e, r, h => by
    rw [compL_cons]; refine ⟨hc M r, ?_⟩
    simp only [tYes_s, if_pos]
    refine hb x (.head _) M _ r ?_
    rw [e, lstO_lst]
    simp only [List.length_cons] at hl
    refine ⟨by omega, comp_map val R hR hc xs _ _ (fun y hy => hb y (.tail _ hy)) (by simp; omega) set_same (hR _ _ r) ?_⟩
    rw [set_set]
    simpa using h
end
theorem sizeLine_ge : 100000 ≤ sizeLine := by decide
@[simp] theorem ofString_inj {a b : String} : Str.ofString a = Str.ofString b ↔ a = b := by
  refine ⟨fun h => ?_, fun h => by rw [h]⟩
  rw [Str.ofString_eq_toList, Str.ofString_eq_toList] at h
  injection h with h
  have h := Array.toList_inj.mpr h
  simp only at h
  have h2 := (List.map_inj_right (fun x y e => Char.toNat_inj.mp e)).mp h
  exact String.toList_inj.mp h2
def chrI (x : D) (M : Sto) (k : (Sto → Prop) → List D → Sto → Prop) : Prop := match x with
  | .str s => k (fun _ => True) (charsOf s) M
  | _ => False
@[simp] theorem chrI_str {s : Str} {M : Sto} {k : (Sto → Prop) → List D → Sto → Prop} : chrI (.str s) M k = k (fun _ => True) (charsOf s) M := id rfl
@[simp] theorem iChars_s {f : WE} {E : XW} {env : Ev} {M : Sto} {k : (Sto → Prop) → List D → Sto → Prop} : iChars f E env M k = f E env M fun x M1 => chrI x M1 k := id rfl
@[simp] theorem cIsB_bl {a b : Bool} {M : Sto} {k : Bool → Prop} : cIsB (.bl a) (.bl b) M k = k (a == b) := id rfl
@[simp] theorem cNotB_bl {a b : Bool} {M : Sto} {k : Bool → Prop} : cNotB (.bl a) (.bl b) M k = k (!(a == b)) := id rfl
/-! in -/
def inO (o : Option O) (x : D) (k : Bool → Prop) : Prop := match o with
    | some (.lst xs) => flat x = true ∧ xs.all flat = true ∧ k (xs.any fun z => eqF z x)
    | some o => dLk o x fun r => k r.isSome
    | none => False
@[simp] theorem cIn_str {s t : Str} {M : Sto} {k : Bool → Prop} : cIn (.str t) (.str s) M k = k (!(Builtin.Str.occurrences s t 0 s.length 1).isEmpty) := id rfl
@[simp] theorem cIn_tup {x : D} {xs : List D} {M : Sto} {k : Bool → Prop} : cIn x (.tup xs) M k = (flat x = true ∧ xs.all flat = true ∧ k (xs.any fun z => eqF z x)) := id rfl
@[simp] theorem cIn_ref {x : D} {a : Addr} {M : Sto} {k : Bool → Prop} : cIn x (.ref a) M k = inO (M a) x k := id rfl
@[simp] theorem inO_lst {x : D} {xs : List D} {k : Bool → Prop} : inO (some (.lst xs)) x k = (flat x = true ∧ xs.all flat = true ∧ k (xs.any fun z => eqF z x)) := id rfl
@[simp] theorem inO_dkS {z : Str} {kvs : List (Key × D)} {k : Bool → Prop} : inO (some (.dk kvs)) (.str z) k = k (lk kvs (.inr z)).isSome := id rfl
@[simp] theorem inO_dn {z : D} {kvs : List (D × D)} {k : Bool → Prop} : inO (some (.dn kvs)) z k = (nkOk z = true ∧ k (lk kvs z).isSome) := by
  cases z <;> exact rfl
@[simp] theorem revD_tup {xs : List D} {M : Sto} {Q : KD} : revD (.tup xs) M Q = Q (.tup xs.reverse) M := id rfl
@[simp] theorem revD_ref {a : Addr} {M : Sto} {Q : KD} : revD (.ref a) M Q = lstO (M a) fun xs => ∀ p, M p = none → Q (.ref p) (M.set p (.lst xs.reverse)) := id rfl
@[simp] theorem subD_str {s : Str} {i : Int} {M : Sto} {k : D → Prop} : subD (.str s) (.int i) M k = (s.length ≤ sizeLine ∧ onN (L2.atI s.cps.toList i) fun c => k (.str ⟨#[c]⟩)) := id rfl
@[simp] theorem lockO_dk {kvs : List (Key × D)} {k : O → O → Prop} : lockO (some (.dk kvs)) k = k (.dk kvs) (.dkF kvs) := id rfl
@[simp] theorem lockO_dn {kvs : List (D × D)} {k : O → O → Prop} : lockO (some (.dn kvs)) k = k (.dn kvs) (.dnF kvs) := id rfl
@[simp] theorem lockD_ref {a : Addr} {M : Sto} {k : Addr → O → O → Prop} : lockD (some (.ref a)) M k = lockO (M a) (k a) := id rfl
@[simp] theorem eLock_s {i : Nat} {f : WE} {E : XW} {env : Ev} {M : Sto} {Q : KD} : eLock i f E env M Q = lockD (gt env i) M fun a o o' => f X0 env (M.set a o') fun d M' => M' a = some o' ∧ Q d (M'.set a o) := id rfl
@[simp] theorem keysO_dkF {kvs : List (Key × D)} {k : O → List D → Prop} : keysO (some (.dkF kvs)) k = k (.dkF kvs) (kvs.map fun kv => dKey kv.1) := id rfl
@[simp] theorem keysO_dnF {kvs : List (D × D)} {k : O → List D → Prop} : keysO (some (.dnF kvs)) k = k (.dnF kvs) (kvs.map Prod.fst) := id rfl
def keysD (x : D) (M : Sto) (k : (Sto → Prop) → List D → Sto → Prop) : Prop := match x with
  | .ref a => keysO (M a) fun o xs => k (fun M' => M' a = some o) xs M
  | _ => False
@[simp] theorem keysD_ref {a : Addr} {M : Sto} {k : (Sto → Prop) → List D → Sto → Prop} : keysD (.ref a) M k = keysO (M a) fun o xs => k (fun M' => M' a = some o) xs M := id rfl
@[simp] theorem iKeysD_s {f : WE} {E : XW} {env : Ev} {M : Sto} {k : (Sto → Prop) → List D → Sto → Prop} : iKeysD f E env M k = f E env M fun x M1 => keysD x M1 k := id rfl
@[simp] theorem subO_dkFS {kvs : List (Key × D)} {z : Str} {k : D → Prop} : subO (some (.dkF kvs)) (.str z) k = onS (lk kvs (.inr z)) k := id rfl
@[simp] theorem subO_dkFI {kvs : List (Key × D)} {z : Int} {k : D → Prop} : subO (some (.dkF kvs)) (.int z) k = onS (lk kvs (.inl z)) k := id rfl
theorem subO_dn {kvs : List (D × D)} {z : D} {k : D → Prop} : subO (some (.dn kvs)) z k = (nkOk z = true ∧ onS (lk kvs z) k) := by cases z <;> exact rfl
theorem subO_dnF {kvs : List (D × D)} {z : D} {k : D → Prop} : subO (some (.dnF kvs)) z k = (nkOk z = true ∧ onS (lk kvs z) k) := by cases z <;> exact rfl
/-! more steps -/
section
variable {E : XW} {env : Ev} {M : Sto} {Q : KD} {f g h : WE} {d : D} {a : Addr} {xs : List D} {i : Int}
def tyO (o : Option O) (k : String → Prop) : Prop := match o with
    | some (.lst _) => k "list"
    | some (.dk _) => k "dict"
    | _ => False
@[simp] theorem eIsi_s {cs : List String} : eIsi f cs E env M Q = f E env M fun x M1 => tyD x M1 fun t => Q (.bl (cs.any (isTy t))) M1 := id rfl
@[simp] theorem tyD_int {k : String → Prop} : tyD (.int i) M k = k "int" := id rfl
@[simp] theorem tyD_bl {b : Bool} {k : String → Prop} : tyD (.bl b) M k = k "bool" := id rfl
@[simp] theorem tyD_str {b : Str} {k : String → Prop} : tyD (.str b) M k = k "str" := id rfl
@[simp] theorem tyD_tup {k : String → Prop} : tyD (.tup xs) M k = k "tuple" := id rfl
@[simp] theorem tyD_lro {k : String → Prop} : tyD (.lro xs) M k = k "list" := id rfl
@[simp] theorem tyD_non {k : String → Prop} : tyD .non M k = k "NoneType" := id rfl
@[simp] theorem tyD_ref {k : String → Prop} : tyD (.ref a) M k = tyO (M a) k := id rfl
@[simp] theorem tyO_lst {k : String → Prop} : tyO (some (.lst xs)) k = k "list" := id rfl
@[simp] theorem tyO_dk {kvs : List (Key × D)} {k : String → Prop} : tyO (some (.dk kvs)) k = k "dict" := id rfl
def onBs (x : Option (List Bool)) (k : List Bool → Prop) : Prop := match x with
  | some d => k d
  | none => False
@[simp] theorem onBs_some {bs : List Bool} {k : List Bool → Prop} : onBs (some bs) k = k bs := id rfl
def onIs (x : Option (List Int)) (k : List Int → Prop) : Prop := match x with
  | some d => k d
  | none => False
@[simp] theorem onIs_some {bs : List Int} {k : List Int → Prop} : onIs (some bs) k = k bs := id rfl
def lstD (x : D) (M : Sto) (k : List D → Prop) : Prop := match x with
  | .ref a => lstO (M a) k
  | _ => False
@[simp] theorem lstD_ref {k : List D → Prop} : lstD (.ref a) M k = lstO (M a) k := id rfl
@[simp] theorem eAll_s : eAll f E env M Q = f E env M fun x M1 => lstD x M1 fun xs => onBs (asBools xs) fun bs => Q (.bl (bs.all id)) M1 := by
  unfold eAll lstD lstO onBs
  first | rfl | (congr 1; done) | (congr 1; funext x M1; cases x <;> rfl)
@[simp] theorem eAny_s : eAny f E env M Q = f E env M fun x M1 => lstD x M1 fun xs => onBs (asBools xs) fun bs => Q (.bl (bs.any id)) M1 := by
  unfold eAny lstD lstO onBs
  first | rfl | (congr 1; done) | (congr 1; funext x M1; cases x <;> rfl)
@[simp] theorem eSum_s : eSum f E env M Q = f E env M fun x M1 => lstD x M1 fun xs => onIs (asInts xs) fun bs => Q (.int bs.sum) M1 := by
  unfold eSum lstD lstO onIs
  first | rfl | (congr 1; done) | (congr 1; funext x M1; cases x <;> rfl)
def lstOfO (o : Option O) (k : List D → Prop) : Prop := match o with
    | some (.lst xs) => k xs
    | some (.dk kvs) => k (kvs.map fun kv => dKey kv.1)
    | _ => False
def lstOfD (x : D) (M : Sto) (k : List D → Prop) : Prop := match x with
  | .tup xs => k xs
  | .ref a => lstOfO (M a) k
  | _ => False
@[simp] theorem lstOfD_tup {k : List D → Prop} : lstOfD (.tup xs) M k = k xs := id rfl
@[simp] theorem lstOfD_ref {k : List D → Prop} : lstOfD (.ref a) M k = lstOfO (M a) k := id rfl
@[simp] theorem lstOfO_lst {k : List D → Prop} : lstOfO (some (.lst xs)) k = k xs := id rfl
@[simp] theorem lstOfO_dk {kvs : List (Key × D)} {k : List D → Prop} : lstOfO (some (.dk kvs)) k = k (kvs.map fun kv => dKey kv.1) := id rfl
@[simp] theorem eLstOf_s : eLstOf f E env M Q = f E env M fun x M1 => lstOfD x M1 fun xs => ∀ p, M1 p = none → Q (.ref p) (M1.set p (.lst xs)) := by
  unfold eLstOf lstOfD lstOfO
  first | rfl | (congr 1; done) | (congr 1; funext x M1; cases x <;> rfl)
def onK (x : Option (List (Key × D))) (k : List (Key × D) → Prop) : Prop := match x with
  | some d => k d
  | none => False
@[simp] theorem onK_some {d : List (Key × D)} {k : List (Key × D) → Prop} : onK (some d) k = k d := id rfl
@[simp] theorem eDict_s : eDict f E env M Q = f E env M fun x M1 => itD x M1 fun xs => onK (pairsK xs) fun kvs => ∀ p, M1 p = none → Q (.ref p) (M1.set p (.dk (insAll [] kvs))) := by
  unfold eDict itemsD itD lstO onK
  first | rfl | (congr 1; done) | (congr 1; funext x M1; cases x <;> rfl)
@[simp] theorem eDk_s : eDk E env M Q = ∀ p, M p = none → Q (.ref p) (M.set p (.dk [])) := id rfl
@[simp] theorem eDn_s : eDn E env M Q = ∀ p, M p = none → Q (.ref p) (M.set p (.dn [])) := id rfl
end
theorem mem_rangeL {i j : Int} {x : D} (h : x ∈ rangeL i j) : ∃ k : Int, i ≤ k ∧ k < j ∧ x = .int k := by
  unfold rangeL at h
  obtain ⟨k, hk, rfl⟩ := List.mem_map.mp h
  exact ⟨i + k, by omega, by have := List.mem_range.mp hk; omega, rfl⟩
theorem asBools_map {α : Type} (xs : List α) (f : α → Bool) : asBools (xs.map fun x => .bl (f x)) = some (xs.map f) := by
  induction xs with
  | nil => rfl
  | cons x xs ih => show (asBools (xs.map _)).map _ = _; rw [ih]; rfl
theorem asInts_map {α : Type} (xs : List α) (f : α → Int) : asInts (xs.map fun x => .int (f x)) = some (xs.map f) := by
  induction xs with
  | nil => rfl
  | cons x xs ih => show (asInts (xs.map _)).map _ = _; rw [ih]; rfl
/-! dict(pairs) of keys all different -/
theorem ins_new {κ : Type} [DecidableEq κ] (kvs : List (κ × D)) (k : κ) (v : D) (h : k ∉ kvs.map Prod.fst) : ins kvs k v = kvs ++ [(k, v)] := by
  unfold ins
  rw [if_neg]
  simp only [List.any_eq_true, decide_eq_true_eq, not_exists, not_and]
  rintro ⟨a, b⟩ hm rfl
  exact h (List.mem_map.mpr ⟨_, hm, rfl⟩)
theorem insAll_nodup : ∀ (more kvs : List (Key × D)), ((kvs ++ more).map Prod.fst).Nodup → insAll kvs more = kvs ++ more
  | [], kvs, _ => by simp [insAll]
  | p :: more, kvs, h => by
    show insAll (ins kvs p.1 p.2) more = _
    rw [ins_new kvs p.1 p.2 ?_]
    · rw [insAll_nodup more _ (by simpa using h)]; simp
    · intro hm
      rw [List.map_append, List.nodup_append] at h
      exact h.2.2 _ hm _ (by simp) rfl
theorem pairsK_map {α : Type} (xs : List α) (k : α → Str) (v : α → D) : pairsK (xs.map fun x => .tup [.str (k x), v x]) = some (xs.map fun x => (.inr (k x), v x)) := by
  induction xs with
  | nil => rfl
  | cons x xs ih => simp only [List.map_cons, pairsK, ih, keyD]
theorem lk_mem {κ : Type} [DecidableEq κ] {kvs : List (κ × D)} {k : κ} (h : k ∈ kvs.map Prod.fst) : ∃ d, lk kvs k = some d ∧ (k, d) ∈ kvs := by
  induction kvs with
  | nil => simp at h
  | cons p r ih =>
    unfold lk
    split
    · rename_i e; exact ⟨p.2, rfl, by rw [← e]; exact .head _⟩
    · rename_i e
      have : k ∈ r.map Prod.fst := by
        rcases List.mem_cons.mp h with h | h
        · exact absurd h.symm e
        · exact h
      obtain ⟨d, h1, h2⟩ := ih this
      exact ⟨d, h1, .tail _ h2⟩
/-- what a law promises -/
def lawS : FD := fn1 fun x _ _ Q => (∃ ns : List Int, x = .lro (ns.map D.int) ∧ ns.length ≤ 63 ∧ ∀ z ∈ ns, Builtin.Int.intBits z ≤ 1048576) ∧ ∀ M', Q (.bl true) M'
end DL

set_option Elab.async false
set_option linter.all false
set_option maxRecDepth 100000
/-! DQ: == of plain data (none, ints, texts, tuples) -/
namespace DL
open PySem
mutual
/-- plain data -/
def plB : D → Bool
  | .non => true
  | .int _ => true
  | .str s => PyData.strOk s
  | .tup xs => plsB xs
  | _ => false
def plsB : List D → Bool
  | [] => true
  | x :: xs => plB x && plsB xs
end
mutual
def dpt : D → Nat
  | .tup xs => dpts xs + 1
  | _ => 0
def dpts : List D → Nat
  | [] => 0
  | x :: xs => max (dpt x) (dpts xs)
end
mutual
theorem py_can : ∀ x : D, plB x = true → x.py.canLay0 = true
  | .non, _ => by simp [D.py, PyData.canLay0]
  | .int _, _ => by simp [D.py, PyData.canLay0]
  | .str s, h => by simp only [plB] at h; simp [D.py, PyData.canLay0, h]
  | .tup xs, h => by simp only [plB] at h; simp only [D.py, PyData.canLay0]; exact py_cans xs h
  | .bl _, h => by simp [plB] at h
  | .ref _, h => by simp [plB] at h
  | .ty _, h => by simp [plB] at h
  | .lro _, h => by simp [plB] at h
theorem py_cans : ∀ xs : List D, plsB xs = true → PyData.canLayAll0 (D.pys xs) = true
  | [], _ => by simp [D.pys, PyData.canLayAll0]
  | x :: xs, h => by
    simp only [plsB, Bool.and_eq_true] at h
    simp only [D.pys, PyData.canLayAll0, Bool.and_eq_true]
    exact ⟨py_can x h.1, py_cans xs h.2⟩
end
mutual
theorem py_dpt : ∀ x : D, plB x = true → x.py.depth = dpt x
  | .non, _ => by simp [D.py, PyData.depth, dpt]
  | .int _, _ => by simp [D.py, PyData.depth, dpt]
  | .str s, h => by simp [D.py, PyData.depth, dpt]
  | .tup xs, h => by simp only [plB] at h; simp only [D.py, PyData.depth, dpt]; rw [py_dpts xs h]
  | .bl _, h => by simp [plB] at h
  | .ref _, h => by simp [plB] at h
  | .ty _, h => by simp [plB] at h
  | .lro _, h => by simp [plB] at h
theorem py_dpts : ∀ xs : List D, plsB xs = true → PyData.depthAll (D.pys xs) = dpts xs
  | [], _ => by simp [D.pys, PyData.depthAll, dpts]
  | x :: xs, h => by
    simp only [plsB, Bool.and_eq_true] at h
    simp only [D.pys, PyData.depthAll, dpts]
    rw [py_dpt x h.1, py_dpts xs h.2]
end
mutual
theorem py_eqv : ∀ x y : D, plB x = true → plB y = true → PyData.eqv x.py y.py = decide (x = y)
  | .non, y, _, h => by cases y <;> first | (simp [plB] at h; done) | (simp [D.py, PyData.eqv]; done) | (simp [D.py, PyData.eqv]; rfl)
  | .int i, y, _, h => by cases y <;> first | (simp [plB] at h; done) | (simp [D.py, PyData.eqv]; done) | (simp [D.py, PyData.eqv]; rfl)
  | .str s, y, _, h => by
    cases y <;> first | (simp [plB] at h; done) | (simp [D.py, PyData.eqv]; done) | (simp [D.py, PyData.eqv]; rfl)
  | .tup xs, y, h, h' => by
    cases y with
    | tup ys =>
      simp only [plB] at h h'
      simp only [D.py, PyData.eqv]
      rw [py_eqvs xs ys h h']
      simp
    | _ => first | (simp [plB] at h'; done) | (simp [D.py, PyData.eqv]; done) | (simp [D.py, PyData.eqv]; rfl)
  | .bl _, _, h, _ => by simp [plB] at h
  | .ref _, _, h, _ => by simp [plB] at h
  | .ty _, _, h, _ => by simp [plB] at h
  | .lro _, _, h, _ => by simp [plB] at h
theorem py_eqvs : ∀ xs ys : List D, plsB xs = true → plsB ys = true → PyData.eqvAll (D.pys xs) (D.pys ys) = decide (xs = ys)
  | [], [], _, _ => by simp [D.pys, PyData.eqvAll]
  | [], y :: ys, _, _ => by simp [D.pys, PyData.eqvAll]
  | x :: xs, [], _, _ => by simp [D.pys, PyData.eqvAll]
  | x :: xs, y :: ys, h, h' => by
    simp only [plsB, Bool.and_eq_true] at h h'
    simp only [D.pys, PyData.eqvAll]
    rw [py_eqv x y h.1 h'.1, py_eqvs xs ys h.2 h'.2]
    simp
end
theorem cEq_pl {x y : D} {M : Sto} {k : Bool → Prop} (hx : plB x = true) (hy : plB y = true) (dx : dpt x ≤ 64) (dy : dpt y ≤ 64) (h : k (decide (x = y))) : cEq x y M k := by
  have gen : SeqAt.shaped x.py = true ∧ SeqAt.shaped y.py = true ∧ k (PyData.eqv x.py y.py) := by
    refine ⟨?_, ?_, by rw [py_eqv x y hx hy]; exact h⟩
    · unfold SeqAt.shaped; rw [py_can x hx, py_dpt x hx]; simpa using dx
    · unfold SeqAt.shaped; rw [py_can y hy, py_dpt y hy]; simpa using dy
  unfold cEq
  split
  · simpa using h
  · simpa using h
  · simp [plB] at hx
  · exact gen
end DL

set_option Elab.async false
set_option linter.all false
set_option maxRecDepth 100000
set_option maxHeartbeats 4000000
/-! DF: defs, calls, the law's end -/
namespace DL
open PySem PySem.Spec PyProof.Rows L2
def spOf (c : Cn) (g : FD) : Sp := fun vs H Q E => ∃ ds M Ed Qd, Reps c.K H vs ds ∧ R c M H ∧ g Ed ds M Qd ∧ KX c H Ed E ∧ KQ c H Qd Q
/-- a def of the text, by what it asks -/
structure FnD (c : Cn) (mg : Str → Option Value) (base : Heap) (CX : CXT) (k : Nat) (x : Str) (g : FD) : Prop where
  h : ∃ f fd ps, FnOk c.P c.w c.K mg base CX k f fd ps (spOf c g) ∧ mg x = some (.ref f) ∧ PySem.W.keepIn c.K (.ref f) = true ∧ Binds c.K fd ps []
section
variable {X : Cx} {CA : String → Addr} {XE : XK} {a b e o : Expr} {es : List Expr} {f g h : WE} {fs : List WE} {pos p : Pos} {x : Str} {G : FD} {CX : CXT} {k j : Nat}
theorem d_call (F : FnD (cn X CA) X.mg X.base CX k x G) (hr : Room j X.A) (hk : k ≤ j) (hx : Passes CX X XE) (ha : SAs X CA XE (e :: es) fs) (hg : Gl X x := by rfl) (hdb : (x == ("__debug__" : Str)) = false := by decide)
    (he : starEach (e :: es) X.env = (false, eval e X.env) :: starEach es X.env := by rfl) (hpl : (backTo pos (starEach es X.env)).any (·.1) = false := by rfl) : SE X CA XE (.Call (.Name x p) (e :: es) [] pos) (eCall G fs) := by
  obtain ⟨f, fd, ps, F, hm, hkp, hb⟩ := F.h
  exact PE_weak (pe_call F (hr.mono hk) hg hm hkp hb .nil hx ha.pa hdb he hpl) fun σ H Q ⟨env, M, Ed, Qd, p, q, kq⟩ => ⟨env, M, Ed, _, p, q, fun ds M1 vs H1 q1 r1 R1 T1 _ => by
    show spOf (cn X CA) G (vs ++ []) H1 Q XE
    rw [List.append_nil]
    exact ⟨ds, M1, Ed, Qd, r1, R1, q1, p.x.mono T1, kq.mono T1⟩⟩
theorem d_call0 (F : FnD (cn X CA) X.mg X.base CX k x G) (hr : Room j X.A) (hk : k ≤ j) (hx : Passes CX X XE) (hg : Gl X x := by rfl) (hdb : (x == ("__debug__" : Str)) = false := by decide) : SE X CA XE (.Call (.Name x p) [] [] pos) (eCall G []) := by
  obtain ⟨f, fd, ps, F, hm, hkp, hb⟩ := F.h
  exact PE_weak (pe_call0 F (hr.mono hk) hg hm hkp hb .nil hx hdb) fun σ H Q ⟨env, M, Ed, Qd, p, q, kq⟩ => ⟨[], M, Ed, Qd, .nil, p.r, q, p.x, kq⟩
end
theorem blk_by {N N' : List Str} {sc sc' scope : Scope} {own : List (Str × Nat)} (hN : N' = N) (hs : sc' = sc) (h : blkC N sc scope own = true) : BlkOk N' sc' scope own := by
  subst hN; subst hs; exact blkOk_by h
theorem passN {X : Cx} {E : XK} : Passes CX0 X E := fun _ _ _ _ _ _ _ h => h.elim
section
variable {P : Program} {w : World} {K : PySem.W.Frag} {mg : Str → Option Value} {base : Heap} {CA : String → Addr}
theorem fn_d {x qual : Str} {st : Stmt} {f : Addr} {fd : FuncData} {N ps : List Str} {k : Nat} {g : FD} {gb : WS} (F : Fun K x qual st f fd) (S : FnScope N ps (defScope st)) (hl : ∀ E ds M Q, g E ds M Q → ds.length = ps.length)
    (body : ∀ (cdv : Value) (A : Around) (outer : List Env) (s : Shared) (H : Hp) (E : XK), Room k (A.deeper (envOfC qual (defScope st) s.heap.objs.size f cdv)) →
      SSs (cxOf CX0 P w K mg base N qual (defScope st) f cdv A outer s H E).nox CA E (defBody st) gb)
    (ob : ∀ E ds M Q, g E ds M Q → gb E (endsOf Q) (DL.start N.length ds) M) : FnOk P w K mg base CX0 (k + 1) f fd ps (spOf ⟨P, w, K, CA⟩ g) := by
  refine F.ok S (fun vs H Q E ⟨ds, M, Ed, Qd, r, hR, hg, kx, kq⟩ => ?_) fun cdv A outer s H vs Q E hr ⟨ds, M, Ed, Qd, r, hR, hg, kx, kq⟩ => ?_
  · rw [Reps.length r]; exact hl _ _ _ _ hg
  · refine ⟨_, body cdv A outer s H E hr, DL.start N.length ds, M, Ed, endsOf Qd, ⟨RelEnv.start r, hR, kx⟩, ob _ _ _ _ hg, ⟨fun _ M' _ H' q _ r' t => kq _ _ _ _ q .non r' t, kq, fun _ _ _ _ q => q.elim, fun _ _ _ _ q => q.elim⟩⟩
theorem fn_l {x qual : Str} {st : Stmt} {f : Addr} {fd : FuncData} {N ps : List Str} {k : Nat} {g : FD} {gb : WS} (F : Fun K x qual st f fd) (S : FnScope N ps (defScope st)) (hl : ∀ E ds M Q, g E ds M Q → ds.length = ps.length)
    (body : ∀ (cdv : Value) (A : Around) (outer : List Env) (s : Shared) (H : Hp) (E : XK), Room k (A.deeper (envOfC qual (defScope st) s.heap.objs.size f cdv)) →
      SSs (cxOf CX0 P w K mg base N qual (defScope st) f cdv A outer s H E).nox CA E (defBody st) gb)
    (ob : ∀ E ds M Q, g E ds M Q → gb E (endsL Q) (DL.start N.length ds) M) : FnOk P w K mg base CX0 (k + 1) f fd ps (spOf ⟨P, w, K, CA⟩ g) := by
  refine F.ok S (fun vs H Q E ⟨ds, M, Ed, Qd, r, hR, hg, kx, kq⟩ => ?_) fun cdv A outer s H vs Q E hr ⟨ds, M, Ed, Qd, r, hR, hg, kx, kq⟩ => ?_
  · rw [Reps.length r]; exact hl _ _ _ _ hg
  · have kq' : KQ ⟨P, w, K, CA⟩ H (fun d M' => ∃ M0, Le M0 M' ∧ Qd d M0) Q := fun _ M' v H' ⟨M0, l, q⟩ r' hR' t => kq _ M0 _ _ q r' (fun a o e => hR' a o (l a o e)) t
    refine ⟨_, body cdv A outer s H E hr, DL.start N.length ds, M, Ed, endsL Qd, ⟨RelEnv.start r, hR, kx⟩, ob _ _ _ _ hg, ⟨fun _ M' _ H' q _ r' t => kq' _ _ _ _ q .non r' t, kq', fun _ _ _ _ q => q.elim, fun _ _ _ _ q => q.elim⟩⟩
theorem fn_none {f : Addr} {fd : FuncData} {ps : List Str} {k : Nat} {g : FD} (h : ∀ E ds M Q, ¬ g E ds M Q) : FnOk P w K mg base CX0 k f fd ps (spOf ⟨P, w, K, CA⟩ g) :=
  ⟨fun vs H Q E ⟨ds, M, Ed, Qd, _, _, hg, _⟩ => (h _ _ _ _ hg).elim, fun A outer s H args us vs Q E _ _ _ _ ⟨ds, M, Ed, Qd, _, _, hg, _⟩ => (h _ _ _ _ hg).elim⟩
theorem FnOk.d {x : Str} {f : Addr} {fd : FuncData} {ps : List Str} {k : Nat} {CX : CXT} {g : FD} (F : FnOk P w K mg base CX k f fd ps (spOf ⟨P, w, K, CA⟩ g)) (hm : mg x = some (.ref f)) (hk : PySem.W.keepIn K (.ref f) = true) (hb : Binds K fd ps []) : FnD ⟨P, w, K, CA⟩ mg base CX k x g :=
  ⟨f, fd, ps, F, hm, hk, hb⟩
end
theorem len1 {g : D → XW → Sto → KD → Prop} : ∀ E ds M Q, fn1 g E ds M Q → ds.length = 1 := fun E ds M Q h => by unfold fn1 at h; split at h; rfl; exact h.elim
theorem len2 {g : D → D → XW → Sto → KD → Prop} : ∀ E ds M Q, fn2 g E ds M Q → ds.length = 2 := fun E ds M Q h => by unfold fn2 at h; split at h; rfl; exact h.elim
theorem len3 {g : D → D → D → XW → Sto → KD → Prop} : ∀ E ds M Q, fn3 g E ds M Q → ds.length = 3 := fun E ds M Q h => by unfold fn3 at h; split at h; rfl; exact h.elim
theorem len4 {g : D → D → D → D → XW → Sto → KD → Prop} : ∀ E ds M Q, fn4 g E ds M Q → ds.length = 4 := fun E ds M Q h => by unfold fn4 at h; split at h; rfl; exact h.elim
theorem len5 {g : D → D → D → D → D → XW → Sto → KD → Prop} : ∀ E ds M Q, fn5 g E ds M Q → ds.length = 5 := fun E ds M Q h => by unfold fn5 at h; split at h; rfl; exact h.elim
/-! ## constants of the module -/
theorem reps_ints {K : PySem.W.Frag} {H : Hp} : ∀ ns : List Int, Reps K H (ns.map V.int) (ns.map D.int)
  | [] => .nil
  | n :: ns => .cons (.int n) (reps_ints ns)
theorem reps_strs {K : PySem.W.Frag} {H : Hp} : ∀ ns : List Str, Reps K H (ns.map V.str) (ns.map D.str)
  | [] => .nil
  | n :: ns => .cons (.str n) (reps_strs ns)
theorem grep_int {K : PySem.W.Frag} {mg : Str → Option Value} {x : Str} {i : Int} {t : Tok} (h : mg x = some (.int i t)) : GRep K mg x (.int i) := ⟨_, .int i, h, ⟨t, rfl⟩, fun _ => .int i⟩
theorem grep_str {K : PySem.W.Frag} {mg : Str → Option Value} {x : Str} {i : Str} {t : Tok} (h : mg x = some (.str i t)) : GRep K mg x (.str i) := ⟨_, .str i, h, ⟨t, rfl⟩, fun _ => .str i⟩
theorem grep_2 {K : PySem.W.Frag} {mg : Str → Option Value} {x : Str} {a : Addr} {i j : Int} {t u : Tok} {n : Nat} {sl : Array (Option Value)} (h : mg x = some (.ref a)) (l : K.lookup a = some ⟨.type "tuple", none, .seq #[.int i t, .int j u] n, sl⟩) : GRep K mg x (.tup [.int i, .int j]) :=
  ⟨_, .ref a, h, rfl, fun _ => .tup (vs := [.int i, .int j]) (.inr ⟨_, _, _, l, rfl, rfl, rfl, by show 2 ≤ sizeLine; decide, .cons ⟨t, rfl⟩ (.cons ⟨u, rfl⟩ .nil)⟩) (.cons (.int i) (.cons (.int j) .nil))⟩
/-! ## the law -/
theorem law_walk {l : PySem.W.OpenLaw} {k : Nat} {q : Program} {loose : List Str} {XP : (Str → Option Value) → Heap → Prop} {YP : World → Heap → Prop} {d : DefRec} {K : Params → PySem.W.Frag} (CAw : World → String → Addr)
    (hn : l.most = some 63) (hdf : d.params.defaults = []) (hr : Room k callerA)
    (hY : ∀ (w : World) (h : Heap), YP w h → (K w.params).In h)
    (F : ∀ (w : World) (mg : Str → Option Value) (fa : Addr) (h : Heap), (K w.params).In h → h.Ns mainGlobals mg → mg d.name = some (.ref fa) →
      ∃ fd : FuncData, (∀ (s : Shared) (u : Value), BindsTo s fd ⟨[u], []⟩ [("script", u)]) ∧ ∀ base : Heap, (K w.params).In base → base.Ns mainGlobals mg → FnOk l.prog w (K w.params) mg base CX0 k fa fd ["script"] (spOf ⟨l.prog, w, K w.params, CAw w⟩ lawS)) :
    PySem.W.WalkO q loose XP YP l.row.toRowW d [] (fun f vs => PySem.call f vs) :=
  L2.walk_ofB (n := 63) (k := k) (x := "script") (CX := fun _ => CX0) (sp := fun w => spOf ⟨l.prog, w, K w.params, CAw w⟩ lawS) hn (by decide) hdf hr hY F (fun w H a ns hl hb hO hS => by
    refine ⟨[.lro (ns.map D.int)], fun _ => none, X0, fun d _ => d = .bl true, .cons (.lro ?_ (reps_ints ns)) .nil, fun _ _ e => (nomatch e), ⟨⟨ns, rfl, hl, hb⟩, fun _ => rfl⟩, KX.no, fun d M' v H' e r _ _ => by subst e; cases r; rfl⟩
    rcases hS with (hS | hS) | hS
    · rcases hO a with z | ⟨o, xs, z⟩
      · rw [z] at hS; cases hS
      · rw [z] at hS; cases hS
    · exact .inl hS
    · exact .inr hS) fun _ _ _ _ _ z => z
end DL

set_option Elab.async false
set_option linter.all false
set_option maxRecDepth 100000
set_option maxHeartbeats 4000000
/-! DK: dicts that are walked -/
namespace DL
open PySem PySem.Spec PyProof.Rows L2
section
variable {X : Cx} {CA : String → Addr} {XE : XK} {e : Expr} {f : WE}
theorem tups_lock {K : PySem.W.Frag} {H H' : Hp} {a : Addr} {u u' : HO} {od : Obj} (h : H a = some u) (nf : ∀ o xs, u ≠ .frz o xs) (t : Tups K (upd H a (.frz od u')) H') : Tups K H (upd H' a u) := by
  have ne : ∀ b o w, H b = some (.frz o w) → b ≠ a := fun b o w e z => by subst z; rw [h] at e; exact nf _ _ (Option.some.inj e)
  have go : ∀ b o w, H b = some (.frz o w) → upd H' a u b = some (.frz o w) := fun b o w e => by
    rw [upd_ne (ne b o w e)]
    exact t.z b o w (by rw [upd_ne (ne b o w e)]; exact e)
  exact ⟨⟨fun b vs s => s.elim (fun ⟨w, q⟩ => .inl ⟨w, go _ _ _ q⟩) .inr, fun b vs s => s.elim (fun ⟨w, q⟩ => .inl ⟨w, go _ _ _ q⟩) .inr⟩, go⟩
theorem d_lock (i : Nat) (h : SE X CA XE e f) : SE X CA XE e (eLock i f) :=
  PE_weak (pe_lock h) fun σ H Q ⟨env, M, Ed, Qd, p, q, k⟩ => by
    unfold eLock lockD at q
    split at q
    · rename_i a _
      unfold lockO at q
      split at q
      · rename_i kvs e
        obtain ⟨vs, h1, h2⟩ := p.r _ _ e
        have nf : ∀ o xs, (HO.dK vs) ≠ .frz o xs := ne_frz trivial
        refine ⟨a, .dK vs, h1, ?_, fun od => ?_⟩
        · trivial
        have T : Tups X.K H (upd H a (.frz od (.dK vs))) := Tups.wr h1 nf
        refine ⟨env, M.set a (.dkF kvs), X0, _, ⟨p.e.mono T, p.r.at T ⟨od, vs, upd_same, paired_mono h2 fun _ _ z => ⟨z.1, z.2.m T⟩⟩, KX.no⟩, q, ?_⟩
        rintro d M' v H' ⟨e1, q1⟩ r' R' T'
        have e2 : H' a = some (.frz od (.dK vs)) := T'.z _ _ _ upd_same
        refine ⟨e2, ?_⟩
        have tf : TF X.K H' (upd H' a (.dK vs)) := tf_un e2 trivial
        refine k d _ v _ q1 (r'.m0 tf) (fun b u eb => ?_) (tups_lock h1 nf T')
        by_cases hb : b = a
        · subst hb
          rw [set_same] at eb; cases eb
          obtain ⟨od', vs', g1, g2⟩ := R' _ _ e1
          rw [e2] at g1; cases g1
          exact ⟨vs, upd_same, paired_mono g2 fun _ _ z => ⟨z.1, z.2.m0 tf⟩⟩
        · rw [set_ne hb] at eb
          exact (R' b u eb).mono0 tf (upd_ne hb)
      · rename_i kvs e
        obtain ⟨es, h1, h2⟩ := p.r _ _ e
        have nf : ∀ o xs, (NDict (cn X CA) a es) ≠ .frz o xs := ne_frz trivial
        refine ⟨a, NDict (cn X CA) a es, h1, ?_, fun od => ?_⟩
        · trivial
        have T : Tups X.K H (upd H a (.frz od (NDict (cn X CA) a es))) := Tups.wr h1 nf
        refine ⟨env, M.set a (.dnF kvs), X0, _, ⟨p.e.mono T, p.r.at T ⟨od, es, upd_same, paired_mono h2 fun _ _ z => ⟨z.1, z.2.1, z.2.2.1.m T, z.2.2.2.m T⟩⟩, KX.no⟩, q, ?_⟩
        rintro d M' v H' ⟨e1, q1⟩ r' R' T'
        have e2 : H' a = some (.frz od (NDict (cn X CA) a es)) := T'.z _ _ _ upd_same
        refine ⟨e2, ?_⟩
        have tf : TF X.K H' (upd H' a (NDict (cn X CA) a es)) := tf_un e2 trivial
        refine k d _ v _ q1 (r'.m0 tf) (fun b u eb => ?_) (tups_lock h1 nf T')
        by_cases hb : b = a
        · subst hb
          rw [set_same] at eb; cases eb
          obtain ⟨od', es', g1, g2⟩ := R' _ _ e1
          rw [e2] at g1
          have ee : NDict (cn X CA) b es' = NDict (cn X CA) b es := by
            have := Option.some.inj g1
            injection this with h3 h4
            exact h4.symm
          exact ⟨es', by rw [upd_same, ee], paired_mono g2 fun _ _ z => ⟨z.1, z.2.1, z.2.2.1.m0 tf, z.2.2.2.m0 tf⟩⟩
        · rw [set_ne hb] at eb
          exact (R' b u eb).mono0 tf (upd_ne hb)
      · exact q.elim
    · exact q.elim
/-! ### the keys -/
def Itn (c : Cn) (d : Addr) (o : Obj) (es : List Ent) : It :=
  ⟨fun i H => H d = some (.frz o (NDict c d es)) ∧ i < es.length, fun i H x H' => H' = H ∧ ∃ (k : NestedKey) (q : Addr) (v : V), es[i]? = some (k, q, v) ∧ x = .ref q, fun i H => H d = some (.frz o (NDict c d es)) ∧ es.length ≤ i⟩
theorem frzN {X : Cx} {CA : String → Addr} {pins : List (Addr × Obj)} {σ : L2.St} {H : Hp} {s : Shared} {d : Addr} {o : Obj} {es : List Ent} (I : Inv X pins σ H s) (h : H d = some (.frz o (NDict (cn X CA) d es))) :
    (d == sysModules) = false ∧ s.heap.get? d = some o ∧ o.ExactDict ∧ ∃ (ds : Array DictEntry) (ep : Nat), o.data = .dict ds ep ∧ ds.size = es.length ∧
      ∀ (i : Nat) (k : NestedKey) (q : Addr) (v : V), es[i]? = some (k, q, v) → ∃ en : DictEntry, ds[i]? = some en ∧ en.key = .ref q := by
  obtain ⟨hg, ⟨z, hd, xs, pr, ⟨o', ds, ep, ho, ex, hdat, hent⟩, nd⟩, _⟩ := I.hok d _ h
  rw [hg] at ho
  cases ho
  have hl : es.length = xs.length := Paired.length pr
  refine ⟨hd, hg, ex, ds, ep, hdat, ?_, fun i k q v e => ?_⟩
  · have := congrArg List.length hent
    simp at this; omega
  · obtain ⟨b, hb, e1, e2, _⟩ := paired_get pr e
    refine ⟨entryOfKey (nestedKind (cn X CA).P (cn X CA).w) b, ?_, ?_⟩
    · have : ds.toList[i]? = (xs.map (entryOfKey (nestedKind (cn X CA).P (cn X CA).w)))[i]? := by rw [hent]
      rw [List.getElem?_map, hb, Array.getElem?_toList] at this
      exact this
    · show Value.ref b.2.1 = _
      rw [← e2]
theorem turn_keysN {P : Program} {w : World} {K : PySem.W.Frag} {CA : String → Addr} {tg : Expr} {d : Addr} {o : Obj} {ds : Array DictEntry} {ep : Nat} {es : List Ent} (it : Addr) (hod : o.data = .dict ds ep) :
    Turn P w K tg (Itn ⟨P, w, K, CA⟩ d o es) [it] it (fun i h => h.IsKeyIter it d i es.length ep) where
  mem := by simp
  obj := fun i h st b hb => by
    have e : b = it := by simpa using hb
    subst e
    obtain ⟨oi, e, c, dd⟩ := st
    exact ⟨oi, e, fun v z => by rw [dd] at z; cases z⟩
  keep := fun i h h' st k => st.at fun oi e => k it (by simp) oi e
  item := by
    intro X hP hw hK hc i pins s σ H E I hf st hg
    subst hP hw hK
    obtain ⟨hd, hi⟩ := hg
    obtain ⟨f0, f1, f2, f3, f4, f5⟩ := hf it (by simp)
    obtain ⟨hs, hgd, hx, es', ep', hdt, hsz, ent⟩ := frzN (CA := CA) I hd
    obtain ⟨rfl, rfl⟩ := dict_ep hod hdt
    obtain ⟨⟨k, q, v⟩, hkv⟩ : ∃ p, es[i]? = some p := ⟨es[i], List.getElem?_eq_getElem hi⟩
    obtain ⟨en, hen, hkey⟩ := ent i k q v hkv
    refine next_key_item st hgd hdt hsz hen fun h' st' sb => ?_
    have I1 : Inv X pins σ H { s with heap := h' } := I.turned (t' := s.toks) (fun b ob hb e => (sb.2 b hb).trans e) f0 f1 f3 f4 f5
    obtain ⟨oi, e, c, dd⟩ := id st'
    exact ⟨en.key, rfl, go_of (s := { s with heap := h' }) e c dd (by decide) ⟨.ref q, H, I1, hkey, ⟨rfl, k, q, v, hkv, rfl⟩, st', fun b hb => (hf b hb).1⟩⟩
  done := by
    intro X hP hw hK hc i pins s σ H E I hf st hg
    subst hP hw hK
    obtain ⟨hd, hi⟩ := hg
    obtain ⟨f0, f1, f2, f3, f4, f5⟩ := hf it (by simp)
    obtain ⟨hs, hgd, hx, es', ep', hdt, hsz, ent⟩ := frzN (CA := CA) I hd
    obtain ⟨rfl, rfl⟩ := dict_ep hod hdt
    exact next_key_end (I.ok.hd hc) st hgd hdt hsz hi fun h' eb => ⟨rfl, I.turned (t' := s.toks) (fun b ob hb e => eb b ob hb e) f0 f1 f3 f4 f5⟩
  self := fun A i s Q E st h => by
    refine wpAny_pyIter_slot st.typeIs PySem.F.slot_dict_keyiterator_iter (wpAny_call_entry PySem.F.slot_dict_keyiterator_iter st.typeIs PySem.F.entry_dict_keyiterator_iter ?_ (PySem.F.args_dict_keyiterator_iter_1 _))
    show wpAny _ _ (ret (.ref it)) _ _ s
    exact wpAny_pure ⟨_, rfl, "dict_keyiterator", _, st.typeIs, PySem.F.slot_dict_keyiterator_next.lookup, h⟩
theorem itR_keysK {c : Cn} {H1 : Hp} {d : Addr} {o : Obj} {vs : List (L2.Key × V)} {kvs : List (Key × D)} (e1 : H1 d = some (.frz o (.dK vs))) (p1 : PKV c.K H1 vs kvs) :
    ItR c false H1 (Itk d o vs) (fun M => M d = some (.dkF kvs)) (kvs.map fun kv => dKey kv.1) where
  go := fun i H M T hR e h => ⟨T.z _ _ _ e1, by have : vs.length = kvs.length := Paired.length p1; simpa [this] using h⟩
  stop := fun H M T hR e => ⟨T.z _ _ _ e1, by have : vs.length = kvs.length := Paired.length p1; simp [this]⟩
  yld := fun i H x H' M T hR em h d' e => by
    obtain ⟨rfl, k, v, hk, rfl⟩ := h
    obtain ⟨b, hb, h1, h2⟩ := paired_get p1 hk
    rw [List.getElem?_map, hb] at e
    simp at e; subst e
    rw [← h1]
    refine ⟨?_, hR, .refl⟩
    show Rep c.K H' (kV k) (dKey k)
    cases k with
    | inl i => exact .int i
    | inr x => exact .str x
theorem itR_keysN {c : Cn} {H1 : Hp} {d : Addr} {o : Obj} {es : List Ent} {kvs : List (D × D)} (e1 : H1 d = some (.frz o (NDict c d es))) (p1 : PDn c H1 es kvs) :
    ItR c false H1 (Itn c d o es) (fun M => M d = some (.dnF kvs)) (kvs.map Prod.fst) where
  go := fun i H M T hR e h => ⟨T.z _ _ _ e1, by have : es.length = kvs.length := Paired.length p1; simpa [this] using h⟩
  stop := fun H M T hR e => ⟨T.z _ _ _ e1, by have : es.length = kvs.length := Paired.length p1; simp [this]⟩
  yld := fun i H x H' M T hR em h d' e => by
    obtain ⟨rfl, k, q, v, hk, rfl⟩ := h
    obtain ⟨b, hb, h1, h2, h3, h4⟩ := paired_get p1 hk
    rw [List.getElem?_map, hb] at e
    simp at e; subst e
    exact ⟨h3.m T, hR, .refl⟩
theorem i_keys {tg : Expr} (ha : SE X CA XE e f) : SI false X CA XE tg e (iKeysD f) := by
  refine ⟨fun pins s σ H Rk I ⟨env, M, Ed, kd, p, q, k⟩ => ?_⟩
  refine thn (ha.run pins s σ H (fun v H1 => ∃ d M1, (match d with
    | .ref a => keysO (M1 a) fun o xs => kd (fun M' => M' a = some o) xs M1
    | _ => False) ∧ Rep X.K H1 v d ∧ R (cn X CA) M1 H1 ∧ Tups X.K H H1) I ⟨env, M, Ed, _, p, q, fun d M1 v H1 q1 r1 R1 T1 => ⟨d, M1, q1, r1, R1, T1⟩⟩) fun v s1 ⟨x, H1, I1, rx, d, M1, q1, r1, R1, T1⟩ => ?_
  split at q1
  · rename_i a
    cases r1
    obtain rfl : v = Value.ref a := rx
    unfold keysO at q1
    split at q1
    · rename_i kvs em
      obtain ⟨od, vs, h1, p1⟩ := R1 _ _ em
      obtain ⟨hs, hgd, hx, es, ep, vs', hdt, hsz, kv, hm⟩ := I1.frzK h1
      refine iter_keys hs hgd hx hdt (pi_one (tk := s1.toks) I1 _ (turn_keys _ hdt) ⟨_, Heap.get?_push_size _ rfl, rfl, ?_⟩ (k _ _ _ _ _ q1 R1 T1 (itR_keysK h1 p1)))
      rw [hsz] <;> rfl
    · rename_i kvs em
      obtain ⟨od, es, h1, p1⟩ := R1 _ _ em
      obtain ⟨hs, hgd, hx, ds, ep, hdt, hsz, ent⟩ := frzN (CA := CA) I1 h1
      refine iter_keys hs hgd hx hdt (pi_one (tk := s1.toks) I1 _ (turn_keysN (CA := CA) _ hdt) ⟨_, Heap.get?_push_size _ rfl, rfl, ?_⟩ (k _ _ _ _ _ q1 R1 T1 (itR_keysN h1 p1)))
      rw [hsz] <;> rfl
    · exact q1.elim
  · exact q1.elim
end
end DL

set_option Elab.async false
set_option linter.all false
set_option maxRecDepth 100000
set_option maxHeartbeats 4000000
/-! DC2: comprehensions of two fors -/
namespace DL
open PySem PySem.Spec PyProof.Rows L2
def comp2L (p : Addr) (vs vs1 : List Nat) (g : WG) (t : WT) (src1 : WI) (g1 : WG) (t1 : WT) (f : WE) (env : Ev) (chk : Sto → Prop) : List D → Sto → (Sto → Prop) → Prop
  | [], M, Q => chk M ∧ Q M
  | x :: xs, M, Q => chk M ∧ g x X0 (DL.wipe env vs) M fun env1 M1 => t X0 env1 M1 fun b M2 =>
    if b = true then src1 X0 env1 M2 fun chk1 ys M3 => compL p vs1 g1 t1 f env1 chk1 ys M3 fun M4 => comp2L p vs vs1 g t src1 g1 t1 f env chk xs M4 Q
    else comp2L p vs vs1 g t src1 g1 t1 f env chk xs M2 Q
def eComp2 (src : WI) (vs vs1 : List Nat) (g : WG) (t : WT) (src1 : WI) (g1 : WG) (t1 : WT) (f : WE) : WE := fun E env M Q => src E env M fun chk xs M1 => ∀ p, M1 p = none →
  comp2L p vs vs1 g t src1 g1 t1 f env chk xs (M1.set p (.lst [])) fun M2 => Q (.ref p) M2
section
variable {X : Cx} {CA : String → Addr} {XE : XK} {tg iter tg1 iter1 : Expr} {y y1 : Bool} {pos : Pos}
theorem comp2_of {own vs1 : List Nat} {t t1 : WT} {f : WE} {src src1 : WI} {gt gt1 : WG} {σ : L2.St} {H : Hp} {Q : VK} {env : Ev} {M : Sto} {Ed : XW} {Qd : KD} (p : Pre (cn X CA) XE σ H env M Ed) (q : eComp2 src own vs1 gt t src1 gt1 t1 f Ed env M Qd) (k : KQ (cn X CA) H Qd Q) :
    tLc2 (tOfI y (cn X CA) XE src) (tOfG y (cn X CA) E0 own gt) (tOfT (cn X CA) E0 t) (tOfI y1 (cn X CA) E0 src1) (tOfG y1 (cn X CA) E0 vs1 gt1) (tOfT (cn X CA) E0 t1) (tOf (cn X CA) E0 f) own vs1 σ H Q := by
  refine ⟨env, M, Ed, _, p, q, fun chk xs M1 H1 J q1 R1 T1 it => fun D hD => ?_⟩
  obtain ⟨Rl, Tl⟩ := lay_lst (c := cn X CA) hD .nil R1
  have q1 := q1 D (R1.fresh hD)
  refine ⟨fun i m H' => m = xs.length - i ∧ i ≤ xs.length ∧ ∃ M', R (cn X CA) M' H' ∧ Tups X.K H1 H' ∧ comp2L D own vs1 gt t src1 gt1 t1 f env chk (xs.drop i) M' fun M2 => Qd (.ref D) M2, ⟨xs.length, by simp, Nat.zero_le _, _, Rl, Tl, by rw [List.drop_zero]; exact q1⟩, ?_⟩
  rintro i m H' ⟨rfl, hi, M', R', T', q'⟩
  by_cases hlt : i < xs.length
  · rw [drop_get hlt] at q'
    obtain ⟨hck, q'⟩ := q'
    refine .inr ⟨it.go i H' M' T' R' hck hlt, fun H2 => (xs.length - (i + 1)) = xs.length - (i + 1) ∧ i + 1 ≤ xs.length ∧ ∃ M', R (cn X CA) M' H2 ∧ Tups X.K H1 H2 ∧ comp2L D own vs1 gt t src1 gt1 t1 f env chk (xs.drop (i + 1)) M' fun M2 => Qd (.ref D) M2, fun H2 h2 => ⟨xs.length - (i + 1), by omega, h2⟩, fun x H2 yl => ?_⟩
    obtain ⟨rx, R2, T2⟩ := it.yld i H' x H2 M' T' R' hck yl xs[i] (List.getElem?_eq_getElem hlt)
    refine ⟨xs[i], DL.wipe env own, M', X0, _, rx, ⟨(p.e.wipe own).mono (T1.trans (T'.trans T2)), R2, KX.no⟩, q', fun env3 M3 σ3 H3 q3 e3 R3 T3 O3 => ⟨O3.wipe, ?_⟩⟩
    refine ⟨env3, M3, X0, _, ⟨e3, R3, KX.no⟩, q3, fun b M4 H4 q4 R4 T4 => ?_⟩
    have T5 : Tups X.K H1 H4 := T'.trans (T2.trans (T3.trans T4))
    cases b with
    | false => exact ⟨rfl, hlt, M4, R4, T5, q4⟩
    | true =>
      refine ⟨env3, M4, X0, _, ⟨e3.mono T4, R4, KX.no⟩, q4, fun chk1 ys M5 H5 J1 q5 R5 T6 it1 => ?_⟩
      have T7 : Tups X.K H1 H5 := T5.trans T6
      refine ⟨fun j k H' => k = ys.length - j ∧ j ≤ ys.length ∧ ∃ M', R (cn X CA) M' H' ∧ Tups X.K H5 H' ∧ compL D vs1 gt1 t1 f env3 chk1 (ys.drop j) M' fun M4 => comp2L D own vs1 gt t src1 gt1 t1 f env chk (xs.drop (i + 1)) M4 fun M2 => Qd (.ref D) M2, ⟨ys.length, by simp, Nat.zero_le _, _, R5, .refl, by rw [List.drop_zero]; exact q5⟩, ?_⟩
      rintro j k' H6 ⟨rfl, hj, M6, R6, T8, q6⟩
      by_cases hlt1 : j < ys.length
      · rw [drop_get hlt1] at q6
        obtain ⟨hck1, q6⟩ := q6
        refine .inr ⟨it1.go j H6 M6 T8 R6 hck1 hlt1, fun H2 => (ys.length - (j + 1)) = ys.length - (j + 1) ∧ j + 1 ≤ ys.length ∧ ∃ M', R (cn X CA) M' H2 ∧ Tups X.K H5 H2 ∧ compL D vs1 gt1 t1 f env3 chk1 (ys.drop (j + 1)) M' fun M4 => comp2L D own vs1 gt t src1 gt1 t1 f env chk (xs.drop (i + 1)) M4 fun M2 => Qd (.ref D) M2, fun H2 h2 => ⟨ys.length - (j + 1), by omega, h2⟩, fun x1 H7 yl1 => ?_⟩
        obtain ⟨rx1, R7, T9⟩ := it1.yld j H6 x1 H7 M6 T8 R6 hck1 yl1 ys[j] (List.getElem?_eq_getElem hlt1)
        refine ⟨ys[j], DL.wipe env3 vs1, M6, X0, _, rx1, ⟨(RelEnv.wipe (e3.mono (T4.trans (T6.trans (T8.trans T9)))) vs1), R7, KX.no⟩, q6, fun env8 M8 σ8 H8 q8 e8 R8 T10 O8 => ⟨O8.wipe, ?_⟩⟩
        refine ⟨env8, M8, X0, _, ⟨e8, R8, KX.no⟩, q8, fun b M9 H9 q9 R9 T11 => ?_⟩
        have T12 : Tups X.K H5 H9 := T8.trans (T9.trans (T10.trans T11))
        cases b with
        | false => exact ⟨rfl, hlt1, M9, R9, T12, q9⟩
        | true =>
          refine ⟨env8, M9, X0, _, ⟨e8.mono T11, R9, KX.no⟩, q9, fun d M10 v H10 q10 r10 R10 T13 => ?_⟩
          split at q10
          · obtain ⟨ws, h1, rr⟩ := R10 _ _ (by assumption)
            obtain ⟨a1, a2⟩ := wr_lst (c := cn X CA) R10 (by assumption) h1 (rr.append (.cons r10 .nil))
            exact ⟨ws, h1, by rw [rr.length]; exact q10.1, rfl, hlt1, _, a1, T12.trans (T13.trans a2), q10.2⟩
          · exact q10.elim
      · have e : j = ys.length := by omega
        subst e
        rw [List.drop_length] at q6
        exact .inl ⟨it1.stop H6 M6 T8 R6 q6.1, rfl, hlt, M6, R6, T7.trans T8, q6.2⟩
  · have e : i = xs.length := by omega
    subst e
    rw [List.drop_length] at q'
    exact .inl ⟨it.stop H' M' T' R' q'.1, k _ _ _ _ q'.2 (.ref D) R' (T1.trans T')⟩
theorem d_comp2 {elt : Expr} {ifs ifs1 : List Expr} {scope : Scope} {own : List (Str × Nat)} {t t1 : WT} {f : WE} {src src1 : WI} {gt gt1 : WG} (vs1 : List Nat) (hc : X.calm = true) (hN : X.N.Nodup) (hi : SI y X CA XE tg iter src) (ok : BlkOk X.N X.env.scope scope own)
    (hg : ∀ (s : Shared) (H : Hp) (C : Addr) (cl : List (Str × Addr)) (fp : List Addr), SG y (X.blk s H scope (compEnvC scope cl C X.env) fp) CA E0 (own.map (·.2)) tg gt)
    (ht : ∀ (s : Shared) (H : Hp) (C : Addr) (cl : List (Str × Addr)) (fp : List Addr), STs (X.blk s H scope (compEnvC scope cl C X.env) fp) CA E0 ifs t)
    (hi1 : ∀ (s : Shared) (H : Hp) (C : Addr) (cl : List (Str × Addr)) (fp : List Addr), SI y1 (X.blk s H scope (compEnvC scope cl C X.env) fp) CA E0 tg1 iter1 src1)
    (hg1 : ∀ (s : Shared) (H : Hp) (C : Addr) (cl : List (Str × Addr)) (fp : List Addr), SG y1 (X.blk s H scope (compEnvC scope cl C X.env) fp) CA E0 vs1 tg1 gt1)
    (ht1 : ∀ (s : Shared) (H : Hp) (C : Addr) (cl : List (Str × Addr)) (fp : List Addr), STs (X.blk s H scope (compEnvC scope cl C X.env) fp) CA E0 ifs1 t1)
    (he : ∀ (s : Shared) (H : Hp) (C : Addr) (cl : List (Str × Addr)) (fp : List Addr), SE (X.blk s H scope (compEnvC scope cl C X.env) fp) CA E0 elt f)
    (hv : ∀ i ∈ vs1, i ∈ own.map (·.2) := by decide) (hs : ∀ x, foldedSetIterable iter X.env x = pure x := by intro _; rfl) (hs1 : ∀ env x, foldedSetIterable iter1 env x = pure x := by intro _ _; rfl) :
    SE X CA XE (.ListComp elt [⟨tg, iter, ifs, 0⟩, ⟨tg1, iter1, ifs1, 0⟩] scope pos) (eComp2 src (own.map (·.2)) vs1 gt t src1 gt1 t1 f) :=
  PE_weak (pe_lc2 (g := tOfG y (cn X CA) E0 (own.map fun z : Str × Nat => z.2) gt) (tt := tOfT (cn X CA) E0 t) (wi1 := tOfI y1 (cn X CA) E0 src1) (g1 := tOfG y1 (cn X CA) E0 vs1 gt1) (tt1 := tOfT (cn X CA) E0 t1) (te := tOf (cn X CA) E0 f) hc hN hi ok hv hg ht hi1 hg1 ht1 he hs hs1) fun σ H Q ⟨env, M, Ed, Qd, p, q, k⟩ => comp2_of p q k
end
section
variable {E : XW} {env : Ev} {M : Sto} {Q : KD} {p : Addr} {vs vs1 : List Nat} {G G1 : WG} {u u1 : WT} {src src1 : WI} {f : WE} {chk : Sto → Prop} {P : Sto → Prop} {x : D} {xs : List D}
@[simp] theorem eComp2_s : eComp2 src vs vs1 G u src1 G1 u1 f E env M Q = src E env M fun chk xs M1 => ∀ p, M1 p = none →
  comp2L p vs vs1 G u src1 G1 u1 f env chk xs (M1.set p (.lst [])) fun M2 => Q (.ref p) M2 := id rfl
theorem comp2L_nil : comp2L p vs vs1 G u src1 G1 u1 f env chk [] M P = (chk M ∧ P M) := id rfl
theorem comp2L_cons : comp2L p vs vs1 G u src1 G1 u1 f env chk (x :: xs) M P = (chk M ∧ G x X0 (DL.wipe env vs) M fun env1 M1 => u X0 env1 M1 fun b M2 =>
    if b = true then src1 X0 env1 M2 fun chk1 ys M3 => compL p vs1 G1 u1 f env1 chk1 ys M3 fun M4 => comp2L p vs vs1 G u src1 G1 u1 f env chk xs M4 P
    else comp2L p vs vs1 G u src1 G1 u1 f env chk xs M2 P) := id rfl
end
/-! d.get -/
def isDO (o : Option O) (k : Prop) : Prop := match o with
  | some (.dk _) => k
  | some (.dn _) => k
  | _ => False
@[simp] theorem isDO_dk {kvs : List (Key × D)} {k : Prop} : isDO (some (.dk kvs)) k = k := id rfl
@[simp] theorem isDO_dn {kvs : List (D × D)} {k : Prop} : isDO (some (.dn kvs)) k = k := id rfl
@[simp] theorem isDct_ref {a : Addr} {M : Sto} {k : Prop} : isDct (.ref a) M k = isDO (M a) k := id rfl
def refO (o : Option O) (k : O → Prop) : Prop := match o with
  | some o => k o
  | none => False
@[simp] theorem refO_some {o : O} {k : O → Prop} : refO (some o) k = k o := id rfl
@[simp] theorem refD_ref {a : Addr} {M : Sto} {k : O → Prop} : refD (.ref a) M k = refO (M a) k := id rfl
@[simp] theorem eGet1_s {f g : WE} {E : XW} {env : Ev} {M : Sto} {Q : KD} : eGet1 f g E env M Q = f E env M fun x M1 => isDct x M1 <| g E env M1 fun y M2 => refD x M2 fun o => dLk o y fun r => Q (r.getD .non) M2 := id rfl
@[simp] theorem eGet2_s {f g h : WE} {E : XW} {env : Ev} {M : Sto} {Q : KD} : eGet2 f g h E env M Q = f E env M fun x M1 => isDct x M1 <| g E env M1 fun y M2 => h E env M2 fun z M3 => refD x M3 fun o => dLk o y fun r => Q (r.getD z) M3 := id rfl
@[simp] theorem dLk_dn {kvs : List (D × D)} {y : D} {k : Option D → Prop} : dLk (.dn kvs) y k = (nkOk y = true ∧ k (lk kvs y)) := id rfl
@[simp] theorem dLk_dkS {kvs : List (Key × D)} {s : Str} {k : Option D → Prop} : dLk (.dk kvs) (.str s) k = k (lk kvs (.inr s)) := id rfl
/-- a comprehension with a test -/
theorem comp_filter {p : Addr} {vs : List Nat} {G : WG} {u : WT} {f : WE} {env : Ev} {chk : Sto → Prop} {P : Sto → Prop} (val : D → D) (tst : D → Bool) (R : Sto → Prop) (hR : ∀ m o, R m → R (m.set p o)) (hc : ∀ m, R m → chk m) : ∀ (xs acc : List D) (M : Sto),
    (∀ x ∈ xs, ∀ m (T : KD) (N : Sto → Prop), R m → (if tst x = true then T (val x) m else N m) → G x X0 (DL.wipe env vs) m fun e1 m1 => u X0 e1 m1 fun b m2 => if b = true then f X0 e1 m2 T else N m2) →
    acc.length + xs.length ≤ sizeLine → M p = some (.lst acc) → R M → P (M.set p (.lst (acc ++ (xs.filter tst).map val))) → compL p vs G u f env chk xs M P
  | [], acc, M, _, _, e, r, h => by
    rw [compL_nil]; refine ⟨hc M r, ?_⟩
    simp only [List.filter_nil, List.map_nil, List.append_nil] at h
    rw [set_self e] at h; exact h
  | x :: xs, acc, M, hb, hl, e, r, h => by
    rw [compL_cons]; refine ⟨hc M r, ?_⟩
    simp only [List.length_cons] at hl
    refine hb x (.head _) M _ _ r ?_
    split
    · rename_i ht
      rw [e, lstO_lst]
      refine ⟨by omega, comp_filter val tst R hR hc xs _ _ (fun y hy => hb y (.tail _ hy)) (by simp; omega) set_same (hR _ _ r) ?_⟩
      rw [set_set]
      simpa [ht] using h
    · rename_i ht
      refine comp_filter val tst R hR hc xs _ _ (fun y hy => hb y (.tail _ hy)) (by omega) e r ?_
      simpa [ht] using h
end DL

set_option Elab.async false
set_option linter.all false
set_option maxRecDepth 100000
set_option maxHeartbeats 4000000
/-! DB: more of Python: list * int, zip of lists, dict comprehensions, locks round statements, what is never reached -/
namespace DL
open PySem PySem.Spec PyProof.Rows L2 RZ
/-! ## list * int -/
def opRep : B2 := fun x y M Q => match x, y with
  | .ref a, .int k => match M a with
    | some (.lst xs) => -(2 ^ 63) ≤ k ∧ k < 2 ^ 63 ∧ xs.length * k.toNat ≤ sizeLine ∧ ∀ p, M p = none → Q (.ref p) (M.set p (.lst (List.replicate k.toNat xs).flatten))
    | _ => False
  | _, _ => False
theorem Reps.rep {K : PySem.W.Frag} {H : Hp} {vs : List V} {ds : List D} (r : Reps K H vs ds) : ∀ n : Nat, Reps K H (List.replicate n vs).flatten (List.replicate n ds).flatten
  | 0 => .nil
  | n + 1 => by
    rw [List.replicate_succ, List.replicate_succ, List.flatten_cons, List.flatten_cons]
    exact r.append (Reps.rep r n)
theorem repS {c : Cn} : OpS c opRep rRep := by
  intro v1 v2 d1 d2 M H Qd Q r1 r2 hR h k
  unfold opRep at h
  split at h
  · cases r1; cases r2
    split at h
    · rename_i xs e
      obtain ⟨vs, h1, rr⟩ := hR _ _ e
      refine ⟨_, _, vs, rfl, rfl, h1, h.1, h.2.1, by rw [rr.length]; exact h.2.2.1, fun p hp => ?_⟩
      obtain ⟨x, y⟩ := lay_lst hp (Reps.rep rr _) hR
      exact k _ _ _ _ (h.2.2.2 p (hR.fresh hp)) (.ref p) x y
    · exact h.elim
  · exact h.elim
theorem d_rep {X : Cx} {CA : String → Addr} {XE : XK} {a b : Expr} {f g : WE} {pos : Pos} (ha : SE X CA XE a f) (hb : SE X CA XE b g) : SE X CA XE (.BinOp a .Mult b pos) (eBin opRep f g) := d_bin op_rep repS ha hb
def repO (o : Option O) (k : Int) (Q : List D → Prop) : Prop := match o with
  | some (.lst xs) => -(2 ^ 63) ≤ k ∧ k < 2 ^ 63 ∧ xs.length * k.toNat ≤ sizeLine ∧ Q (List.replicate k.toNat xs).flatten
  | _ => False
@[simp] theorem repO_lst {xs : List D} {k : Int} {Q : List D → Prop} : repO (some (.lst xs)) k Q = (-(2 ^ 63) ≤ k ∧ k < 2 ^ 63 ∧ xs.length * k.toNat ≤ sizeLine ∧ Q (List.replicate k.toNat xs).flatten) := id rfl
@[simp] theorem opRep_s {a : Addr} {k : Int} {M : Sto} {Q : KD} : opRep (.ref a) (.int k) M Q = repO (M a) k fun ys => ∀ p, M p = none → Q (.ref p) (M.set p (.lst ys)) := by
  unfold opRep repO
  rfl
/-! ## a lock round a statement -/
def sLock (i : Nat) (s : WS) : WS := fun E D env M => lockD (gt env i) M fun a o o' =>
  s X0 ⟨fun e m => m a = some o' ∧ D.nx e (m.set a o), fun _ _ => False, fun _ _ => False, fun _ _ => False⟩ env (M.set a o')
@[simp] theorem sLock_s {i : Nat} {s : WS} {E : XW} {D' : Ends} {env : Ev} {M : Sto} : sLock i s E D' env M = lockD (gt env i) M fun a o o' =>
  s X0 ⟨fun e m => m a = some o' ∧ D'.nx e (m.set a o), fun _ _ => False, fun _ _ => False, fun _ _ => False⟩ env (M.set a o') := id rfl
theorem s_lock {X : Cx} {CA : String → Addr} {XE : XK} {st : Stmt} {s : WS} (i : Nat) (h : SS X CA XE st s) : SS X CA XE st (sLock i s) :=
  PS_weak (ps_lock h) fun D σ H ⟨env, M, Ed, Dd, p, q, k⟩ => by
    unfold sLock lockD at q
    split at q
    · rename_i a _
      unfold lockO at q
      split at q
      · rename_i kvs e
        obtain ⟨vs, h1, h2⟩ := p.r _ _ e
        have nf : ∀ o xs, (HO.dK vs) ≠ .frz o xs := ne_frz trivial
        refine ⟨a, .dK vs, h1, ?_, fun od => ?_⟩
        · trivial
        have T : Tups X.K H (upd H a (.frz od (.dK vs))) := Tups.wr h1 nf
        refine ⟨env, M.set a (.dkF kvs), X0, _, ⟨p.e.mono T, p.r.at T ⟨od, vs, upd_same, paired_mono h2 fun _ _ z => ⟨z.1, z.2.m T⟩⟩, KX.no⟩, q, ⟨?_, fun _ _ _ _ z => z.elim, fun _ _ _ _ z => z.elim, fun _ _ _ _ z => z.elim⟩⟩
        rintro e' M' σ' H' ⟨e1, q1⟩ r' R' T'
        have e2 : H' a = some (.frz od (.dK vs)) := T'.z _ _ _ upd_same
        refine ⟨e2, ?_⟩
        have tf : TF X.K H' (upd H' a (.dK vs)) := tf_un e2 trivial
        refine k.nx _ _ _ _ q1 (r'.mono0 tf) (fun b u eb => ?_) (tups_lock h1 nf T')
        by_cases hb : b = a
        · subst hb
          rw [set_same] at eb; cases eb
          obtain ⟨od', vs', g1, g2⟩ := R' _ _ e1
          rw [e2] at g1; cases g1
          exact ⟨vs, upd_same, paired_mono g2 fun _ _ z => ⟨z.1, z.2.m0 tf⟩⟩
        · rw [set_ne hb] at eb
          exact (R' b u eb).mono0 tf (upd_ne hb)
      · rename_i kvs e
        obtain ⟨es, h1, h2⟩ := p.r _ _ e
        have nf : ∀ o xs, (NDict (cn X CA) a es) ≠ .frz o xs := ne_frz trivial
        refine ⟨a, NDict (cn X CA) a es, h1, ?_, fun od => ?_⟩
        · trivial
        have T : Tups X.K H (upd H a (.frz od (NDict (cn X CA) a es))) := Tups.wr h1 nf
        refine ⟨env, M.set a (.dnF kvs), X0, _, ⟨p.e.mono T, p.r.at T ⟨od, es, upd_same, paired_mono h2 fun _ _ z => ⟨z.1, z.2.1, z.2.2.1.m T, z.2.2.2.m T⟩⟩, KX.no⟩, q, ⟨?_, fun _ _ _ _ z => z.elim, fun _ _ _ _ z => z.elim, fun _ _ _ _ z => z.elim⟩⟩
        rintro e' M' σ' H' ⟨e1, q1⟩ r' R' T'
        have e2 : H' a = some (.frz od (NDict (cn X CA) a es)) := T'.z _ _ _ upd_same
        refine ⟨e2, ?_⟩
        have tf : TF X.K H' (upd H' a (NDict (cn X CA) a es)) := tf_un e2 trivial
        refine k.nx _ _ _ _ q1 (r'.mono0 tf) (fun b u eb => ?_) (tups_lock h1 nf T')
        by_cases hb : b = a
        · subst hb
          rw [set_same] at eb; cases eb
          obtain ⟨od', es', g1, g2⟩ := R' _ _ e1
          rw [e2] at g1
          have ee : NDict (cn X CA) b es' = NDict (cn X CA) b es := by
            have := Option.some.inj g1
            injection this with h3 h4
            exact h4.symm
          exact ⟨es', by rw [upd_same, ee], paired_mono g2 fun _ _ z => ⟨z.1, z.2.1, z.2.2.1.m0 tf, z.2.2.2.m0 tf⟩⟩
        · rw [set_ne hb] at eb
          exact (R' b u eb).mono0 tf (upd_ne hb)
      · exact q.elim
    · exact q.elim
/-! ## zip of two lists -/
def zipL (xs ys : List D) : List D := List.zipWith (fun x y => .tup [x, y]) xs ys
def zipO (o o' : Option O) (k : List D → List D → Prop) : Prop := match o with
  | some (.lst xs) => match o' with
    | some (.lst ys) => k xs ys
    | _ => False
  | _ => False
def zipD (x y : D) (M : Sto) (k : (Sto → Prop) → List D → Sto → Prop) : Prop := match x with
  | .ref a => match y with
    | .ref b => zipO (M a) (M b) fun xs ys => k (fun M' => M' a = some (.lst xs) ∧ M' b = some (.lst ys)) (zipL xs ys) M
    | _ => False
  | _ => False
def iZip (f g : WE) : WI := fun E env M k => f E env M fun x M1 => g E env M1 fun y M2 => zipD x y M2 k
@[simp] theorem iZip_s {f g : WE} {E : XW} {env : Ev} {M : Sto} {k : (Sto → Prop) → List D → Sto → Prop} : iZip f g E env M k = f E env M fun x M1 => g E env M1 fun y M2 => zipD x y M2 k := id rfl
@[simp] theorem zipD_s {a b : Addr} {M : Sto} {k : (Sto → Prop) → List D → Sto → Prop} : zipD (.ref a) (.ref b) M k = zipO (M a) (M b) fun xs ys => k (fun M' => M' a = some (.lst xs) ∧ M' b = some (.lst ys)) (zipL xs ys) M := id rfl
@[simp] theorem zipO_s {xs ys : List D} {k : List D → List D → Prop} : zipO (some (.lst xs)) (some (.lst ys)) k = k xs ys := id rfl
theorem itR_zip {c : Cn} {H1 : Hp} {a b : Addr} {xs ys : List D} (h1 : ∃ vs, H1 a = some (.lst vs) ∧ Reps c.K H1 vs xs) (h2 : ∃ vs, H1 b = some (.lst vs) ∧ Reps c.K H1 vs ys) :
    ItR c true H1 (Itz c.K a b) (fun M => M a = some (.lst xs) ∧ M b = some (.lst ys)) (zipL xs ys) where
  go := fun i H M T hR e h => by
    obtain ⟨vs, e1, r1⟩ := hR _ _ e.1
    obtain ⟨ws, e2, r2⟩ := hR _ _ e.2
    have hl : i < xs.length ∧ i < ys.length := by unfold zipL at h; rw [List.length_zipWith] at h; omega
    obtain ⟨v, ev, _⟩ := r1.get (i := i) (List.getElem?_eq_getElem hl.1)
    obtain ⟨w, ew, _⟩ := r2.get (i := i) (List.getElem?_eq_getElem hl.2)
    exact ⟨vs, ws, v, w, SqL.of e1, SqL.of e2, ev, ew⟩
  stop := fun H M T hR e => by
    obtain ⟨vs, e1, r1⟩ := hR _ _ e.1
    obtain ⟨ws, e2, r2⟩ := hR _ _ e.2
    refine ⟨vs, ws, SqL.of e1, SqL.of e2, ?_⟩
    rw [r1.length, r2.length]
    unfold zipL; rw [List.length_zipWith]; omega
  yld := fun i H x H' M T hR e h d hd => by
    obtain ⟨vs, e1, r1⟩ := hR _ _ e.1
    obtain ⟨ws, e2, r2⟩ := hR _ _ e.2
    obtain ⟨Tp, u, w, rfl, hn, rfl, hx, hy⟩ := h
    have hx := hx _ (SqL.of e1)
    have hy := hy _ (SqL.of e2)
    obtain ⟨dx, h3, r3⟩ := r1.getV hx
    obtain ⟨dy, h4, r4⟩ := r2.getV hy
    have hd' : d = .tup [dx, dy] := by
      unfold zipL at hd
      rw [List.getElem?_zipWith, h3, h4] at hd
      exact (Option.some.inj hd).symm
    subst hd'
    have T2 : Tups c.K H (upd H Tp (.tup [u, w])) := Tups.new hn
    exact ⟨RepY.pair (.inl (.inl upd_same)) (.cons (r3.m T2) (.cons (r4.m T2) .nil)), hR.keep hn, T2⟩
theorem i_zip {X : Cx} {CA : String → Addr} {XE : XK} {e e2 : Expr} {f g : WE} {p pos tpos : Pos} {elts : List Expr} {kk : Nat} (hm : X.mg "zip" = none) (ha : SE X CA XE e f) (hb : SE X CA XE e2 g) (hg : Gl X "zip" := by rfl)
    (hs : starEach [e, e2] X.env = (false, eval e X.env) :: starEach [e2] X.env := by rfl) (hs2 : starEach [e2] X.env = (false, eval e2 X.env) :: starEach [] X.env := by rfl) (hpl : (backTo pos (starEach [e2] X.env)).any (·.1) = false := by rfl) : SI true X CA XE (.Tuple elts kk tpos) (.Call (.Name "zip" p) [e, e2] [] pos) (iZip f g) :=
  PI_weak (pi_zip hg hm (pa_cons ha (pa_cons hb pa_nil hs2) hs) hs hpl) fun σ H Rk ⟨env, M, Ed, kd, p, q, k⟩ => ⟨env, M, Ed, _, p, q, fun d1 M1 v1 H1 q1 r1 R1 T1 => ⟨env, M1, Ed, _, p.to T1 R1, q1, fun d2 M2 v2 H2 q2 r2 R2 T2 => by
    have r1 := r1.m T2
    unfold zipD at q2
    split at q2
    · split at q2
      · cases r1; cases r2
        unfold zipO at q2
        split at q2
        · split at q2
          · rename_i xs e1 _ ys e2
            obtain ⟨vs, h1, p1⟩ := R2 _ _ e1
            obtain ⟨ws, h2, p2⟩ := R2 _ _ e2
            exact ⟨_, _, vs, ws, rfl, SqL.of h1, SqL.of h2, k _ _ _ _ _ q2 R2 (T1.trans T2) (itR_zip (c := cn X CA) ⟨vs, h1, p1⟩ ⟨ws, h2, p2⟩)⟩
          · exact q2.elim
        · exact q2.elim
      · exact q2.elim
    · exact q2.elim⟩⟩
end DL

set_option Elab.async false
set_option linter.all false
set_option maxRecDepth 100000
set_option maxHeartbeats 4000000
/-! DC3: dict comprehensions; keys ints or texts, or tuples -/
namespace DL
open PySem PySem.Spec PyProof.Rows L2
def insK (o : Option O) (k v : D) (Q : O → Prop) : Prop := match o with
  | some (.dk kvs) => match keyD k with
    | some κ => kvs.length < sizeLine ∧ Q (.dk (ins kvs κ v))
    | none => False
  | _ => False
def insN (o : Option O) (k v : D) (Q : O → Prop) : Prop := match o with
  | some (.dn kvs) => nkOk k = true ∧ kvs.length < sizeLine ∧ Q (.dn (ins kvs k v))
  | _ => False
@[simp] theorem insK_S {kvs : List (Key × D)} {s : Str} {v : D} {Q : O → Prop} : insK (some (.dk kvs)) (.str s) v Q = (kvs.length < sizeLine ∧ Q (.dk (ins kvs (.inr s) v))) := id rfl
theorem insN_s {kvs : List (D × D)} {k v : D} {Q : O → Prop} : insN (some (.dn kvs)) k v Q = (nkOk k = true ∧ kvs.length < sizeLine ∧ Q (.dn (ins kvs k v))) := id rfl
def dcompL (I : Option O → D → D → (O → Prop) → Prop) (p : Addr) (vs : List Nat) (g : WG) (t : WT) (kf vf : WE) (env : Ev) (chk : Sto → Prop) : List D → Sto → (Sto → Prop) → Prop
  | [], M, Q => chk M ∧ Q M
  | x :: xs, M, Q => chk M ∧ g x X0 (DL.wipe env vs) M fun env1 M1 => t X0 env1 M1 fun b M2 =>
    if b = true then kf X0 env1 M2 fun k M3 => vf X0 env1 M3 fun v M4 => I (M4 p) k v fun o => dcompL I p vs g t kf vf env chk xs (M4.set p o) Q
    else dcompL I p vs g t kf vf env chk xs M2 Q
def eDcK (src : WI) (vs : List Nat) (g : WG) (t : WT) (kf vf : WE) : WE := fun E env M Q => src E env M fun chk xs M1 => ∀ p, M1 p = none →
  dcompL insK p vs g t kf vf env chk xs (M1.set p (.dk [])) fun M2 => Q (.ref p) M2
def eDcN (src : WI) (vs : List Nat) (g : WG) (t : WT) (kf vf : WE) : WE := fun E env M Q => src E env M fun chk xs M1 => ∀ p, M1 p = none →
  dcompL insN p vs g t kf vf env chk xs (M1.set p (.dn [])) fun M2 => Q (.ref p) M2
section
variable {I : Option O → D → D → (O → Prop) → Prop} {E : XW} {env : Ev} {M : Sto} {Q : KD} {p : Addr} {vs : List Nat} {G : WG} {u : WT} {src : WI} {f g : WE} {chk : Sto → Prop} {P : Sto → Prop} {x : D} {xs : List D}
@[simp] theorem eDcK_s : eDcK src vs G u f g E env M Q = src E env M fun chk xs M1 => ∀ p, M1 p = none → dcompL insK p vs G u f g env chk xs (M1.set p (.dk [])) fun M2 => Q (.ref p) M2 := id rfl
@[simp] theorem eDcN_s : eDcN src vs G u f g E env M Q = src E env M fun chk xs M1 => ∀ p, M1 p = none → dcompL insN p vs G u f g env chk xs (M1.set p (.dn [])) fun M2 => Q (.ref p) M2 := id rfl
theorem dcompL_nil : dcompL I p vs G u f g env chk [] M P = (chk M ∧ P M) := id rfl
theorem dcompL_cons : dcompL I p vs G u f g env chk (x :: xs) M P = (chk M ∧ G x X0 (DL.wipe env vs) M fun env1 M1 => u X0 env1 M1 fun b M2 =>
    if b = true then f X0 env1 M2 fun k M3 => g X0 env1 M3 fun v M4 => I (M4 p) k v fun o => dcompL I p vs G u f g env chk xs (M4.set p o) P
    else dcompL I p vs G u f g env chk xs M2 P) := id rfl
/-- what stays -/
theorem dcomp_ind (J : List D → Sto → Prop)
    (step : ∀ x xs m, J (x :: xs) m → chk m ∧ ∀ T : D → D → Sto → Prop, (∀ k v m', (I (m' p) k v fun o => J xs (m'.set p o)) → T k v m') → G x X0 (DL.wipe env vs) m fun e1 m1 => f X0 e1 m1 fun k m2 => g X0 e1 m2 fun v m3 => T k v m3)
    (hI : ∀ o k v (A B : O → Prop), I o k v A → (∀ o, A o → B o) → I o k v B)
    (last : ∀ m, J [] m → chk m ∧ P m) : ∀ xs m, J xs m → dcompL I p vs G tYes f g env chk xs m P
  | [], m, h => by rw [dcompL_nil]; exact last m h
  | x :: xs, m, h => by
    rw [dcompL_cons]
    have h' := step x xs m h
    refine ⟨h'.1, ?_⟩
    simp only [tYes_s, if_pos]
    exact h'.2 _ fun k v m' hi => hI _ _ _ _ _ hi fun o ho => dcomp_ind J step hI last xs _ ho
end
theorem insK_mono : ∀ o k v (A B : O → Prop), insK o k v A → (∀ o, A o → B o) → insK o k v B := by
  intro o k v A B h hm
  unfold insK at *
  split at h
  · split at h
    · exact ⟨h.1, hm _ h.2⟩
    · exact h
  · exact h
theorem insN_mono : ∀ o k v (A B : O → Prop), insN o k v A → (∀ o, A o → B o) → insN o k v B := by
  intro o k v A B h hm
  unfold insN at *
  split at h
  · exact ⟨h.1, h.2.1, hm _ h.2.2⟩
  · exact h
/-! ## keys ints or texts -/
section
variable {X : Cx} {CA : String → Addr} {XE : XK} {tg iter : Expr} {y : Bool} {pos : Pos}
theorem dcomp_of {own : List Nat} {t : WT} {kf vf : WE} {src : WI} {gt : WG} {σ : L2.St} {H : Hp} {Q : VK} {env : Ev} {M : Sto} {Ed : XW} {Qd : KD} (p : Pre (cn X CA) XE σ H env M Ed) (q : eDcK src own gt t kf vf Ed env M Qd) (k : KQ (cn X CA) H Qd Q) :
    tDc (tOfI y (cn X CA) XE src) (tOfG y (cn X CA) E0 own gt) (tOfT (cn X CA) E0 t) (tOf (cn X CA) E0 kf) (tOf (cn X CA) E0 vf) own σ H Q := by
  refine ⟨env, M, Ed, _, p, q, fun chk xs M1 H1 J q1 R1 T1 it => fun D hD => ?_⟩
  have Tl : Tups X.K H1 (upd H1 D (.dK [])) := Tups.new hD
  have Rl : R (cn X CA) (M1.set D (.dk [])) (upd H1 D (.dK [])) := R1.at Tl ⟨[], upd_same, .nil⟩
  have q1 := q1 D (R1.fresh hD)
  refine ⟨fun i m H' => m = xs.length - i ∧ i ≤ xs.length ∧ ∃ M', R (cn X CA) M' H' ∧ Tups X.K H1 H' ∧ dcompL insK D own gt t kf vf env chk (xs.drop i) M' fun M2 => Qd (.ref D) M2, ⟨xs.length, by simp, Nat.zero_le _, _, Rl, Tl, by rw [List.drop_zero]; exact q1⟩, ?_⟩
  rintro i m H' ⟨rfl, hi, M', R', T', q'⟩
  by_cases hlt : i < xs.length
  · rw [drop_get hlt] at q'
    obtain ⟨hck, q'⟩ := q'
    refine .inr ⟨it.go i H' M' T' R' hck hlt, fun H2 => (xs.length - (i + 1)) = xs.length - (i + 1) ∧ i + 1 ≤ xs.length ∧ ∃ M', R (cn X CA) M' H2 ∧ Tups X.K H1 H2 ∧ dcompL insK D own gt t kf vf env chk (xs.drop (i + 1)) M' fun M2 => Qd (.ref D) M2, fun H2 h2 => ⟨xs.length - (i + 1), by omega, h2⟩, fun x H2 yl => ?_⟩
    obtain ⟨rx, R2, T2⟩ := it.yld i H' x H2 M' T' R' hck yl xs[i] (List.getElem?_eq_getElem hlt)
    refine ⟨xs[i], DL.wipe env own, M', X0, _, rx, ⟨(p.e.wipe own).mono (T1.trans (T'.trans T2)), R2, KX.no⟩, q', fun env3 M3 σ3 H3 q3 e3 R3 T3 O3 => ⟨O3.wipe, ?_⟩⟩
    refine ⟨env3, M3, X0, _, ⟨e3, R3, KX.no⟩, q3, fun b M4 H4 q4 R4 T4 => ?_⟩
    have T5 : Tups X.K H1 H4 := T'.trans (T2.trans (T3.trans T4))
    cases b with
    | false => exact ⟨rfl, hlt, M4, R4, T5, q4⟩
    | true =>
      refine ⟨env3, M4, X0, _, ⟨e3.mono T4, R4, KX.no⟩, q4, fun d M6 v H6 q6 r6 R6 T6 => ?_⟩
      refine ⟨env3, M6, X0, _, ⟨(e3.mono T4).mono T6, R6, KX.no⟩, q6, fun d2 M7 v2 H7 q7 r7 R7 T7 => ?_⟩
      unfold insK at q7
      split at q7
      · rename_i kvs em
        split at q7
        · rename_i κ ek
          obtain ⟨ws, h1, rr⟩ := R7 _ _ em
          have T3 : Tups (cn X CA).K H7 (upd H7 D (.dK (putK ws κ v2))) := Tups.wr h1 (ne_frz trivial)
          have R8 : R (cn X CA) (M7.set D (.dk (ins kvs κ d2))) (upd H7 D (.dK (putK ws κ v2))) := R7.at T3 ⟨_, upd_same, paired_mono (put_ins r7 rr) fun _ _ z => ⟨z.1, z.2.m T3⟩⟩
          exact ⟨ws, κ, (r6.m T7).key ek, h1, by rw [Paired.length rr]; exact q7.1, rfl, hlt, _, R8, T5.trans (T6.trans (T7.trans T3)), q7.2⟩
        · exact q7.elim
      · exact q7.elim
  · have e : i = xs.length := by omega
    subst e
    rw [List.drop_length] at q'
    exact .inl ⟨it.stop H' M' T' R' q'.1, k _ _ _ _ q'.2 (.ref D) R' (T1.trans T')⟩
theorem d_dcomp {kx vx : Expr} {ifs : List Expr} {scope : Scope} {own : List (Str × Nat)} {t : WT} {kf vf : WE} {src : WI} {gt : WG} (hc : X.calm = true) (hN : X.N.Nodup) (hi : SI y X CA XE tg iter src) (ok : BlkOk X.N X.env.scope scope own)
    (hg : ∀ (s : Shared) (H : Hp) (C : Addr) (cl : List (Str × Addr)) (fp : List Addr), SG y (X.blk s H scope (compEnvC scope cl C X.env) fp) CA E0 (own.map (·.2)) tg gt)
    (ht : ∀ (s : Shared) (H : Hp) (C : Addr) (cl : List (Str × Addr)) (fp : List Addr), STs (X.blk s H scope (compEnvC scope cl C X.env) fp) CA E0 ifs t)
    (hk : ∀ (s : Shared) (H : Hp) (C : Addr) (cl : List (Str × Addr)) (fp : List Addr), SE (X.blk s H scope (compEnvC scope cl C X.env) fp) CA E0 kx kf)
    (he : ∀ (s : Shared) (H : Hp) (C : Addr) (cl : List (Str × Addr)) (fp : List Addr), SE (X.blk s H scope (compEnvC scope cl C X.env) fp) CA E0 vx vf) (hs : ∀ x, foldedSetIterable iter X.env x = pure x := by intro _; rfl) :
    SE X CA XE (.DictComp kx vx [⟨tg, iter, ifs, 0⟩] scope pos) (eDcK src (own.map (·.2)) gt t kf vf) :=
  PE_weak (pe_dc (g := tOfG y (cn X CA) E0 (own.map fun z : Str × Nat => z.2) gt) (tt := tOfT (cn X CA) E0 t) (tk := tOf (cn X CA) E0 kf) (tv := tOf (cn X CA) E0 vf) hc hN hi ok hg ht hk he hs) fun σ H Q ⟨env, M, Ed, Qd, p, q, k⟩ => dcomp_of p q k
end
/-! ## keys tuples -/
section
variable {X : Cx} {CA : String → Addr} {XE : XK} {tg iter : Expr} {y : Bool} {pos : Pos}
/-- what such a comprehension asks, over the hand layer -/
def tDcN (c : Cn) (wi : TI) (g : TG) (tt : TT) (tk tv : TE) (vs : List Nat) : TE := fun σ H Q => wi σ H fun J H1 => ∀ D, H1 D = none → ∃ W : Nat → Nat → Hp → Prop, (∃ m, W 0 m (upd H1 D (NDict c D []))) ∧ ∀ i m H, W i m H →
  (J.stop i H ∧ Q (.ref D) H) ∨ (J.go i H ∧ ∃ Nx : Hp → Prop, (∀ H', Nx H' → ∃ m', m' < m ∧ W (i + 1) m' H') ∧ ∀ x H', J.yld i H x H' → g x (L2.wipe σ vs) H' fun σ2 H2 => L2.wipe σ2 vs = L2.wipe σ vs ∧ tt σ2 H2 fun b H3 =>
    if b = true then tk σ2 H3 fun y H4 => tv σ2 H4 fun z H5 => ∃ b es kvs k, y = .ref b ∧ H5 D = some (NDict c D es) ∧ PDn c H5 es kvs ∧ Rep c.K H5 (.ref b) k ∧ nkOk k = true ∧ es.length < sizeLine ∧ Nx (upd H5 D (NDict c D (putN es (nkD k) b z))) else Nx H3)
theorem nd_new {s : Shared} {a : Addr} {pins : List (Addr × Obj)} {σ : L2.St} {H : Hp} {tk : Nat} (I : Inv X pins σ H s) (ha : s.heap.objs.size = a) : Inv X pins σ (upd H a (NDict (cn X CA) a [])) { s with heap := s.heap.push { cls := .type "dict", data := .dict #[] }, toks := tk } := by
  subst ha
  exact I.laid (a := s.heap.objs.size) (o := NDict (cn X CA) s.heap.objs.size []) (t' := tk) (fun _ _ q => Heap.get?_push_of_some _ q) (Nat.le_refl _)
    ⟨⟨Nat.zero_le _, beq_eq_false_iff_ne.mpr (Ne.symm (Nat.ne_of_lt I.big)), [], .nil, ⟨_, #[], 0, Heap.get?_push_size _ rfl, ⟨rfl, rfl, rfl⟩, rfl, rfl⟩, List.nodup_nil⟩, ⟨_, Heap.get?_push_size _ rfl⟩,
      fun h1 h2 ⟨a, b, xs, c, ⟨o, es, ep, d, e⟩, f⟩ k => ⟨a, b, xs, c, ⟨o, es, ep, k _ d, e⟩, f⟩⟩
theorem nd_put {k : Nat} (hr : Room k X.A) {pins : List (Addr × Obj)} {σ : L2.St} {H : Hp} {s : Shared} {E : Value → Shared → Prop} {D b : Addr} {es : List Ent} {kvs : List (DL.D × DL.D)} {key : DL.D} {v : V} {u : Value} {Q : Unit → Shared → Prop} (I : Inv X pins σ H s)
    (hD : H D = some (NDict (cn X CA) D es)) (p : PDn (cn X CA) H es kvs) (r : Rep X.K H (.ref b) key) (hk : nkOk key = true) (hz : es.length < sizeLine) (rv : RelV v u) (h : ∀ s', Inv X pins σ (upd H D (NDict (cn X CA) D (putN es (nkD key) b v))) s' → Q () s') :
    wpAny (model X.prog X.w) X.A (dictSet D (.ref b) u) Q E s := by
  obtain ⟨z, hd, xs, pr, dd⟩ := nd_of I (.inl hD) p
  have hl : es.length = xs.length := Paired.length pr
  refine wpAny_dictSet_heap (knd := nestedKind X.prog X.w) (show X.A.units + 8 < cLine by have := hr.units; omega) (nk_at I r hk) dd (fun h' hm' hs => h _ ?_) (hsz := by rw [← hl]; exact z)
  obtain ⟨o', es', ep, h1, h2, h3, h4, _, h6⟩ := hm'
  refine d_write I (by rw [hD]; exact trivial) hs ⟨o', h1⟩ ?_
  exact ⟨⟨Nat.le_trans (putN_len _ _ _ _) hz, hd, _, putN_x rv pr, ⟨o', es', ep, h1, h2, h3, h4⟩, h6⟩, ⟨o', h1⟩, fun h1 h2 ⟨a, b, xs, c, ⟨o, es, ep, d, e⟩, f⟩ k => ⟨a, b, xs, c, ⟨o, es, ep, k _ d, e⟩, f⟩⟩
/-- the loop (the hand layer's way for keys that are ints or texts, turned to tuples) -/
theorem dn_core {k0 : Nat} (hr : Room k0 X.A) {pins : List (Addr × Obj)} {s : Shared} {σ : L2.St} {H : Hp} {Q : VK} {kx vx : Expr} {ifs : List Expr} {scope : Scope} {own : List (Str × Nat)} {wi : TI} {g : TG} {tt : TT} {tk tv : TE} {pos' : Pos} {use : Option (Value → Sem Unit)} {Qf : Value → Shared → Prop}
    (hc : X.calm = true) (hN : X.N.Nodup) (I : Inv X pins σ H s) (hi : PI X tg iter wi) (ok : BlkOk X.N X.env.scope scope own)
    (hg : ∀ (s : Shared) (H : Hp) (C : Addr) (cl : List (Str × Addr)) (fp : List Addr), PG (X.blk s H scope (compEnvC scope cl C X.env) fp) tg g) (ht : ∀ (s : Shared) (H : Hp) (C : Addr) (cl : List (Str × Addr)) (fp : List Addr), PTs (X.blk s H scope (compEnvC scope cl C X.env) fp) ifs tt)
    (hk : ∀ (s : Shared) (H : Hp) (C : Addr) (cl : List (Str × Addr)) (fp : List Addr), PE (X.blk s H scope (compEnvC scope cl C X.env) fp) kx tk)
    (he : ∀ (s : Shared) (H : Hp) (C : Addr) (cl : List (Str × Addr)) (fp : List Addr), PE (X.blk s H scope (compEnvC scope cl C X.env) fp) vx tv) (hs : ∀ x, foldedSetIterable iter X.env x = pure x)
    (h : tDcN (cn X CA) wi g tt tk tv (own.map (·.2)) σ H Q)
    (hRR : ∀ D C s' m H', Inv X pins σ H' s' → Q (.ref D) H' → s'.heap.Ns C m → FpOk X pins H' C → compPost (model X.prog X.w) X.A X.xe use Qf (.ref D) C (.ok .next) s') :
    wpAny (model X.prog X.w) X.A (comprehension (.DictComp kx vx [⟨tg, iter, ifs, 0⟩] scope pos) scope X.env pos' newDict false (eval iter X.env) use) Qf X.xe s := by
  have hfree : ∀ y ∈ scope.names, y.2 = .free → ∃ c, X.env.cells.lookup y.1 = some c := fun y hy e => (ok.free y hy e).elim (fun z => I.ok.has _ (.inl z)) fun z => I.ok.has _ (.inr z)
  refine wpAny_comprehension_free (use := use) rfl hs (closure_ok hfree) ok.kind (fun y hy e => by rw [ok.uniq y hy, e]) (thn (hi.run pins s σ H _ I h) fun xv s1 hx => thn hx fun itv s2 h2 => ?_)
  obtain ⟨it, fp, tn, J, H2, e, I2, T, st2, f2, q⟩ := h2
  subst e
  refine wpAny_newObj_type (newEnv_comp ?_)
  generalize hD : s2.heap.objs.size = D
  have hDn : H2 D = none := I2.hok.fresh (Nat.le_of_eq hD)
  obtain ⟨W, ⟨m0, w0⟩, turn⟩ := q D hDn
  have I3 := nd_new (CA := CA) (tk := s2.toks) I2 hD
  generalize hs3 : ({ s2 with heap := s2.heap.push { cls := .type "dict", data := .dict #[] }, toks := s2.toks } : Shared) = s3 at I3
  have h3 : s3.heap = s2.heap.push { cls := .type "dict", data := .dict #[] } := by rw [← hs3]
  have f3 : ∀ b ∈ fp, FpOk X pins (upd H2 D (NDict (cn X CA) D [])) b ∧ b < s3.heap.objs.size := fun b hb => by
    obtain ⟨o, e, _⟩ := T.obj _ _ st2 b hb
    have hlt := Heap.lt_size e
    refine ⟨⟨?_, (f2 b hb).2⟩, by rw [h3, Heap.size_push]; exact Nat.lt_succ_of_lt hlt⟩
    rw [upd_ne (by rw [← hD]; exact Nat.ne_of_lt hlt)]
    exact (f2 b hb).1
  have st3 : tn 0 s3.heap := T.keep _ _ _ st2 fun b _ o e => by rw [h3]; exact Heap.get?_push_of_some _ e
  have I4 := block_start I3 ok hN f3
  generalize hH3 : upd H2 D (NDict (cn X CA) D []) = H3 at I3 I4 w0 f3
  have pg := hg s3 H3 s3.heap.objs.size (cellsFrom (s3.heap.objs.size + 1) scope.names (cloFrom X.env.cells scope.names [])) fp
  have pt := ht s3 H3 s3.heap.objs.size (cellsFrom (s3.heap.objs.size + 1) scope.names (cloFrom X.env.cells scope.names [])) fp
  have pk := hk s3 H3 s3.heap.objs.size (cellsFrom (s3.heap.objs.size + 1) scope.names (cloFrom X.env.cells scope.names [])) fp
  have pe := he s3 H3 s3.heap.objs.size (cellsFrom (s3.heap.objs.size + 1) scope.names (cloFrom X.env.cells scope.names [])) fp
  show codeAny _ _ (.compStart (.DictComp kx vx [⟨tg, iter, ifs, 0⟩] scope pos) 0 (.ref it) (.ref D) (compEnvC scope (cellsFrom (s3.heap.objs.size + 1) scope.names (cloFrom X.env.cells scope.names [])) s3.heap.objs.size X.env)) (compPost (model X.prog X.w) X.A X.xe use Qf (.ref D) s3.heap.objs.size) { s3 with heap := pushCells (s3.heap.push { cls := .type "dict", data := .dict #[] }) scope.names }
  generalize hce : compEnvC scope (cellsFrom (s3.heap.objs.size + 1) scope.names (cloFrom X.env.cells scope.names [])) s3.heap.objs.size X.env = ce at I4 pg pt pk pe ⊢
  have cL : ce.locals = s3.heap.objs.size := by subst hce; rfl
  generalize hs4 : ({ s3 with heap := pushCells (s3.heap.push { cls := .type "dict", data := .dict #[] }) scope.names } : Shared) = s4 at I4 ⊢
  have st4 : tn 0 s4.heap := T.keep _ _ _ st3 fun b _ o e => by rw [← hs4]; exact pushCells_keeps _ _ _ _ (Heap.get?_push_of_some _ e)
  have stat : ∀ {σ' : L2.St} {H' : Hp} {s' : Shared}, Inv (X.blk s3 H3 scope ce fp) [] σ' H' s' → (∀ b ∈ fp, H' b = none) → ∀ b ∈ fp, FpOk (X.blk s3 H3 scope ce fp) [] H' b := fun {σ' H' s'} I' hn b hb =>
    ⟨hn b hb, (I'.ok.exf b hb).1, I'.ok.exfs b hb, .inl hb, fun x c e => (I'.ok.exf b hb).2 x c e, fun p hp => absurd (show p ∈ ([] : List (Addr × Obj)) ++ [] from hp) (by simp)⟩
  refine codeAny_compStart_dict ?_ (T.self X.A 0 _ _ _ st4 ?_)
  all_goals
    refine compLoop_anyD (fun n s' => ∃ i H', Inv (X.blk s3 H3 scope ce fp) [] (L2.wipe σ (own.map (·.2))) H' s' ∧ tn i s'.heap ∧ (∀ b ∈ fp, H' b = none) ∧ W i n H') ?_ m0 ⟨0, H3, I4, st4, fun b hb => (f3 b hb).1.1, w0⟩
    rintro n s5 ⟨i, H5, I5, st5, n5, w5⟩
    rcases turn i n H5 w5 with ⟨stop, qq⟩ | ⟨go, Nx, hNx, step⟩
    · refine thnF (T.done (X.blk s3 H3 scope ce fp) rfl rfl rfl hc i [] s5 _ H5 (fun _ _ => False) I5 (stat I5 n5) st5 stop) fun r s6 ⟨hr, I6⟩ => ?_
      subst hr
      have I7 : Inv X pins σ H5 s6 := I3.call' (ch := fp) I6.os I6.base I6.hok I6.bare fun b hb => ⟨(f3 b hb).1.2.2.2.1, (f3 b hb).1.2.1, (f3 b hb).1.2.2.2.2.1, (f3 b hb).1.2.2.2.2.2⟩
      have nC : H5 s3.heap.objs.size = none := by
        have z : H5 ce.locals = none := I6.free
        rw [cL] at z; exact z
      obtain ⟨m, hn, _⟩ := I6.loc
      have hn : s6.heap.Ns ce.locals m := hn
      rw [cL] at hn
      exact hRR D s3.heap.objs.size s6 m H5 I7 qq hn (I3.fpOk (Nat.le_refl _) nC)
    · refine thnF (T.item (X.blk s3 H3 scope ce fp) rfl rfl rfl hc i [] s5 _ H5 (fun _ _ => False) I5 (stat I5 n5) st5 go) fun r s6 ⟨u, hr, h6⟩ => ?_
      subst hr
      refine thnF h6 fun _ s7 ⟨x, H7, I7, r7, y7, st7, n7⟩ => ?_
      have I7' := I7.pinned (stat I7 n7) (T.obj _ _ st7)
      refine thnF (pg.run _ s7 _ H7 x u _ I7' r7 (step x H7 y7)) fun _ s8 ⟨σ8, H8, I8, hw8, q8⟩ => ?_
      refine thnF (pt.run _ s8 σ8 H8 _ I8 q8) fun b s9 ⟨H9, I9, q9⟩ => ?_
      have fin : ∀ {s' : Shared} {H' : Hp}, Inv (X.blk s3 H3 scope ce fp) ([] ++ pinsAt fp s7.heap) σ8 H' s' → Nx H' → ∃ m, m < n ∧ ∃ i H', Inv (X.blk s3 H3 scope ce fp) [] (L2.wipe σ (own.map (·.2))) H' s' ∧ tn i s'.heap ∧ (∀ b ∈ fp, H' b = none) ∧ W i m H' := fun {s' H'} I' nx => by
        obtain ⟨m', hm, w'⟩ := hNx H' nx
        have pin' : ∀ b ∈ fp, ∀ o, s7.heap.get? b = some o → s'.heap.get? b = some o ∧ H' b = none := fun b hb o e =>
          let z := I'.pin (b, o) (List.mem_append_right _ (List.mem_append_right _ (mem_pinsAt hb e)))
          ⟨z.1, z.2.1⟩
        refine ⟨m', hm, i + 1, H', (I'.unpinned (pins := [])).weak (by rw [← hw8, wipe_length]) (fun j v e => by rw [← hw8] at e; exact (wipe_some e).1), T.keep _ _ _ st7 fun b hb o e => (pin' b hb o e).1, fun b hb => ?_, w'⟩
        obtain ⟨o, e, _⟩ := T.obj _ _ st7 b hb
        exact (pin' b hb o e).2
      cases b with
      | false =>
        simp only [Bool.false_eq_true, if_false] at q9 ⊢
        exact fin I9 q9
      | true =>
        simp only [if_true] at q9 ⊢
        refine thnF (pk.run _ s9 σ8 H9 _ I9 q9) fun z s10 ⟨yk, H10, I10, r10, q10⟩ => ?_
        refine thnF (pe.run _ s10 σ8 H10 _ I10 q10) fun z2 s11 ⟨yv, H11, I11, r11, b, es, kvs, key, ek, hD11, p11, rk, hk11, hz11, nx⟩ => ?_
        subst ek
        obtain rfl : z = Value.ref b := r10
        exact nd_put (X := X.blk s3 H3 scope ce fp) (CA := CA) (k := k0) hr I11 hD11 p11 rk hk11 hz11 r11 fun s12 I12 => fin I12 nx
theorem ncomp_of {own : List Nat} {t : WT} {kf vf : WE} {src : WI} {gt : WG} {σ : L2.St} {H : Hp} {Q : VK} {env : Ev} {M : Sto} {Ed : XW} {Qd : KD} (p : Pre (cn X CA) XE σ H env M Ed) (q : eDcN src own gt t kf vf Ed env M Qd) (k : KQ (cn X CA) H Qd Q) :
    tDcN (cn X CA) (tOfI y (cn X CA) XE src) (tOfG y (cn X CA) E0 own gt) (tOfT (cn X CA) E0 t) (tOf (cn X CA) E0 kf) (tOf (cn X CA) E0 vf) own σ H Q := by
  refine ⟨env, M, Ed, _, p, q, fun chk xs M1 H1 J q1 R1 T1 it => fun D hD => ?_⟩
  have Tl : Tups X.K H1 (upd H1 D (NDict (cn X CA) D [])) := Tups.new hD
  have Rl : R (cn X CA) (M1.set D (.dn [])) (upd H1 D (NDict (cn X CA) D [])) := R1.at Tl ⟨[], upd_same, .nil⟩
  have q1 := q1 D (R1.fresh hD)
  refine ⟨fun i m H' => m = xs.length - i ∧ i ≤ xs.length ∧ ∃ M', R (cn X CA) M' H' ∧ Tups X.K H1 H' ∧ dcompL insN D own gt t kf vf env chk (xs.drop i) M' fun M2 => Qd (.ref D) M2, ⟨xs.length, by simp, Nat.zero_le _, _, Rl, Tl, by rw [List.drop_zero]; exact q1⟩, ?_⟩
  rintro i m H' ⟨rfl, hi, M', R', T', q'⟩
  by_cases hlt : i < xs.length
  · rw [drop_get hlt] at q'
    obtain ⟨hck, q'⟩ := q'
    refine .inr ⟨it.go i H' M' T' R' hck hlt, fun H2 => (xs.length - (i + 1)) = xs.length - (i + 1) ∧ i + 1 ≤ xs.length ∧ ∃ M', R (cn X CA) M' H2 ∧ Tups X.K H1 H2 ∧ dcompL insN D own gt t kf vf env chk (xs.drop (i + 1)) M' fun M2 => Qd (.ref D) M2, fun H2 h2 => ⟨xs.length - (i + 1), by omega, h2⟩, fun x H2 yl => ?_⟩
    obtain ⟨rx, R2, T2⟩ := it.yld i H' x H2 M' T' R' hck yl xs[i] (List.getElem?_eq_getElem hlt)
    refine ⟨xs[i], DL.wipe env own, M', X0, _, rx, ⟨(p.e.wipe own).mono (T1.trans (T'.trans T2)), R2, KX.no⟩, q', fun env3 M3 σ3 H3 q3 e3 R3 T3 O3 => ⟨O3.wipe, ?_⟩⟩
    refine ⟨env3, M3, X0, _, ⟨e3, R3, KX.no⟩, q3, fun b M4 H4 q4 R4 T4 => ?_⟩
    have T5 : Tups X.K H1 H4 := T'.trans (T2.trans (T3.trans T4))
    cases b with
    | false => exact ⟨rfl, hlt, M4, R4, T5, q4⟩
    | true =>
      refine ⟨env3, M4, X0, _, ⟨e3.mono T4, R4, KX.no⟩, q4, fun d M6 v H6 q6 r6 R6 T6 => ?_⟩
      refine ⟨env3, M6, X0, _, ⟨(e3.mono T4).mono T6, R6, KX.no⟩, q6, fun d2 M7 v2 H7 q7 r7 R7 T7 => ?_⟩
      have r6 := r6.m T7
      unfold insN at q7
      split at q7
      · rename_i kvs em
        obtain ⟨hk, hz, q7⟩ := q7
        obtain ⟨ws, h1, rr⟩ := R7 _ _ em
        obtain ⟨xs', n, rfl, _, _⟩ := nkOk_nest hk
        cases r6 with
        | @tup bb _ _ s1 p1 =>
          have rk : Rep (cn X CA).K H7 (.ref bb) (.tup xs') := .tup s1 p1
          have T3 : Tups (cn X CA).K H7 (upd H7 D (NDict (cn X CA) D (putN ws (nkD (.tup xs')) bb v2))) := Tups.wr h1 (ne_frz trivial)
          have R8 : R (cn X CA) (M7.set D (.dn (ins kvs (.tup xs') d2))) (upd H7 D (NDict (cn X CA) D (putN ws (nkD (.tup xs')) bb v2))) :=
            R7.at T3 ⟨_, upd_same, paired_mono (putN_d (c := cn X CA) hk rk r7 rr) fun _ _ z => ⟨z.1, z.2.1, z.2.2.1.m T3, z.2.2.2.m T3⟩⟩
          exact ⟨bb, ws, kvs, .tup xs', rfl, h1, rr, rk, hk, by rw [Paired.length rr]; exact hz, rfl, hlt, _, R8, T5.trans (T6.trans (T7.trans T3)), q7⟩
      · exact q7.elim
  · have e : i = xs.length := by omega
    subst e
    rw [List.drop_length] at q'
    exact .inl ⟨it.stop H' M' T' R' q'.1, k _ _ _ _ q'.2 (.ref D) R' (T1.trans T')⟩
theorem d_ncomp {k0 : Nat} (hr : Room k0 X.A) {kx vx : Expr} {ifs : List Expr} {scope : Scope} {own : List (Str × Nat)} {t : WT} {kf vf : WE} {src : WI} {gt : WG} (hc : X.calm = true) (hN : X.N.Nodup) (hi : SI y X CA XE tg iter src) (ok : BlkOk X.N X.env.scope scope own)
    (hg : ∀ (s : Shared) (H : Hp) (C : Addr) (cl : List (Str × Addr)) (fp : List Addr), SG y (X.blk s H scope (compEnvC scope cl C X.env) fp) CA E0 (own.map (·.2)) tg gt)
    (ht : ∀ (s : Shared) (H : Hp) (C : Addr) (cl : List (Str × Addr)) (fp : List Addr), STs (X.blk s H scope (compEnvC scope cl C X.env) fp) CA E0 ifs t)
    (hk : ∀ (s : Shared) (H : Hp) (C : Addr) (cl : List (Str × Addr)) (fp : List Addr), SE (X.blk s H scope (compEnvC scope cl C X.env) fp) CA E0 kx kf)
    (he : ∀ (s : Shared) (H : Hp) (C : Addr) (cl : List (Str × Addr)) (fp : List Addr), SE (X.blk s H scope (compEnvC scope cl C X.env) fp) CA E0 vx vf) (hs : ∀ x, foldedSetIterable iter X.env x = pure x := by intro _; rfl) :
    SE X CA XE (.DictComp kx vx [⟨tg, iter, ifs, 0⟩] scope pos) (eDcN src (own.map (·.2)) gt t kf vf) :=
  ⟨fun pins s σ H Q I ⟨env, M, Ed, Qd, p, q, k⟩ => by
    rw [arm_eval_DictComp]
    refine dn_core (CA := CA) hr (g := tOfG y (cn X CA) E0 (own.map fun z : Str × Nat => z.2) gt) (tt := tOfT (cn X CA) E0 t) (tk := tOf (cn X CA) E0 kf) (tv := tOf (cn X CA) E0 vf) hc hN I hi ok hg ht hk he hs (ncomp_of p q k) fun D C s' m H' I' q hn f => ⟨m, hn, fun h'' sb => ?_⟩
    obtain ⟨f0, f1, f2, f3, f4, f5⟩ := f
    exact ⟨.ref D, H', I'.turned (t' := s'.toks) (fun b o hb e => (sb.2 b hb).trans e) f0 f1 f3 f4 f5, rfl, q⟩⟩
/-! ## name = {..} on one line, the name a local -/
theorem sw_trueD {kx vx : Expr} {gs : List Comprehension} {scope : Scope} {pos py : Pos} {y : Str} {l : Nat} {env : Env} (hk : env.scope.kind = .function) (hy : env.scope.names.lookup y = some .local) (hl : (py.line == pos.line) = true)
    (ha : (scope.names.any fun (n, k) => n == y && (k == .local || k == .cell)) = false) : swapsWith (.DictComp kx vx gs scope pos) (some (.Name y py)) l env = pure true := by
  have ky : env.kindOf y = some .local := hy
  have hb : env.blockKind = .function := by unfold Env.blockKind; rw [hk]; rfl
  unfold swapsWith
  simp only [hb, ky, ha, Expr.pos, hl]
  rfl
theorem set_tail {pins : List (Addr × Obj)} {σ : L2.St} {D : L2.Ends} {i : Nat} {v : Str} {py : Pos} {Q : VK} (hN : X.N.Nodup) (hy : X.N[i]? = some v) (hyl : X.env.scope.names.lookup v = some .local) (hq : ∀ L H, Q (.ref L) H → L2.gName i (.ref L) σ H D.nx)
    (L C : Addr) (s' : Shared) (m : Str → Option Value) (H' : Hp) (I' : Inv X pins σ H' s') (q : Q (.ref L) H') (hn : s'.heap.Ns C m) (f : FpOk X pins H' C) :
    compPost (model X.prog X.w) X.A X.xe (some (assign (.Name v py) X.env)) (fun _ s' => SP X pins D .next s') (.ref L) C (.ok .next) s' := by
  show wpAny _ _ (assign (.Name v py) X.env (.ref L)) _ _ _
  refine wpAny_assign_Name (store_ok2 (v := V.ref L) I' hN hy (.inl hyl) rfl (fun s2 I2 ⟨a, sb, ha⟩ => ?_) (.inr hyl))
  obtain ⟨f0, f1, f2, f3, f4, f5⟩ := f
  have haC : C ≠ a := by
    rcases ha with z | z
    · rw [z]; exact f1
    · exact fun e => f4 v a z e.symm
  refine ⟨m, hn.sameBut sb haC, fun h3 sb3 => ?_⟩
  exact ⟨_, H', I2.turned (t' := s2.toks) (fun b o hb e => (sb3.2 b hb).trans e) f0 f1 f3 f4 f5, hq L H' q⟩
theorem s_setDc (i : Nat) {v : Str} {py : Pos} {kx vx : Expr} {ifs : List Expr} {scope : Scope} {own : List (Str × Nat)} {lpos : Pos} {t : WT} {kf vf : WE} {src : WI} {gt : WG} (hc : X.calm = true) (hN : X.N.Nodup) (hsw : swapsWith (.DictComp kx vx [⟨tg, iter, ifs, 0⟩] scope lpos) (some (.Name v py)) pos.line X.env = pure true) (hi : SI y X CA XE tg iter src) (ok : BlkOk X.N X.env.scope scope own)
    (hg : ∀ (s : Shared) (H : Hp) (C : Addr) (cl : List (Str × Addr)) (fp : List Addr), SG y (X.blk s H scope (compEnvC scope cl C X.env) fp) CA E0 (own.map (·.2)) tg gt)
    (ht : ∀ (s : Shared) (H : Hp) (C : Addr) (cl : List (Str × Addr)) (fp : List Addr), STs (X.blk s H scope (compEnvC scope cl C X.env) fp) CA E0 ifs t)
    (hk : ∀ (s : Shared) (H : Hp) (C : Addr) (cl : List (Str × Addr)) (fp : List Addr), SE (X.blk s H scope (compEnvC scope cl C X.env) fp) CA E0 kx kf)
    (he : ∀ (s : Shared) (H : Hp) (C : Addr) (cl : List (Str × Addr)) (fp : List Addr), SE (X.blk s H scope (compEnvC scope cl C X.env) fp) CA E0 vx vf)
    (hy : X.N[i]? = some v := by rfl) (hyl : X.env.scope.names.lookup v = some .local := by rfl) (hs : ∀ x, foldedSetIterable iter X.env x = pure x := by intro _; rfl) :
    SS X CA XE (.Assign [.Name v py] (.DictComp kx vx [⟨tg, iter, ifs, 0⟩] scope lpos) pos) (sAsg (eDcK src (own.map (·.2)) gt t kf vf) (gName i)) :=
  ⟨fun pins s σ H D I ⟨env, M, Ed, Dd, p, q, k⟩ => by
    rw [exec_Assign_Name_used _ _ _ _ hsw]
    refine wpAny_bind (wpAny_standAt (wpAny_bind ?_))
    show wpAny _ X.A (do let _ ← comprehension (.DictComp kx vx [⟨tg, iter, ifs, 0⟩] scope lpos) scope X.env (firstIterPos [⟨tg, iter, ifs, 0⟩] lpos) newDict false (eval iter X.env) (some (assign (.Name v py) X.env))) _ _ s
    have h := dcomp_of (X := X) (CA := CA) (y := y) (Q := fun x H1 => L2.gName i x σ H1 D.nx) p q fun d M1 v H1 q1 r1 R1 T1 => k.nx _ _ _ _ q1 ((p.e.mono T1).put r1 i) R1 T1
    refine wpAny_bind (thn (dc_core (g := tOfG y (cn X CA) E0 (own.map fun z : Str × Nat => z.2) gt) (tt := tOfT (cn X CA) E0 t) (tk := tOf (cn X CA) E0 kf) (tv := tOf (cn X CA) E0 vf) (Qf := fun _ s' => SP X pins D .next s') hc hN I hi ok hg ht hk he hs h fun L C s' m H' I' q hn f => set_tail (Q := fun x H1 => L2.gName i x σ H1 D.nx) hN hy hyl (fun _ _ z => z) L C s' m H' I' q hn f) fun _ s' hq => wpAny_pure (wpAny_pure hq))⟩
theorem s_setDn {k0 : Nat} (hr : Room k0 X.A) (i : Nat) {v : Str} {py : Pos} {kx vx : Expr} {ifs : List Expr} {scope : Scope} {own : List (Str × Nat)} {lpos : Pos} {t : WT} {kf vf : WE} {src : WI} {gt : WG} (hc : X.calm = true) (hN : X.N.Nodup) (hsw : swapsWith (.DictComp kx vx [⟨tg, iter, ifs, 0⟩] scope lpos) (some (.Name v py)) pos.line X.env = pure true) (hi : SI y X CA XE tg iter src) (ok : BlkOk X.N X.env.scope scope own)
    (hg : ∀ (s : Shared) (H : Hp) (C : Addr) (cl : List (Str × Addr)) (fp : List Addr), SG y (X.blk s H scope (compEnvC scope cl C X.env) fp) CA E0 (own.map (·.2)) tg gt)
    (ht : ∀ (s : Shared) (H : Hp) (C : Addr) (cl : List (Str × Addr)) (fp : List Addr), STs (X.blk s H scope (compEnvC scope cl C X.env) fp) CA E0 ifs t)
    (hk : ∀ (s : Shared) (H : Hp) (C : Addr) (cl : List (Str × Addr)) (fp : List Addr), SE (X.blk s H scope (compEnvC scope cl C X.env) fp) CA E0 kx kf)
    (he : ∀ (s : Shared) (H : Hp) (C : Addr) (cl : List (Str × Addr)) (fp : List Addr), SE (X.blk s H scope (compEnvC scope cl C X.env) fp) CA E0 vx vf)
    (hy : X.N[i]? = some v := by rfl) (hyl : X.env.scope.names.lookup v = some .local := by rfl) (hs : ∀ x, foldedSetIterable iter X.env x = pure x := by intro _; rfl) :
    SS X CA XE (.Assign [.Name v py] (.DictComp kx vx [⟨tg, iter, ifs, 0⟩] scope lpos) pos) (sAsg (eDcN src (own.map (·.2)) gt t kf vf) (gName i)) :=
  ⟨fun pins s σ H D I ⟨env, M, Ed, Dd, p, q, k⟩ => by
    rw [exec_Assign_Name_used _ _ _ _ hsw]
    refine wpAny_bind (wpAny_standAt (wpAny_bind ?_))
    show wpAny _ X.A (do let _ ← comprehension (.DictComp kx vx [⟨tg, iter, ifs, 0⟩] scope lpos) scope X.env (firstIterPos [⟨tg, iter, ifs, 0⟩] lpos) newDict false (eval iter X.env) (some (assign (.Name v py) X.env))) _ _ s
    have h := ncomp_of (X := X) (CA := CA) (y := y) (Q := fun x H1 => L2.gName i x σ H1 D.nx) p q fun d M1 v H1 q1 r1 R1 T1 => k.nx _ _ _ _ q1 ((p.e.mono T1).put r1 i) R1 T1
    refine wpAny_bind (thn (dn_core (CA := CA) (g := tOfG y (cn X CA) E0 (own.map fun z : Str × Nat => z.2) gt) (tt := tOfT (cn X CA) E0 t) (tk := tOf (cn X CA) E0 kf) (tv := tOf (cn X CA) E0 vf) (Qf := fun _ s' => SP X pins D .next s') hr hc hN I hi ok hg ht hk he hs h fun L C s' m H' I' q hn f => set_tail (Q := fun x H1 => L2.gName i x σ H1 D.nx) hN hy hyl (fun _ _ z => z) L C s' m H' I' q hn f) fun _ s' hq => wpAny_pure (wpAny_pure hq))⟩
end
end DL

set_option Elab.async false
set_option linter.all false
set_option maxRecDepth 100000
set_option maxHeartbeats 4000000
/-! DB2: sorted(tuple of texts), list(dict with tuples as keys), sorted(list of tuples, key=len) -/
namespace DL
open PySem PySem.Spec PyProof.Rows L2
/-! ## list(d) -/
section
variable {prog : Program} {w : World} {A : Around}
theorem walks_keys (hh : A.handled = none) (it d : Addr) (hne : d ≠ it) {od : Obj} {es : Array DictEntry} {ep : Nat} (hdat : od.data = .dict es ep) :
    Walks prog w A it [it, d] [it] es.size (fun i v => ∃ en, es[i]? = some en ∧ v = en.key) (fun i h => h.IsKeyIter it d i es.size ep ∧ h.get? d = some od) where
  sub := by simp
  frame := fun i h h' st k => ⟨st.1.at fun o e => k it (by simp) o e, k d (by simp) od st.2⟩
  item := fun i s Q E hi st hQ => by
    obtain ⟨en, hen⟩ : ∃ en, es[i]? = some en := ⟨es[i], Array.getElem?_eq_getElem hi⟩
    refine next_key_item st.1 st.2 hdat rfl hen fun h' st' sb => ?_
    exact hQ _ h' _ ⟨en, hen, rfl⟩ ⟨st', (sb.2 d hne).trans st.2⟩ fun b o hb e => (sb.2 b (by simpa using hb)).trans e
  done := fun s Q E st hQ => next_key_end hh st.1 st.2 hdat rfl (Nat.le_refl _) fun h' eb => hQ h' _ fun b o hb e => eb b o (by simpa using hb) e
  self := fun i s Q E st h => by
    refine wpAny_pyIter_slot st.1.typeIs PySem.F.slot_dict_keyiterator_iter (wpAny_call_entry PySem.F.slot_dict_keyiterator_iter st.1.typeIs PySem.F.entry_dict_keyiterator_iter ?_ (PySem.F.args_dict_keyiterator_iter_1 _))
    show wpAny _ _ (ret (.ref it)) _ _ s
    exact wpAny_pure ⟨_, rfl, "dict_keyiterator", _, st.1.typeIs, PySem.F.slot_dict_keyiterator_next.lookup, h⟩
theorem src_keys {d : Addr} {od : Obj} {es : Array DictEntry} {ep : Nat} (lo : (d == sysModules) = false) (hx : od.ExactDict) (hdat : od.data = .dict es ep) :
    PySem.W.KdlSrc prog w "dict" d d es.size (fun i v => ∃ en, es[i]? = some en ∧ v = en.key) (fun h => h.get? d = some od) where
  type := fun s hm => ⟨od, hm, hx.1⟩
  there := fun h hm => ⟨Heap.lt_size hm, Heap.lt_size hm⟩
  keep := fun h h' hm hk => hk d (.inl rfl) od hm
  notList := by decide
  notTuple := by decide
  hint := fun A E s Q hm hq => PySem.W.kdl_hint_dict ⟨od, hm, hx.1⟩ hq
  iter := fun A s hh hm => ⟨_, _, (fun _ _ hq => iter_keys lo hm hx hdat hq), walks_keys hh s.heap.objs.size d (Nat.ne_of_lt (Heap.lt_size hm)) hdat, ⟨⟨_, Heap.get?_push_size _ rfl, rfl, rfl⟩, Heap.get?_push_of_some _ hm⟩⟩
end
/-- the dict in hand: its entries' keys -/
theorem ndE {X : Cx} {CA : String → Addr} {pins : List (Addr × Obj)} {σ : L2.St} {H : Hp} {s : Shared} {d : Addr} {es : List Ent} (I : Inv X pins σ H s) (h : H d = some (NDict (cn X CA) d es)) :
    (d == sysModules) = false ∧ es.length ≤ sizeLine ∧ ∃ (o : Obj) (ds : Array DictEntry) (ep : Nat), s.heap.get? d = some o ∧ o.ExactDict ∧ o.data = .dict ds ep ∧ ds.size = es.length ∧
      ∀ (i : Nat) (k : NestedKey) (q : Addr) (v : V), es[i]? = some (k, q, v) → ∃ en : DictEntry, ds[i]? = some en ∧ en.key = .ref q := by
  obtain ⟨⟨z, hd, xs, pr, ⟨o, ds, ep, ho, ex, hdat, hent⟩, nd⟩, _⟩ := I.hok d _ h
  have hl : es.length = xs.length := Paired.length pr
  refine ⟨hd, z, o, ds, ep, ho, ex, hdat, ?_, fun i k q v e => ?_⟩
  · have := congrArg List.length hent
    simp at this; omega
  · obtain ⟨b, hb, e1, e2, _⟩ := paired_get pr e
    refine ⟨entryOfKey (nestedKind (cn X CA).P (cn X CA).w) b, ?_, ?_⟩
    · have : ds.toList[i]? = (xs.map (entryOfKey (nestedKind (cn X CA).P (cn X CA).w)))[i]? := by rw [hent]
      rw [List.getElem?_map, hb, Array.getElem?_toList] at this
      exact this
    · show Value.ref b.2.1 = _
      rw [← e2]
def rListN (c : Cn) : List V → Hp → VK → Prop := fun xs H Q => ∃ d es, xs = [.ref d] ∧ H d = some (NDict c d es) ∧ ∀ l, H l = none → Q (.ref l) (upd H l (.lst (es.map fun e => V.ref e.2.1)))
theorem call_listN {X : Cx} {CA : String → Addr} (hc : X.calm = true) : CallR X (.type "list") (rListN (cn X CA)) := by
  intro pins s σ H xs us Q I r h
  obtain ⟨d, es, e, hk, q⟩ := h
  subst e
  obtain ⟨u, eu, rx⟩ := vals1 r
  subst eu
  obtain rfl : u = Value.ref d := rx
  obtain ⟨lo, z, o, ds, ep, ho, hx, hdat, hsz, hen⟩ := ndE I hk
  refine PySem.W.kdl_call (src_keys lo hx hdat) (I.ok.hd hc) ho (by rw [hsz]; exact z) fun h' tk acc' c' hkeep hS hacc => ?_
  refine ⟨.ref s.heap.objs.size, upd H s.heap.objs.size (.lst (es.map fun e => V.ref e.2.1)), I.laid hkeep (Nat.le_refl _) (show ObjOk X.prog X.w _ _ _ (.lst (es.map fun e => V.ref e.2.1)) from ⟨?_, acc'.toList, c', ?_, ?_⟩), rfl, q _ (I.hok.fresh (Nat.le_refl _))⟩
  · rw [List.length_map]; exact z
  · have el : acc'.toList.length = acc'.size := by simp
    refine vals_of_at (by rw [List.length_map, el, hacc.1, hsz]) fun j x w h1 h2 => ?_
    obtain ⟨en, e1, rfl⟩ := hacc.2 j w (by rw [← Array.getElem?_toList]; exact h2)
    rw [List.getElem?_map] at h1
    cases ej : es[j]? with
    | none => rw [ej] at h1; cases h1
    | some p =>
      obtain ⟨k, qa, v⟩ := p
      rw [ej] at h1
      cases h1
      obtain ⟨en', e2, e3⟩ := hen j k qa v ej
      rw [e1] at e2; cases e2
      exact e3
  · rw [Array.toArray_toList]; exact hS
def lstNO (o : Option O) (k : List D → Prop) : Prop := match o with
  | some (.dn kvs) => k (kvs.map Prod.fst)
  | _ => False
def lstND (x : D) (M : Sto) (k : List D → Prop) : Prop := match x with
  | .ref a => lstNO (M a) k
  | _ => False
def eLstN (f : WE) : WE := fun E env M Q => f E env M fun x M1 => lstND x M1 fun xs => ∀ p, M1 p = none → Q (.ref p) (M1.set p (.lst xs))
@[simp] theorem eLstN_s {f : WE} {E : XW} {env : Ev} {M : Sto} {Q : KD} : eLstN f E env M Q = f E env M fun x M1 => lstND x M1 fun xs => ∀ p, M1 p = none → Q (.ref p) (M1.set p (.lst xs)) := id rfl
@[simp] theorem lstND_ref {a : Addr} {M : Sto} {k : List D → Prop} : lstND (.ref a) M k = lstNO (M a) k := id rfl
@[simp] theorem lstNO_dn {kvs : List (D × D)} {k : List D → Prop} : lstNO (some (.dn kvs)) k = k (kvs.map Prod.fst) := id rfl
section
variable {X : Cx} {CA : String → Addr} {XE : XK} {a : Expr} {f : WE} {pos p kpos : Pos}
theorem keys_repsN {c : Cn} {H : Hp} : ∀ {es : List Ent} {kvs : List (D × D)}, PDn c H es kvs → Reps c.K H (es.map fun e => V.ref e.2.1) (kvs.map Prod.fst)
  | _, _, .nil => .nil
  | _, _, .cons r t => .cons r.2.2.1 (keys_repsN t)
theorem d_lstN (hc : X.calm = true) (hm : X.mg "list" = none) (ha : SE X CA XE a f) (hg : Gl X "list" := by rfl) (he : starEach [a] X.env = (false, eval a X.env) :: starEach [] X.env := by rfl) (hpl : (backTo pos (starEach [] X.env)).any (·.1) = false := by rfl) : SE X CA XE (.Call (.Name "list" p) [a] [] pos) (eLstN f) :=
  d_ty1 (G := fun d M Q => lstND d M fun xs => ∀ p, M p = none → Q (.ref p) (M.set p (.lst xs))) (call_listN (CA := CA) hc) (fun v d M H Qd Q r1 hR h k => by
    unfold lstND at h
    split at h
    · cases r1
      unfold lstNO at h
      split at h
      · rename_i kvs e
        obtain ⟨es, h1, q⟩ := hR _ _ e
        refine ⟨_, es, rfl, h1, fun l hl => ?_⟩
        obtain ⟨x, y⟩ := lay_lst hl (keys_repsN q) hR
        exact k _ _ _ _ (h l (hR.fresh hl)) (.ref l) x y
      · exact h.elim
    · exact h.elim) hg hm (by decide +kernel) ha (he := he) (hpl := hpl)
end
/-! ## sorted(t), t a tuple of texts -/
def strsOf : List D → Option (List Str)
  | [] => some []
  | .str s :: r => (strsOf r).map (s :: ·)
  | _ => none
def srtD (x : D) (k : List Str → Prop) : Prop := match x with
  | .tup xs => match strsOf xs with
    | some ss => k ss
    | none => False
  | _ => False
def eSrtT (f : WE) : WE := fun E env M Q => f E env M fun x M1 => srtD x fun ss => ss.length < 64 ∧ ∀ ys p, ys.Perm ss → sortedS ys = true → M1 p = none → Q (.ref p) (M1.set p (.lst (ys.map .str)))
@[simp] theorem eSrtT_s {f : WE} {E : XW} {env : Ev} {M : Sto} {Q : KD} : eSrtT f E env M Q = f E env M fun x M1 => srtD x fun ss => ss.length < 64 ∧ ∀ ys p, ys.Perm ss → sortedS ys = true → M1 p = none → Q (.ref p) (M1.set p (.lst (ys.map .str))) := id rfl
theorem strsOf_map : ∀ xs : List Str, strsOf (xs.map .str) = some xs
  | [] => rfl
  | x :: xs => by simp [strsOf, strsOf_map xs]
theorem srtD_map {xs : List Str} {k : List Str → Prop} (h : k xs) : srtD (.tup (xs.map .str)) k := by
  unfold srtD; dsimp only; rw [strsOf_map]; exact h
theorem strsOf_some : ∀ {ds : List D} {ss : List Str}, strsOf ds = some ss → ds = ss.map .str
  | [], ss, h => by simp [strsOf] at h; subst h; rfl
  | d :: ds, ss, h => by
    cases d with
    | str s =>
      simp only [strsOf, Option.map_eq_some_iff] at h
      obtain ⟨r, e, rfl⟩ := h
      rw [strsOf_some e]; rfl
    | _ => simp [strsOf] at h
theorem reps_strs_inv {K : PySem.W.Frag} {H : Hp} : ∀ {ss : List Str} {vs : List V}, Reps K H vs (ss.map .str) → vs = ss.map V.str
  | [], _, .nil => rfl
  | s :: ss, _, .cons r t => by cases r; rw [reps_strs_inv t]; rfl
def rSrtT (K : PySem.W.Frag) : List V → Hp → VK → Prop := fun vs H Q => ∃ (a : Addr) (ks : List Str), vs = [V.ref a] ∧ SqT K H a (ks.map V.str) ∧ ks.length < 64 ∧
  ∀ (ys : List Str) (p : Addr), ys.Perm ks → sortedS ys = true → H p = none → Q (.ref p) (upd H p (.lst (ys.map V.str)))
theorem cr_srtT {X : Cx} : CallR X (.builtin "sorted") (rSrtT X.K) := by
  intro pins s σ H xs us Q I r q
  obtain ⟨a, ks, ex, hs, h64, q⟩ := q
  subst ex
  obtain ⟨u, eu, rx⟩ := vals1 r
  subst eu
  cases rx
  obtain ⟨its, rv, ⟨o, ho, hcl, n, hd⟩, hz⟩ := I.tuple hs
  have hl : its.length = ks.length := by rw [← rv.length, List.length_map]
  have h16 : its.length ≤ sizeLine := by rw [hl, sizeLine_eq]; omega
  have hS : StrsAre its ks := rv.strs
  refine Calls.call_function_entry PyProof.Rows.kind_sorted PyProof.Rows.plain_sorted PyProof.Rows.entry_sorted (PyProof.Rows.args_sorted1 _) ?_
  unfold Builtin.«sorted»
  refine wpAny_bind (m := checkCount "sorted" 1 1 _) (wpAny_pure ?_)
  refine wpAny_bind (wpAny_collect_seq a (.inr rfl) ho hcl hd (fun h' hk => ?_) (by rw [List.size_toArray]; exact h16))
  have I1 : Inv X pins σ H { s with heap := h' } := I.kept (t' := s.toks) hk
  refine wpAny_bind (wpAny_newList ?_ (by rw [hl, sizeLine_eq]; omega))
  have hoL : (h'.push (seqObj "list" its.toArray 0)).get? h'.objs.size = some (seqObj "list" its.toArray 0) := Heap.get?_push_size _ rfl
  show wpAny _ _ _ _ _ { s with heap := h'.push (seqObj "list" its.toArray 0) }
  refine wpAny_bind (wpAny_holding (wpAny_call_entry PyProof.Rows.slot_list_sort ⟨_, hoL, rfl⟩ PyProof.Rows.entry_list_sort
    (list_sort_treeK strKind_oneLt (s := { s with heap := h'.push (seqObj "list" its.toArray 0) }) hoL hS.keysOf (fun v₁ v₂ rest e => keyKind_strs (by rw [← e]; exact hS)) (by rw [hl]; exact h64) fun st' hp hs => ⟨_, rfl, ?_⟩)
    (PyProof.Rows.args_list_sort _)))
  obtain ⟨ys, g1, g2, g3⟩ := sorted_out_str hS hp hs
  obtain ⟨e', he'⟩ := PyProof.Rows.sortedHeap_at (vs := its) (out := (arrOf st').map (·.2)) hoL
  have hlen : (ys.map V.str).length ≤ sizeLine := by
    rw [List.length_map, g2.length_eq]
    exact Nat.le_trans (Nat.le_of_lt h64) (by decide)
  refine wpAny_pure ⟨_, rfl, .ref h'.objs.size, upd H h'.objs.size (.lst (ys.map V.str)), I1.laid (t' := s.toks) (fun b u e => ?_) (Nat.le_refl _)
    (show ObjOk X.prog X.w _ _ _ (.lst (ys.map V.str)) from ⟨hlen, ((arrOf st').map (·.2)).toList, e', vals_of_strs g1, by rw [Array.toArray_toList]; exact he'⟩), rfl, q ys _ g2 g3 (I1.hok.fresh (Nat.le_refl _))⟩
  have hb : b < h'.objs.size := Heap.lt_size e
  rw [PyProof.Rows.sortedHeap_old (Nat.ne_of_lt hb) (by rw [size_push']; exact Nat.lt_succ_of_lt hb)]
  exact Heap.get?_push_of_some _ e
section
variable {X : Cx} {CA : String → Addr} {XE : XK} {a : Expr} {f : WE} {pos p : Pos}
theorem d_srtT (hm : X.mg "sorted" = none) (ha : SE X CA XE a f) (hg : Gl X "sorted" := by rfl) (he : starEach [a] X.env = (false, eval a X.env) :: starEach [] X.env := by rfl) (hpl : (backTo pos (starEach [] X.env)).any (·.1) = false := by rfl) : SE X CA XE (.Call (.Name "sorted" p) [a] [] pos) (eSrtT f) :=
  d_b1 (G := fun d M Q => srtD d fun ss => ss.length < 64 ∧ ∀ ys p, ys.Perm ss → sortedS ys = true → M p = none → Q (.ref p) (M.set p (.lst (ys.map .str)))) cr_srtT (fun v d M H Qd Q r1 hR h k => by
    unfold srtD at h
    split at h
    · split at h
      · rename_i ss e
        obtain rfl := strsOf_some e
        cases r1 with
        | tup s1 q1 =>
          obtain rfl := reps_strs_inv q1
          refine ⟨_, ss, rfl, s1.s, h.1, fun ys l hp hs hl => ?_⟩
          obtain ⟨x, y⟩ := lay_lst (c := cn X CA) hl (reps_strs ys) hR
          exact k _ _ _ _ (h.2 ys l hp hs (hR.fresh hl)) (.ref l) x y
      · exact h.elim
    · exact h.elim) hg hm (by decide +kernel) ha (he := he) (hpl := hpl)
end
/-! ## sorted(xs, key=len), xs a list of tuples -/
def lenT : D → Nat
  | .tup xs => xs.length
  | _ => 0
def isT : D → Bool
  | .tup _ => true
  | _ => false
def srtLO (o : Option O) (k : List D → Prop) : Prop := match o with
  | some (.lst xs) => xs.all isT = true ∧ k xs
  | _ => False
def srtLD (x : D) (M : Sto) (k : List D → Prop) : Prop := match x with
  | .ref a => srtLO (M a) k
  | _ => False
def eSrtLen (f : WE) : WE := fun E env M Q => f E env M fun x M1 => srtLD x M1 fun xs => ∀ ys p, ys.Perm xs → ys.Pairwise (fun a b => lenT a ≤ lenT b) → M1 p = none → Q (.ref p) (M1.set p (.lst ys))
@[simp] theorem eSrtLen_s {f : WE} {E : XW} {env : Ev} {M : Sto} {Q : KD} : eSrtLen f E env M Q = f E env M fun x M1 => srtLD x M1 fun xs => ∀ ys p, ys.Perm xs → ys.Pairwise (fun a b => lenT a ≤ lenT b) → M1 p = none → Q (.ref p) (M1.set p (.lst ys)) := id rfl
@[simp] theorem srtLD_ref {a : Addr} {M : Sto} {k : List D → Prop} : srtLD (.ref a) M k = srtLO (M a) k := id rfl
@[simp] theorem srtLO_lst {xs : List D} {k : List D → Prop} : srtLO (some (.lst xs)) k = (xs.all isT = true ∧ k xs) := id rfl
section
variable {X : Cx} {CA : String → Addr} {XE : XK} {a : Expr} {f : WE} {pos p pl kpos : Pos}
/-- what stands for what, when tuples are sorted by their lengths -/
def RLen (X : Cx) (H : Hp) (s : Shared) : Value → V × D → Prop := fun u b => RelV b.1 u ∧ Rep X.K H b.1 b.2 ∧ ∃ t items, u = .ref t ∧ s.heap.IsTuple t items ∧ items.size = lenT b.2 ∧ items.size ≤ sizeLine
open PySem.W in
theorem each_len {pins : List (Addr × Obj)} {σ : L2.St} {H : Hp} {s : Shared} (I : Inv X pins σ H s) : ∀ {xs : List D} {vs : List V} {us : List Value}, Reps X.K H vs xs → Vals vs us → xs.all isT = true → EachIs (RLen X H s) us (vs.zip xs)
  | [], _, _, r, rv, _ => by
    cases r; cases rv; exact .nil
  | d :: xs, _, _, r, rv, ht => by
    cases r with
    | cons rd t =>
      cases rv with
      | cons r1 r2 =>
        rw [List.all_cons, Bool.and_eq_true] at ht
        rw [List.zip_cons_cons]
        refine .cons ⟨r1, rd, ?_⟩ (each_len I t r2 ht.2)
        cases rd with
        | tup s1 q1 =>
          obtain ⟨its', rv', pl, hz'⟩ := I.tuple s1.s
          obtain rfl : _ = Value.ref _ := r1
          have h1 := rv'.length
          have h2 := q1.length
          exact ⟨_, _, rfl, pl, by show its'.toArray.size = _; rw [List.size_toArray, ← h1, h2]; rfl, by rw [List.size_toArray, ← h1]; exact hz'⟩
        | _ => simp [isT] at ht
open PySem.W in
theorem sorted_len {pins : List (Addr × Obj)} {σ : L2.St} {H : Hp} {s : Shared} {Q : VK} {l : Addr} {vs : List V} {xs : List D} {k : Nat} (hr : Room k X.A) (I : Inv X pins σ H s) (hl : H l = some (.lst vs)) (r : Reps X.K H vs xs) (ht : xs.all isT = true)
    (q : ∀ (ws : List V) (ys : List D) (p : Addr), Reps X.K H ws ys → ys.Perm xs → ys.Pairwise (fun a b => lenT a ≤ lenT b) → H p = none → Q (.ref p) (upd H p (.lst ws))) :
    wpAny (model X.prog X.w) X.A (call (.builtin "sorted") [.ref l] [(Str.ofString "key", .builtin "len")]) (EP X pins σ Q) X.xe s := by
  obtain ⟨hz, its, n, rv, ho⟩ := I.hok l _ hl
  have hlen := r.length
  have hil := rv.length
  have hu := hr.units
  let R : Value → V × D → Prop := RLen X H s
  have key : ∀ {xs : List D} {vs : List V} {us : List Value}, Reps X.K H vs xs → Vals vs us → xs.all isT = true → EachIs R us (vs.zip xs) := each_len I
  have E0 := key r rv ht
  have hbl : (vs.zip xs).length = vs.length := by rw [List.length_zip, hlen, Nat.min_self]
  refine sorted_key_data (b := false) (f := .builtin "len") (β := V × D) (R := R) (bs := vs.zip xs) (vs := its) (fun b => .int (lenT b.2)) ⟨_, ho, rfl, _, rfl⟩ E0 (AllAlike.of fun _ _ => by simp [alike]) (Sortable.others fun _ => ⟨by simp, by simp⟩) (by rw [hbl]; exact hz) (fun b _ => by show X.A.units + 2 + PyData.depth (.int _) < cLine; simp [PyData.depth]; omega)
    (ksk_s1 _ _) (fun _ => ksk_l1 _ _) (fun _ => ksk_t4 _ _) ?_ ?_
  · rintro v x ⟨_, _, t, items, rfl, hp, hs, hb⟩ hx h tk kp
    have hp' : h.IsTuple t items := by
      obtain ⟨o, ho, hc, n, hd⟩ := hp
      exact ⟨o, kp _ _ ho, hc, n, hd⟩
    have hsl := sizeLine_eq
    have hn := line63
    refine len_tuple (s := { s with heap := h, toks := tk }) hp' (by omega) ⟨h, _, rfl, fun b o e => e, ?_⟩
    rw [hs]
    exact Reads.int _ _
  · intro out c h' tk kp hn hD hol eo
    rw [dataLe_int] at eo
    generalize hcs : (vs.zip xs).mergeSort (fun a b => decide ((lenT a.2 : Int) ≤ lenT b.2)) = cs at eo
    have pm : cs.Perm (vs.zip xs) := by rw [← hcs]; exact List.mergeSort_perm _ _
    have srt : cs.Pairwise (fun a b => decide ((lenT a.2 : Int) ≤ lenT b.2) = true) := by
      rw [← hcs]
      exact List.pairwise_mergeSort (fun a b c h1 h2 => by simp at h1 h2 ⊢; omega) (fun a b => by simp; omega) _
    have sp : ∀ {us : List Value} {cs : List (V × D)}, EachIs R us cs → Vals (cs.map Prod.fst) us ∧ Reps X.K H (cs.map Prod.fst) (cs.map Prod.snd) := by
      intro us cs e
      induction e with
      | nil => exact ⟨.nil, .nil⟩
      | cons h1 _ ih => exact ⟨.cons h1.1 ih.1, .cons h1.2.1 ih.2⟩
    obtain ⟨w1, w2⟩ := sp eo
    have hzl : (cs.map Prod.fst).length ≤ sizeLine := by rw [List.length_map, pm.length_eq, hbl]; exact hz
    have hfr : H (s.heap.objs.size + 1) = none := I.hok.fresh (Nat.le_succ _)
    refine ⟨.ref (s.heap.objs.size + 1), upd H (s.heap.objs.size + 1) (.lst (cs.map Prod.fst)), I.laid (t' := tk) kp (Nat.le_succ _) (show ObjOk X.prog X.w _ _ _ (.lst (cs.map Prod.fst)) from ⟨hzl, out, c, w1, hD⟩), rfl, q _ (cs.map Prod.snd) _ w2 ?_ ?_ hfr⟩
    · have h2 : (vs.zip xs).map Prod.snd = xs := by rw [List.map_snd_zip]; omega
      rw [← h2]; exact pm.map _
    · rw [List.pairwise_map]
      exact srt.imp fun h => by simp at h; omega
theorem d_srtLen {k : Nat} (hr : Room k X.A) (hm : X.mg "sorted" = none) (hml : X.mg "len" = none) (ha : SE X CA XE a f) (hg : Gl X "sorted" := by rfl) (hgl : Gl X "len" := by rfl) (he2 : starEach [a] X.env = (false, eval a X.env) :: starEach [] X.env := by rfl)
    (he : backTo pos (starEach [a] X.env) = (false, eval a X.env) :: backTo pos (starEach [] X.env) := by rfl) (hpl : (backTo pos (starEach [a] X.env)).any (·.1) = false := by rfl)
    (hall : (backToKw pos (keywordEach [⟨some "key", .Name "len" pl, kpos⟩] X.env)).all (·.1.isSome) = true := by rfl) (hnone : (backToKw pos (keywordEach [⟨some "key", .Name "len" pl, kpos⟩] X.env)).any (·.1.isNone) = false := by rfl)
    (hks : (backToKw pos (keywordEach [⟨some "key", .Name "len" pl, kpos⟩] X.env)).filterMap (·.1) = [Str.ofString "key"] := by rfl) :
    SE X CA XE (.Call (.Name "sorted" p) [a] [⟨some "key", .Name "len" pl, kpos⟩] pos) (eSrtLen f) := by
  refine ⟨fun pins s σ H Q I ⟨env, M, Ed, Qd, p, q, k⟩ => ?_⟩
  refine wpAny_Call_Name_kw (ld_blt (u := .builtin "sorted") I hg hm (by decide +kernel) ?_)
  have pa : PA X [a] _ := pa_cons ha pa_nil he2
  refine PyProof.Rows.callWith_kw (thn (pa.run pos pins s σ H (fun vs H1 => ∃ d v M1, vs = [v] ∧ (srtLD d M1 fun xs => ∀ ys p, ys.Perm xs → ys.Pairwise (fun a b => lenT a ≤ lenT b) → M1 p = none → Qd (.ref p) (M1.set p (.lst ys))) ∧ Rep X.K H1 v d ∧ R (cn X CA) M1 H1 ∧ Tups X.K H H1) I
    ⟨env, M, Ed, _, p, q, fun d M1 v H1 q1 r1 R1 T1 => ⟨d, v, M1, rfl, q1, r1, R1, T1⟩⟩) fun us s1 ⟨vs, H1, I1, r1, d, v, M1, ev, q1, rv, R1, T1⟩ => ?_) he hpl hall hnone
  subst ev
  show wpAny _ _ (evalAll ((do let v ← eval (.Name "len" pl) X.env; standAt pos; pure v) :: [])) _ _ s1
  refine wpAny_evalAll_cons (wpAny_bind (ld_blt (u := .builtin "len") I1 hgl hml (by decide +kernel) (wpAny_bind (wpAny_standAt (wpAny_pure (wpAny_evalAll_nil ?_))))))
  rw [hks]
  obtain ⟨u, rfl, ru⟩ := vals1 r1
  unfold srtLD at q1
  split at q1
  · cases rv
    obtain rfl : u = Value.ref _ := ru
    unfold srtLO at q1
    split at q1
    · rename_i xs e
      obtain ⟨ws, h1, rr⟩ := R1 _ _ e
      show wpAny _ _ (call (.builtin "sorted") [.ref _] [(Str.ofString "key", .builtin "len")]) _ _ s1
      refine sorted_len hr I1 h1 rr q1.1 fun ws' ys l rw' pm pw hl => ?_
      obtain ⟨x, y⟩ := lay_lst (c := cn X CA) hl rw' R1
      exact k _ _ _ _ (q1.2 ys l pm pw (R1.fresh hl)) (.ref l) x (T1.trans y)
    · exact q1.elim
  · exact q1.elim
end
end DL

set_option Elab.async false
set_option linter.all false
set_option maxRecDepth 100000
/-! G1: what the laws' makers of programs ask and tell -/
namespace DL
open PySem
/-- what a script's reader stands at -/
def cs (b : Addr) (i j k l : Int) : O := .lst [.ref b, .int i, .int j, .int k, .int l]
def CO (b : Addr) (o : O) : Prop := ∃ i j k l, 0 ≤ i ∧ o = cs b i j k l
structure CSt (M : Sto) (a b : Addr) : Prop where
  ne : a ≠ b
  xs : ∃ xs : List Int, M b = some (.lst (xs.map .int))
  o : ∃ o, M a = some o ∧ CO b o
/-- from M to M' nothing is changed but what stands at a -/
structure Fr (a b : Addr) (M M' : Sto) : Prop where
  l : LeX a M M'
  o : ∃ o, M' a = some o ∧ CO b o
section
variable {M M' : Sto} {a b p : Addr} {o : O}
theorem CSt.pa (h : CSt M a b) (hp : M p = none) : p ≠ a := by
  obtain ⟨o, e, _⟩ := h.o
  exact (ne_of e hp).symm
theorem CSt.pb (h : CSt M a b) (hp : M p = none) : p ≠ b := by
  obtain ⟨xs, e⟩ := h.xs
  exact (ne_of e hp).symm
theorem CSt.fresh (h : CSt M a b) (hp : M p = none) : CSt (M.set p o) a b :=
  ⟨h.ne, by obtain ⟨xs, e⟩ := h.xs; exact ⟨xs, by rw [set_ne (h.pb hp).symm]; exact e⟩, by obtain ⟨u, e, c⟩ := h.o; exact ⟨u, by rw [set_ne (h.pa hp).symm]; exact e, c⟩⟩
theorem CSt.set (h : CSt M a b) (c : CO b o) : CSt (M.set a o) a b :=
  ⟨h.ne, by obtain ⟨xs, e⟩ := h.xs; exact ⟨xs, by rw [set_ne h.ne.symm]; exact e⟩, ⟨o, set_same, c⟩⟩
theorem CSt.fr (h : CSt M a b) (f : Fr a b M M') : CSt M' a b := ⟨h.ne, by obtain ⟨xs, e⟩ := h.xs; exact ⟨xs, f.l _ _ h.ne.symm e⟩, f.o⟩
theorem CSt.refl (h : CSt M a b) : Fr a b M M := ⟨.refl, h.o⟩
theorem Fr.fresh (f : Fr a b M M') (hp : M' p = none) : Fr a b M (M'.set p o) := by
  have hpa : p ≠ a := by
    obtain ⟨o, e, _⟩ := f.o
    exact (ne_of e hp).symm
  refine ⟨fun x u hx e => ?_, by obtain ⟨u, e, c⟩ := f.o; exact ⟨u, by rw [set_ne hpa.symm]; exact e, c⟩⟩
  have e' := f.l x u hx e
  rw [set_ne (ne_of e' hp)]; exact e'
/-- also at a place that was not there before -/
theorem Fr.upd {u : O} (f : Fr a b M M') (hp : M p = none) (hpa : p ≠ a) : Fr a b M (M'.set p u) := by
  refine ⟨fun x w hx e => ?_, by obtain ⟨u, e, c⟩ := f.o; exact ⟨u, by rw [set_ne hpa.symm]; exact e, c⟩⟩
  rw [set_ne (ne_of e hp)]; exact f.l x w hx e
theorem Fr.set (f : Fr a b M M') (c : CO b o) : Fr a b M (M'.set a o) := ⟨f.l.at, ⟨o, set_same, c⟩⟩
theorem Fr.trans {M'' : Sto} (f : Fr a b M M') (g : Fr a b M' M'') : Fr a b M M'' := ⟨f.l.trans g.l, g.o⟩
theorem Fr.none (f : Fr a b M M') (hp : M' p = none) : p ≠ a ∧ M p = none := by
  have hpa : p ≠ a := by
    obtain ⟨o, e, _⟩ := f.o
    exact (ne_of e hp).symm
  refine ⟨hpa, ?_⟩
  cases hm : M p with
  | none => rfl
  | some u => rw [f.l p u hpa hm] at hp; cases hp
theorem Fr.le (f : Fr a b M M') : ∃ o, CO b o ∧ Le (M.set a o) M' := by
  obtain ⟨o, e, c⟩ := f.o
  exact ⟨o, c, f.l.le e⟩
theorem Fr.at (f : Fr a b M M') (hx : p ≠ a) (e : M p = some o) : M' p = some o := f.l _ _ hx e
end
def S_law_start : FD := fn1 fun x _ M Q => ∃ ns : List Int, x = .lro (ns.map .int) ∧ ns.length ≤ 63 ∧ ∀ a b, a ≠ b → M a = none → M b = none → Q (.ref a) ((M.set b (.lst (ns.map .int))).set a (cs b 0 0 0 20))
def S_law_fill : FD := fn1 fun c _ M Q => ∃ a b, c = .ref a ∧ CSt M a b ∧ ∀ v o, CO b o → Q (.int v) (M.set a o)
def S_law_take : FD := fn2 fun c m _ M Q => ∃ a b many, c = .ref a ∧ m = .int many ∧ 0 < many ∧ many < 1073741824 ∧ CSt M a b ∧ ∀ d o, 0 ≤ d → d < many → CO b o → Q (.int d) (M.set a o)
def S_law_divisor : FD := fn2 fun x y _ M Q => ∃ n d : Int, x = .int n ∧ y = .int d ∧ 0 < d ∧ Sm 8999 d ∧ Q (.int (Int.gcd n d)) M
/-- a fraction in lowest terms -/
def fr (n d : Int) : Int × Int := (n / (Int.gcd n d : Int), d / (Int.gcd n d : Int))
def dF (q : Int × Int) : D := .tup [.int q.1, .int q.2]
def S_law_fraction : FD := fn2 fun x y _ M Q => ∃ n d : Int, x = .int n ∧ y = .int d ∧ 0 < d ∧ Sm 8999 d ∧ Q (dF (fr n d)) M
def S_law_plus : FD := fn2 fun x y _ M Q => ∃ a b : Int × Int, x = dF a ∧ y = dF b ∧ 0 < a.2 ∧ 0 < b.2 ∧ Sm 4000 a.1 ∧ Sm 4000 a.2 ∧ Sm 4000 b.1 ∧ Sm 4000 b.2 ∧ Q (dF (fr (a.1 * b.2 + b.1 * a.2) (a.2 * b.2))) M
def S_law_times : FD := fn2 fun x y _ M Q => ∃ a b : Int × Int, x = dF a ∧ y = dF b ∧ 0 < a.2 ∧ 0 < b.2 ∧ Sm 4000 a.1 ∧ Sm 4000 a.2 ∧ Sm 4000 b.1 ∧ Sm 4000 b.2 ∧ Q (dF (fr (a.1 * b.1) (a.2 * b.2))) M
/-! the rows of chances that are drawn -/
def lcmR (rows : List (Int × Int)) : Int := rows.foldl (fun f r => f * r.2 / (Int.gcd f r.2 : Int)) 1
def menu : List (Int × Int) := [(1, 1), (1, 2), (1, 3), (2, 3), (1, 4), (3, 4), (1, 5), (2, 7), (1, 10)]
def cut2 (q : Int × Int) : List (Int × Int) := [q, fr (q.2 - q.1) q.2]
def cut3 (q u : Int × Int) : List (Int × Int) :=
  let rest := fr (q.2 - q.1) q.2
  let part := fr (rest.1 * u.1) (rest.2 * u.2)
  [q, part, fr (rest.1 * part.2 + (0 - part.1) * rest.2) (rest.2 * part.2)]
def cuts : List (List (Int × Int)) := [(1, 1)] :: ((menu.drop 1).map cut2 ++ ((menu.drop 1).map fun q => (menu.drop 1).map fun u => cut3 q u).flatten)
def S_law_cut : FD := fn1 fun c _ M Q => ∃ a b, c = .ref a ∧ CSt M a b ∧ ∀ rows o p, rows ∈ cuts → CO b o → p ≠ a → M p = none → Q (.ref p) ((M.set a o).set p (.lst (rows.map dF)))
/-! bodies -/
def dRow (r : (Int × Int) × D) : D := .tup [dF r.1, r.2]
abbrev dEnd : D := .tup [.str "end"]
abbrev dStop : D := .tup [.str "stop"]
def WB (ns ls : List Str) : Nat → D → Prop
  | 0, d => d = dEnd ∨ d = dStop
  | n + 1, d => d = dEnd ∨ d = dStop ∨ (∃ s b, s ∈ ls ∧ d = .tup [.str "tell", .str s, b] ∧ WB ns ls n b) ∨ (∃ s b, s ∈ ns ∧ d = .tup [.str "call", .str s, b] ∧ WB ns ls n b) ∨
    (∃ rs : List ((Int × Int) × D), rs.map Prod.fst ∈ cuts ∧ d = .tup [.str "draw", .tup (rs.map dRow)] ∧ ∀ r ∈ rs, WB ns ls n r.2)
theorem WB.succ {ns ls : List Str} : ∀ {n : Nat} {d : D}, WB ns ls n d → WB ns ls (n + 1) d
  | 0, d, h => by
    rcases h with h | h
    · exact .inl h
    · exact .inr (.inl h)
  | n + 1, d, h => by
    rcases h with h | h | ⟨s, b, h1, h2, h3⟩ | ⟨s, b, h1, h2, h3⟩ | ⟨rs, h1, h2, h3⟩
    · exact .inl h
    · exact .inr (.inl h)
    · exact .inr (.inr (.inl ⟨s, b, h1, h2, h3.succ⟩))
    · exact .inr (.inr (.inr (.inl ⟨s, b, h1, h2, h3.succ⟩)))
    · exact .inr (.inr (.inr (.inr ⟨rs, h1, h2, fun r hr => (h3 r hr).succ⟩)))
theorem WB.mono {ns ls : List Str} {m n : Nat} {d : D} (h : WB ns ls m d) (hl : m ≤ n) : WB ns ls n d := by
  induction hl with
  | refl => exact h
  | step _ ih => exact ih.succ
def S_law_body (n : Nat) : FD := fn4 fun c names letters deep _ M Q => ∃ a b pn pl, ∃ ns ls : List Str, ∃ k : Nat, c = .ref a ∧ CSt M a b ∧ names = .ref pn ∧ pn ≠ a ∧ M pn = some (.lst (ns.map .str)) ∧ ns ≠ [] ∧ ns.length ≤ 100 ∧
  letters = .ref pl ∧ pl ≠ a ∧ M pl = some (.lst (ls.map .str)) ∧ ls.length ≤ 100 ∧ deep = .int k ∧ k < n ∧ ∀ d o, WB ns ls k d → CO b o → Q d (M.set a o)
def N4 : List Str := ["p", "q", "r2", "s"]
def L3 : List Str := ["a", "b", "p"]
def rotN (i k : Nat) : List Str := (N4.take (1 + i)).drop k ++ (N4.take (1 + i)).take k
def allN : List (List Str) := [0, 1, 2, 3].flatMap fun i => (List.range (1 + i)).map (rotN i)
def allL : List (List Str) := [0, 1, 2, 3].map L3.take
def dProc (r : Str × D) : D := .tup [.str r.1, r.2]
/-- programs as they are drawn -/
def WP (rs : List (Str × D)) : Prop := rs.map Prod.fst ∈ allN ∧ ∃ ls ∈ allL, ∀ r ∈ rs, WB (rs.map Prod.fst) ls 5 r.2
def S_law_program : FD := fn1 fun c _ M Q => ∃ a b, c = .ref a ∧ CSt M a b ∧ ∀ rs o, WP rs → CO b o → Q (.tup (rs.map dProc)) (M.set a o)
end DL

set_option Elab.async false
set_option linter.all false
set_option maxRecDepth 100000
/-! mirrors of the text's defs (printed by gen.py) -/
namespace DL
open PySem
def CE_law_start_1 : WE :=
  (eInt (eVar 1))
def B_law_start : WS :=
  (sRet (eLst [(eComp (iVal (eSl (eVar 0) none (some (eC (.int 63))))) [1] (gName 1) tYes CE_law_start_1), (eC (.int 0)), (eC (.int 0)), (eC (.int 0)), (eC (.int 20))]))
def T_law_fill_1 : WS :=
  (sIf (tCmp cGe (eVar 1) (eBin opPow (eC (.int 10)) (eC (.int 18)))) (sRet (eVar 1)) sNil)
def T_law_fill_2 : WS :=
  (sSeq (sAsg (eBin opMod (eInt (eBin opAdd (eBin opMul (eVar 1) (eC (.int 48271))) (eBin opMul (eSub (eVar 0) (eC (.int 3))) (eC (.int 69621))))) (eC (.int 2147483647))) (gName 1)) (sRet (eBin opAdd (eBin opDiv (eInt (eBin opAdd (eBin opAdd (eBin opMul (eVar 1) (eVar 1)) (eBin opMul (eSub (eVar 0) (eC (.int 3))) (eC (.int 7919)))) (eC (.int 11)))) (eC (.int 64))) (eC (.int 36028797018963968)))))
def T_law_fill_3 : WS :=
  (sSeq (sIf (tAnd (tTru (eSub (eVar 0) (eC (.int 0)))) (tCmp cGe (eSub (eVar 0) (eC (.int 1))) (eLen (eSub (eVar 0) (eC (.int 0)))))) (sAsg (eBin opAdd (eVar 1) (eBin opMod (eInt (eSub (eSub (eVar 0) (eC (.int 0))) (eNeg (eC (.int 1))))) (eC (.int 1000003)))) (gName 1)) sNil) T_law_fill_2)
def B_law_fill : WS :=
  (sSeq (sAsg (eBin opAdd (eSub (eVar 0) (eC (.int 3))) (eC (.int 1))) (gSub (eVar 0) (eC (.int 3)))) (sSeq (sAsg (eBin opAdd (eBin opMul (eSub (eVar 0) (eC (.int 3))) (eC (.int 69621))) (eC (.int 12345))) (gName 1)) (sSeq (sIf (tCmp cLt (eSub (eVar 0) (eC (.int 1))) (eLen (eSub (eVar 0) (eC (.int 0))))) (sSeq (sAsg (eSub (eSub (eVar 0) (eC (.int 0))) (eSub (eVar 0) (eC (.int 1)))) (gName 1)) (sSeq (sAsg (eBin opAdd (eSub (eVar 0) (eC (.int 1))) (eC (.int 1))) (gSub (eVar 0) (eC (.int 1)))) (sSeq (sIf (tCmp cLt (eVar 1) (eC (.int 0))) (sAsg (eBin opSub (eBin opSub (eC (.int 0)) (eC (.int 1))) (eVar 1)) (gName 1)) sNil) T_law_fill_1))) sNil) T_law_fill_3)))
def T_law_take_1 : WS :=
  (sSeq (sAsg (eBin opMod (eInt (eSub (eVar 0) (eC (.int 2)))) (eVar 1)) (gName 2)) (sSeq (sAsg (eBin opDiv (eSub (eVar 0) (eC (.int 2))) (eVar 1)) (gSub (eVar 0) (eC (.int 2)))) (sRet (eVar 2))))
def B_law_take : WS :=
  (sSeq (sIf (tCmp cLt (eSub (eVar 0) (eC (.int 2))) (eVar 1)) (sAsg (eCall S_law_fill [(eVar 0)]) (gSub (eVar 0) (eC (.int 2)))) sNil) T_law_take_1)
def T_law_divisor_1 : WS :=
  (sAsg (eTup [(eVar 1), (eBin opMod (eVar 0) (eVar 1))]) (gTup [gName 0, gName 1]))
def FB_law_divisor_1 : WS :=
  (sSeq (sIf (tCmp cEq (eVar 1) (eC (.int 0))) (sRet (eAbs (eVar 0))) sNil) T_law_divisor_1)
def T_law_divisor_2 : WS :=
  (sRet (eC (.int 1)))
def B_law_divisor : WS :=
  (sSeq (sFor (iRange1 (eC (.int 20000))) (gName 2) FB_law_divisor_1) T_law_divisor_2)
def B_law_fraction : WS :=
  (sSeq (sAsg (eCall S_law_divisor [(eVar 0), (eVar 1)]) (gName 2)) (sSeq (sAsg (eIf (tCmp cGt (eVar 1) (eC (.int 0))) (eVar 2) (eBin opSub (eC (.int 0)) (eVar 2))) (gName 2)) (sRet (eTup [(eBin opDiv (eVar 0) (eVar 2)), (eBin opDiv (eVar 1) (eVar 2))]))))
def B_law_plus : WS :=
  (sRet (eCall S_law_fraction [(eBin opAdd (eBin opMul (eSub (eVar 0) (eC (.int 0))) (eSub (eVar 1) (eC (.int 1)))) (eBin opMul (eSub (eVar 1) (eC (.int 0))) (eSub (eVar 0) (eC (.int 1))))), (eBin opMul (eSub (eVar 0) (eC (.int 1))) (eSub (eVar 1) (eC (.int 1))))]))
def B_law_times : WS :=
  (sRet (eCall S_law_fraction [(eBin opMul (eSub (eVar 0) (eC (.int 0))) (eSub (eVar 1) (eC (.int 0)))), (eBin opMul (eSub (eVar 0) (eC (.int 1))) (eSub (eVar 1) (eC (.int 1))))]))
def T_law_cut_1 : WS :=
  (sRet (eBin opAdd (eVar 2) (eLst [(eVar 3)])))
def T_law_cut_2 : WS :=
  (sSeq (sAsg (eLst [(eTup [(eVar 4), (eVar 5)])]) (gName 2)) (sSeq (sAsg (eCall S_law_fraction [(eBin opSub (eVar 5) (eVar 4)), (eVar 5)]) (gName 3)) (sSeq (sIf (tCmp cEq (eCall S_law_take [(eVar 0), (eC (.int 3))]) (eC (.int 0))) (sSeq (sAsg (eSub (eVar 1) (eBin opAdd (eC (.int 1)) (eCall S_law_take [(eVar 0), (eC (.int 8))]))) (gTup [(gName 4), (gName 5)])) (sSeq (sAsg (eCall S_law_times [(eVar 3), (eTup [(eVar 4), (eVar 5)])]) (gName 6)) (sSeq (sExpr (eAppend (eVar 2) (eVar 6))) (sAsg (eCall S_law_plus [(eVar 3), (eTup [(eBin opSub (eC (.int 0)) (eSub (eVar 6) (eC (.int 0)))), (eSub (eVar 6) (eC (.int 1)))])]) (gName 3))))) sNil) T_law_cut_1)))
def B_law_cut : WS :=
  (sSeq (sAsg (eLst [(eTup [(eC (.int 1)), (eC (.int 1))]), (eTup [(eC (.int 1)), (eC (.int 2))]), (eTup [(eC (.int 1)), (eC (.int 3))]), (eTup [(eC (.int 2)), (eC (.int 3))]), (eTup [(eC (.int 1)), (eC (.int 4))]), (eTup [(eC (.int 3)), (eC (.int 4))]), (eTup [(eC (.int 1)), (eC (.int 5))]), (eTup [(eC (.int 2)), (eC (.int 7))]), (eTup [(eC (.int 1)), (eC (.int 10))])]) (gName 1)) (sSeq (sAsg (eSub (eVar 1) (eCall S_law_take [(eVar 0), (eC (.int 9))])) (gTup [(gName 4), (gName 5)])) (sSeq (sIf (tCmp cEq (eVar 5) (eC (.int 1))) (sRet (eLst [(eTup [(eC (.int 1)), (eC (.int 1))])])) sNil) T_law_cut_2)))
def CE_law_body_1 (n : Nat) : WE :=
  (eTup [(eVar 5), (eCall (S_law_body n) [(eVar 0), (eVar 1), (eVar 2), (eBin opSub (eVar 3) (eC (.int 1)))])])
def T_law_body_1 (n : Nat) : WS :=
  (sRet (eTup [(eC (.str "draw")), (eTupOf (eComp (iVal (eCall S_law_cut [(eVar 0)])) [5] (gName 5) tYes (CE_law_body_1 n)))]))
def T_law_body_2 (n : Nat) : WS :=
  (sSeq (sIf (tCmp cLt (eVar 4) (eC (.int 6))) (sRet (eTup [(eC (.str "call")), (eSub (eVar 1) (eCall S_law_take [(eVar 0), (eLen (eVar 1))])), (eCall (S_law_body n) [(eVar 0), (eVar 1), (eVar 2), (eBin opSub (eVar 3) (eC (.int 1)))])])) sNil) (T_law_body_1 n))
def T_law_body_3 (n : Nat) : WS :=
  (sSeq (sIf (tAnd (tCmp cLt (eVar 4) (eC (.int 3))) (tTru (eVar 2))) (sRet (eTup [(eC (.str "tell")), (eSub (eVar 2) (eCall S_law_take [(eVar 0), (eLen (eVar 2))])), (eCall (S_law_body n) [(eVar 0), (eVar 1), (eVar 2), (eBin opSub (eVar 3) (eC (.int 1)))])])) sNil) (T_law_body_2 n))
def B_law_body (n : Nat) : WS :=
  (sSeq (sAsg (eCall S_law_take [(eVar 0), (eC (.int 9))]) (gName 4)) (sSeq (sIf (tOr (tCmp cLt (eVar 3) (eC (.int 1))) (tCmp cEq (eVar 4) (eC (.int 0)))) (sRet (eSub (eLst [(eTup [(eC (.str "end"))]), (eTup [(eC (.str "end"))]), (eTup [(eC (.str "end"))]), (eTup [(eC (.str "end"))]), (eTup [(eC (.str "stop"))])]) (eCall S_law_take [(eVar 0), (eC (.int 5))]))) sNil) (T_law_body_3 n)))
def CE_law_program_1 : WE :=
  (eTup [(eVar 4), (eCall (S_law_body 8) [(eVar 0), (eVar 1), (eVar 3), (eBin opAdd (eC (.int 1)) (eCall S_law_take [(eVar 0), (eC (.int 5))]))])])
def B_law_program : WS :=
  (sSeq (sAsg (eSl (eLst [(eC (.str "p")), (eC (.str "q")), (eC (.str "r2")), (eC (.str "s"))]) none (some (eBin opAdd (eC (.int 1)) (eCall S_law_take [(eVar 0), (eC (.int 4))])))) (gName 1)) (sSeq (sAsg (eCall S_law_take [(eVar 0), (eLen (eVar 1))]) (gName 2)) (sSeq (sAsg (eBin opAdd (eSl (eVar 1) (some (eVar 2)) none) (eSl (eVar 1) none (some (eVar 2)))) (gName 1)) (sSeq (sAsg (eSl (eLst [(eC (.str "a")), (eC (.str "b")), (eC (.str "p"))]) none (some (eCall S_law_take [(eVar 0), (eC (.int 4))]))) (gName 3)) (sRet (eTupOf (eComp (iVal (eVar 1)) [4] (gName 4) tYes CE_law_program_1)))))))
end DL

set_option Elab.async false
set_option linter.all false
set_option maxRecDepth 100000
set_option maxHeartbeats 4000000
namespace DL
open PySem
theorem Str.ne_of {a b : Str} (h : (a == b) = false) : a ≠ b := by intro e; subst e; simp at h
theorem ob_law_start : ∀ E ds M Q, S_law_start E ds M Q → B_law_start E (endsL Q) (start 2 ds) M := by
  intro E ds M Q h
  obtain ⟨x, rfl, ns, rfl, hl, hq⟩ := fn1_e h
  simp [B_law_start]
  intro p hp q hq'
  have e : cut (ns.map D.int) none (some 63) = ns.map D.int := by
    unfold cut HT.sIx
    rw [List.length_map]
    simp
    exact List.take_of_length_le (by rw [List.length_map]; omega)
  rw [e]
  have hpq : q ≠ p := (set_none.mp hq').1
  have hq0 := (set_none.mp hq').2
  refine comp_map id (fun m => m p = some (.lst (ns.map D.int))) (fun m o h => by rw [set_ne hpq.symm]; exact h) (fun _ h => h) _ [] _ ?_ ?_ set_same ?_ ?_
  · intro x hx m T r ht
    obtain ⟨i, _, rfl⟩ := List.mem_map.mp hx
    simp [CE_law_start_1]; exact ht
  · have := sizeLine_ge; simp; omega
  · rw [set_ne hpq.symm, set_same]
  · intro a ha
    simp only [List.nil_append, List.map_id]
    rw [set_set] at ha ⊢
    have h1 := set_none.mp ha
    have h2 := set_none.mp h1.2
    exact ⟨_, (((Le.refl.fresh hp).set).set : Le ((M.set q _).set a _) _), hq a q h1.1 h2.2 hq0⟩
theorem ob_law_fill : ∀ E ds M Q, S_law_fill E ds M Q → B_law_fill E (endsL Q) (start 2 ds) M := by
  intro E ds M Q h
  obtain ⟨x, rfl, a, b, rfl, hc, hq⟩ := fn1_e h
  obtain ⟨h2, ⟨xs, h5⟩, ⟨_, h4, i, j, k, l, h3, rfl⟩⟩ := hc
  have e5 : ∀ o, M.set a o b = some (.lst (xs.map .int)) := fun o => by rw [set_ne (Ne.symm h2)]; exact h5
  have hq' : ∀ (v i' j' k' l' : Int), 0 ≤ i' → ∃ M0, Le M0 (M.set a (cs b i' j' k' l')) ∧ Q (.int v) M0 := fun v i' j' k' l' hi => ⟨_, Le.refl, hq _ _ ⟨i', j', k', l', hi, rfl⟩⟩
  have tail : ∀ (v i' j' k' l' : Int), 0 ≤ i' → T_law_fill_2 E (endsL Q) [some (.ref a), some (.int v)] (M.set a (cs b i' j' k' l')) := by
    intro v i' j' k' l' hi
    simp [T_law_fill_2, cs, K, mulOk_small, np_small]
    refine ⟨?_, hq' _ _ _ _ _ hi⟩
    refine mulOk_small ?_
    have e1 := Int.emod_nonneg (a := v * 48271 + k' * 69621) (b := 2147483647) (by decide)
    have e2 := Int.emod_lt_of_pos (v * 48271 + k' * 69621) (b := 2147483647) (by decide)
    rw [fmod_pos (by decide)]
    omega
  have tail3 : ∀ (v i' j' k' l' : Int), 0 ≤ i' → T_law_fill_3 E (endsL Q) [some (.ref a), some (.int v)] (M.set a (cs b i' j' k' l')) := by
    intro v i' j' k' l' hi
    simp [T_law_fill_3, cs, e5]
    split
    · exact go (tail v i' j' k' l' hi)
    · rename_i hx
      split
      · have : 1 ≤ xs.length := by
          have : xs.length ≠ 0 := by simpa using hx
          omega
        rw [if_pos (by omega), Option.bind_some, show (-1 + (xs.length : Int)).toNat = xs.length - 1 from by omega, List.getElem?_eq_getElem (by omega)]
        simp
        exact go (tail _ i' j' k' l' hi)
      · exact go (tail _ i' j' k' l' hi)
  simp [B_law_fill, h4, cs, K, mulOk_small, e5, h3]
  split
  · rename_i hi
    have hi' : i.toNat < xs.length := by omega
    have := tail3
    simp [cs] at this
    simp [List.getElem?_eq_getElem hi', set_set, T_law_fill_1, K]
    have := sizeLine_ge
    split <;> split <;> first | exact hq' _ _ _ _ _ (by omega) | exact tail3 _ _ _ _ _ (by omega)
  · exact tail3 _ _ _ _ _ h3
theorem ob_law_take : ∀ E ds M Q, S_law_take E ds M Q → B_law_take E (endsL Q) (start 3 ds) M := by
  intro E ds M Q h
  obtain ⟨x, y, rfl, a, b, many, rfl, rfl, h0, h1, hc, hq⟩ := fn2_e h
  have tail : ∀ o, CO b o → T_law_take_1 E (endsL Q) [some (.ref a), some (.int many), none] (M.set a o) := by
    intro o hc'
    obtain ⟨i, j, k, l, h2, rfl⟩ := hc'
    simp [T_law_take_1, cs, K, fdiv_pos h0, fmod_pos h0, set_set]
    exact ⟨by omega, np_small (by omega), _, Le.refl, hq _ _ (Int.emod_nonneg _ (by omega)) (Int.emod_lt_of_pos _ h0) ⟨i, _, k, l, h2, rfl⟩⟩
  obtain ⟨h2, ⟨xs, h5⟩, ⟨_, h4, i, j, k, l, h3, rfl⟩⟩ := id hc
  simp [B_law_take, h4, cs]
  split
  · refine ⟨a, b, rfl, hc, fun v o hc' => ?_⟩
    obtain ⟨i', j', k', l', h3', rfl⟩ := hc'
    simp [cs, set_set]
    exact go (tail _ ⟨i', v, k', l', h3', rfl⟩)
  · have : M = M.set a (cs b i j k l) := (set_self h4).symm
    rw [this]
    exact go (tail _ ⟨i, j, k, l, h3, rfl⟩)
/-! ## fractions -/
theorem gcd_mod {a b : Int} (hb : 0 < b) : Int.gcd b (a % b) = Int.gcd a b := by
  rw [Int.emod_def, Int.gcd_sub_mul_left_right, Int.gcd_comm]
theorem div_loop {Q : KD} (E : XW) (M : Sto) : ∀ (m : Nat) (xs : List D) (a b : Int) (t : Option D) , 0 ≤ a → 0 ≤ b → Sm m b → 2 * m + 1 ≤ xs.length → Q (.int (Int.gcd a b)) M →
    forL (gName 2) FB_law_divisor_1 (fun _ => True) xs E { nx := K (T_law_divisor_2 E (endsL Q)), rt := (endsL Q).rt, bk := (endsL Q).bk, ct := (endsL Q).ct } [some (.int a), some (.int b), t] M
  | m, [], a, b, t, _, _, _, hl, _ => by simp at hl
  | m, x :: xs, a, b, t, h0, h1, hs, hl, hq => by
    rw [forL_cons]
    simp [FB_law_divisor_1]
    split
    · subst b
      refine ⟨M, Le.refl, ?_⟩
      simp [show ¬ a < 0 by omega] at hq ⊢
      rw [show (a.natAbs : Int) = a by omega] at hq; exact hq
    · have hb : 0 < b := by omega
      have r0 := Int.emod_nonneg a (b := b) (by omega)
      have r1 := Int.emod_lt_of_pos a hb
      refine go ?_
      simp [T_law_divisor_1, fmod_pos hb]
      refine ⟨by omega, go ?_⟩
      match m, hs, hl with
      | 0, hs, hl => exact absurd hs.h (by simp; omega)
      | m + 1, hs, hl =>
        by_cases hc : Sm m (a % b)
        · exact div_loop E M m xs b (a % b) _ (by omega) r0 hc (by simp at hl; omega) (by rw [gcd_mod hb]; exact hq)
        · match xs, hl with
          | [], hl => simp at hl
          | y :: xs, hl =>
            rw [forL_cons]
            simp [FB_law_divisor_1]
            have hc' : 0 < a % b := by
              rcases Int.lt_or_eq_of_le r0 with h | h
              · exact h
              · exfalso; apply hc; rw [← h]; exact ⟨by simp; exact Nat.two_pow_pos m⟩
            rw [if_neg (by omega)]
            refine go ?_
            simp [T_law_divisor_1, fmod_pos hc']
            refine ⟨by omega, go ?_⟩
            have r2 := Int.emod_nonneg b (b := a % b) (by omega)
            have r3 := Int.emod_lt_of_pos b hc'
            refine div_loop E M m xs (a % b) (b % (a % b)) _ r0 r2 ?_ (by simp at hl; omega) (by rw [gcd_mod hc', gcd_mod hb]; exact hq)
            refine ⟨?_⟩
            replace hs := hs.h
            have hc := fun h => hc ⟨h⟩
            have e := Int.emod_add_mul_ediv b (a % b)
            have hq1 : 1 ≤ b / (a % b) := by
              rcases Int.lt_or_le 0 (b / (a % b)) with h | h
              · omega
              · exfalso
                have h2 : 0 ≤ b / (a % b) := Int.ediv_nonneg (by omega) r0
                have h3 : b / (a % b) = 0 := by omega
                rw [h3] at e; simp at e
                omega
            have : a % b ≤ (a % b) * (b / (a % b)) := by simpa using Int.mul_le_mul_of_nonneg_left hq1 r0
            rw [Nat.pow_succ] at hs
            omega
theorem rangeL_len (i j : Int) : (rangeL i j).length = (j - i).toNat := by simp [rangeL]
theorem ob_law_divisor : ∀ E ds M Q, S_law_divisor E ds M Q → B_law_divisor E (endsL Q) (start 3 ds) M := by
  intro E ds M Q h
  obtain ⟨x, y, rfl, n, d, rfl, rfl, h0, h1, hq⟩ := fn2_e h
  simp [B_law_divisor]
  have hl := rangeL_len 0 20000
  generalize rangeL 0 20000 = xs at hl ⊢
  match xs, hl with
  | [], hl => simp at hl
  | x :: xs, hl =>
    rw [forL_cons]
    simp [FB_law_divisor_1]
    rw [if_neg (by omega)]
    refine go ?_
    have r0 := Int.emod_nonneg n (b := d) (by omega)
    have r1 := Int.emod_lt_of_pos n h0
    simp [T_law_divisor_1, fmod_pos h0]
    refine ⟨by omega, go ?_⟩
    refine div_loop E M 8999 xs d (n % d) _ (by omega) r0 (Sm.of_le (by omega) h1) (by simp at hl; omega) (by rw [gcd_mod h0]; exact hq)
theorem gcd_pos' {n d : Int} (h : 0 < d) : 0 < (Int.gcd n d : Int) := by
  have := Int.gcd_pos_of_ne_zero_right n (b := d) (by omega); omega
theorem gcd_sm {n d : Int} {m : Nat} (h : 0 < d) (hs : Sm m d) : Sm m (Int.gcd n d : Int) := Sm.of_le (by have := Int.gcd_le_right n h; omega) hs
theorem ob_law_fraction : ∀ E ds M Q, S_law_fraction E ds M Q → B_law_fraction E (endsL Q) (start 3 ds) M := by
  intro E ds M Q h
  obtain ⟨x, y, rfl, n, d, rfl, rfl, h0, h1, hq⟩ := fn2_e h
  have g0 := gcd_pos' (n := n) h0
  have g1 := gcd_sm (n := n) h0 h1
  simp [B_law_fraction, K, S_law_divisor]
  refine ⟨h0, h1, ?_⟩
  rw [if_pos h0, fdiv_pos g0, fdiv_pos g0]
  exact ⟨by omega, g1.np (by decide), by omega, g1.np (by decide), M, Le.refl, hq⟩
theorem ob_law_plus : ∀ E ds M Q, S_law_plus E ds M Q → B_law_plus E (endsL Q) (start 2 ds) M := by
  intro E ds M Q h
  obtain ⟨x, y, rfl, a, b, rfl, rfl, ha, hb, h1, h2, h3, h4, hq⟩ := fn2_e h
  simp [B_law_plus, S_law_fraction, dF]
  refine ⟨h1.mulOk h4 (by omega), h3.mulOk h2 (by omega), h2.mulOk h4 (by omega), Int.mul_pos ha hb, (h2.mul h4).mono (by omega), M, Le.refl, hq⟩
theorem ob_law_times : ∀ E ds M Q, S_law_times E ds M Q → B_law_times E (endsL Q) (start 2 ds) M := by
  intro E ds M Q h
  obtain ⟨x, y, rfl, a, b, rfl, rfl, ha, hb, h1, h2, h3, h4, hq⟩ := fn2_e h
  simp [B_law_times, S_law_fraction, dF]
  refine ⟨h1.mulOk h3 (by omega), h2.mulOk h4 (by omega), Int.mul_pos ha hb, (h2.mul h4).mono (by omega), M, Le.refl, hq⟩
theorem take_i {E : XW} {M : Sto} {Q : KD} {a b : Addr} {many : Int} (h0 : 0 < many) (h1 : many < 1073741824) (hc : CSt M a b) (hq : ∀ d o, 0 ≤ d → d < many → CO b o → Q (.int d) (M.set a o)) :
    S_law_take E [.ref a, .int many] M Q := ⟨a, b, many, rfl, rfl, h0, h1, hc, hq⟩
theorem frac_i {E : XW} {M : Sto} {Q : KD} {n d : Int} (h0 : 0 < d) (h1 : Sm 8999 d) (hq : Q (dF (fr n d)) M) : S_law_fraction E [.int n, .int d] M Q := ⟨n, d, rfl, rfl, h0, h1, hq⟩
theorem times_i {E : XW} {M : Sto} {Q : KD} {a b c d : Int} (ha : 0 < b) (hb : 0 < d) (h1 : Sm 4000 a) (h2 : Sm 4000 b) (h3 : Sm 4000 c) (h4 : Sm 4000 d) (hq : Q (dF (fr (a * c) (b * d))) M) :
    S_law_times E [.tup [.int a, .int b], .tup [.int c, .int d]] M Q := ⟨(a, b), (c, d), rfl, rfl, ha, hb, h1, h2, h3, h4, hq⟩
theorem plus_i {E : XW} {M : Sto} {Q : KD} {a b c d : Int} (ha : 0 < b) (hb : 0 < d) (h1 : Sm 4000 a) (h2 : Sm 4000 b) (h3 : Sm 4000 c) (h4 : Sm 4000 d) (hq : Q (dF (fr (a * d + c * b) (b * d))) M) :
    S_law_plus E [.tup [.int a, .int b], .tup [.int c, .int d]] M Q := ⟨(a, b), (c, d), rfl, rfl, ha, hb, h1, h2, h3, h4, hq⟩
/-- small ones all -/
def litR (q : Int × Int) : Bool := decide (0 < q.2 ∧ q.1.natAbs < 2 ^ 30 ∧ q.2.natAbs < 2 ^ 30)
theorem menu_lit : ∀ q ∈ menu, ∀ u ∈ menu, litR q ∧ litR (fr (q.2 - q.1) q.2) ∧ litR (fr ((fr (q.2 - q.1) q.2).1 * u.1) ((fr (q.2 - q.1) q.2).2 * u.2)) ∧ (q.2 = 1 → q = (1, 1)) := by decide +kernel
theorem litR_sm {q : Int × Int} (h : litR q = true) : 0 < q.2 ∧ Sm 60 q.1 ∧ Sm 60 q.2 := by
  have := of_decide_eq_true h
  exact ⟨this.1, ⟨Nat.lt_of_lt_of_le this.2.1 (by decide)⟩, ⟨Nat.lt_of_lt_of_le this.2.2 (by decide)⟩⟩
theorem atI_map {α : Type} {xs : List α} {f : α → D} {d : Int} (h0 : 0 ≤ d) (h1 : d < xs.length) : ∃ q ∈ xs, L2.atI (xs.map f) d = some (f q) := by
  refine ⟨xs[d.toNat]'(by omega), List.getElem_mem _, ?_⟩
  simp [h0, h1, List.getElem?_eq_getElem (show d.toNat < xs.length by omega)]
theorem atI_mem {xs : List D} {d : Int} (h0 : 0 ≤ d) (h1 : d < xs.length) : ∃ q ∈ xs, L2.atI xs d = some q := by
  simpa using atI_map (f := id) h0 h1
theorem atI_map1 {α : Type} {x : α} {xs : List α} {f : α → D} {d : Int} (h0 : 0 ≤ d) (h1 : d < xs.length) : ∃ q ∈ xs, L2.atI ((x :: xs).map f) (1 + d) = some (f q) := by
  refine ⟨xs[d.toNat]'(by omega), List.getElem_mem _, ?_⟩
  have e : (1 + d).toNat = d.toNat + 1 := by omega
  simp [show 0 ≤ 1 + d by omega, show 1 + d < xs.length + 1 by omega, e, List.getElem?_eq_getElem (show d.toNat < xs.length by omega)]
theorem cut2_mem : ∀ q ∈ menu, q.2 ≠ 1 → cut2 q ∈ cuts := by decide +kernel
theorem cut3_mem : ∀ q ∈ menu, q.2 ≠ 1 → ∀ u ∈ menu.drop 1, cut3 q u ∈ cuts := by decide +kernel
theorem litR.s4 {x : Int} (h : Sm 60 x) : Sm 4000 x := h.mono (by omega)
theorem ob_law_cut : ∀ E ds M Q, S_law_cut E ds M Q → B_law_cut E (endsL Q) (start 7 ds) M := by
  intro E ds M Q h
  obtain ⟨x, rfl, a, b, rfl, hc, hq⟩ := fn1_e h
  simp [B_law_cut]
  intro p hp
  have hpa := hc.pa hp
  refine go ?_
  simp [-atI_s]
  refine take_i (by decide) (by decide) (hc.fresh hp) fun d o h0 h1 hc1 => ?_
  have el : ∀ o, (M.set p (.lst (menu.map dF))).set a o p = some (.lst (menu.map dF)) := fun o => by rw [set_ne hpa, set_same]
  obtain ⟨q, hqm, hqe⟩ := atI_map (xs := menu) (f := dF) h0 h1
  have em : menu.map dF = [D.tup [D.int 1, D.int 1], D.tup [D.int 1, D.int 2], D.tup [D.int 1, D.int 3], D.tup [D.int 2, D.int 3], D.tup [D.int 1, D.int 4], D.tup [D.int 3, D.int 4], D.tup [D.int 1, D.int 5], D.tup [D.int 2, D.int 7], D.tup [D.int 1, D.int 10]] := rfl
  rw [← em]
  have f1 : Fr a b M ((M.set p (.lst (menu.map dF))).set a o) := ((hc.refl.fresh hp).set hc1)
  have e1 : ((M.set p (.lst (menu.map dF))).set a o) p = some (.lst (menu.map dF)) := el o
  simp [-atI_s, e1, hqe, dF]
  generalize (M.set p (.lst (menu.map dF))).set a o = M1 at f1 e1 ⊢
  refine go ?_
  simp
  -- what may be forgotten
  have fin : ∀ (rows : List (Int × Int)) (M' : Sto), rows ∈ cuts → Fr a b M M' → ∀ r, M' r = none → ∃ M0, Le M0 (M'.set r (.lst (rows.map dF))) ∧ Q (.ref r) M0 := by
    intro rows M' hr f r hr'
    obtain ⟨o, c, l1⟩ := f.le
    have hn := f.none hr'
    exact ⟨_, l1.set, hq rows o r hr c hn.1 hn.2⟩
  split
  · have : q = (1, 1) := (menu_lit q hqm q hqm).2.2.2 (by assumption)
    subst this
    intro r hr
    exact fin [(1, 1)] _ (by decide) f1 r hr
  · rename_i hq1
    refine go ?_
    have L := menu_lit q hqm q hqm
    have L1 := litR_sm L.1
    have L2 := litR_sm L.2.1
    simp [T_law_cut_2, -atI_s]
    intro r hr
    have hra := (f1.none hr)
    refine go ?_
    simp [-atI_s]
    refine frac_i L1.1 (L1.2.2.mono (by omega)) ?_
    refine go ?_
    simp [-atI_s]
    have f2 : Fr a b M (M1.set r (.lst [dF q])) := f1.fresh hr
    have hrp : r ≠ p := fun e => by rw [e, e1] at hr; cases hr
    refine take_i (by decide) (by decide) ((hc.fr f1).fresh hr) fun d2 o2 g0 g1 hc2 => ?_
    have f3 := f2.set hc2
    have e3 : ((M1.set r (.lst [dF q])).set a o2) p = some (.lst (menu.map dF)) := by rw [set_ne hpa, set_ne hrp.symm, e1]
    have e4 : ((M1.set r (.lst [dF q])).set a o2) r = some (.lst [dF q]) := by rw [set_ne hra.1, set_same]
    have eq' : D.tup [D.int q.fst, D.int q.snd] = dF q := rfl
    rw [eq']
    generalize hM2 : ((M1.set r (.lst [dF q])).set a o2) = M2 at f3 e3 e4 ⊢
    -- the end
    have tail : ∀ (rows : List (Int × Int)) (rest : Int × Int) (x4 x5 x6 : Option D) (M' : Sto), rows ++ [rest] ∈ cuts → Fr a b M M' → M' r = some (.lst (rows.map dF)) →
        T_law_cut_1 E (endsL Q) [some (.ref a), some (.ref p), some (.ref r), some (dF rest), x4, x5, x6] M' := by
      intro rows rest x4 x5 x6 M' hm f e
      simp [T_law_cut_1, e]
      intro z hz
      have hzr : z ≠ r := fun h => by rw [h, e] at hz; cases hz
      rw [set_ne (Ne.symm hzr), e]
      simp
      have hl : rows.length + 1 ≤ 3 := by
        have : ∀ l ∈ cuts, l.length ≤ 3 := by decide +kernel
        simpa using this _ hm
      refine ⟨by have := sizeLine_ge; omega, fun w hw => ?_⟩
      have f' := f.fresh (o := .lst [dF rest]) hz
      have := fin _ _ hm f' w hw
      simpa using this
    simp only [cEq_int]
    split
    · refine take_i (by decide) (by decide) (hc.fr f3) fun d3 o3 k0 k1 hc3 => ?_
      have f4 := f3.set hc3
      have e5 : (M2.set a o3) p = some (.lst (menu.map dF)) := by rw [set_ne hpa, e3]
      have e6 : (M2.set a o3) r = some (.lst [dF q]) := by rw [set_ne hra.1, e4]
      generalize M2.set a o3 = M3 at f4 e5 e6 ⊢
      obtain ⟨u, hum, hue⟩ := atI_map1 (x := (1, 1)) (xs := menu.drop 1) (f := dF) k0 k1
      have hue' : _root_.L2.atI (List.map dF menu) (1 + d3) = some (dF u) := hue
      have hum' : u ∈ menu := List.mem_of_mem_drop hum
      have L3 := litR_sm (menu_lit u hum' u hum').1
      have L4 := litR_sm (menu_lit q hqm u hum').2.2.1
      simp [-atI_s, e5, hue', dF]
      refine go ?_
      simp
      refine times_i L2.1 L3.1 (litR.s4 L2.2.1) (litR.s4 L2.2.2) (litR.s4 L3.2.1) (litR.s4 L3.2.2) ?_
      refine go ?_
      simp [e6]
      refine ⟨by have := sizeLine_ge; omega, go ?_⟩
      simp [dF]
      refine plus_i L2.1 L4.1 (litR.s4 L2.2.1) (litR.s4 L2.2.2) (litR.s4 ?_) (litR.s4 L4.2.2) ?_
      · have := L4.2.1.neg
        simpa [dF] using this
      · refine go (tail [q, _] _ _ _ _ _ ?_ (f4.upd hra.2 hra.1) (by rw [set_same]; rfl))
        simp
        have := cut3_mem q hqm hq1 u hum
        simpa [cut3] using this
    · refine go (tail [q] _ _ _ _ _ ?_ f3 e4)
      have := cut2_mem q hqm hq1
      exact this
theorem body_i {n : Nat} {E : XW} {M : Sto} {Q : KD} {a b pn pl : Addr} {ns ls : List Str} {k : Nat} (hc : CSt M a b) (h1 : pn ≠ a) (h2 : M pn = some (.lst (ns.map .str))) (h3 : ns ≠ []) (h4 : ns.length ≤ 100)
    (h5 : pl ≠ a) (h6 : M pl = some (.lst (ls.map .str))) (h7 : ls.length ≤ 100) (h8 : k < n) (hq : ∀ d o, WB ns ls k d → CO b o → Q d (M.set a o)) : S_law_body n E [.ref a, .ref pn, .ref pl, .int k] M Q :=
  ⟨a, b, pn, pl, ns, ls, k, rfl, hc, rfl, h1, h2, h3, h4, rfl, h5, h6, h7, rfl, h8, hq⟩
theorem no_law_body : ∀ E ds M Q, ¬ S_law_body 0 E ds M Q := by
  intro E ds M Q h
  obtain ⟨x, y, z, u, rfl, a, b, pn, pl, ns, ls, k, rfl, hc, rfl, hpn, en, hn0, hn1, rfl, hpl, el, hl1, rfl, hk, hq⟩ := fn4_e h
  omega
theorem ob_law_body (n : Nat) : ∀ E ds M Q, S_law_body (n + 1) E ds M Q → B_law_body n E (endsL Q) (start 6 ds) M := by
  intro E ds M Q h
  obtain ⟨x, y, z, u, rfl, a, b, pn, pl, ns, ls, k, rfl, hc, rfl, hpn, en, hn0, hn1, rfl, hpl, el, hl1, rfl, hk, hq⟩ := fn4_e h
  have fin : ∀ d M', WB ns ls k d → Fr a b M M' → ∃ M0, Le M0 M' ∧ Q d M0 := by
    intro d M' hd f
    obtain ⟨o, c, l⟩ := f.le
    exact ⟨_, l, hq d o hd c⟩
  simp [B_law_body]
  refine take_i (by decide) (by decide) hc fun w o h0 h1 hc1 => ?_
  have f1 := hc.refl.set hc1
  generalize M.set a o = M1 at f1 ⊢
  refine go ?_
  simp [-atI_s]
  -- a leaf
  have leaf : ∀ p, M1 p = none → S_law_take E [D.ref a, D.int 5] (M1.set p (O.lst [dEnd, dEnd, dEnd, dEnd, dStop])) fun y M2 => subO (M2 p) y fun d => ∃ M0, Le M0 M2 ∧ Q d M0 := by
    intro p hp
    have hpa := f1.none hp
    refine take_i (by decide) (by decide) ((hc.fr f1).fresh hp) fun d o h0 h1 hc1 => ?_
    rw [set_ne hpa.1, set_same]
    obtain ⟨q, hm, hq⟩ := atI_mem (xs := [dEnd, dEnd, dEnd, dEnd, dStop]) h0 h1
    simp [-atI_s, hq]
    refine fin q _ ?_ ((f1.fresh hp).set hc1)
    have : q = dEnd ∨ q = dStop := by simpa using hm
    cases k with
    | zero => exact this
    | succ k => rcases this with h | h; exact .inl h; exact .inr (.inl h)
  have tail : 1 ≤ k → T_law_body_3 n E (endsL Q) [some (.ref a), some (.ref pn), some (.ref pl), some (.int k), some (.int w), none] M1 := by
    intro hk1
    obtain ⟨k, rfl⟩ : ∃ j, k = j + 1 := ⟨k - 1, by omega⟩
    have ek : ((k + 1 : Nat) : Int) - 1 = (k : Int) := by omega
    have tail2 : T_law_body_2 n E (endsL Q) [some (.ref a), some (.ref pn), some (.ref pl), some (.int (k + 1 : Nat)), some (.int w), none] M1 := by
      have tail1 : T_law_body_1 n E (endsL Q) [some (.ref a), some (.ref pn), some (.ref pl), some (.int (k + 1 : Nat)), some (.int w), none] M1 := by
        simp [T_law_body_1]
        refine ⟨a, b, rfl, hc.fr f1, fun rows o p hr hc2 hpa hp => ?_⟩
        have f2 : Fr a b M ((M1.set a o).set p (.lst (rows.map dF))) := (f1.set hc2).fresh (set_none.mpr ⟨hpa, hp⟩)
        have e2 : ((M1.set a o).set p (.lst (rows.map dF))) p = some (.lst (rows.map dF)) := set_same
        generalize (M1.set a o).set p (.lst (rows.map dF)) = M2 at f2 e2 ⊢
        simp [e2]
        intro z hz
        have hza := f2.none hz
        have hzp : z ≠ p := fun e => by rw [e, e2] at hz; cases hz
        have hlen : rows.length ≤ 3 := by
          have : ∀ l ∈ cuts, l.length ≤ 3 := by decide +kernel
          exact this _ hr
        refine comp_ind (fun acc xs m => ∃ (rs : List ((Int × Int) × D)) (qs : List (Int × Int)), acc = rs.map dRow ∧ xs = qs.map dF ∧ rs.map Prod.fst ++ qs = rows ∧ (∀ r ∈ rs, WB ns ls k r.2) ∧ Fr a b M m ∧ m p = some (.lst (rows.map dF)) ∧ m z = some (.lst acc)) ?_ ?_ _ [] _ ⟨[], rows, rfl, rfl, rfl, by simp, f2.fresh hz, by rw [set_ne (Ne.symm hzp)]; exact e2, set_same⟩
        · rintro x xs acc m ⟨rs, qs, rfl, hx, hrq, hw, f, e, ez⟩
          obtain ⟨q, qs, rfl⟩ : ∃ q qs', qs = q :: qs' := by cases qs with
            | nil => simp at hx
            | cons q qs => exact ⟨q, qs, rfl⟩
          simp at hx
          obtain ⟨rfl, rfl⟩ := hx
          have hl2 : rs.length + (qs.length + 1) = rows.length := by rw [← hrq]; simp
          refine ⟨e, by have := sizeLine_ge; simp; omega, fun T hT => ?_⟩
          simp [CE_law_body_1, ek]
          refine body_i (hc.fr f) hpn (f.at hpn en) hn0 hn1 hpl (f.at hpl el) hl1 (by omega) fun d o hd hc3 => ?_
          have f' := f.set hc3
          have e' : (m.set a o) p = some (.lst (rows.map dF)) := by rw [set_ne hpa]; exact e
          have ez' : (m.set a o) z = some (.lst (rs.map dRow)) := by rw [set_ne hza.1]; exact ez
          refine hT _ _ ez' ⟨rs ++ [(q, d)], qs, by simp [dRow], rfl, by simp [← hrq], ?_, f'.upd hza.2 hza.1, by rw [set_ne (Ne.symm hzp)]; exact e', set_same⟩
          intro r hr
          rcases List.mem_append.mp hr with hr | hr
          · exact hw r hr
          · simp at hr; subst hr; exact hd
        · rintro acc m ⟨rs, qs, rfl, hx, hrq, hw, f, e, ez⟩
          have : qs = [] := by simpa using hx.symm
          subst this
          refine ⟨e, ?_⟩
          simp [ez]
          refine fin _ _ ?_ f
          refine .inr (.inr (.inr (.inr ⟨rs, ?_, rfl, hw⟩)))
          simp at hrq; rw [hrq]; exact hr
      simp [T_law_body_2, -atI_s]
      split
      · rw [f1.at hpn en]
        simp [-atI_s]
        have : 0 < ns.length := by cases ns; exact absurd rfl hn0; simp
        refine take_i (by omega) (by omega) (hc.fr f1) fun d o h0 h1 hc2 => ?_
        have f2 := f1.set hc2
        rw [f2.at hpn en]
        obtain ⟨q, hm, hq⟩ := atI_map (xs := ns) (f := .str) h0 h1
        simp [-atI_s, hq, ek]
        refine body_i (hc.fr f2) hpn (f2.at hpn en) hn0 hn1 hpl (f2.at hpl el) hl1 (by omega) fun d o hd hc3 => ?_
        exact fin _ _ (.inr (.inr (.inr (.inl ⟨q, d, hm, rfl, hd⟩)))) (f2.set hc3)
      · exact go tail1
    simp [T_law_body_3, -atI_s]
    rw [f1.at hpl el]
    split
    · simp [-atI_s]
      split
      · exact go tail2
      · rename_i hls
        have : 0 < ls.length := by cases ls; exact absurd rfl hls; simp
        refine take_i (by omega) (by omega) (hc.fr f1) fun d o h0 h1 hc2 => ?_
        have f2 := f1.set hc2
        rw [f2.at hpl el]
        obtain ⟨q, hm, hq⟩ := atI_map (xs := ls) (f := .str) h0 h1
        simp [-atI_s, hq, ek]
        refine body_i (hc.fr f2) hpn (f2.at hpn en) hn0 hn1 hpl (f2.at hpl el) hl1 (by omega) fun d o hd hc3 => ?_
        exact fin _ _ (.inr (.inr (.inl ⟨q, d, hm, rfl, hd⟩))) (f2.set hc3)
    · exact go tail2
  split
  · exact leaf
  · split
    · exact leaf
    · exact go (tail (by omega))
theorem rotN_mem : ∀ i, i < 4 → ∀ k, k < 1 + i → rotN i k ∈ allN := by decide +kernel
theorem allN_ne : ∀ ns ∈ allN, ns ≠ [] ∧ ns.length ≤ 4 := by decide +kernel
theorem allL_le : ∀ ls ∈ allL, ls.length ≤ 3 := by decide +kernel
theorem cut_to {α : Type} (xs : List α) {i : Int} (h : 0 ≤ i) : cut xs none (some i) = xs.take i.toNat := by
  unfold cut HT.sIx
  simp [show ¬ i < 0 by omega]
theorem cut_from {α : Type} (xs : List α) {i : Int} (h : 0 ≤ i) : cut xs (some i) none = xs.drop i.toNat := by
  unfold cut HT.sIx
  simp [show ¬ i < 0 by omega]
  by_cases hl : i.toNat ≤ xs.length
  · rw [Nat.min_eq_left hl]; exact List.take_of_length_le (by simp)
  · rw [Nat.min_eq_right (by omega), List.drop_eq_nil_of_le (Nat.le_refl _), List.drop_eq_nil_of_le (by omega)]; simp
theorem ob_law_program : ∀ E ds M Q, S_law_program E ds M Q → B_law_program E (endsL Q) (start 5 ds) M := by
  intro E ds M Q h
  obtain ⟨x, rfl, a, b, rfl, hc, hq⟩ := fn1_e h
  simp [B_law_program]
  intro p hp
  have en : O.lst [D.str (Str.ofString "p"), D.str (Str.ofString "q"), D.str (Str.ofString "r2"), D.str (Str.ofString "s")] = .lst (N4.map .str) := rfl
  rw [en]
  refine take_i (by decide) (by decide) (hc.fresh hp) fun d o h0 h1 hc1 => ?_
  have f1 : Fr a b M _ := (hc.refl.fresh (o := .lst (N4.map .str)) hp).set hc1
  have e1 : ((M.set p (.lst (N4.map .str))).set a o) p = some (.lst (N4.map .str)) := by rw [set_ne (hc.pa hp), set_same]
  obtain ⟨i, rfl⟩ := Int.eq_ofNat_of_zero_le h0
  have ec : cut (N4.map D.str) none (some (1 + (i : Int))) = (N4.take (1 + i)).map .str := by rw [cut_to _ (by omega), List.map_take]; congr 1
  simp [e1, -List.map_take, ec]
  generalize (M.set p (.lst (N4.map .str))).set a o = M1 at f1 ⊢
  intro r hr
  have f2 := f1.fresh (o := .lst ((N4.take (1 + i)).map .str)) hr
  have hra := f1.none hr
  have e2 : (M1.set r (.lst ((N4.take (1 + i)).map .str))) r = some (.lst ((N4.take (1 + i)).map .str)) := set_same
  generalize (M1.set r (.lst ((N4.take (1 + i)).map .str))) = M2 at f2 e2 ⊢
  refine go ?_
  simp [e2, -List.map_take]
  have hl4 : N4.length = 4 := rfl
  refine take_i (by omega) (by omega) (hc.fr f2) fun k o2 k0 k1 hc2 => ?_
  rw [hl4] at k1
  obtain ⟨k, rfl⟩ := Int.eq_ofNat_of_zero_le k0
  have f3 := f2.set hc2
  have e3 : (M2.set a o2) r = some (.lst ((N4.take (1 + i)).map .str)) := by rw [set_ne hra.1, e2]
  generalize M2.set a o2 = M3 at f3 e3 ⊢
  refine go ?_
  have ec2 : cut ((N4.take (1 + i)).map D.str) (some (k : Int)) none = ((N4.take (1 + i)).drop k).map .str := by rw [cut_from _ (by omega), List.map_drop]; congr 1
  have ec3 : cut ((N4.take (1 + i)).map D.str) none (some (k : Int)) = ((N4.take (1 + i)).take k).map .str := by simp only [cut_to _ (Int.natCast_nonneg _), Int.toNat_natCast, List.map_take]
  simp [e3, -List.map_take, -List.map_drop, ec2]
  intro u hu
  have hur : u ≠ r := fun e => by rw [e, e3] at hu; cases hu
  rw [set_ne (Ne.symm hur), e3]
  simp [-List.map_take, -List.map_drop, ec3]
  intro v hv
  have huv : v ≠ u := fun e => by rw [e, set_same] at hv; cases hv
  rw [set_ne (Ne.symm huv), set_same]
  simp [-List.map_take, -List.map_drop]
  refine ⟨by have := sizeLine_ge; omega, fun t ht => ?_⟩
  have f4 := ((f3.fresh hu).fresh hv).fresh (o := .lst ((rotN i k).map .str)) ht
  have hmem := rotN_mem i (by omega) k (by omega)
  have e4 : (((M3.set u (.lst (((N4.take (1 + i)).drop k).map .str))).set v (.lst (((N4.take (1 + i)).take k).map .str))).set t (.lst ((rotN i k).map .str))) t = some (.lst ((rotN i k).map .str)) := set_same
  have hap : List.map D.str (List.drop k (List.take (1 + i) N4)) ++ List.map D.str (List.take k (List.take (1 + i) N4)) = (rotN i k).map .str := by rw [← List.map_append]; rfl
  rw [hap]
  have hta := (((f3.fresh hu).fresh hv).none ht)
  generalize (((M3.set u (O.lst (List.map D.str (List.drop k (List.take (1 + i) N4))))).set v (O.lst (List.map D.str (List.take k (List.take (1 + i) N4))))).set t (O.lst (List.map D.str (rotN i k)))) = M4 at f4 e4 ⊢
  generalize rotN i k = ns at hmem f4 e4 ⊢
  refine go ?_
  simp
  intro q hq1
  have f5 := f4.fresh (o := .lst (L3.map .str)) hq1
  have hqa := f4.none hq1
  have hqt : q ≠ t := fun e => by rw [e, e4] at hq1; cases hq1
  have eL : O.lst [D.str (Str.ofString "a"), D.str (Str.ofString "b"), D.str (Str.ofString "p")] = .lst (L3.map .str) := rfl
  rw [eL]
  have e5 : (M4.set q (.lst (L3.map .str))) q = some (.lst (L3.map .str)) := set_same
  have e5' : (M4.set q (.lst (L3.map .str))) t = some (.lst (ns.map .str)) := by rw [set_ne hqt.symm, e4]
  generalize (M4.set q (.lst (L3.map .str))) = M5 at f5 e5 e5' ⊢
  refine take_i (by decide) (by decide) (hc.fr f5) fun l o5 l0 l1 hc5 => ?_
  obtain ⟨l, rfl⟩ := Int.eq_ofNat_of_zero_le l0
  have f6 := f5.set hc5
  have e6 : (M5.set a o5) q = some (.lst (L3.map .str)) := by rw [set_ne hqa.1, e5]
  have e6' : (M5.set a o5) t = some (.lst (ns.map .str)) := by rw [set_ne hta.1, e5']
  generalize M5.set a o5 = M6 at f6 e6 e6' ⊢
  have ec6 : cut (L3.map D.str) none (some (l : Int)) = (L3.take l).map .str := by simp only [cut_to _ (Int.natCast_nonneg _), Int.toNat_natCast, List.map_take]
  simp [e6, -List.map_take, ec6]
  intro y hy
  have hya := f6.none hy
  have f7 := f6.fresh (o := .lst ((L3.take l).map .str)) hy
  have hyt : y ≠ t := fun e => by rw [e, e6'] at hy; cases hy
  have e7 : (M6.set y (.lst ((L3.take l).map .str))) y = some (.lst ((L3.take l).map .str)) := set_same
  have e7' : (M6.set y (.lst ((L3.take l).map .str))) t = some (.lst (ns.map .str)) := by rw [set_ne hyt.symm, e6']
  have hls : L3.take l ∈ allL := by
    have : ∀ l, l < 4 → L3.take l ∈ allL := by decide +kernel
    exact this l (by omega)
  generalize M6.set y (.lst ((L3.take l).map .str)) = M7 at f7 e7 e7' ⊢
  generalize L3.take l = ls at hls e7 ⊢
  refine go ?_
  simp [e7']
  intro z hz
  have hza := f7.none hz
  have hzt : z ≠ t := fun e => by rw [e, e7'] at hz; cases hz
  have hzy : z ≠ y := fun e => by rw [e, e7] at hz; cases hz
  have hn := allN_ne ns hmem
  have hlen := allL_le ls hls
  refine comp_ind (fun acc xs m => ∃ (rs : List (Str × D)) (qs : List Str), acc = rs.map dProc ∧ xs = qs.map .str ∧ rs.map Prod.fst ++ qs = ns ∧ (∀ r ∈ rs, WB ns ls 5 r.2) ∧ Fr a b M m ∧ m t = some (.lst (ns.map .str)) ∧ m y = some (.lst (ls.map .str)) ∧ m z = some (.lst acc)) ?_ ?_ _ [] _
    ⟨[], ns, rfl, rfl, rfl, by simp, f7.fresh hz, by rw [set_ne (Ne.symm hzt)]; exact e7', by rw [set_ne (Ne.symm hzy)]; exact e7, set_same⟩
  · rintro x xs acc m ⟨rs, qs, rfl, hx, hrq, hw, f, e, ey, ez⟩
    obtain ⟨q, qs, rfl⟩ : ∃ q qs', qs = q :: qs' := by cases qs with
      | nil => simp at hx
      | cons q qs => exact ⟨q, qs, rfl⟩
    simp at hx
    obtain ⟨rfl, rfl⟩ := hx
    have hl2 : rs.length + (qs.length + 1) = ns.length := by rw [← hrq]; simp
    refine ⟨e, by have := sizeLine_ge; simp; omega, fun T hT => ?_⟩
    simp [CE_law_program_1]
    refine take_i (by decide) (by decide) (hc.fr f) fun d o6 d0 d1 hc6 => ?_
    obtain ⟨d, rfl⟩ := Int.eq_ofNat_of_zero_le d0
    have f' := f.set hc6
    have e' : (m.set a o6) t = some (.lst (ns.map .str)) := by rw [set_ne hta.1]; exact e
    have ey' : (m.set a o6) y = some (.lst (ls.map .str)) := by rw [set_ne hya.1]; exact ey
    have ez' : (m.set a o6) z = some (.lst (rs.map dProc)) := by rw [set_ne hza.1]; exact ez
    generalize m.set a o6 = m6 at f' e' ey' ez' ⊢
    simp
    rw [show (1 : Int) + (d : Int) = ((1 + d : Nat) : Int) by omega]
    refine body_i (hc.fr f') hta.1 e' hn.1 (by omega) hya.1 ey' (by omega) (by omega) fun g o hd hc3 => ?_
    have f'' := f'.set hc3
    refine hT _ _ (by rw [set_ne hza.1]; exact ez') ⟨rs ++ [(q, g)], qs, by simp [dProc], rfl, by simp [← hrq], ?_, f''.upd hza.2 hza.1, ?_, ?_, set_same⟩
    · intro r hr
      rcases List.mem_append.mp hr with hr | hr
      · exact hw r hr
      · simp at hr; subst hr; exact hd.mono (by omega)
    · rw [set_ne (Ne.symm hzt), set_ne hta.1]; exact e'
    · rw [set_ne (Ne.symm hzy), set_ne hya.1]; exact ey'
  · rintro acc m ⟨rs, qs, rfl, hx, hrq, hw, f, e, ey, ez⟩
    have : qs = [] := by simpa using hx.symm
    subst this
    simp at hrq
    refine ⟨e, ?_⟩
    simp [ez]
    obtain ⟨o, c, l⟩ := f.le
    subst hrq
    exact ⟨_, l, hq rs o ⟨hmem, ls, hls, hw⟩ c⟩
/-- c's number below one of these -/
theorem pick_i {E : XW} {M : Sto} {Q : KD} {a b : Addr} {vals : List Int} (hv : ∀ v ∈ vals, 0 < v ∧ v < 1073741824) (h0 : vals ≠ []) (h1 : vals.length ≤ 100) (hc : CSt M a b) (hq : ∀ v d M', v ∈ vals → 0 ≤ d → d < v → Fr a b M M' → Q (.int d) M') :
    ∀ p, M p = none → S_law_take E [.ref a, .int vals.length] (M.set p (.lst (vals.map .int))) fun y M2 => subO (M2 p) y fun d => S_law_take E [.ref a, d] M2 Q := by
  intro p hp
  have hl : 0 < vals.length := by cases vals; exact absurd rfl h0; simp
  refine take_i (by omega) (by omega) (hc.fresh hp) fun d o d0 d1 hc1 => ?_
  have f1 := (hc.refl.fresh (o := .lst (vals.map .int)) hp).set hc1
  rw [set_ne (hc.pa hp), set_same]
  obtain ⟨v, hm, he⟩ := atI_map (xs := vals) (f := .int) d0 d1
  simp [-atI_s, he]
  have := hv v hm
  exact take_i this.1 this.2 (hc.fr f1) fun d' o' e0 e1 hc2 => hq v d' _ hm e0 e1 (f1.set hc2)
end DL

set_option Elab.async false
set_option linter.all false
set_option maxRecDepth 100000
/-! G2S: what the program's fractions and the law's comparing ask and tell -/
namespace DL
open PySem
def S_common_divisor : FD := fn2 fun x y _ M Q => ∃ n d : Int, x = .int n ∧ y = .int d ∧ Q (.int (Int.gcd n d)) M
def S_ratio : FD := fn2 fun x y _ M Q => ∃ n d : Int, x = .int n ∧ y = .int d ∧ 0 < d ∧ Sm 8999 d ∧ Q (dF (fr n d)) M
def S_plus : FD := fn2 fun x y _ M Q => ∃ a b : Int × Int, x = dF a ∧ y = dF b ∧ 0 < a.2 ∧ 0 < b.2 ∧ Sm 4000 a.1 ∧ Sm 4000 a.2 ∧ Sm 4000 b.1 ∧ Sm 4000 b.2 ∧ Q (dF (fr (a.1 * b.2 + b.1 * a.2) (a.2 * b.2))) M
def S_times : FD := fn2 fun x y _ M Q => ∃ a b : Int × Int, x = dF a ∧ y = dF b ∧ 0 < a.2 ∧ 0 < b.2 ∧ Sm 4000 a.1 ∧ Sm 4000 a.2 ∧ Sm 4000 b.1 ∧ Sm 4000 b.2 ∧ Q (dF (fr (a.1 * b.1) (a.2 * b.2))) M
/-- data of ints, texts and tuples -/
def alk : Nat → D → Prop
  | 0, _ => False
  | n + 1, d => (∃ i, d = .int i) ∨ (∃ s, d = .str s) ∨ (∃ xs, d = .tup xs ∧ xs.length ≤ 100000 ∧ ∀ x ∈ xs, alk n x)
def S_law_alike (n : Nat) : FD := fn2 fun x y _ M Q => x = y ∧ alk n x ∧ Q (.bl true) M
abbrev S_law : FD := lawS
end DL

set_option Elab.async false
set_option linter.all false
set_option maxRecDepth 100000
/-! mirrors of the text's defs (printed by gen.py) -/
namespace DL
open PySem
abbrev g_ZERO : D := (.tup [(.int 0), (.int 1)])
abbrev g_ONE : D := (.tup [(.int 1), (.int 1)])
def WC_common_divisor_1 : WT :=
  (tCmp cNe (eVar 1) (eC (.int 0)))
def WB_common_divisor_1 : WS :=
  (sAsg (eTup [(eVar 1), (eBin opMod (eVar 0) (eVar 1))]) (gTup [gName 0, gName 1]))
def T_common_divisor_1 : WS :=
  (sRet (eVar 0))
def B_common_divisor : WS :=
  (sSeq (sAsg (eTup [(eAbs (eVar 0)), (eAbs (eVar 1))]) (gTup [gName 0, gName 1])) (sSeq (sWhile WC_common_divisor_1 WB_common_divisor_1) T_common_divisor_1))
def T_ratio_1 : WS :=
  (sRet (eTup [(eVar 0), (eVar 1)]))
def T_ratio_2 : WS :=
  (sSeq (sIf (tCmp cNe (eVar 1) (eC (.int 1))) (sSeq (sAsg (eCall S_common_divisor [(eVar 0), (eVar 1)]) (gName 2)) (sAsg (eTup [(eBin opDiv (eVar 0) (eVar 2)), (eBin opDiv (eVar 1) (eVar 2))]) (gTup [gName 0, gName 1]))) sNil) T_ratio_1)
def B_ratio : WS :=
  (sSeq (sIf (tCmp cLt (eVar 1) (eC (.int 0))) (sAsg (eTup [(eNeg (eVar 0)), (eNeg (eVar 1))]) (gTup [gName 0, gName 1])) sNil) T_ratio_2)
def T_plus_1 : WS :=
  (sRet (eCall S_ratio [(eBin opAdd (eBin opMul (eSub (eVar 0) (eC (.int 0))) (eSub (eVar 1) (eC (.int 1)))) (eBin opMul (eSub (eVar 1) (eC (.int 0))) (eSub (eVar 0) (eC (.int 1))))), (eBin opMul (eSub (eVar 0) (eC (.int 1))) (eSub (eVar 1) (eC (.int 1))))]))
def B_plus : WS :=
  (sSeq (sIf (tChain cEq cEq (eSub (eVar 0) (eC (.int 1))) (eSub (eVar 1) (eC (.int 1))) (eC (.int 1))) (sRet (eTup [(eBin opAdd (eSub (eVar 0) (eC (.int 0))) (eSub (eVar 1) (eC (.int 0)))), (eC (.int 1))])) sNil) T_plus_1)
def B_times : WS :=
  (sRet (eCall S_ratio [(eBin opMul (eSub (eVar 0) (eC (.int 0))) (eSub (eVar 1) (eC (.int 0)))), (eBin opMul (eSub (eVar 0) (eC (.int 1))) (eSub (eVar 1) (eC (.int 1))))]))
def CE_law_alike_1 (n : Nat) : WE :=
  (eCall (S_law_alike n) [(eSub (eVar 0) (eVar 2)), (eSub (eVar 1) (eVar 2))])
def T_law_alike_1 (n : Nat) : WS :=
  (sRet (eAnd (eIsi (eVar 0) ["int", "str"]) (eCmp cEq (eVar 0) (eVar 1))))
def T_law_alike_2 (n : Nat) : WS :=
  (sSeq (sIf (tOr (tTru (eIsi (eVar 0) ["bool"])) (tCmp cNe (eIsi (eVar 0) ["str"]) (eIsi (eVar 1) ["str"]))) (sRet (eC (.bl false))) sNil) (T_law_alike_1 n))
def B_law_alike (n : Nat) : WS :=
  (sSeq (sIf (tTru (eIsi (eVar 1) ["tuple"])) (sRet (eAnd (eIsi (eVar 0) ["tuple"]) (eAnd (eCmp cEq (eLen (eVar 0)) (eLen (eVar 1))) (eAll (eComp (iRange1 (eLen (eVar 1))) [2] (gName 2) tYes (CE_law_alike_1 n)))))) sNil) (T_law_alike_2 n))
end DL

set_option Elab.async false
set_option linter.all false
set_option maxRecDepth 100000
set_option maxHeartbeats 4000000
namespace DL
open PySem
theorem gcd_fmod (a b : Int) : Int.gcd b (a.fmod b) = Int.gcd a b := by
  rw [Int.fmod_def, Int.gcd_sub_mul_left_right, Int.gcd_comm]
theorem ob_common_divisor : ∀ E ds M Q, S_common_divisor E ds M Q → B_common_divisor E (endsL Q) (start 2 ds) M := by
  intro E ds M Q h
  obtain ⟨x, y, rfl, n, d, rfl, rfl, hq⟩ := fn2_e h
  simp [B_common_divisor]
  refine go ?_
  refine ⟨fun m e M' => M' = M ∧ ∃ a b : Int, e = [some (.int a), some (.int b)] ∧ 0 ≤ a ∧ 0 ≤ b ∧ b.toNat = m ∧ Int.gcd a b = Int.gcd n d, ⟨_, rfl, _, _, rfl, ?_, ?_, rfl, ?_⟩, ?_⟩
  · split <;> omega
  · split <;> omega
  · have : ∀ x : Int, (if x < 0 then -x else x) = x.natAbs := fun x => by split <;> omega
    rw [this, this]; simp [Int.gcd]
  · rintro m env M' ⟨rfl, a, b, rfl, h0, h1, h2, h3⟩
    simp [WC_common_divisor_1]
    split
    · rename_i hb
      subst hb
      refine go ?_
      simp [T_common_divisor_1]
      refine ⟨M', Le.refl, ?_⟩
      rw [← h3] at hq
      simp at hq
      rw [show (a.natAbs : Int) = a by omega] at hq
      exact hq
    · rename_i hb
      have hb' : 0 < b := by omega
      have r0 := Int.emod_nonneg a (b := b) (by omega)
      have r1 := Int.emod_lt_of_pos a hb'
      simp [WB_common_divisor_1, fmod_pos hb', hb]
      exact ⟨(a % b).toNat, by omega, b, a % b, ⟨rfl, rfl⟩, h1, r0, rfl, by rw [gcd_mod hb', h3]⟩
theorem no_law_alike : ∀ E ds M Q, ¬ S_law_alike 0 E ds M Q := by
  intro E ds M Q h
  obtain ⟨x, y, rfl, rfl, ha, hq⟩ := fn2_e h
  exact ha
theorem ob_law_alike (n : Nat) : ∀ E ds M Q, S_law_alike (n + 1) E ds M Q → B_law_alike n E (endsL Q) (start 3 ds) M := by
  intro E ds M Q h
  obtain ⟨x, y, rfl, rfl, ha, hq⟩ := fn2_e h
  rcases ha with ⟨i, rfl⟩ | ⟨s, rfl⟩ | ⟨xs, rfl, hl, hx⟩
  · simp [B_law_alike, isTy, K, T_law_alike_2, T_law_alike_1]
    exact ⟨M, Le.refl, hq⟩
  · simp [B_law_alike, isTy, K, T_law_alike_2, T_law_alike_1]
    exact ⟨M, Le.refl, hq⟩
  · simp [B_law_alike, isTy]
    refine ⟨by omega, fun p hp => ?_⟩
    refine comp_map (fun _ => .bl true) (fun _ => True) (fun _ _ _ => trivial) (fun _ _ => trivial) _ [] _ ?_ ?_ set_same trivial ?_
    · intro x hxm m T _ hT
      obtain ⟨k, h0, h1, rfl⟩ := mem_rangeL hxm
      have h2 : k.toNat < xs.length := by omega
      simp [CE_law_alike_1, h0, h1, List.getElem?_eq_getElem h2]
      exact ⟨rfl, hx _ (List.getElem_mem _), hT⟩
    · have := sizeLine_ge; rw [rangeL_len]; simp; omega
    · have := asBools_map (rangeL 0 xs.length) (fun _ => true)
      rw [set_set, set_same]
      simp only [List.nil_append, lstO_lst, this, onBs_some]
      refine ⟨M, Le.refl.fresh hp, ?_⟩
      have : ((rangeL 0 xs.length).map fun _ => true).all id = true := by simp
      rw [this]; exact hq
theorem fr_one (n : Int) : fr n 1 = (n, 1) := by simp [fr]
theorem ob_ratio : ∀ E ds M Q, S_ratio E ds M Q → B_ratio E (endsL Q) (start 3 ds) M := by
  intro E ds M Q h
  obtain ⟨x, y, rfl, n, d, rfl, rfl, h0, h1, hq⟩ := fn2_e h
  have g0 := gcd_pos' (n := n) h0
  have g1 := gcd_sm (n := n) h0 h1
  simp [B_ratio, show ¬ d < 0 by omega]
  refine go ?_
  simp [T_ratio_2]
  split
  · rename_i h
    subst h
    refine go ?_
    simp [T_ratio_1]
    rw [fr_one] at hq
    exact ⟨M, Le.refl, hq⟩
  · simp [S_common_divisor]
    refine go ?_
    simp [fdiv_pos g0]
    refine ⟨by omega, g1.np (by decide), by omega, g1.np (by decide), go ?_⟩
    simp [T_ratio_1]
    exact ⟨M, Le.refl, hq⟩
theorem ob_plus : ∀ E ds M Q, S_plus E ds M Q → B_plus E (endsL Q) (start 2 ds) M := by
  intro E ds M Q h
  obtain ⟨x, y, rfl, a, b, rfl, rfl, ha, hb, h1, h2, h3, h4, hq⟩ := fn2_e h
  obtain ⟨a1, a2⟩ := a
  obtain ⟨b1, b2⟩ := b
  simp at ha hb h1 h2 h3 h4 hq
  simp [B_plus, dF]
  have gen : T_plus_1 E (endsL Q) [some (.tup [.int a1, .int a2]), some (.tup [.int b1, .int b2])] M := by
    simp [T_plus_1, S_ratio]
    exact ⟨h1.mulOk h4 (by omega), h3.mulOk h2 (by omega), h2.mulOk h4 (by omega), Int.mul_pos ha hb, (h2.mul h4).mono (by omega), M, Le.refl, hq⟩
  split
  · rename_i h
    subst h
    split
    · rename_i h
      subst h
      simp [fr_one, dF] at hq
      exact ⟨M, Le.refl, hq⟩
    · exact go gen
  · exact go gen
theorem ob_times : ∀ E ds M Q, S_times E ds M Q → B_times E (endsL Q) (start 2 ds) M := by
  intro E ds M Q h
  obtain ⟨x, y, rfl, a, b, rfl, rfl, ha, hb, h1, h2, h3, h4, hq⟩ := fn2_e h
  simp [B_times, S_ratio, dF]
  exact ⟨h1.mulOk h3 (by omega), h2.mulOk h4 (by omega), Int.mul_pos ha hb, (h2.mul h4).mono (by omega), M, Le.refl, hq⟩
end DL

set_option Elab.async false
set_option linter.all false
set_option maxRecDepth 100000
set_option maxHeartbeats 4000000
/-! G3: bodies as data of Lean; their ways; ways with the same calls and letters put together -/
namespace DL
open PySem
mutual
inductive Bd where
  | fin | stop | tell (s : Str) (b : Bd) | call (s : Str) (b : Bd) | draw (r : Rw)
inductive Rw where
  | nil | cons (q : Int × Int) (b : Bd) (r : Rw)
end
mutual
def Bd.d : Bd → D
  | .fin => dEnd
  | .stop => dStop
  | .tell s b => .tup [.str "tell", .str s, b.d]
  | .call s b => .tup [.str "call", .str s, b.d]
  | .draw r => .tup [.str "draw", .tup r.ds]
def Rw.ds : Rw → List D
  | .nil => []
  | .cons q b r => .tup [dF q, b.d] :: r.ds
end
def Rw.fs : Rw → List (Int × Int)
  | .nil => []
  | .cons q _ r => q :: r.fs
mutual
def Bd.sz : Bd → Nat
  | .fin => 1
  | .stop => 1
  | .tell _ b => b.sz + 1
  | .call _ b => b.sz + 1
  | .draw r => r.sz + 1
def Rw.sz : Rw → Nat
  | .nil => 0
  | .cons _ b r => b.sz + r.sz
end
mutual
def Bd.ok (ns ls : List Str) : Bd → Nat → Prop
  | .fin, _ => True
  | .stop, _ => True
  | .tell s b, n => s ∈ ls ∧ ∃ m, n = m + 1 ∧ b.ok ns ls m
  | .call s b, n => s ∈ ns ∧ ∃ m, n = m + 1 ∧ b.ok ns ls m
  | .draw r, n => r.fs ∈ cuts ∧ ∃ m, n = m + 1 ∧ r.ok ns ls m
def Rw.ok (ns ls : List Str) : Rw → Nat → Prop
  | .nil, _ => True
  | .cons _ b r, n => b.ok ns ls n ∧ r.ok ns ls n
end
theorem rows_rw {ns ls : List Str} {n : Nat} (f : D → Prop) (hf : ∀ d, f d → ∃ b : Bd, d = b.d ∧ b.ok ns ls n) : ∀ rs : List ((Int × Int) × D), (∀ r ∈ rs, f r.2) → ∃ w : Rw, rs.map dRow = w.ds ∧ w.fs = rs.map Prod.fst ∧ w.ok ns ls n
  | [], _ => ⟨.nil, by simp [Rw.ds], by simp [Rw.fs], by simp [Rw.ok]⟩
  | r :: rs, h => by
    obtain ⟨w, h1, h2, h3⟩ := rows_rw f hf rs fun x hx => h x (.tail _ hx)
    obtain ⟨b, hb, ho⟩ := hf _ (h r (.head _))
    exact ⟨.cons r.1 b w, by simp [Rw.ds, h1, dRow, hb], by simp [Rw.fs, h2], by simp [Rw.ok, ho, h3]⟩
theorem wb_bd {ns ls : List Str} : ∀ {n : Nat} {d : D}, WB ns ls n d → ∃ b : Bd, d = b.d ∧ b.ok ns ls n
  | 0, d, h => by
    rcases h with rfl | rfl
    · exact ⟨.fin, by simp [Bd.d], by simp [Bd.ok]⟩
    · exact ⟨.stop, by simp [Bd.d], by simp [Bd.ok]⟩
  | n + 1, d, h => by
    rcases h with rfl | rfl | ⟨s, b, h1, rfl, h3⟩ | ⟨s, b, h1, rfl, h3⟩ | ⟨rs, h1, rfl, h3⟩
    · exact ⟨.fin, by simp [Bd.d], by simp [Bd.ok]⟩
    · exact ⟨.stop, by simp [Bd.d], by simp [Bd.ok]⟩
    · obtain ⟨b', rfl, ho⟩ := wb_bd h3
      exact ⟨.tell s b', by simp [Bd.d], by simp [Bd.ok, h1, ho]⟩
    · obtain ⟨b', rfl, ho⟩ := wb_bd h3
      exact ⟨.call s b', by simp [Bd.d], by simp [Bd.ok, h1, ho]⟩
    · obtain ⟨w, e1, e2, e3⟩ := rows_rw (ns := ns) (ls := ls) (n := n) (WB ns ls n) (fun d hd => wb_bd hd) rs h3
      exact ⟨.draw w, by simp [Bd.d, e1], by simp [Bd.ok, e2, h1, e3]⟩
def dBP (r : Str × Bd) : D := .tup [.str r.1, r.2.d]
/-- programs as drawn, as data -/
def PB (ps : List (Str × Bd)) (ls : List Str) : Prop := ps.map Prod.fst ∈ allN ∧ ls ∈ allL ∧ ∀ r ∈ ps, r.2.ok (ps.map Prod.fst) ls 5
theorem procs_pb {ns ls : List Str} : ∀ rs : List (Str × D), (∀ r ∈ rs, WB ns ls 5 r.2) → ∃ ps : List (Str × Bd), rs.map dProc = ps.map dBP ∧ ps.map Prod.fst = rs.map Prod.fst ∧ ∀ r ∈ ps, r.2.ok ns ls 5
  | [], _ => ⟨[], rfl, rfl, by simp⟩
  | r :: rs, h => by
    obtain ⟨ps, h1, h2, h3⟩ := procs_pb rs fun x hx => h x (.tail _ hx)
    obtain ⟨b, hb, ho⟩ := wb_bd (h r (.head _))
    refine ⟨(r.1, b) :: ps, by simp [h1, dProc, dBP, hb], by simp [h2], fun x hx => ?_⟩
    rcases List.mem_cons.mp hx with rfl | hx
    · exact ho
    · exact h3 x hx
theorem wp_pb {rs : List (Str × D)} (h : WP rs) : ∃ ps ls, rs.map dProc = ps.map dBP ∧ PB ps ls := by
  obtain ⟨h1, ls, h2, h3⟩ := h
  obtain ⟨ps, e1, e2, e3⟩ := procs_pb rs h3
  exact ⟨ps, ls, e1, by rw [e2]; exact h1, h2, fun r hr => by rw [e2]; exact e3 r hr⟩
/-! ## ways -/
structure Wy where
  ch : Int × Int
  cs : List Str
  ls : List Str
def mulF (a b : Int × Int) : Int × Int := fr (a.1 * b.1) (a.2 * b.2)
def addF (a b : Int × Int) : Int × Int := fr (a.1 * b.2 + b.1 * a.2) (a.2 * b.2)
mutual
def Bd.ways : Bd → Wy → List Wy
  | .fin, w => [w]
  | .stop, _ => []
  | .tell s b, w => b.ways ⟨w.ch, w.cs, w.ls ++ [s]⟩
  | .call s b, w => b.ways ⟨w.ch, w.cs ++ [s], w.ls⟩
  | .draw r, w => r.ways w
def Rw.ways : Rw → Wy → List Wy
  | .nil, _ => []
  | .cons q b r, w => b.ways ⟨mulF w.ch q, w.cs, w.ls⟩ ++ r.ways w
end
def w0 : Wy := ⟨(1, 1), [], []⟩
abbrev WKey := List Str × List Str
def Wy.key (w : Wy) : WKey := (w.cs, w.ls)
def mrg (acc : List Wy) (w : Wy) : List Wy := if (acc.any fun r => decide (r.key = w.key)) = true then acc.map fun r => if r.key = w.key then ⟨addF r.ch w.ch, r.cs, r.ls⟩ else r else acc ++ [w]
def alts (ws : List Wy) : List Wy := ws.foldl mrg []
def Bd.alts (b : Bd) : List Wy := DL.alts (b.ways w0)
/-! ## fractions that stay small -/
structure Gf (N c : Int) (f : Int × Int) : Prop where
  p : 0 < f.2
  z : 0 ≤ f.1
  g : Int.gcd f.1 f.2 = 1
  d : f.2 ∣ N
  l : f.1 ≤ c * f.2
theorem fr_ok {n d : Int} (h : 0 < d) (hz : 0 ≤ n) : 0 < (fr n d).2 ∧ 0 ≤ (fr n d).1 ∧ Int.gcd (fr n d).1 (fr n d).2 = 1 ∧ ∃ g : Int, 0 < g ∧ n = g * (fr n d).1 ∧ d = g * (fr n d).2 := by
  have hg : 0 < (Int.gcd n d : Int) := by
    have := Int.gcd_pos_of_ne_zero_right n (show d ≠ 0 by omega)
    omega
  have h1 : (Int.gcd n d : Int) ∣ n := Int.gcd_dvd_left ..
  have h2 : (Int.gcd n d : Int) ∣ d := Int.gcd_dvd_right ..
  have e1 := Int.mul_ediv_cancel' h1
  have e2 := Int.mul_ediv_cancel' h2
  refine ⟨Int.ediv_pos_of_pos_of_dvd h (Int.le_of_lt hg) h2, Int.ediv_nonneg hz (Int.le_of_lt hg), ?_, _, hg, e1.symm, e2.symm⟩
  exact Int.gcd_ediv_gcd_ediv_gcd (by omega)
theorem dvd_co {a b c : Int} (h : a ∣ b * c) (hg : Int.gcd b a = 1) : a ∣ c := by
  rw [← Int.natAbs_dvd_natAbs] at h ⊢
  rw [Int.natAbs_mul] at h
  exact Nat.Coprime.dvd_of_dvd_mul_left (show Nat.Coprime a.natAbs b.natAbs by rw [Nat.coprime_comm]; exact hg) h
theorem Gf.of_fr {n d N c : Int} (h : 0 < d) (hz : 0 ≤ n) (hl : n ≤ c * d) (hd : ∃ m, n * N = d * m) : Gf N c (fr n d) := by
  obtain ⟨h1, h2, h3, g, hg, e1, e2⟩ := fr_ok (n := n) h hz
  generalize fr n d = f at *
  subst e1 e2
  refine ⟨h1, h2, h3, ?_, ?_⟩
  · obtain ⟨m, hm⟩ := hd
    rw [Int.mul_assoc, Int.mul_assoc] at hm
    have hm := Int.eq_of_mul_eq_mul_left (by omega) hm
    exact dvd_co ⟨m, hm⟩ h3
  · have : g * f.1 ≤ g * (c * f.2) := by
      rw [show g * (c * f.2) = c * (g * f.2) by rw [← Int.mul_assoc, ← Int.mul_assoc, Int.mul_comm g c]]; exact hl
    exact Int.le_of_mul_le_mul_left this hg
theorem Gf.mul {N N' : Int} {a b : Int × Int} (ha : Gf N 1 a) (hb : Gf N' 1 b) : Gf (N * N') 1 (mulF a b) := by
  refine Gf.of_fr (Int.mul_pos ha.p hb.p) (Int.mul_nonneg ha.z hb.z) ?_ ?_
  · have h1 := ha.l; have h2 := hb.l
    rw [Int.one_mul] at h1 h2 ⊢
    exact Int.mul_le_mul h1 h2 hb.z (Int.le_of_lt ha.p)
  · obtain ⟨u, hu⟩ := ha.d
    obtain ⟨v, hv⟩ := hb.d
    exact ⟨a.1 * b.1 * (u * v), by rw [hu, hv]; grind⟩
theorem Gf.add {N c c' : Int} {a b : Int × Int} (ha : Gf N c a) (hb : Gf N c' b) : Gf N (c + c') (addF a b) := by
  refine Gf.of_fr (Int.mul_pos ha.p hb.p) ?_ ?_ ?_
  · have := Int.mul_nonneg ha.z (Int.le_of_lt hb.p); have := Int.mul_nonneg hb.z (Int.le_of_lt ha.p); omega
  · have h1 := Int.mul_le_mul_of_nonneg_right ha.l (Int.le_of_lt hb.p)
    have h2 := Int.mul_le_mul_of_nonneg_right hb.l (Int.le_of_lt ha.p)
    have : (c + c') * (a.2 * b.2) = c * a.2 * b.2 + c' * b.2 * a.2 := by grind
    rw [this]; omega
  · obtain ⟨u, hu⟩ := ha.d
    obtain ⟨v, hv⟩ := hb.d
    exact ⟨a.1 * u + b.1 * v, by rw [Int.mul_add, Int.add_mul]; have : a.1 * b.2 * N = a.2 * b.2 * (a.1 * u) := by { rw [hu]; grind }
                                 have : b.1 * a.2 * N = a.2 * b.2 * (b.1 * v) := by { rw [hv]; grind }
                                 omega⟩
theorem Gf.dvd {N N' c : Int} {f : Int × Int} (h : Gf N c f) (hd : N ∣ N') : Gf N' c f := ⟨h.p, h.z, h.g, Int.dvd_trans h.d hd, h.l⟩
theorem Gf.le {N c c' : Int} {f : Int × Int} (h : Gf N c f) (hd : c ≤ c') : Gf N c' f := ⟨h.p, h.z, h.g, h.d, by have := h.l; have := Int.mul_le_mul_of_nonneg_right hd (Int.le_of_lt h.p); omega⟩
abbrev N0 : Int := 176400
theorem cuts_gf : ∀ l ∈ cuts, l.length ≤ 3 ∧ ∀ f ∈ l, 0 < f.2 ∧ 0 ≤ f.1 ∧ Int.gcd f.1 f.2 = 1 ∧ N0 % f.2 = 0 ∧ f.1 ≤ 1 * f.2 := by decide +kernel
theorem cut_gf {l : List (Int × Int)} (h : l ∈ cuts) {f : Int × Int} (hf : f ∈ l) : Gf N0 1 f := by
  obtain ⟨h1, h2, h3, h4, h5⟩ := (cuts_gf l h).2 f hf
  exact ⟨h1, h2, h3, Int.dvd_of_emod_eq_zero h4, h5⟩
theorem Gf.sm {c : Int} {f : Int × Int} (h : Gf (N0 ^ 5) c f) (hc : c ≤ 1000) : Sm 120 f.1 ∧ Sm 120 f.2 := by
  have hp := h.p
  have h2 : f.2 ≤ N0 ^ 5 := Int.le_of_dvd (by decide) h.d
  have h1 : f.1 ≤ 1000 * N0 ^ 5 := by
    have h3 := h.l
    have h4 := Int.mul_le_mul_of_nonneg_right hc (Int.le_of_lt hp)
    have : N0 ^ 5 = 170801981216778240000000000 := by decide +kernel
    omega
  have hz := h.z
  have e : N0 ^ 5 = 170801981216778240000000000 := by decide +kernel
  have e2 : (2 : Nat) ^ 120 = 1329227995784915872903807060280344576 := by decide +kernel
  exact ⟨⟨by rw [e2]; omega⟩, ⟨by rw [e2]; omega⟩⟩
end DL

set_option Elab.async false
set_option linter.all false
set_option maxRecDepth 100000
/-! G3S: what ways, alternatives_of, alternatives ask and tell -/
namespace DL
open PySem
def dW (w : Wy) : D := .tup [dF w.ch, .tup (w.cs.map .str), .tup (w.ls.map .str)]
/-- of a body as drawn -/
def BO (b : Bd) : Prop := ∃ ns ∈ allN, ∃ ls ∈ allL, b.ok ns ls 5
def S_ways : FD := fn1 fun x _ M Q => ∃ b : Bd, x = b.d ∧ BO b ∧ ∀ p, M p = none → Q (.ref p) (M.set p (.lst ((b.ways w0).map dW)))
def S_alternatives_of : FD := fn1 fun x _ M Q => ∃ b : Bd, x = b.d ∧ BO b ∧ Q (.tup (b.alts.map dW)) M
def dAlt (p : Str × Bd) : D := .tup [.str p.1, .tup (p.2.alts.map dW)]
def S_alternatives : FD := fn1 fun x _ M Q => ∃ ps, x = .tup (List.map dBP ps) ∧ ps.length ≤ 100 ∧ (∀ r ∈ ps, BO r.2) ∧ Q (.tup (ps.map dAlt)) M
end DL

set_option Elab.async false
set_option linter.all false
set_option maxRecDepth 100000
/-! mirrors of the text's defs (printed by gen.py) -/
namespace DL
open PySem
def FB_ways_1 : WS :=
  (sExpr (eAppend (eVar 2) (eTup [(eVar 8), (eCall S_times [(eVar 4), (eVar 7)]), (eVar 5), (eVar 6)])))
def WC_ways_1 : WT :=
  (tTru (eVar 2))
def WB_ways_1 : WS :=
  (sSeq (sAsg (ePop (eVar 2)) (gTup [(gName 3), (gName 4), (gName 5), (gName 6)])) (sIf (tCmp cEq (eSub (eVar 3) (eC (.int 0))) (eC (.str "end"))) (sExpr (eAppend (eVar 1) (eTup [(eVar 4), (eVar 5), (eVar 6)]))) (sIf (tCmp cEq (eSub (eVar 3) (eC (.int 0))) (eC (.str "tell"))) (sExpr (eAppend (eVar 2) (eTup [(eSub (eVar 3) (eC (.int 2))), (eVar 4), (eVar 5), (eBin opAdd (eVar 6) (eTup [(eSub (eVar 3) (eC (.int 1)))]))]))) (sIf (tCmp cEq (eSub (eVar 3) (eC (.int 0))) (eC (.str "call"))) (sExpr (eAppend (eVar 2) (eTup [(eSub (eVar 3) (eC (.int 2))), (eVar 4), (eBin opAdd (eVar 5) (eTup [(eSub (eVar 3) (eC (.int 1)))])), (eVar 6)]))) (sIf (tCmp cEq (eSub (eVar 3) (eC (.int 0))) (eC (.str "draw"))) (sFor (iVal (eRev (eSub (eVar 3) (eC (.int 1))))) (gTup [(gName 7), (gName 8)]) FB_ways_1) sNil)))))
def T_ways_1 : WS :=
  (sRet (eVar 1))
def B_ways : WS :=
  (sSeq (sAsg (eLst []) (gName 1)) (sSeq (sAsg (eLst [(eTup [(eVar 0), (eC g_ONE), (eTup []), (eTup [])])]) (gName 2)) (sSeq (sWhile WC_ways_1 WB_ways_1) T_ways_1)))
def FB_alternatives_of_1 : WS :=
  (sAsg (eCall S_plus [(eGet2 (eVar 1) (eTup [(eVar 3), (eVar 4)]) (eC g_ZERO)), (eVar 2)]) (gSub (eVar 1) (eTup [(eVar 3), (eVar 4)])))
def CE_alternatives_of_1 : WE :=
  (eBin opAdd (eTup [(eSub (eVar 1) (eVar 5))]) (eVar 5))
def T_alternatives_of_1 : WS :=
  (sRet (eTupOf (eLock 1 (eComp (iKeysD (eVar 1)) [5] (gName 5) tYes CE_alternatives_of_1))))
def B_alternatives_of : WS :=
  (sSeq (sAsg eDn (gName 1)) (sSeq (sFor (iVal (eCall S_ways [(eVar 0)])) (gTup [(gName 2), (gName 3), (gName 4)]) FB_alternatives_of_1) T_alternatives_of_1))
def CE_alternatives_1 : WE :=
  (eTup [(eVar 1), (eCall S_alternatives_of [(eVar 2)])])
def B_alternatives : WS :=
  (sRet (eTupOf (eComp (iVal (eVar 0)) [1, 2] (gTup [(gName 1), (gName 2)]) tYes CE_alternatives_1)))
end DL

set_option Elab.async false
set_option linter.all false
set_option maxRecDepth 100000
set_option maxHeartbeats 4000000
/-! G3P: ways and alternatives -/
namespace DL
open PySem
def Rw.l : Rw → List ((Int × Int) × Bd)
  | .nil => []
  | .cons q b r => (q, b) :: r.l
def dRB (x : (Int × Int) × Bd) : D := .tup [dF x.1, x.2.d]
theorem rw_ds : ∀ r : Rw, r.ds = r.l.map dRB
  | .nil => by simp [Rw.ds, Rw.l]
  | .cons q b r => by simp [Rw.ds, Rw.l, dRB, rw_ds r]
theorem rw_fs : ∀ r : Rw, r.fs = r.l.map Prod.fst
  | .nil => by simp [Rw.fs, Rw.l]
  | .cons q b r => by simp [Rw.fs, Rw.l, rw_fs r]
theorem rw_ok {ns ls : List Str} {n : Nat} : ∀ r : Rw, r.ok ns ls n ↔ ∀ x ∈ r.l, x.2.ok ns ls n
  | .nil => by simp [Rw.ok, Rw.l]
  | .cons q b r => by simp [Rw.ok, Rw.l, rw_ok r]
theorem rw_sz : ∀ r : Rw, r.sz = (r.l.map fun x => x.2.sz).sum
  | .nil => by simp [Rw.sz, Rw.l]
  | .cons q b r => by simp [Rw.sz, Rw.l, rw_sz r]
def Wy.mul (w : Wy) (q : Int × Int) : Wy := ⟨mulF w.ch q, w.cs, w.ls⟩
theorem rw_ways (w : Wy) : ∀ r : Rw, r.ways w = r.l.flatMap fun x => x.2.ways (w.mul x.1)
  | .nil => by simp [Rw.ways, Rw.l]
  | .cons q b r => by simp [Rw.ways, Rw.l, rw_ways w r, Wy.mul]
/-! what ways look like -/
structure Wok (ns ls : List Str) (k : Nat) (w : Wy) : Prop where
  f : Gf (N0 ^ k) 1 w.ch
  c : w.cs.length ≤ k
  l : w.ls.length ≤ k
  cm : ∀ s ∈ w.cs, s ∈ ns
  lm : ∀ s ∈ w.ls, s ∈ ls
section
variable {ns ls : List Str} {k n : Nat} {w : Wy}
theorem N0_dvd : N0 ^ k ∣ N0 ^ (k + 1) := ⟨N0, by rw [Int.pow_succ]⟩
theorem Wok.up (h : Wok ns ls k w) : Wok ns ls (k + 1) w := ⟨h.f.dvd N0_dvd, by have := h.c; omega, by have := h.l; omega, h.cm, h.lm⟩
theorem Wok.le {m : Nat} (h : Wok ns ls k w) (hl : k ≤ m) : Wok ns ls m w := by
  induction hl with
  | refl => exact h
  | step _ ih => exact ih.up
theorem Wok.tell {s : Str} (h : Wok ns ls k w) (hs : s ∈ ls) : Wok ns ls (k + 1) ⟨w.ch, w.cs, w.ls ++ [s]⟩ :=
  ⟨h.up.f, h.up.c, by have := h.l; simp; omega, h.cm, fun x hx => by
    rcases List.mem_append.mp hx with hx | hx
    · exact h.lm x hx
    · rw [List.mem_singleton.mp hx]; exact hs⟩
theorem Wok.call {s : Str} (h : Wok ns ls k w) (hs : s ∈ ns) : Wok ns ls (k + 1) ⟨w.ch, w.cs ++ [s], w.ls⟩ :=
  ⟨h.up.f, by have := h.c; simp; omega, h.up.l, fun x hx => by
    rcases List.mem_append.mp hx with hx | hx
    · exact h.cm x hx
    · rw [List.mem_singleton.mp hx]; exact hs, h.lm⟩
theorem Wok.mul {q : Int × Int} (h : Wok ns ls k w) (hq : Gf N0 1 q) : Wok ns ls (k + 1) (w.mul q) :=
  ⟨by rw [Int.pow_succ]; exact h.f.mul hq, h.up.c, h.up.l, h.cm, h.lm⟩
end
theorem wok0 {ns ls : List Str} : Wok ns ls 0 w0 := ⟨⟨by decide, by decide, by decide, by simp [w0], by decide⟩, by simp [w0], by simp [w0], by simp [w0], by simp [w0]⟩
mutual
theorem ways_ok {ns ls : List Str} : ∀ (b : Bd) {n k : Nat} {w : Wy}, b.ok ns ls n → Wok ns ls k w → ∀ v ∈ b.ways w, Wok ns ls (k + n) v
  | .fin, n, k, w, _, h, v, hv => by simp [Bd.ways] at hv; subst hv; exact h.le (by omega)
  | .stop, n, k, w, _, h, v, hv => by simp [Bd.ways] at hv
  | .tell s b, n, k, w, ho, h, v, hv => by
    simp only [Bd.ok] at ho
    obtain ⟨hs, m, rfl, ho⟩ := ho
    simp only [Bd.ways] at hv
    rw [show k + (m + 1) = k + 1 + m by omega]
    exact ways_ok b ho (h.tell hs) v hv
  | .call s b, n, k, w, ho, h, v, hv => by
    simp only [Bd.ok] at ho
    obtain ⟨hs, m, rfl, ho⟩ := ho
    simp only [Bd.ways] at hv
    rw [show k + (m + 1) = k + 1 + m by omega]
    exact ways_ok b ho (h.call hs) v hv
  | .draw r, n, k, w, ho, h, v, hv => by
    simp only [Bd.ok] at ho
    obtain ⟨hs, m, rfl, ho⟩ := ho
    simp only [Bd.ways] at hv
    rw [show k + (m + 1) = k + 1 + m by omega]
    exact rways_ok r ho h (fun f hf => cut_gf hs hf) v hv
theorem rways_ok {ns ls : List Str} : ∀ (r : Rw) {n k : Nat} {w : Wy}, r.ok ns ls n → Wok ns ls k w → (∀ f ∈ r.fs, Gf N0 1 f) → ∀ v ∈ r.ways w, Wok ns ls (k + 1 + n) v
  | .nil, n, k, w, _, h, _, v, hv => by simp [Rw.ways] at hv
  | .cons q b r, n, k, w, ho, h, hf, v, hv => by
    simp only [Rw.ok] at ho
    simp only [Rw.ways, List.mem_append] at hv
    simp only [Rw.fs, List.mem_cons] at hf
    rcases hv with hv | hv
    · exact ways_ok b ho.1 (h.mul (hf q (.inl rfl))) v hv
    · exact rways_ok r ho.2 h (fun f hf' => hf f (.inr hf')) v hv
end
/-! Kraft -/
def wt (w : WKey) : Nat := 3 ^ (w.1.length + w.2.length)
theorem wt_pos (w : WKey) : 1 ≤ wt w := Nat.pow_pos (by decide)
def wts (ws : List Wy) : Nat := (ws.map fun w => wt w.key).sum
theorem wts_app (a b : List Wy) : wts (a ++ b) = wts a + wts b := by simp [wts]
theorem len_wts : ∀ ws : List Wy, ws.length ≤ wts ws
  | [] => by simp
  | w :: ws => by
    have h1 := len_wts ws
    have h2 := wt_pos w.key
    simp [wts] at h1 ⊢; omega
mutual
theorem ways_wt {ns ls : List Str} : ∀ (b : Bd) {n : Nat} {w : Wy}, b.ok ns ls n → wts (b.ways w) ≤ 3 ^ n * wt w.key
  | .fin, n, w, _ => by
    simp [Bd.ways, wts]
    exact Nat.le_mul_of_pos_left _ (Nat.pow_pos (by decide))
  | .stop, n, w, _ => by simp [Bd.ways, wts]
  | .tell s b, n, w, ho => by
    simp only [Bd.ok] at ho
    obtain ⟨hs, m, rfl, ho⟩ := ho
    simp only [Bd.ways]
    refine Nat.le_trans (ways_wt b ho) ?_
    simp [wt, Wy.key, Nat.pow_succ, ← Nat.add_assoc]
    rw [Nat.mul_assoc, Nat.mul_comm 3]; exact Nat.le_refl _
  | .call s b, n, w, ho => by
    simp only [Bd.ok] at ho
    obtain ⟨hs, m, rfl, ho⟩ := ho
    simp only [Bd.ways]
    refine Nat.le_trans (ways_wt b ho) ?_
    simp [wt, Wy.key]
    rw [show w.cs.length + 1 + w.ls.length = w.cs.length + w.ls.length + 1 by omega, Nat.pow_succ, Nat.pow_succ, Nat.mul_assoc, Nat.mul_comm 3]; exact Nat.le_refl _
  | .draw r, n, w, ho => by
    simp only [Bd.ok] at ho
    obtain ⟨hs, m, rfl, ho⟩ := ho
    simp only [Bd.ways]
    refine Nat.le_trans (rways_wt r ho) ?_
    have := (cuts_gf _ hs).1
    rw [Nat.pow_succ, Nat.mul_comm (3 ^ m) 3, Nat.mul_assoc]
    exact Nat.mul_le_mul_right _ this
theorem rways_wt {ns ls : List Str} : ∀ (r : Rw) {n : Nat} {w : Wy}, r.ok ns ls n → wts (r.ways w) ≤ r.fs.length * (3 ^ n * wt w.key)
  | .nil, n, w, _ => by simp [Rw.ways, wts]
  | .cons q b r, n, w, ho => by
    simp only [Rw.ok] at ho
    simp only [Rw.ways, wts_app, Rw.fs, List.length_cons]
    have h1 := ways_wt b (w := ⟨mulF w.ch q, w.cs, w.ls⟩) ho.1
    have h2 := rways_wt r (w := w) ho.2
    rw [Nat.add_mul, Nat.one_mul]
    have : wt (Wy.key ⟨mulF w.ch q, w.cs, w.ls⟩) = wt w.key := rfl
    rw [this] at h1
    omega
end
mutual
theorem sz_le {ns ls : List Str} : ∀ (b : Bd) {n : Nat}, b.ok ns ls n → 2 * b.sz + 1 ≤ 3 ^ (n + 1)
  | .fin, n, _ => by simp [Bd.sz]; have := Nat.pow_pos (a := 3) (n := n) (by decide); rw [Nat.pow_succ]; omega
  | .stop, n, _ => by simp [Bd.sz]; have := Nat.pow_pos (a := 3) (n := n) (by decide); rw [Nat.pow_succ]; omega
  | .tell s b, n, ho => by
    simp only [Bd.ok] at ho
    obtain ⟨hs, m, rfl, ho⟩ := ho
    have := sz_le b ho
    have h3 := Nat.pow_pos (a := 3) (n := m) (by decide)
    simp only [Bd.sz, Nat.pow_succ] at this ⊢; omega
  | .call s b, n, ho => by
    simp only [Bd.ok] at ho
    obtain ⟨hs, m, rfl, ho⟩ := ho
    have := sz_le b ho
    have h3 := Nat.pow_pos (a := 3) (n := m) (by decide)
    simp only [Bd.sz, Nat.pow_succ] at this ⊢; omega
  | .draw r, n, ho => by
    simp only [Bd.ok] at ho
    obtain ⟨hs, m, rfl, ho⟩ := ho
    have h1 := rsz_le r ho
    have h2 := (cuts_gf _ hs).1
    have h4 : 0 < 3 ^ (m + 1) := Nat.pow_pos (by decide)
    have h3 := Nat.mul_le_mul_right (3 ^ (m + 1) - 1) h2
    simp only [Bd.sz]
    rw [Nat.pow_succ]
    have h5 : r.fs.length * (3 ^ (m + 1) - 1) + r.fs.length = r.fs.length * 3 ^ (m + 1) := by
      rw [Nat.mul_sub, Nat.mul_one, Nat.sub_add_cancel]
      exact Nat.le_mul_of_pos_right _ h4
    omega
theorem rsz_le {ns ls : List Str} : ∀ (r : Rw) {n : Nat}, r.ok ns ls n → 2 * r.sz + r.fs.length ≤ r.fs.length * 3 ^ (n + 1)
  | .nil, n, _ => by simp [Rw.sz, Rw.fs]
  | .cons q b r, n, ho => by
    simp only [Rw.ok] at ho
    have h1 := sz_le b ho.1
    have h2 := rsz_le r ho.2
    simp only [Rw.sz, Rw.fs, List.length_cons, Nat.add_mul, Nat.one_mul]
    omega
end
theorem sz_pos : ∀ b : Bd, 1 ≤ b.sz := fun b => by
  cases b <;> simp [Bd.sz]
/-! ## putting together -/
structure Aok (ns ls : List Str) (ws as : List Wy) : Prop where
  nd : (as.map Wy.key).Nodup
  wt : wts as ≤ wts ws
  el : ∀ a ∈ as, Gf (N0 ^ 5) ws.length a.ch ∧ a.cs.length ≤ 5 ∧ a.ls.length ≤ 5 ∧ (∀ s ∈ a.cs, s ∈ ns) ∧ ∀ s ∈ a.ls, s ∈ ls
def upW (w r : Wy) : Wy := if r.key = w.key then ⟨addF r.ch w.ch, r.cs, r.ls⟩ else r
theorem upW_key (w r : Wy) : (upW w r).key = r.key := by unfold upW; split <;> rfl
theorem mrg_s (acc : List Wy) (w : Wy) : mrg acc w = if w.key ∈ acc.map Wy.key then acc.map (upW w) else acc ++ [w] := by
  unfold mrg
  by_cases h : w.key ∈ acc.map Wy.key
  · rw [if_pos h, if_pos]
    · rfl
    · obtain ⟨r, hr, e⟩ := List.mem_map.mp h
      simp only [List.any_eq_true, decide_eq_true_eq]
      exact ⟨r, hr, e⟩
  · rw [if_neg h, if_neg]
    simp only [List.any_eq_true, decide_eq_true_eq, not_exists, not_and]
    exact fun r hr e => h (List.mem_map.mpr ⟨r, hr, e⟩)
theorem Aok.step {ns ls : List Str} {ws as : List Wy} {w : Wy} (h : Aok ns ls ws as) (hw : Wok ns ls 5 w) : Aok ns ls (ws ++ [w]) (mrg as w) := by
  rw [mrg_s]
  have one : (1 : Int) ≤ ((ws ++ [w]).length : Int) := by simp; omega
  split
  · have ek : (as.map (upW w)).map Wy.key = as.map Wy.key := by
      rw [List.map_map]; exact List.map_congr_left fun r _ => upW_key w r
    refine ⟨by rw [ek]; exact h.nd, ?_, fun a ha => ?_⟩
    · have : wts (as.map (upW w)) = wts as := by
        unfold wts
        rw [List.map_map]
        congr 1
        exact List.map_congr_left fun r _ => by show DL.wt (upW w r).key = _; rw [upW_key]
      rw [this, wts_app]; have := h.wt; omega
    · obtain ⟨r, hr, rfl⟩ := List.mem_map.mp ha
      have h1 := h.el r hr
      unfold upW
      split
      · have := h1.1.add hw.f
        refine ⟨?_, h1.2⟩
        simpa using this
      · exact ⟨h1.1.le (by simp; omega), h1.2⟩
  · rename_i hn
    refine ⟨?_, by rw [wts_app, wts_app]; have := h.wt; omega, fun a ha => ?_⟩
    · rw [List.map_append, List.nodup_append]
      refine ⟨h.nd, by simp, fun a ha b hb => ?_⟩
      have : b = w.key := by simpa using hb
      subst this
      exact fun e => hn (e ▸ ha)
    · rcases List.mem_append.mp ha with ha | ha
      · have h1 := h.el a ha
        exact ⟨h1.1.le (by simp; omega), h1.2⟩
      · have : a = w := by simpa using ha
        subst this
        exact ⟨hw.f.le one, hw.c, hw.l, hw.cm, hw.lm⟩
theorem aok_fold {ns ls : List Str} : ∀ (more ws as : List Wy), Aok ns ls ws as → (∀ w ∈ more, Wok ns ls 5 w) → Aok ns ls (ws ++ more) (more.foldl mrg as)
  | [], ws, as, h, _ => by simpa using h
  | w :: more, ws, as, h, hw => by
    have := aok_fold more (ws ++ [w]) (mrg as w) (h.step (hw w (.head _))) fun v hv => hw v (.tail _ hv)
    simpa using this
theorem aok0 {ns ls : List Str} : Aok ns ls [] [] := ⟨by simp, by simp [wts], by simp⟩
theorem ways5 {ns ls : List Str} {b : Bd} (h : b.ok ns ls 5) : (∀ w ∈ b.ways w0, Wok ns ls 5 w) ∧ wts (b.ways w0) ≤ 243 ∧ (b.ways w0).length ≤ 243 := by
  have h1 := ways_wt b (w := w0) h
  have h2 : wt w0.key = 1 := by decide
  rw [h2] at h1
  have h3 := len_wts (b.ways w0)
  refine ⟨fun w hw => ?_, by omega, by omega⟩
  have := ways_ok b h (wok0 (ns := ns) (ls := ls)) w hw
  simpa using this
theorem alts5 {ns ls : List Str} {b : Bd} (h : b.ok ns ls 5) : Aok ns ls (b.ways w0) b.alts := by
  have := aok_fold (b.ways w0) [] [] (aok0 (ns := ns) (ls := ls)) (ways5 h).1
  rw [List.nil_append] at this
  exact this
end DL

set_option Elab.async false
set_option linter.all false
set_option maxRecDepth 100000
set_option maxHeartbeats 4000000
namespace DL
open PySem
/-! ## ways -/
def dI (i : Bd × Wy) : D := .tup [i.1.d, dF i.2.ch, .tup (i.2.cs.map .str), .tup (i.2.ls.map .str)]
structure It5 (ns ls : List Str) (i : Bd × Wy) : Prop where
  h : ∃ k n, k + n ≤ 5 ∧ i.1.ok ns ls n ∧ Wok ns ls k i.2
def szs (st : List (Bd × Wy)) : Nat := (st.map fun i => i.1.sz).sum
theorem szs_app (a b : List (Bd × Wy)) : szs (a ++ b) = szs a + szs b := by simp [szs]
theorem len_szs : ∀ st : List (Bd × Wy), st.length ≤ szs st
  | [] => by simp
  | i :: st => by
    have h1 := len_szs st
    have h2 := sz_pos i.1
    simp [szs] at h1 ⊢; omega
def outs (st : List (Bd × Wy)) : List Wy := st.flatMap fun i => i.1.ways i.2
theorem wok_sm {ns ls : List Str} {k : Nat} {w : Wy} (h : Wok ns ls k w) (hk : k ≤ 5) : Sm 120 w.ch.1 ∧ Sm 120 w.ch.2 := (h.le hk).f.sm (by decide)
def WayI (M : Sto) (a c : Addr) (b : Bd) (ns ls : List Str) (m : Nat) (e : Ev) (M' : Sto) : Prop := ∃ (st : List (Bd × Wy)) (fd : List Wy) (x3 x4 x5 x6 x7 x8 : Option D), e = [some b.d, some (.ref a), some (.ref c), x3, x4, x5, x6, x7, x8] ∧ M' a = some (.lst (fd.map dW)) ∧ M' c = some (.lst (st.reverse.map dI)) ∧ Le M M' ∧
      fd ++ outs st = b.ways w0 ∧ m = szs st ∧ szs st ≤ 400 ∧ ∀ i ∈ st, It5 ns ls i
theorem ob_ways : ∀ E ds M Q, S_ways E ds M Q → B_ways E (endsL Q) (start 9 ds) M := by
  intro E ds M Q h
  obtain ⟨x, rfl, b, rfl, ⟨ns, hns, ls, hls, hb⟩, hq⟩ := fn1_e h
  simp [B_ways]
  intro a ha
  refine go ?_
  simp
  intro c hc
  refine go ?_
  simp
  have hc' := set_none.mp hc
  have hac : a ≠ c := Ne.symm hc'.1
  have hsz := sizeLine_ge
  have hbs := sz_le b hb
  have hlen := (ways5 hb).2.2
  refine ⟨WayI M a c b ns ls, ⟨_, [(b, w0)], [], none, none, none, none, none, none, rfl, by rw [set_ne hac, set_same]; rfl, by rw [set_same]; simp [dI, w0, dF], (Le.refl.fresh ha).fresh hc'.2, by simp [outs], rfl, by simp [szs]; omega, ?_⟩, ?_⟩
  · intro i hi
    have : i = (b, w0) := by simpa using hi
    subst this
    exact ⟨0, 5, by omega, hb, wok0⟩
  · rintro m env M' ⟨st, fd, x3, x4, x5, x6, x7, x8, rfl, ea, ec, hl, ho, rfl, hs, hi⟩
    simp [WC_ways_1, ec]
    cases st with
    | nil =>
      simp
      refine go ?_
      simp [T_ways_1]
      simp [outs] at ho
      subst ho
      refine ⟨_, ?_, hq a ha⟩
      intro y o hy
      by_cases hya : y = a
      · subst hya; rw [set_same] at hy; rw [← hy]; exact ea
      · rw [set_ne hya] at hy; exact hl y o hy
    | cons i st =>
      obtain ⟨bd, w⟩ := i
      have hi' := fun v hv => hi v (.tail _ hv)
      obtain ⟨k, n, hkn, hbo, hwo⟩ := (hi _ (.head _)).h
      simp at hbo hwo
      have hfl : fd.length + (bd.ways w).length + (outs st).length ≤ 243 := by
        have := congrArg List.length ho
        simp [outs] at this hlen ⊢
        omega
      have hst : st.length ≤ 400 := by
        have := len_szs st; simp [szs] at this hs ⊢; omega
      have hss : szs ((bd, w) :: st) = bd.sz + szs st := by simp [szs]
      have hso : outs ((bd, w) :: st) = bd.ways w ++ outs st := by simp [outs]
      rw [hss] at hs ⊢
      rw [hso] at ho
      simp [WB_ways_1, ec, dI]
      refine go ?_
      have ea1 : (M'.set c (.lst (st.map dI).reverse)) a = some (.lst (fd.map dW)) := by rw [set_ne hac, ea]
      have ec1 : (M'.set c (.lst (st.map dI).reverse)) c = some (.lst (st.map dI).reverse) := set_same
      have hl1 : Le M (M'.set c (.lst (st.map dI).reverse)) := hl.fresh hc'.2
      generalize M'.set c (.lst (st.map dI).reverse) = m1 at ea1 ec1 hl1 ⊢
      have hcl := hwo.c
      have hll := hwo.l
      cases bd with
      | fin =>
        simp [Bd.d, ea1]
        simp [Bd.ways] at ho hfl
        refine ⟨by omega, _, ?_, st, fd ++ [w], _, _, _, _, _, _, rfl, by rw [set_same]; simp [dW], by rw [set_ne hac.symm, ec1]; simp, ?_, by simpa using ho, rfl, by omega, hi'⟩
        · simp [Bd.sz]
        · intro y o hy
          rw [set_ne (by rintro rfl; rw [ha] at hy; cases hy)]; exact hl1 y o hy
      | stop =>
        simp [Bd.d]
        simp [Bd.ways] at ho
        exact ⟨_, by simp [Bd.sz], st, fd, _, _, _, _, _, _, rfl, ea1, by rw [ec1]; simp, hl1, ho, rfl, by omega, hi'⟩
      | tell s b' =>
        simp only [Bd.ok] at hbo
        obtain ⟨hs', m', rfl, hbo⟩ := hbo
        simp [Bd.d, ec1]
        simp [Bd.ways] at ho
        refine ⟨by omega, by omega, _, ?_, (b', ⟨w.ch, w.cs, w.ls ++ [s]⟩) :: st, fd, _, _, _, _, _, _, rfl, by rw [set_ne hac, ea1], by simp [dI], hl1.fresh hc'.2, by simpa [outs] using ho, rfl, ?_, ?_⟩
        · simp [szs, Bd.sz]
        · simp [szs, Bd.sz] at hs ⊢; omega
        · intro v hv
          rcases List.mem_cons.mp hv with rfl | hv
          · exact ⟨k + 1, m', by omega, hbo, hwo.tell hs'⟩
          · exact hi' v hv
      | call s b' =>
        simp only [Bd.ok] at hbo
        obtain ⟨hs', m', rfl, hbo⟩ := hbo
        simp [Bd.d, ec1]
        simp [Bd.ways] at ho
        refine ⟨by omega, by omega, _, ?_, (b', ⟨w.ch, w.cs ++ [s], w.ls⟩) :: st, fd, _, _, _, _, _, _, rfl, by rw [set_ne hac, ea1], by simp [dI], hl1.fresh hc'.2, by simpa [outs] using ho, rfl, ?_, ?_⟩
        · simp [szs, Bd.sz]
        · simp [szs, Bd.sz] at hs ⊢; omega
        · intro v hv
          rcases List.mem_cons.mp hv with rfl | hv
          · exact ⟨k + 1, m', by omega, hbo, hwo.call hs'⟩
          · exact hi' v hv
      | draw r =>
        simp only [Bd.ok] at hbo
        obtain ⟨hs', m', rfl, hbo⟩ := hbo
        rw [rw_ok] at hbo
        have hfs : ∀ x ∈ r.l, Gf N0 1 x.1 := fun x hx => cut_gf hs' (by rw [rw_fs]; exact List.mem_map.mpr ⟨x, hx, rfl⟩)
        have hrl : r.l.length ≤ 3 := by have := (cuts_gf _ hs').1; rw [rw_fs] at this; simpa using this
        simp only [Bd.sz, rw_sz] at hs ⊢
        simp only [Bd.ways, rw_ways] at ho
        simp [Bd.d, rw_ds]
        refine for_ind (fun xs e m => ∃ (dn rs : List ((Int × Int) × Bd)) (x7 x8 : Option D), xs = rs.map dRB ∧ dn ++ rs = r.l.reverse ∧ e = [some b.d, some (.ref a), some (.ref c), some (.tup [.str "draw", .tup (r.l.map dRB)]), some (dF w.ch), some (.tup (w.cs.map .str)), some (.tup (w.ls.map .str)), x7, x8] ∧
          m a = some (.lst (fd.map dW)) ∧ m c = some (.lst ((st.map dI).reverse ++ dn.map fun x => dI (x.2, w.mul x.1))) ∧ Le M m) ?_ ?_ _ _ _ ⟨[], r.l.reverse, x7, x8, by simp, by simp, by simp [Bd.d], ea1, by rw [ec1]; simp, hl1⟩
        · rintro y ys e m ⟨dn, rs, y7, y8, hx, hd, rfl, ea, ec, hl⟩
          obtain ⟨q, rs, rfl⟩ : ∃ q rs', rs = q :: rs' := by
            cases rs with
            | nil => simp at hx
            | cons q rs => exact ⟨q, rs, rfl⟩
          simp at hx
          obtain ⟨rfl, rfl⟩ := hx
          have hql : q ∈ r.l := by
            have : q ∈ r.l.reverse := by rw [← hd]; simp
            simpa using this
          have hdl : dn.length ≤ 3 := by have := congrArg List.length hd; simp at this; omega
          refine ⟨trivial, fun N hN => ?_⟩
          have g1 := hwo.f
          have g2 := hfs q hql
          have s1 := wok_sm hwo (by omega)
          have s2 := (g2.dvd (N' := N0 ^ 5) (by decide)).sm (by decide)
          simp [FB_ways_1, dRB, ec, S_times]
          refine ⟨w.ch.1, w.ch.2, rfl, q.1.1, q.1.2, rfl, g1.p, g2.p, s1.1.mono (by decide), s1.2.mono (by decide), s2.1.mono (by decide), s2.2.mono (by decide), by omega, ?_⟩
          refine hN _ _ ⟨dn ++ [q], rs, _, _, rfl, by simpa using hd, rfl, by rw [set_ne hac, ea], by rw [set_same]; simp [dI, Wy.mul, mulF], hl.fresh hc'.2⟩
        · rintro e m ⟨dn, rs, y7, y8, hx, hd, rfl, ea, ec, hl⟩
          have : rs = [] := by simpa using hx.symm
          subst this
          simp at hd
          subst hd
          refine ⟨trivial, _, ?_, (r.l.map fun x => (x.2, w.mul x.1)) ++ st, fd, _, _, _, _, _, _, rfl, ea, by rw [ec]; simp [Function.comp_def], hl, ?_, rfl, ?_, ?_⟩
          · simp [szs, Function.comp_def]
          · rw [← ho]; simp [outs, List.flatMap_map]
          · simp [szs, Function.comp_def] at hs ⊢; omega
          · intro v hv
            rcases List.mem_append.mp hv with hv | hv
            · obtain ⟨x, hx, rfl⟩ := List.mem_map.mp hv
              exact ⟨k + 1, m', by omega, hbo x hx, hwo.mul (hfs x hx)⟩
            · exact hi' v hv
/-! ## alternatives -/
def kD (k : WKey) : D := .tup [.tup (k.1.map .str), .tup (k.2.map .str)]
theorem map_str_inj {a b : List Str} (h : a.map D.str = b.map D.str) : a = b := (List.map_inj_right (fun x y e => by cases e; rfl)).mp h
theorem kD_inj {a b : WKey} (h : kD a = kD b) : a = b := by
  obtain ⟨a1, a2⟩ := a
  obtain ⟨b1, b2⟩ := b
  unfold kD at h
  injection h with h
  injection h with h1 h2
  injection h1 with h1
  injection h2 with h2
  injection h2 with h2
  have e1 := map_str_inj h1
  have e2 := map_str_inj h2
  simp only at e1 e2
  rw [e1, e2]
theorem nests_str (xs : List Str) : nests (xs.map .str) = some 0 := by
  induction xs with
  | nil => rfl
  | cons x xs ih => simp [nests, nest, ih]
theorem nkOk_kD (k : WKey) : nkOk (kD k) = true := by
  simp [nkOk, kD, nest, nests, nests_str]
def kvW (r : Wy) : D × D := (kD r.key, dF r.ch)
theorem lk_kvW : ∀ {acc : List Wy} {k : WKey}, lk (acc.map kvW) (kD k) = (acc.find? fun r => decide (r.key = k)).map fun r => dF r.ch
  | [], k => rfl
  | r :: acc, k => by
    simp only [List.map_cons, lk, kvW, List.find?_cons]
    by_cases h : r.key = k
    · simp [h]
    · rw [if_neg fun e => h (kD_inj e)]
      simp [h]
      exact lk_kvW
theorem find_key {acc : List Wy} (nd : (acc.map Wy.key).Nodup) {r : Wy} (hr : r ∈ acc) : (acc.find? fun x => decide (x.key = r.key)) = some r := by
  induction acc with
  | nil => simp at hr
  | cons x acc ih =>
    rw [List.map_cons, List.nodup_cons] at nd
    rw [List.find?_cons]
    rcases List.mem_cons.mp hr with rfl | hr
    · simp
    · have : x.key ≠ r.key := fun e => nd.1 (e ▸ List.mem_map.mpr ⟨r, hr, rfl⟩)
      simp [this]
      exact ih nd.2 hr
theorem find_none {acc : List Wy} {k : WKey} (h : k ∉ acc.map Wy.key) : (acc.find? fun x => decide (x.key = k)) = none := by
  rw [List.find?_eq_none]
  intro x hx
  simp only [decide_eq_true_eq]
  exact fun e => h (List.mem_map.mpr ⟨x, hx, e⟩)
theorem add_zero {N c : Int} {f : Int × Int} (h : Gf N c f) : addF (0, 1) f = f := by
  have := h.g
  unfold addF fr
  simp [this]
/-- what stands at a key -/
def curW (acc : List Wy) (k : WKey) : Int × Int := ((acc.find? fun r => decide (r.key = k)).map (·.ch)).getD (0, 1)
theorem curW_gf {ns ls : List Str} {ws acc : List Wy} (h : Aok ns ls ws acc) (k : WKey) : Gf (N0 ^ 5) ws.length (curW acc k) := by
  unfold curW
  cases e : acc.find? fun r => decide (r.key = k) with
  | none => exact ⟨by decide, by decide, by decide, by exact ⟨N0 ^ 5, by simp⟩, by simp⟩
  | some r => exact (h.el r (List.mem_of_find?_eq_some e)).1
theorem ins_mrg {N c : Int} {acc : List Wy} {w : Wy} (nd : (acc.map Wy.key).Nodup) (hw : Gf N c w.ch) : ins (acc.map kvW) (kD w.key) (dF (addF (curW acc w.key) w.ch)) = (mrg acc w).map kvW := by
  rw [mrg_s]
  by_cases h : w.key ∈ acc.map Wy.key
  · rw [if_pos h]
    unfold ins
    rw [if_pos]
    · rw [List.map_map, List.map_map]
      refine List.map_congr_left fun r hr => ?_
      by_cases e : r.key = w.key
      · refine (if_pos (show (kvW r).1 = kD w.key by rw [← e]; rfl)).trans ?_
        have := find_key nd hr
        have hc : curW acc w.key = r.ch := by unfold curW; rw [← e, this]; rfl
        show _ = kvW (upW w r)
        unfold upW
        rw [if_pos e, hc]; rfl
      · refine (if_neg (show ¬ (kvW r).1 = kD w.key from fun z => e (kD_inj z))).trans ?_
        show _ = kvW (upW w r)
        unfold upW
        rw [if_neg e]
    · obtain ⟨r, hr, e⟩ := List.mem_map.mp h
      simp only [List.any_eq_true, decide_eq_true_eq]
      exact ⟨kvW r, List.mem_map.mpr ⟨r, hr, rfl⟩, by rw [← e]; rfl⟩
  · rw [if_neg h, ins_new]
    · unfold curW
      rw [find_none h]
      simp only [Option.map_none, Option.getD_none, List.map_append, List.map_cons, List.map_nil, add_zero hw]
      rfl
    · intro hm
      rw [List.map_map] at hm
      obtain ⟨r, hr, e⟩ := List.mem_map.mp hm
      exact h (List.mem_map.mpr ⟨r, hr, kD_inj e⟩)
theorem wts_len {ns ls : List Str} {ws as : List Wy} (h : Aok ns ls ws as) : as.length ≤ wts ws := Nat.le_trans (len_wts as) h.wt
def altV (as : List Wy) (x : D) : D := match x with
  | .tup ks => .tup ((lk (as.map kvW) x).getD .non :: ks)
  | _ => .non
theorem altV_key {as : List Wy} (nd : (as.map Wy.key).Nodup) {r : Wy} (hr : r ∈ as) : lk (as.map kvW) (kD r.key) = some (dF r.ch) ∧ altV as (kD r.key) = dW r := by
  have h : lk (as.map kvW) (kD r.key) = some (dF r.ch) := by rw [lk_kvW, find_key nd hr]; rfl
  refine ⟨h, ?_⟩
  show D.tup ((lk (as.map kvW) (kD r.key)).getD .non :: _) = _
  rw [h]; rfl
theorem ob_alternatives_of : ∀ E ds M Q, S_alternatives_of E ds M Q → B_alternatives_of E (endsL Q) (start 6 ds) M := by
  intro E ds M Q h
  obtain ⟨x, rfl, b, rfl, ⟨ns, hns, ls, hls, hb⟩, hq⟩ := fn1_e h
  have h5 := ways5 hb
  have hsz := sizeLine_ge
  simp [B_alternatives_of]
  intro c hc
  refine go ?_
  simp [S_ways]
  refine ⟨b, rfl, ⟨ns, hns, ls, hls, hb⟩, fun p hp => ?_⟩
  obtain ⟨hp1, hp2⟩ := set_none.mp hp
  refine for_ind (fun xs e m => ∃ (dn rs acc : List Wy) (x2 x3 x4 : Option D), xs = rs.map dW ∧ dn ++ rs = b.ways w0 ∧ acc = dn.foldl mrg [] ∧ e = [some b.d, some (.ref c), x2, x3, x4, none] ∧ m c = some (.dn (acc.map kvW)) ∧ m p = some (.lst ((b.ways w0).map dW)) ∧ Le M m)
    ?_ ?_ _ _ _ ⟨[], b.ways w0, [], none, none, none, rfl, rfl, rfl, rfl, by rw [set_ne (Ne.symm hp1), set_same]; rfl, set_same, (Le.refl.fresh hc).fresh hp2⟩
  · rintro x xs e m ⟨dn, rs, acc, x2, x3, x4, hx, hd, rfl, rfl, ec, ep, hl⟩
    obtain ⟨w, rs, rfl⟩ : ∃ q rs', rs = q :: rs' := by
      cases rs with
      | nil => simp at hx
      | cons q rs => exact ⟨q, rs, rfl⟩
    simp at hx
    obtain ⟨rfl, rfl⟩ := hx
    refine ⟨ep, fun N hN => ?_⟩
    have hA := aok_fold dn [] [] (aok0 (ns := ns) (ls := ls)) fun v hv => h5.1 v (by rw [← hd]; exact List.mem_append_left _ hv)
    rw [List.nil_append] at hA
    generalize hacc : dn.foldl mrg [] = acc at hA ec
    have hw := h5.1 w (by rw [← hd]; simp)
    have hdl : dn.length ≤ 243 := by have := congrArg List.length hd; simp at this; omega
    have hal : acc.length ≤ 243 := by
      have h1 := len_wts acc
      have h2 := hA.wt
      have h3 : wts dn ≤ wts (b.ways w0) := by rw [← hd, wts_app]; omega
      omega
    have g1 := curW_gf hA w.key
    have g2 := hw.f
    have s1 := g1.sm (by omega)
    have s2 := g2.sm (by decide)
    have hget : (lk (acc.map kvW) (kD w.key)).getD (.tup [.int 0, .int 1]) = dF (curW acc w.key) := by
      rw [lk_kvW]; unfold curW
      cases acc.find? fun r => decide (r.key = w.key) <;> rfl
    simp [FB_alternatives_of_1, dW, ec]
    rw [show D.tup [D.tup (List.map D.str w.cs), D.tup (List.map D.str w.ls)] = kD w.key from rfl, hget]
    refine ⟨nkOk_kD _, ?_⟩
    simp [S_plus, ec]
    refine ⟨_, _, rfl, _, _, rfl, g1.p, g2.p, s1.1.mono (by decide), s1.2.mono (by decide), s2.1.mono (by decide), s2.2.mono (by decide), nkOk_kD _, by omega, ?_⟩
    refine hN _ _ ⟨dn ++ [w], rs, _, _, _, _, rfl, by simpa using hd, rfl, rfl, ?_, by rw [set_ne hp1, ep], hl.fresh hc⟩
    rw [set_same, List.foldl_append, hacc]
    have := ins_mrg hA.nd g2
    show some (O.dn (ins (acc.map kvW) (kD w.key) (dF (addF (curW acc w.key) w.ch)))) = _
    rw [this]; rfl
  · rintro e m ⟨dn, rs, acc, x2, x3, x4, hx, hd, hacc, rfl, ec, ep, hl⟩
    have : rs = [] := by simpa using hx.symm
    subst this
    rw [List.append_nil] at hd
    subst hd
    refine ⟨ep, ?_⟩
    dsimp only
    refine go ?_
    have hA := alts5 hb
    have hacc : acc = b.alts := hacc
    subst hacc
    have hal := wts_len hA
    simp [T_alternatives_of_1, ec]
    intro q hq'
    have hq1 := set_none.mp hq'
    refine comp_map (altV b.alts) (fun m' => m' c = some (.dnF (b.alts.map kvW))) (fun m o hm => ?_) (fun m hm => hm) _ [] _ ?_ ?_ set_same ?_ ?_
    · rw [set_ne hq1.1.symm]; exact hm
    · intro x hx m' T hm hT
      simp at hx
      obtain ⟨r, hr, rfl⟩ := hx
      have hk := altV_key hA.nd hr
      have hk' : altV b.alts (kvW r).1 = dW r := hk.2
      have hk1 : lk (b.alts.map kvW) (kvW r).1 = some (dF r.ch) := hk.1
      rw [hk'] at hT
      have e : (kvW r).1 = .tup [.tup (r.cs.map .str), .tup (r.ls.map .str)] := rfl
      have nk : nkOk (kvW r).1 = true := nkOk_kD _
      simp [CE_alternatives_of_1, hm, subO_dnF, hk1, nk]
      rw [e]
      simp
      exact ⟨by omega, hT⟩
    · simp; omega
    · rw [set_ne hq1.1.symm, set_same]
    · have e2 : (b.alts.map (Prod.fst ∘ kvW)).map (altV b.alts) = b.alts.map dW := by
        rw [List.map_map]
        exact List.map_congr_left fun r hr => (altV_key hA.nd hr).2
      rw [List.nil_append, e2, set_set]
      refine ⟨by rw [set_ne hq1.1.symm, set_same], ?_⟩
      rw [set_ne hq1.1, set_same]
      simp
      refine ⟨M, ?_, hq⟩
      intro y o hy
      have hyc : y ≠ c := by rintro rfl; rw [hc] at hy; cases hy
      have hyq : y ≠ q := ne_of (hl y o hy) hq1.2
      rw [set_ne hyc, set_ne hyq, set_ne hyc]
      exact hl y o hy
theorem ob_alternatives : ∀ E ds M Q, S_alternatives E ds M Q → B_alternatives E (endsL Q) (start 3 ds) M := by
  intro E ds M Q h
  obtain ⟨x, rfl, ps, rfl, hpl, hps, hq⟩ := fn1_e h
  have hsz := sizeLine_ge
  simp [B_alternatives]
  intro p hp
  refine comp_ind (fun acc xs m => ∃ dn rs : List (Str × Bd), acc = dn.map dAlt ∧ xs = rs.map dBP ∧ dn ++ rs = ps ∧ m p = some (.lst (dn.map dAlt)) ∧ Le M m) ?_ ?_ _ [] _ ⟨[], ps, rfl, rfl, rfl, by rw [set_same]; rfl, Le.refl.fresh hp⟩
  · rintro x xs acc m ⟨dn, rs, rfl, hx, hd, ep, hl⟩
    obtain ⟨r, rs, rfl⟩ : ∃ q rs', rs = q :: rs' := by
      cases rs with
      | nil => simp at hx
      | cons q rs => exact ⟨q, rs, rfl⟩
    simp at hx
    obtain ⟨rfl, rfl⟩ := hx
    have hdl : dn.length ≤ 100 := by have := congrArg List.length hd; simp at this; omega
    refine ⟨trivial, by simp; omega, fun T hT => ?_⟩
    simp [CE_alternatives_1, dBP, S_alternatives_of]
    refine ⟨_, rfl, hps r (by rw [← hd]; simp), hT _ _ ep ⟨dn ++ [r], rs, by simp [dAlt], rfl, by simpa using hd, by rw [set_same]; simp [dAlt], hl.fresh hp⟩⟩
  · rintro acc m ⟨dn, rs, rfl, hx, hd, ep, hl⟩
    have : rs = [] := by simpa using hx.symm
    subst this
    rw [List.append_nil] at hd
    subst hd
    refine ⟨trivial, ?_⟩
    simp [ep]
    exact ⟨M, hl, hq⟩
end DL

set_option Elab.async false
set_option linter.all false
set_option maxRecDepth 100000
/-! G4S: what common_denominator, drawn and run ask and tell (as in K33S) -/
namespace DL
open PySem
def okDens (rs : List ((Int × Int) × D)) : Prop := ∀ r ∈ rs, 0 < r.1.2 ∧ r.1.2 < 1073741824 ∧ 0 < r.1.1 ∧ r.1.1 < 1073741824
def S_common_denominator : FD := fn1 fun x _ M Q => ∃ rs, x = .tup (rs.map dRow) ∧ okDens rs ∧ Q (.int (lcmR (rs.map Prod.fst))) M
/-- the one that is drawn -/
def drawnO : List ((Int × Int) × D) → Int → Int → Option D
  | [], _, _ => none
  | r :: rs, many, t => if t < r.1.1 * (many / r.1.2) then some r.2 else drawnO rs many (t - r.1.1 * (many / r.1.2))
def S_drawn : FD := fn3 fun x y z _ M Q => ∃ rs many t, x = .tup (rs.map dRow) ∧ y = .int many ∧ z = .int t ∧ okDens rs ∧ Q ((drawnO rs many t).getD .non) M
def told (s : Str) (word : List D) (calls : Int) (used : Nat) : D := .tup [.str s, .tup word, .int calls, .int used]
abbrev KV := List (Key × D)
/-- a run: turns left, what waits, the word, calls, numbers used, how it ends -/
inductive Go (kvs : KV) (tp : List Int) (most : Int) : Nat → List D → List D → Int → Nat → D → Prop
  | ended {n word calls used} : Go kvs tp most (n + 1) [] word calls used (told "ended" word calls used)
  | stop {n ws word calls used} : Go kvs tp most (n + 1) (dStop :: ws) word calls used (told "stopped" word calls used)
  | fin {n ws word calls used r} : Go kvs tp most n ws word calls used r → Go kvs tp most (n + 1) (dEnd :: ws) word calls used r
  | tell {n ws word calls used r s b} : Go kvs tp most n (b :: ws) (word ++ [.str s]) calls used r → Go kvs tp most (n + 1) (.tup [.str "tell", .str s, b] :: ws) word calls used r
  | calls {n ws word used p b} : Go kvs tp most (n + 1) (.tup [.str "call", .str p, b] :: ws) word most used (told "calls" word most used)
  | call {n ws word calls used r p b d} : calls ≠ most → lk kvs (.inr p) = some d → Go kvs tp most n (d :: b :: ws) word (calls + 1) used r → Go kvs tp most (n + 1) (.tup [.str "call", .str p, b] :: ws) word calls used r
  | draw1 {n ws word calls used r b} : Go kvs tp most n (b :: ws) word calls used r → Go kvs tp most (n + 1) (.tup [.str "draw", .tup [dRow ((1, 1), b)]] :: ws) word calls used r
  | tape {n ws word calls rs} : okDens rs → 1 < lcmR (rs.map Prod.fst) → Go kvs tp most (n + 1) (.tup [.str "draw", .tup (rs.map dRow)] :: ws) word calls tp.length (told "tape" word calls tp.length)
  | draw {n ws word calls used r rs t b} : okDens rs → 1 < lcmR (rs.map Prod.fst) → tp[used]? = some t → drawnO rs (lcmR (rs.map Prod.fst)) (t % lcmR (rs.map Prod.fst)) = some b → Go kvs tp most n (b :: ws) word calls (used + 1) r →
      Go kvs tp most (n + 1) (.tup [.str "draw", .tup (rs.map dRow)] :: ws) word calls used r
def kvP (rs : List (Str × D)) : KV := rs.map fun r => (.inr r.1, r.2)
def S_run : FD := fn4 fun x y z u _ M Q => ∃ rs p tp most d n r, x = .tup (rs.map dProc) ∧ y = .str p ∧ z = .tup (tp.map .int) ∧ u = .int most ∧ (rs.map Prod.fst).Nodup ∧ lk (kvP rs) (.inr p) = some d ∧ n ≤ 10000 ∧ tp.length ≤ 1000 ∧ Go (kvP rs) tp most n [d] [] 1 0 r ∧ Q r M
end DL

set_option Elab.async false
set_option linter.all false
set_option maxRecDepth 100000
/-! mirrors of the text's defs (printed by gen.py) -/
namespace DL
open PySem
def FB_common_denominator_1 : WS :=
  (sAsg (eBin opDiv (eBin opMul (eVar 1) (eSub (eVar 2) (eC (.int 1)))) (eCall S_common_divisor [(eVar 1), (eSub (eVar 2) (eC (.int 1)))])) (gName 1))
def T_common_denominator_1 : WS :=
  (sRet (eVar 1))
def B_common_denominator : WS :=
  (sSeq (sAsg (eC (.int 1)) (gName 1)) (sSeq (sFor (iVal (eVar 0)) (gTup [(gName 2), (gName 3)]) FB_common_denominator_1) T_common_denominator_1))
def T_drawn_1 : WS :=
  (sAug 2 opSub (eVar 5))
def FB_drawn_1 : WS :=
  (sSeq (sAsg (eBin opMul (eSub (eVar 3) (eC (.int 0))) (eBin opDiv (eVar 1) (eSub (eVar 3) (eC (.int 1))))) (gName 5)) (sSeq (sIf (tCmp cLt (eVar 2) (eVar 5)) (sRet (eVar 4)) sNil) T_drawn_1))
def T_drawn_2 : WS :=
  (sRet (eC .non))
def B_drawn : WS :=
  (sSeq (sFor (iVal (eVar 0)) (gTup [(gName 3), (gName 4)]) FB_drawn_1) T_drawn_2)
def WC_run_1 : WT :=
  (tCmp cEq (eVar 10) (eC (.str "")))
def WB_run_1 : WS :=
  (sIf (tCmp cEq (eSub (eVar 5) (eC (.int 0))) (eC (.str "end"))) (sIf (tTru (eVar 6)) (sAsg (ePop (eVar 6)) (gName 5)) (sAsg (eC (.str "ended")) (gName 10))) (sIf (tCmp cEq (eSub (eVar 5) (eC (.int 0))) (eC (.str "stop"))) (sAsg (eC (.str "stopped")) (gName 10)) (sIf (tCmp cEq (eSub (eVar 5) (eC (.int 0))) (eC (.str "tell"))) (sSeq (sExpr (eAppend (eVar 7) (eSub (eVar 5) (eC (.int 1))))) (sAsg (eSub (eVar 5) (eC (.int 2))) (gName 5))) (sIf (tCmp cEq (eSub (eVar 5) (eC (.int 0))) (eC (.str "call"))) (sIf (tCmp cEq (eVar 8) (eVar 3)) (sAsg (eC (.str "calls")) (gName 10)) (sSeq (sAug 8 ipAdd (eC (.int 1))) (sSeq (sExpr (eAppend (eVar 6) (eSub (eVar 5) (eC (.int 2))))) (sAsg (eSub (eVar 4) (eSub (eVar 5) (eC (.int 1)))) (gName 5))))) (sSeq (sAsg (eCall S_common_denominator [(eSub (eVar 5) (eC (.int 1)))]) (gName 11)) (sIf (tCmp cEq (eVar 11) (eC (.int 1))) (sAsg (eSub (eSub (eSub (eVar 5) (eC (.int 1))) (eC (.int 0))) (eC (.int 1))) (gName 5)) (sIf (tCmp cEq (eVar 9) (eLen (eVar 2))) (sAsg (eC (.str "tape")) (gName 10)) (sSeq (sAsg (eCall S_drawn [(eSub (eVar 5) (eC (.int 1))), (eVar 11), (eBin opMod (eSub (eVar 2) (eVar 9)) (eVar 11))]) (gName 5)) (sAug 9 ipAdd (eC (.int 1)))))))))))
def T_run_1 : WS :=
  (sRet (eTup [(eVar 10), (eTupOf (eVar 7)), (eVar 8), (eVar 9)]))
def B_run : WS :=
  (sSeq (sAsg (eDict (eVar 0)) (gName 4)) (sSeq (sAsg (eSub (eVar 4) (eVar 1)) (gName 5)) (sSeq (sAsg (eLst []) (gName 6)) (sSeq (sAsg (eLst []) (gName 7)) (sSeq (sAsg (eC (.int 1)) (gName 8)) (sSeq (sAsg (eC (.int 0)) (gName 9)) (sSeq (sAsg (eC (.str "")) (gName 10)) (sSeq (sWhile WC_run_1 WB_run_1) T_run_1))))))))
end DL

set_option Elab.async false
set_option linter.all false
set_option maxRecDepth 100000
set_option maxHeartbeats 4000000
/-! G4P: common_denominator, drawn, run (as in K33P) -/
namespace DL
open PySem
theorem lcm_foldl_eq (rs : List ((Int × Int) × D)) : lcmR (rs.map Prod.fst) = rs.foldl (fun f r => f * r.1.2 / (Int.gcd f r.1.2 : Int)) 1 := by
  unfold lcmR; rw [List.foldl_map]
theorem ob_common_denominator : ∀ E ds M Q, S_common_denominator E ds M Q → B_common_denominator E (endsL Q) (start 4 ds) M := by
  intro E ds M Q h
  obtain ⟨x, rfl, rs, rfl, hd, hq⟩ := fn1_e h
  simp [B_common_denominator]
  refine go ?_
  simp
  rw [lcm_foldl_eq] at hq
  refine for_ind (fun xs e m => m = M ∧ ∃ (qs : List ((Int × Int) × D)) (f : Int) (x y : Option D), xs = qs.map dRow ∧ e = [some (.tup (rs.map dRow)), some (.int f), x, y] ∧ okDens qs ∧
    qs.foldl (fun f r => f * r.1.2 / (Int.gcd f r.1.2 : Int)) f = rs.foldl (fun f r => f * r.1.2 / (Int.gcd f r.1.2 : Int)) 1) ?_ ?_ _ _ _ ⟨rfl, rs, 1, none, none, rfl, rfl, hd, rfl⟩
  · rintro x xs e m ⟨rfl, qs, f, y, z, hx, rfl, hd, hf⟩
    obtain ⟨q, qs, rfl⟩ : ∃ q qs', qs = q :: qs' := by cases qs with
      | nil => simp at hx
      | cons q qs => exact ⟨q, qs, rfl⟩
    simp at hx
    obtain ⟨rfl, rfl⟩ := hx
    refine ⟨trivial, fun N hN => ?_⟩
    have hq := hd q (.head _)
    have g0 := gcd_pos' (n := f) hq.1
    have g1 := Int.gcd_le_right f hq.1
    simp [FB_common_denominator_1, dRow, dF, S_common_divisor, fdiv_pos g0]
    refine ⟨mulOk_small (by omega), by omega, np_small (by omega), hN _ _ ⟨rfl, qs, _, _, _, rfl, rfl, fun r hr => hd r (.tail _ hr), by simpa using hf⟩⟩
  · rintro e m ⟨rfl, qs, f, y, z, hx, rfl, hd, hf⟩
    have : qs = [] := by simpa using hx.symm
    subst this
    refine ⟨trivial, go ?_⟩
    simp at hf
    simp [T_common_denominator_1]
    exact ⟨m, Le.refl, by rw [hf]; exact hq⟩
theorem drawnO_cons {r : (Int × Int) × D} {rs : List ((Int × Int) × D)} {many t : Int} : drawnO (r :: rs) many t = if t < r.1.1 * (many / r.1.2) then some r.2 else drawnO rs many (t - r.1.1 * (many / r.1.2)) := rfl
theorem ob_drawn : ∀ E ds M Q, S_drawn E ds M Q → B_drawn E (endsL Q) (start 6 ds) M := by
  intro E ds M Q h
  obtain ⟨x, y, z, rfl, rs, many, t, rfl, rfl, rfl, hd, hq⟩ := fn3_e h
  simp [B_drawn]
  refine for_ind (fun xs e m => m = M ∧ ∃ (qs : List ((Int × Int) × D)) (t' : Int) (x y z : Option D), xs = qs.map dRow ∧ e = [some (.tup (rs.map dRow)), some (.int many), some (.int t'), x, y, z] ∧ okDens qs ∧
    drawnO qs many t' = drawnO rs many t) ?_ ?_ _ _ _ ⟨rfl, rs, t, none, none, none, rfl, rfl, hd, rfl⟩
  · rintro x xs e m ⟨rfl, qs, t', y, z, u, hx, rfl, hd, hf⟩
    obtain ⟨q, qs, rfl⟩ : ∃ q qs', qs = q :: qs' := by cases qs with
      | nil => simp at hx
      | cons q qs => exact ⟨q, qs, rfl⟩
    simp at hx
    obtain ⟨rfl, rfl⟩ := hx
    refine ⟨trivial, fun N hN => ?_⟩
    have hq' := hd q (.head _)
    simp [FB_drawn_1, dRow, dF, fdiv_pos hq'.1]
    refine ⟨by omega, np_small (by omega), mulOk_small' (by omega), go ?_⟩
    rw [drawnO_cons] at hf
    simp
    split
    · rename_i ht
      rw [if_pos ht] at hf
      rw [← hf] at hq
      exact ⟨m, Le.refl, hq⟩
    · rename_i ht
      rw [if_neg ht] at hf
      refine go ?_
      simp [T_drawn_1]
      exact hN _ _ ⟨rfl, qs, _, _, _, _, rfl, rfl, fun r hr => hd r (.tail _ hr), hf⟩
  · rintro e m ⟨rfl, qs, t', y, z, u, hx, rfl, hd, hf⟩
    have : qs = [] := by simpa using hx.symm
    subst this
    refine ⟨trivial, go ?_⟩
    simp [T_drawn_2]
    rw [← hf] at hq
    exact ⟨m, Le.refl, hq⟩
theorem kvP_keys (rs : List (Str × D)) : (kvP rs).map Prod.fst = rs.map fun r => Sum.inr r.1 := by simp [kvP]
theorem pairs_prog (rs : List (Str × D)) : pairsK (rs.map dProc) = some (kvP rs) := pairsK_map rs (·.1) (·.2)
theorem dict_prog {rs : List (Str × D)} (h : (rs.map Prod.fst).Nodup) : insAll [] (kvP rs) = kvP rs := by
  rw [insAll_nodup]; rfl
  simp only [List.nil_append]
  rw [kvP_keys]
  have : (rs.map fun r => (Sum.inr r.1 : Key)) = (rs.map Prod.fst).map Sum.inr := by simp
  rw [this]
  exact List.Pairwise.map _ (fun a b h e => h (Sum.inr.inj e)) h
def runE (rs : List (Str × D)) (p : Str) (tp : List Int) (most : Int) (a b c : Addr) (body : D) (calls : Int) (used : Nat) (e : Str) (x : Option D) : Ev :=
  [some (D.tup (List.map dProc rs)), some (D.str p), some (D.tup (List.map D.int tp)), some (D.int most), some (D.ref a), some body, some (D.ref b), some (D.ref c), some (D.int calls), some (D.int used), some (D.str e), x]
def RunW (M : Sto) (rs : List (Str × D)) (p : Str) (tp : List Int) (most : Int) (a b c : Addr) (r : D) (m : Nat) (env : Ev) (M' : Sto) : Prop :=
  ∃ (body : D) (ws wd : List D) (calls : Int) (used : Nat) (e : Str) (x : Option D), env = runE rs p tp most a b c body calls used e x ∧ M' a = some (.dk (kvP rs)) ∧ M' b = some (.lst ws.reverse) ∧ M' c = some (.lst wd) ∧ Le M M' ∧
      ((e = "" ∧ Go (kvP rs) tp most m (body :: ws) wd calls used r ∧ ws.length + m ≤ 20000 ∧ wd.length + m ≤ 20000) ∨ (e ≠ "" ∧ r = told e wd calls used))
theorem ob_run : ∀ E ds M Q, S_run E ds M Q → B_run E (endsL Q) (start 12 ds) M := by
  intro E ds M Q h
  obtain ⟨x, y, z, u, rfl, rs, p, tp, most, d, n, r, rfl, rfl, rfl, rfl, hnd, hd, hn, htl, hgo, hq⟩ := fn4_e h
  simp [B_run, pairs_prog]
  intro a ha
  rw [dict_prog hnd]
  refine go ?_
  simp [hd]
  refine go ?_
  simp
  intro b hb
  refine go ?_
  simp
  intro c hc
  refine go ?_
  simp
  refine go ?_
  simp
  refine go ?_
  simp
  refine go ?_
  have hb' := set_none.mp hb
  have hc' := set_none.mp hc
  have hc'' := set_none.mp hc'.2
  have hab : a ≠ b := Ne.symm hb'.1
  have hac : a ≠ c := Ne.symm hc''.1
  have hbc : b ≠ c := Ne.symm hc'.1
  have hL : ∀ bh wd, Le M ((((M.set a (.dk (kvP rs))).set b (.lst bh))).set c (.lst wd)) := fun bh wd => ((Le.refl.fresh ha).fresh hb'.2).fresh hc''.2
  refine ⟨RunW M rs p tp most a b c r,
    ⟨n, d, [], [], 1, 0, "", none, rfl, ?_, ?_, set_same, hL _ _, .inl ⟨rfl, hgo, by simp; omega, by simp; omega⟩⟩, ?_⟩
  · rw [set_ne hac, set_ne hab, set_same]
  · rw [set_ne hbc, set_same]; rfl
  · rintro m env M' ⟨body, ws, wd, calls, used, e, x, rfl, ea, eb, ec, hl, hcase⟩
    simp [WC_run_1, runE]
    rcases hcase with ⟨rfl, hg, hl1, hl2⟩ | ⟨he, rfl⟩
    · rw [if_pos rfl]
      have fin : ∀ (s : String) (x' : Option D), s ≠ "" → 0 < m → r = told s wd calls used → ∃ m', m' < m ∧ RunW M rs p tp most a b c r m' (runE rs p tp most a b c body calls used s x') M' := by
        intro s x' hs hm hr
        exact ⟨m - 1, by omega, body, ws, wd, calls, used, s, x', rfl, ea, eb, ec, hl, .inr ⟨by simpa using hs, hr⟩⟩
      have hsz := sizeLine_ge
      have nxt : ∀ (m' : Nat) (body' : D) (ws' wd' : List D) (calls' : Int) (used' : Nat) (x' : Option D) (M'' : Sto), m' < m → M'' a = some (.dk (kvP rs)) → M'' b = some (.lst ws'.reverse) → M'' c = some (.lst wd') → Le M M'' →
          Go (kvP rs) tp most m' (body' :: ws') wd' calls' used' r → ws'.length + m' ≤ 20000 → wd'.length + m' ≤ 20000 → ∃ m', m' < m ∧ RunW M rs p tp most a b c r m' (runE rs p tp most a b c body' calls' used' "" x') M'' := by
        intro m' body' ws' wd' calls' used' x' M'' h0 h1 h2 h3 h4 h5 h6 h7
        exact ⟨m', h0, body', ws', wd', calls', used', "", x', rfl, h1, h2, h3, h4, .inl ⟨rfl, h5, h6, h7⟩⟩
      cases hg with
      | stop =>
        simp [WB_run_1]
        exact fin "stopped" _ (by decide) (by omega) rfl
      | @fin m ws word calls used r hg =>
        simp [WB_run_1, eb]
        cases ws with
        | nil =>
          simp
          cases hg
          exact fin "ended" _ (by decide) (by omega) rfl
        | cons w ws =>
          simp at hl1
          simp
          exact nxt _ _ _ _ _ _ _ _ (by omega) (by rw [set_ne hab, ea]) (by rw [set_same]) (by rw [set_ne (Ne.symm hbc), ec]) (hl.fresh hb'.2) hg (by omega) (by omega)
      | tell hg =>
        simp [WB_run_1, ec]
        refine ⟨by omega, go ?_⟩
        simp
        exact nxt _ _ _ _ _ _ _ _ (by omega) (by rw [set_ne hac, ea]) (by rw [set_ne hbc, eb]) set_same (hl.fresh hc''.2) hg (by omega) (by simp; omega)
      | calls =>
        simp [WB_run_1]
        exact fin "calls" _ (by decide) (by omega) rfl
      | call h1 h2 hg =>
        simp [WB_run_1, h1, eb]
        refine go ?_
        simp [eb]
        refine ⟨by omega, go ?_⟩
        simp
        rw [set_ne hab, ea]
        simp [h2]
        exact nxt _ _ _ _ _ _ _ _ (by omega) (by rw [set_ne hab, ea]) (by rw [set_same]; simp) (by rw [set_ne (Ne.symm hbc), ec]) (hl.fresh hb'.2) hg (by simp; omega) (by omega)
      | @draw1 m ws word calls used r b' hg =>
        simp [WB_run_1]
        refine ⟨[((1, 1), b')], rfl, by intro r hr; simp at hr; subst hr; simp, ?_⟩
        refine go ?_
        simp [lcmR]
        refine nxt _ b' _ _ _ _ _ _ (by omega) ea eb ec hl hg (by omega) (by omega)
      | tape h1 h2 =>
        simp [WB_run_1]
        refine ⟨_, rfl, h1, go ?_⟩
        have h2' := Int.ne_of_gt h2
        simp [h2']
        exact fin "tape" _ (by decide) (by omega) rfl
      | @draw m ws word calls used r qs t b' h1 h2 h3 h4 hg =>
        simp [WB_run_1]
        have hu := (List.getElem?_eq_some_iff.mp h3).1
        refine ⟨_, rfl, h1, go ?_⟩
        have h5 : lcmR (List.map Prod.fst qs) ≠ 1 := by omega
        simp [h5]
        rw [if_neg (by omega)]
        simp [hu, h3]
        refine ⟨by omega, _, _, _, rfl, rfl, rfl, h1, ?_⟩
        have h6 := (List.getElem?_eq_some_iff.mp h3).2
        rw [fmod_pos (by omega), h6, h4]
        simp only [K, put, gName_s, sAug_s, gt, onS_some, eC_s, ipAdd_int, Option.getD_some]
        refine nxt _ b' _ _ _ (used + 1) _ _ (by omega) ea eb ec hl hg (by omega) (by omega)
    · rw [if_neg he]
      refine go ?_
      simp [T_run_1, ec]
      exact ⟨M, hl, hq⟩
/-! ## the law's run -/
theorem WB.cases {ns ls : List Str} {n : Nat} {d : D} (h : WB ns ls n d) : d = dEnd ∨ d = dStop ∨ (∃ s b, s ∈ ls ∧ d = .tup [.str "tell", .str s, b] ∧ WB ns ls n b) ∨ (∃ s b, s ∈ ns ∧ d = .tup [.str "call", .str s, b] ∧ WB ns ls n b) ∨
    (∃ rs : List ((Int × Int) × D), rs.map Prod.fst ∈ cuts ∧ d = .tup [.str "draw", .tup (rs.map dRow)] ∧ ∀ r ∈ rs, WB ns ls n r.2) := by
  cases n with
  | zero => rcases h with h | h; exact .inl h; exact .inr (.inl h)
  | succ n =>
    rcases h with h | h | ⟨s, b, h1, h2, h3⟩ | ⟨s, b, h1, h2, h3⟩ | ⟨rs, h1, h2, h3⟩
    · exact .inl h
    · exact .inr (.inl h)
    · exact .inr (.inr (.inl ⟨s, b, h1, h2, h3.succ⟩))
    · exact .inr (.inr (.inr (.inl ⟨s, b, h1, h2, h3.succ⟩)))
    · exact .inr (.inr (.inr (.inr ⟨rs, h1, h2, fun r hr => (h3 r hr).succ⟩)))
theorem cuts_ok : ∀ l ∈ cuts, (∀ r ∈ l, 0 < r.2 ∧ r.2 < 1073741824 ∧ 0 < r.1 ∧ r.1 < 1073741824) ∧ 0 < lcmR l ∧ lcmR l < 1073741824 ∧ (l.map fun r => r.1 * (lcmR l / r.2)).sum = lcmR l ∧ (lcmR l = 1 → l = [(1, 1)]) := by decide +kernel
theorem okDens_cut {rs : List ((Int × Int) × D)} (h : rs.map Prod.fst ∈ cuts) : okDens rs := fun r hr => (cuts_ok _ h).1 _ (List.mem_map.mpr ⟨r, hr, rfl⟩)
theorem drawnO_some : ∀ (qs : List ((Int × Int) × D)) (many t : Int), 0 ≤ t → t < (qs.map fun r => r.1.1 * (many / r.1.2)).sum → ∃ b, drawnO qs many t = some b ∧ ∃ r ∈ qs, r.2 = b
  | [], many, t, h0, h1 => by simp at h1; omega
  | q :: qs, many, t, h0, h1 => by
    rw [drawnO_cons]
    split
    · exact ⟨q.2, rfl, q, .head _, rfl⟩
    · rw [List.map_cons, List.sum_cons] at h1
      obtain ⟨b, h2, r, hr, h3⟩ := drawnO_some qs many (t - q.1.1 * (many / q.1.2)) (by omega) (by omega)
      exact ⟨b, h2, r, .tail _ hr, h3⟩
end DL

set_option Elab.async false
set_option linter.all false
set_option maxRecDepth 100000
set_option maxHeartbeats 4000000
/-! K34R: sequences of chances, their products; what runs end with -/
namespace DL
open PySem
abbrev Sq := Nat → Rat
def conv (f g : Sq) : Nat → Rat
  | 0 => f 0 * g 0
  | n + 1 => f 0 * g (n + 1) + conv (fun i => f (i + 1)) g n
def one : Sq := fun n => if n = 0 then 1 else 0
theorem conv_congr : ∀ (n : Nat) {f f' g g' : Sq}, (∀ i ≤ n, f i = f' i) → (∀ i ≤ n, g i = g' i) → conv f g n = conv f' g' n
  | 0, f, f', g, g', hf, hg => by simp [conv, hf 0 (Nat.le_refl _), hg 0 (Nat.le_refl _)]
  | n + 1, f, f', g, g', hf, hg => by
    simp only [conv]
    rw [hf 0 (by omega), hg (n + 1) (by omega), conv_congr n (f := fun i => f (i + 1)) (f' := fun i => f' (i + 1)) (g := g) (g' := g') (fun i hi => hf _ (by omega)) (fun i hi => hg i (by omega))]
theorem conv_zero_l : ∀ (n : Nat) (g : Sq), conv (fun _ => 0) g n = 0
  | 0, g => by simp [conv]
  | n + 1, g => by simp only [conv]; rw [conv_zero_l n g]; grind
theorem conv_one_l (g : Sq) : ∀ n, conv one g n = g n
  | 0 => by simp [conv, one]
  | n + 1 => by
    simp only [conv]
    rw [conv_congr n (f := fun i => one (i + 1)) (f' := fun _ => 0) (g := g) (g' := g) (fun i _ => by simp [one]) (fun _ _ => rfl), conv_zero_l]
    simp [one, Rat.add_zero]
theorem conv_add_l : ∀ (n : Nat) (f f' g : Sq), conv (fun i => f i + f' i) g n = conv f g n + conv f' g n
  | 0, f, f', g => by simp only [conv]; grind
  | n + 1, f, f', g => by simp only [conv]; rw [conv_add_l n]; grind
theorem conv_mul_l : ∀ (n : Nat) (a : Rat) (f g : Sq), conv (fun i => a * f i) g n = a * conv f g n
  | 0, a, f, g => by simp only [conv]; grind
  | n + 1, a, f, g => by simp only [conv]; rw [conv_mul_l n]; grind
theorem conv_succ_r : ∀ (n : Nat) (f g : Sq), conv f g (n + 1) = f (n + 1) * g 0 + conv f (fun i => g (i + 1)) n
  | 0, f, g => by simp only [conv]; grind
  | n + 1, f, g => by
    have h := conv_succ_r n (fun i => f (i + 1)) g
    rw [show conv f g (n + 1 + 1) = f 0 * g (n + 1 + 1) + conv (fun i => f (i + 1)) g (n + 1) from rfl, h]
    rw [show conv f (fun i => g (i + 1)) (n + 1) = f 0 * g (n + 1 + 1) + conv (fun i => f (i + 1)) (fun i => g (i + 1)) n from rfl]
    grind
theorem conv_comm : ∀ (n : Nat) (f g : Sq), conv f g n = conv g f n
  | 0, f, g => by simp only [conv]; grind
  | n + 1, f, g => by
    rw [conv_succ_r n g f]
    simp only [conv]
    rw [conv_comm n]; grind
theorem conv_assoc : ∀ (n : Nat) (f g h : Sq), conv (conv f g) h n = conv f (conv g h) n
  | 0, f, g, h => by simp only [conv]; grind
  | n + 1, f, g, h => by
    rw [show conv (conv f g) h (n + 1) = conv f g 0 * h (n + 1) + conv (fun i => conv f g (i + 1)) h n from rfl]
    rw [conv_congr n (f := fun i => conv f g (i + 1)) (f' := fun i => f 0 * g (i + 1) + conv (fun i => f (i + 1)) g i) (g := h) (g' := h) (fun i _ => rfl) (fun _ _ => rfl)]
    rw [conv_add_l, conv_mul_l n (f 0) (fun i => g (i + 1)) h, conv_assoc n (fun i => f (i + 1)) g h]
    rw [show conv f (conv g h) (n + 1) = f 0 * conv g h (n + 1) + conv (fun i => f (i + 1)) (conv g h) n from rfl]
    rw [show conv g h (n + 1) = g 0 * h (n + 1) + conv (fun i => g (i + 1)) h n from rfl]
    simp only [conv]; grind
theorem conv_one_r (f : Sq) (n : Nat) : conv f one n = f n := by rw [conv_comm, conv_one_l]
theorem conv_zero_r (f : Sq) (n : Nat) : conv f (fun _ => 0) n = 0 := by rw [conv_comm, conv_zero_l]
theorem conv_add_r (n : Nat) (f g g' : Sq) : conv f (fun i => g i + g' i) n = conv f g n + conv f g' n := by
  rw [conv_comm, conv_add_l, conv_comm n g, conv_comm n g']
theorem conv_mul_r (n : Nat) (a : Rat) (f g : Sq) : conv f (fun i => a * g i) n = a * conv f g n := by
  rw [conv_comm, conv_mul_l, conv_comm n g]
theorem conv_fun {f f' g g' : Sq} (hf : ∀ i, f i = f' i) (hg : ∀ i, g i = g' i) (n : Nat) : conv f g n = conv f' g' n := conv_congr n (fun i _ => hf i) fun i _ => hg i
/-! ## products over names -/
def Mp (A : Str → Sq) (cs : List Str) : Sq := cs.foldl (fun acc c => conv acc (A c)) one
theorem Mp_from (A : Str → Sq) : ∀ (cs : List Str) (acc : Sq) (n : Nat), cs.foldl (fun acc c => conv acc (A c)) acc n = conv acc (Mp A cs) n
  | [], acc, n => by simp [Mp, conv_one_r]
  | c :: cs, acc, n => by
    rw [List.foldl_cons, Mp_from A cs, conv_assoc]
    refine conv_fun (fun _ => rfl) (fun i => ?_) n
    unfold Mp
    rw [List.foldl_cons, Mp_from A cs]
    exact conv_fun (fun i => (conv_one_l _ i).symm) (fun _ => rfl) i
theorem Mp_snoc (A : Str → Sq) (cs : List Str) (c : Str) : Mp A (cs ++ [c]) = conv (Mp A cs) (A c) := by
  unfold Mp; rw [List.foldl_append]; rfl
theorem Mp_nil (A : Str → Sq) : Mp A [] = one := rfl
theorem Mp_cons (A : Str → Sq) (c : Str) (cs : List Str) (n : Nat) : Mp A (c :: cs) n = conv (A c) (Mp A cs) n := by
  unfold Mp; rw [List.foldl_cons, Mp_from]
  exact conv_fun (fun i => conv_one_l _ i) (fun _ => rfl) n
theorem Mp_perm (A : Str → Sq) {cs ds : List Str} (h : cs.Perm ds) : ∀ n, Mp A cs n = Mp A ds n := by
  induction h with
  | nil => intro n; rfl
  | cons c _ ih => intro n; rw [Mp_cons, Mp_cons]; exact conv_fun (fun _ => rfl) ih n
  | swap a b l =>
    intro n
    rw [Mp_cons, Mp_cons, conv_fun (fun _ => rfl) (Mp_cons A a l), conv_fun (fun _ => rfl) (Mp_cons A b l), ← conv_assoc, ← conv_assoc]
    exact conv_fun (fun i => conv_comm i _ _) (fun _ => rfl) n
  | trans _ _ h1 h2 => intro n; rw [h1, h2]
theorem Mp_congr {A B : Str → Sq} : ∀ (cs : List Str) (n : Nat), (∀ c ∈ cs, ∀ i ≤ n, A c i = B c i) → Mp A cs n = Mp B cs n
  | [], n, _ => rfl
  | c :: cs, n, h => by
    rw [Mp_cons, Mp_cons]
    exact conv_congr n (fun i hi => h c (.head _) i hi) fun i hi => Mp_congr cs i fun d hd j hj => h d (.tail _ hd) j (by omega)
/-! ## chances as numbers -/
def Vf (f : Int × Int) : Rat := (f.1 : Rat) / (f.2 : Rat)
theorem cast_ne {d : Int} (h : 0 < d) : (d : Rat) ≠ 0 := by
  intro e
  have : d = 0 := by exact_mod_cast e
  omega
theorem Vf_fr {n d : Int} (h : 0 < d) (hz : 0 ≤ n) : Vf (fr n d) = (n : Rat) / (d : Rat) := by
  obtain ⟨h1, h2, h3, g, hg, e1, e2⟩ := fr_ok (n := n) h hz
  unfold Vf
  generalize fr n d = f at *
  subst e1 e2
  have a1 := cast_ne hg
  have a2 := cast_ne h1
  rw [Rat.intCast_mul, Rat.intCast_mul]
  grind
theorem Vf_mul {a b : Int × Int} (ha : 0 < a.2) (hb : 0 < b.2) (za : 0 ≤ a.1) (zb : 0 ≤ b.1) : Vf (mulF a b) = Vf a * Vf b := by
  unfold mulF
  rw [Vf_fr (Int.mul_pos ha hb) (Int.mul_nonneg za zb)]
  unfold Vf
  have a1 := cast_ne ha
  have a2 := cast_ne hb
  rw [Rat.intCast_mul, Rat.intCast_mul]
  grind
theorem Vf_add {a b : Int × Int} (ha : 0 < a.2) (hb : 0 < b.2) (za : 0 ≤ a.1) (zb : 0 ≤ b.1) : Vf (addF a b) = Vf a + Vf b := by
  unfold addF
  rw [Vf_fr (Int.mul_pos ha hb) (by have := Int.mul_nonneg za (Int.le_of_lt hb); have := Int.mul_nonneg zb (Int.le_of_lt ha); omega)]
  unfold Vf
  have a1 := cast_ne ha
  have a2 := cast_ne hb
  rw [Rat.intCast_add, Rat.intCast_mul, Rat.intCast_mul, Rat.intCast_mul]
  grind
theorem Vf_inj {a b : Int × Int} (ha : 0 < a.2) (hb : 0 < b.2) (ga : Int.gcd a.1 a.2 = 1) (gb : Int.gcd b.1 b.2 = 1) (h : Vf a = Vf b) : a = b := by
  have a1 := cast_ne ha
  have a2 := cast_ne hb
  have e : a.1 * b.2 = b.1 * a.2 := by
    unfold Vf at h
    have : ((a.1 * b.2 : Int) : Rat) = ((b.1 * a.2 : Int) : Rat) := by
      rw [Rat.intCast_mul, Rat.intCast_mul]; grind
    exact_mod_cast this
  have d1 : a.2 ∣ b.2 := dvd_co (b := a.1) ⟨b.1, by rw [e, Int.mul_comm]⟩ ga
  have d2 : b.2 ∣ a.2 := dvd_co (b := b.1) ⟨a.1, by rw [← e, Int.mul_comm]⟩ gb
  have e2 : a.2 = b.2 := Int.dvd_antisymm (by omega) (by omega) d1 d2
  have e1 : a.1 = b.1 := by
    rw [e2] at e
    exact Int.eq_of_mul_eq_mul_right (by omega) e
  exact Prod.ext e1 e2
/-! ## ways by sequences -/
mutual
def Bd.sq (A : Str → Sq) : Bd → Sq
  | .fin => one
  | .stop => fun _ => 0
  | .tell _ b => b.sq A
  | .call s b => conv (A s) (b.sq A)
  | .draw r => r.sq A
def Rw.sq (A : Str → Sq) : Rw → Sq
  | .nil => fun _ => 0
  | .cons q b r => fun n => Vf q * b.sq A n + r.sq A n
end
def wsum (A : Str → Sq) (ws : List Wy) (n : Nat) : Rat := (ws.map fun w => Vf w.ch * Mp A w.cs n).sum
theorem sum_app_rat (a b : List Rat) : (a ++ b).sum = a.sum + b.sum := by
  induction a with
  | nil => simp [Rat.zero_add]
  | cons x a ih => rw [List.cons_append, List.sum_cons, List.sum_cons, ih]; grind
theorem wsum_app (A : Str → Sq) (a b : List Wy) (n : Nat) : wsum A (a ++ b) n = wsum A a n + wsum A b n := by
  unfold wsum; rw [List.map_append, sum_app_rat]
mutual
theorem ways_sq {ns ls : List Str} (A : Str → Sq) : ∀ (b : Bd) {n : Nat} {w : Wy} (m : Nat), b.ok ns ls n → (0 < w.ch.2 ∧ 0 ≤ w.ch.1) → wsum A (b.ways w) m = Vf w.ch * conv (Mp A w.cs) (b.sq A) m
  | .fin, n, w, m, _, _ => by
    simp only [Bd.ways, Bd.sq, wsum, List.map_cons, List.map_nil, List.sum_cons, List.sum_nil, conv_one_r, Rat.add_zero]
  | .stop, n, w, m, _, _ => by
    simp only [Bd.ways, Bd.sq, wsum, List.map_nil, List.sum_nil, conv_zero_r, Rat.mul_zero]
  | .tell s b, n, w, m, ho, h => by
    simp only [Bd.ok] at ho
    obtain ⟨hs, k, rfl, ho⟩ := ho
    simp only [Bd.ways, Bd.sq]
    exact ways_sq A b m ho h
  | .call s b, n, w, m, ho, h => by
    simp only [Bd.ok] at ho
    obtain ⟨hs, k, rfl, ho⟩ := ho
    simp only [Bd.ways, Bd.sq]
    rw [ways_sq A b (w := ⟨w.ch, w.cs ++ [s], w.ls⟩) m ho h]
    simp only [Mp_snoc, conv_assoc]
  | .draw r, n, w, m, ho, h => by
    simp only [Bd.ok] at ho
    obtain ⟨hs, k, rfl, ho⟩ := ho
    simp only [Bd.ways, Bd.sq]
    exact rways_sq A r m ho h fun f hf => ⟨(cut_gf hs hf).p, (cut_gf hs hf).z⟩
theorem rways_sq {ns ls : List Str} (A : Str → Sq) : ∀ (r : Rw) {n : Nat} {w : Wy} (m : Nat), r.ok ns ls n → (0 < w.ch.2 ∧ 0 ≤ w.ch.1) → (∀ f ∈ r.fs, 0 < f.2 ∧ 0 ≤ f.1) → wsum A (r.ways w) m = Vf w.ch * conv (Mp A w.cs) (r.sq A) m
  | .nil, n, w, m, _, _, _ => by
    simp only [Rw.ways, Rw.sq, wsum, List.map_nil, List.sum_nil, conv_zero_r, Rat.mul_zero]
  | .cons q b r, n, w, m, ho, h, hf => by
    simp only [Rw.ok] at ho
    simp only [Rw.fs, List.mem_cons] at hf
    simp only [Rw.ways, Rw.sq, wsum_app]
    have hq := hf q (.inl rfl)
    have hm : 0 < (mulF w.ch q).2 ∧ 0 ≤ (mulF w.ch q).1 := by
      obtain ⟨h1, h2, _⟩ := fr_ok (n := w.ch.1 * q.1) (d := w.ch.2 * q.2) (Int.mul_pos h.1 hq.1) (Int.mul_nonneg h.2 hq.2)
      exact ⟨h1, h2⟩
    rw [ways_sq A b (w := ⟨mulF w.ch q, w.cs, w.ls⟩) m ho.1 hm, rways_sq A r m ho.2 h fun f hf' => hf f (.inr hf')]
    simp only [Vf_mul h.1 hq.1 h.2 hq.2, conv_add_r, conv_mul_r]
    grind
end
/-- ways put together tell the same sums -/
theorem wsum_mrg {ns ls : List Str} {ws as : List Wy} {w : Wy} (g : WKey → Rat) (h : Aok ns ls ws as) (hw : Wok ns ls 5 w) : ((mrg as w).map fun r => Vf r.ch * g r.key).sum = (as.map fun r => Vf r.ch * g r.key).sum + Vf w.ch * g w.key := by
  rw [mrg_s]
  split
  · rename_i hm
    have nd := h.nd
    have pos := fun r hr => (h.el r hr).1
    clear h
    induction as with
    | nil => simp at hm
    | cons a as ih =>
      rw [List.map_cons, List.nodup_cons] at nd
      simp only [List.map_cons, List.sum_cons]
      by_cases e : a.key = w.key
      · have e1 : (as.map (upW w)).map (fun r => Vf r.ch * g r.key) = as.map fun r => Vf r.ch * g r.key := by
          rw [List.map_map]
          refine List.map_congr_left fun r hr => ?_
          have : r.key ≠ w.key := fun z => nd.1 (by rw [e, ← z]; exact List.mem_map.mpr ⟨r, hr, rfl⟩)
          simp [upW, this]
        rw [e1]
        have e2 : Vf (upW w a).ch = Vf a.ch + Vf w.ch := by
          unfold upW
          rw [if_pos e]
          have p := pos a (.head _)
          exact Vf_add p.p hw.f.p p.z hw.f.z
        rw [e2, upW_key, e]; grind
      · have hm' : w.key ∈ as.map Wy.key := (List.mem_cons.mp hm).resolve_left (Ne.symm e)
        rw [ih hm' nd.2 fun r hr => pos r (.tail _ hr)]
        have : upW w a = a := by unfold upW; rw [if_neg e]
        rw [this]; grind
  · rw [List.map_append, sum_app_rat]
    simp [Rat.add_zero]
theorem wsum_fold {ns ls : List Str} (g : WKey → Rat) : ∀ (more ws as : List Wy), Aok ns ls ws as → (∀ w ∈ more, Wok ns ls 5 w) → ((more.foldl mrg as).map fun r => Vf r.ch * g r.key).sum = (as.map fun r => Vf r.ch * g r.key).sum + (more.map fun r => Vf r.ch * g r.key).sum
  | [], ws, as, h, _ => by simp [Rat.add_zero]
  | w :: more, ws, as, h, hw => by
    rw [List.foldl_cons, wsum_fold g more (ws ++ [w]) (mrg as w) (h.step (hw w (.head _))) fun v hv => hw v (.tail _ hv), wsum_mrg g h (hw w (.head _)), List.map_cons, List.sum_cons]
    grind
theorem wsum_alts {ns ls : List Str} {b : Bd} (h : b.ok ns ls 5) (A : Str → Sq) (n : Nat) : wsum A b.alts n = b.sq A n := by
  have h1 := wsum_fold (fun k => Mp A k.1 n) (b.ways w0) [] [] (aok0 (ns := ns) (ls := ls)) (ways5 h).1
  have h2 := ways_sq A b (w := w0) n h ⟨by decide, by decide⟩
  have h3 : Vf w0.ch = 1 := by decide +kernel
  have h4 : conv (Mp A w0.cs) (b.sq A) n = b.sq A n := conv_one_l _ n
  rw [h3, h4, Rat.one_mul] at h2
  rw [← h2]
  unfold wsum
  have h5 : ([].map fun r : Wy => Vf r.ch * Mp A r.key.1 n).sum = 0 := rfl
  rw [h5, Rat.zero_add] at h1
  exact h1
/-! ## the chances of ending with so many calls, one number after the other -/
def ser (tb : Str → List Wy) : Nat → Str → Sq
  | 0, _, _ => 0
  | k + 1, p, n => if n = k + 1 then wsum (ser tb k) (tb p) k else ser tb k p n
theorem ser_zero (tb : Str → List Wy) : ∀ (k : Nat) (p : Str), ser tb k p 0 = 0
  | 0, _ => rfl
  | k + 1, p => by unfold ser; rw [if_neg (by omega)]; exact ser_zero tb k p
theorem ser_stay (tb : Str → List Wy) (k : Nat) : ∀ (j : Nat) (p : Str) (n : Nat), n ≤ k → ser tb (k + j) p n = ser tb k p n
  | 0, _, _, _ => rfl
  | j + 1, p, n, h => by
    show (if n = k + j + 1 then _ else ser tb (k + j) p n) = _
    rw [if_neg (by omega)]; exact ser_stay tb k j p n h
theorem wsum_congr {A B : Str → Sq} {ws : List Wy} {n : Nat} (h : ∀ w ∈ ws, ∀ c ∈ w.cs, ∀ i ≤ n, A c i = B c i) : wsum A ws n = wsum B ws n := by
  unfold wsum
  rw [List.map_congr_left fun w hw => by rw [Mp_congr (A := A) (B := B) w.cs n (h w hw)]]
theorem ser_at (tb : Str → List Wy) {K m : Nat} (h : m < K) (p : Str) : ser tb K p (m + 1) = wsum (ser tb K) (tb p) m := by
  obtain ⟨j, rfl⟩ : ∃ j, K = (m + 1) + j := ⟨K - (m + 1), by omega⟩
  rw [ser_stay tb (m + 1) j p (m + 1) (Nat.le_refl _)]
  show (if m + 1 = m + 1 then _ else _) = _
  rw [if_pos rfl]
  refine wsum_congr fun w _ c _ i hi => ?_
  rw [show m + 1 + j = m + (1 + j) by omega, ser_stay tb m (1 + j) c i hi]
/-! ## runs -/
/-- the one that is drawn -/
def Rw.pick : Rw → Int → Int → Option Bd
  | .nil, _, _ => none
  | .cons q b r, L, t => if t < q.1 * (L / q.2) then some b else r.pick L (t - q.1 * (L / q.2))
def Rw.one? : Rw → Option Bd
  | .cons _ b .nil => some b
  | _ => none
inductive Out where
  | none | ended (c : Nat) | stopped (c : Nat) | calls (c : Nat) | need (r : Rw) (ws : List Bd) (c : Nat)
/-- a run: steps left, what waits, calls, the tape -/
def adv (bd : Str → Option Bd) (mo : Nat) : Nat → List Bd → Nat → List Int → Out
  | 0, _, _, _ => .none
  | _ + 1, [], c, _ => .ended c
  | f + 1, .fin :: ws, c, tp => adv bd mo f ws c tp
  | _ + 1, .stop :: _, c, _ => .stopped c
  | f + 1, .tell _ b :: ws, c, tp => adv bd mo f (b :: ws) c tp
  | f + 1, .call p b :: ws, c, tp => if c = mo then .calls c else match bd p with
    | some d => adv bd mo f (d :: b :: ws) (c + 1) tp
    | none => .none
  | f + 1, .draw r :: ws, c, tp => if lcmR r.fs = 1 then match r.one? with
      | some b => adv bd mo f (b :: ws) c tp
      | none => .none
    else match tp with
      | [] => .need r ws c
      | t :: tp => match r.pick (lcmR r.fs) (t % lcmR r.fs) with
        | some b => adv bd mo f (b :: ws) c tp
        | none => .none
mutual
/-- its calls are told by nm -/
def Bd.cin (nm : Str → Bool) : Bd → Bool
  | .fin => true
  | .stop => true
  | .tell _ b => b.cin nm
  | .call s b => nm s && b.cin nm
  | .draw r => r.cin nm
def Rw.cin (nm : Str → Bool) : Rw → Bool
  | .nil => true
  | .cons _ b r => b.cin nm && r.cin nm
end
theorem rw_cin {nm : Str → Bool} : ∀ r : Rw, r.cin nm = true ↔ ∀ x ∈ r.l, x.2.cin nm = true
  | .nil => by simp [Rw.cin, Rw.l]
  | .cons q b r => by simp [Rw.cin, Rw.l, rw_cin r]
/-- a body as drawn whose calls are told -/
def Gb (bd : Str → Option Bd) (ns ls : List Str) (k : Nat) (b : Bd) : Prop := b.ok ns ls k ∧ b.cin (fun p => (bd p).isSome) = true
structure Pg (bd : Str → Option Bd) (ns ls : List Str) : Prop where
  h : ∀ p d, bd p = some d → Gb bd ns ls 5 d
def Gs (bd : Str → Option Bd) (ns ls : List Str) (st : List Bd) : Prop := ∀ b ∈ st, ∃ k ≤ 5, Gb bd ns ls k b
/-- how many steps at most -/
def mu (mo : Nat) (st : List Bd) (c : Nat) : Nat := (st.map (·.sz)).sum + (mo - c) * 365
section
variable {bd : Str → Option Bd} {ns ls : List Str} {mo : Nat} {A : Str → Sq}
theorem sz5 {d : Bd} {k : Nat} (h : d.ok ns ls k) (hk : k ≤ 5) : d.sz ≤ 364 := by
  have h1 := sz_le d h
  have h2 : 3 ^ (k + 1) ≤ 3 ^ 6 := Nat.pow_le_pow_right (by decide) (by omega)
  have h3 : (3 : Nat) ^ 6 = 729 := by decide
  omega
def stSq (A : Str → Sq) (st : List Bd) : Sq := st.foldr (fun b acc => conv (b.sq A) acc) one
/-- the chance of ending with n calls, from where st waits and c calls are done -/
def val (A : Str → Sq) (st : List Bd) (c n : Nat) : Rat := if c ≤ n then stSq A st (n - c) else 0
theorem stSq_cons (A : Str → Sq) (b : Bd) (st : List Bd) : stSq A (b :: st) = conv (b.sq A) (stSq A st) := rfl
theorem val_nil (c n : Nat) : val A [] c n = if c = n then 1 else 0 := by
  unfold val stSq
  by_cases h : c ≤ n
  · rw [if_pos h]
    show one (n - c) = _
    unfold one
    by_cases e : c = n
    · rw [if_pos (by omega), if_pos e]
    · rw [if_neg (by omega), if_neg e]
  · rw [if_neg h, if_neg (by omega)]
theorem val_fin (st : List Bd) (c n : Nat) : val A (.fin :: st) c n = val A st c n := by
  unfold val; rw [stSq_cons, Bd.sq, conv_one_l]
theorem val_stop (st : List Bd) (c n : Nat) : val A (.stop :: st) c n = 0 := by
  unfold val; rw [stSq_cons, Bd.sq, conv_zero_l]; split <;> rfl
theorem val_tell (s : Str) (b : Bd) (st : List Bd) (c n : Nat) : val A (.tell s b :: st) c n = val A (b :: st) c n := by
  unfold val; rw [stSq_cons, stSq_cons, Bd.sq]
theorem val_call {p : Str} {b d : Bd} {st : List Bd} {c n : Nat} (h0 : A p 0 = 0) (hA : ∀ m, m + c < mo → A p (m + 1) = d.sq A m) (hn : n ≤ mo) : val A (.call p b :: st) c n = val A (d :: b :: st) (c + 1) n := by
  unfold val
  rw [stSq_cons, Bd.sq]
  by_cases h : c ≤ n
  · rw [if_pos h, conv_assoc]
    by_cases e : c = n
    · subst e
      rw [if_neg (by omega), Nat.sub_self]
      simp only [conv]
      rw [h0]; grind
    · rw [if_pos (by omega)]
      obtain ⟨m, hm⟩ : ∃ m, n - c = m + 1 := ⟨n - c - 1, by omega⟩
      rw [hm, show n - (c + 1) = m by omega, stSq_cons, stSq_cons]
      simp only [conv]
      rw [h0, conv_congr m (f := fun i => A p (i + 1)) (f' := d.sq A) (g := conv (b.sq A) (stSq A st)) (g' := conv (b.sq A) (stSq A st)) (fun i hi => hA i (by omega)) (fun _ _ => rfl)]
      grind
  · rw [if_neg h, if_neg (by omega)]
theorem val_call_end {p : Str} {b : Bd} {st : List Bd} {n : Nat} (h0 : A p 0 = 0) (hn : n ≤ mo) : val A (.call p b :: st) mo n = 0 := by
  unfold val
  split
  · rw [show n - mo = 0 by omega, stSq_cons, Bd.sq]
    simp only [conv]
    rw [h0]; grind
  · rfl
def prs (g : Bd → Rat) : Rw → Rat
  | .nil => 0
  | .cons q b r => Vf q * g b + prs g r
theorem val_draw (st : List Bd) (c n : Nat) : ∀ r : Rw, val A (.draw r :: st) c n = prs (fun b => val A (b :: st) c n) r
  | .nil => by
    unfold val prs; rw [stSq_cons, Bd.sq, Rw.sq, conv_zero_l]; split <;> rfl
  | .cons q b r => by
    have ih := val_draw st c n r
    unfold prs
    rw [← ih]
    unfold val
    rw [stSq_cons, stSq_cons, stSq_cons, Bd.sq, Bd.sq, Rw.sq]
    split
    · rw [conv_add_l, conv_mul_l]
    · grind
/-- what an end tells -/
def Vo (A : Str → Sq) (n : Nat) : Out → Rat
  | .ended c => if c = n then 1 else 0
  | .need r ws c => val A (.draw r :: ws) c n
  | _ => 0
structure Fix (bd : Str → Option Bd) (mo : Nat) (A : Str → Sq) : Prop where
  z : ∀ p, A p 0 = 0
  s : ∀ p d, bd p = some d → ∀ m < mo, A p (m + 1) = d.sq A m
theorem one_cut {r : Rw} (h : r.fs ∈ cuts) (h1 : lcmR r.fs = 1) : ∃ b, r = .cons (1, 1) b .nil := by
  have : ∀ l ∈ cuts, lcmR l = 1 → l = [(1, 1)] := by decide +kernel
  have e := this _ h h1
  match r, e with
  | .cons q b .nil, e =>
    simp [Rw.fs] at e
    exact ⟨b, by rw [e]⟩
  | .nil, e => simp [Rw.fs] at e
  | .cons q b (.cons _ _ _), e => simp [Rw.fs] at e
theorem pick_mem : ∀ {r : Rw} {L t : Int} {b : Bd}, r.pick L t = some b → ∃ q, (q, b) ∈ r.l
  | .nil, _, _, _, h => by simp [Rw.pick] at h
  | .cons q b' r, L, t, b, h => by
    unfold Rw.pick at h
    split at h
    · cases h; exact ⟨q, by simp [Rw.l]⟩
    · obtain ⟨q', h⟩ := pick_mem h
      exact ⟨q', by simp [Rw.l, h]⟩
theorem pick_some : ∀ (r : Rw) (L t : Int), 0 ≤ t → t < (r.fs.map fun q => q.1 * (L / q.2)).sum → ∃ b, r.pick L t = some b
  | .nil, L, t, h0, h1 => by simp [Rw.fs] at h1; omega
  | .cons q b r, L, t, h0, h1 => by
    unfold Rw.pick
    split
    · exact ⟨b, rfl⟩
    · simp only [Rw.fs, List.map_cons, List.sum_cons] at h1
      exact pick_some r L _ (by omega) (by omega)
theorem cuts_lcm : ∀ l ∈ cuts, 0 < lcmR l ∧ lcmR l < 1073741824 ∧ (l.map fun q => q.1 * (lcmR l / q.2)).sum = lcmR l ∧ N0 % lcmR l = 0 ∧ ∀ q ∈ l, lcmR l % q.2 = 0 ∧ 0 < q.1 ∧ 0 < q.2 := by decide +kernel
theorem pick_ok {r : Rw} (h : r.fs ∈ cuts) (t : Int) : ∃ b, r.pick (lcmR r.fs) (t % lcmR r.fs) = some b ∧ ∃ q, (q, b) ∈ r.l := by
  obtain ⟨h1, _, h3, _⟩ := cuts_lcm _ h
  obtain ⟨b, hb⟩ := pick_some r (lcmR r.fs) (t % lcmR r.fs) (Int.emod_nonneg _ (by omega)) (by rw [h3]; exact Int.emod_lt_of_pos _ h1)
  exact ⟨b, hb, pick_mem hb⟩
theorem le_sum_of {α : Type} (f : α → Nat) : ∀ {xs : List α} {x : α}, x ∈ xs → f x ≤ (xs.map f).sum
  | y :: xs, x, h => by
    rw [List.map_cons, List.sum_cons]
    rcases List.mem_cons.mp h with rfl | h
    · omega
    · have := le_sum_of f h; omega
theorem mem_sz {r : Rw} {x : (Int × Int) × Bd} (h : x ∈ r.l) : x.2.sz ≤ r.sz := by
  rw [rw_sz]; exact le_sum_of (fun x : (Int × Int) × Bd => x.2.sz) h
mutual
def Bd.dp : Bd → Nat
  | .fin => 0
  | .stop => 0
  | .tell _ b => b.dp + 1
  | .call _ b => b.dp + 1
  | .draw r => r.dp + 1
def Rw.dp : Rw → Nat
  | .nil => 0
  | .cons _ b r => max b.dp r.dp
end
theorem mem_dp : ∀ {r : Rw} {x : (Int × Int) × Bd}, x ∈ r.l → x.2.dp ≤ r.dp
  | .nil, x, h => by simp [Rw.l] at h
  | .cons q b r, x, h => by
    simp only [Rw.l, List.mem_cons] at h
    simp only [Rw.dp]
    rcases h with rfl | h
    · show b.dp ≤ _; omega
    · have := mem_dp h; omega
mutual
theorem dp_le : ∀ (b : Bd) {k : Nat}, b.ok ns ls k → b.dp ≤ k
  | .fin, k, _ => by simp [Bd.dp]
  | .stop, k, _ => by simp [Bd.dp]
  | .tell s b, k, h => by
    simp only [Bd.ok] at h
    obtain ⟨_, m, rfl, h⟩ := h
    have := dp_le b h
    simp [Bd.dp]; omega
  | .call s b, k, h => by
    simp only [Bd.ok] at h
    obtain ⟨_, m, rfl, h⟩ := h
    have := dp_le b h
    simp [Bd.dp]; omega
  | .draw r, k, h => by
    simp only [Bd.ok] at h
    obtain ⟨_, m, rfl, h⟩ := h
    have := rdp_le r h
    simp [Bd.dp]; omega
theorem rdp_le : ∀ (r : Rw) {k : Nat}, r.ok ns ls k → r.dp ≤ k
  | .nil, k, _ => by simp [Rw.dp]
  | .cons q b r, k, h => by
    simp only [Rw.ok] at h
    have := dp_le b h.1
    have := rdp_le r h.2
    simp only [Rw.dp]; omega
end
def dm (mo : Nat) (st : List Bd) (c : Nat) : Nat := (st.map (·.dp)).sum + (mo - c) * 5
theorem mu_cons (b : Bd) (st : List Bd) (c : Nat) : mu mo (b :: st) c = b.sz + mu mo st c := by simp [mu]; omega
theorem dm_cons (b : Bd) (st : List Bd) (c : Nat) : dm mo (b :: st) c = b.dp + dm mo st c := by simp [dm]; omega
theorem mu_call {st : List Bd} {c : Nat} (h : c < mo) : mu mo st (c + 1) + 365 = mu mo st c := by
  unfold mu
  have : mo - c = mo - (c + 1) + 1 := by omega
  rw [this, Nat.add_mul]; omega
theorem dm_call {st : List Bd} {c : Nat} (h : c < mo) : dm mo st (c + 1) + 5 = dm mo st c := by
  unfold dm
  have : mo - c = mo - (c + 1) + 1 := by omega
  rw [this, Nat.add_mul]; omega
theorem Gs.tl {b : Bd} {st : List Bd} (h : Gs bd ns ls (b :: st)) : Gs bd ns ls st := fun x hx => h x (.tail _ hx)
theorem Gs.cons {b : Bd} {st : List Bd} {k : Nat} (hk : k ≤ 5) (hb : Gb bd ns ls k b) (h : Gs bd ns ls st) : Gs bd ns ls (b :: st) := fun x hx => by
  rcases List.mem_cons.mp hx with rfl | hx
  · exact ⟨k, hk, hb⟩
  · exact h x hx
theorem Gs.tell {s : Str} {b : Bd} {st : List Bd} (h : Gs bd ns ls (.tell s b :: st)) : Gs bd ns ls (b :: st) := by
  obtain ⟨k, hk, h1, h2⟩ := h _ (.head _)
  simp only [Bd.ok] at h1
  simp only [Bd.cin] at h2
  obtain ⟨_, m, rfl, h1⟩ := h1
  exact Gs.cons (k := m) (by omega) ⟨h1, h2⟩ h.tl
theorem Gs.call {p : Str} {b : Bd} {st : List Bd} (h : Gs bd ns ls (.call p b :: st)) : Gs bd ns ls (b :: st) ∧ ∃ d, bd p = some d := by
  obtain ⟨k, hk, h1, h2⟩ := h _ (.head _)
  simp only [Bd.ok] at h1
  simp only [Bd.cin, Bool.and_eq_true] at h2
  obtain ⟨_, m, rfl, h1⟩ := h1
  exact ⟨Gs.cons (k := m) (by omega) ⟨h1, h2.2⟩ h.tl, Option.isSome_iff_exists.mp h2.1⟩
theorem Gs.draw {r : Rw} {st : List Bd} (h : Gs bd ns ls (.draw r :: st)) : r.fs ∈ cuts ∧ ∀ x ∈ r.l, Gs bd ns ls (x.2 :: st) := by
  obtain ⟨k, hk, h1, h2⟩ := h _ (.head _)
  simp only [Bd.ok] at h1
  simp only [Bd.cin] at h2
  obtain ⟨hc, m, rfl, h1⟩ := h1
  rw [rw_ok] at h1
  rw [rw_cin] at h2
  exact ⟨hc, fun x hx => Gs.cons (k := m) (by omega) ⟨h1 x hx, h2 x hx⟩ h.tl⟩
theorem prs_congr {g g' : Bd → Rat} : ∀ {r : Rw}, (∀ x ∈ r.l, g x.2 = g' x.2) → prs g r = prs g' r
  | .nil, _ => rfl
  | .cons q b r, h => by
    unfold prs
    rw [h (q, b) (by simp [Rw.l]), prs_congr (r := r) fun x hx => h x (by simp [Rw.l, hx])]
theorem Vf_one : Vf (1, 1) = 1 := by decide +kernel
/-- what waits tells what the run comes to -/
theorem adv_val (P : Pg bd ns ls) (F : Fix bd mo A) {n : Nat} (hn : n ≤ mo) : ∀ (f : Nat) (st : List Bd) (c : Nat), Gs bd ns ls st → c ≤ mo → mu mo st c < f → Vo A n (adv bd mo f st c []) = val A st c n
  | 0, st, c, _, _, h => by omega
  | f + 1, [], c, _, _, _ => by simp only [adv, Vo]; rw [val_nil]
  | f + 1, .fin :: st, c, hg, hc, h => by
    rw [mu_cons, Bd.sz] at h
    simp only [adv]
    rw [val_fin]; exact adv_val P F hn f st c hg.tl hc (by omega)
  | f + 1, .stop :: st, c, hg, hc, h => by simp only [adv, Vo]; rw [val_stop]
  | f + 1, .tell s b :: st, c, hg, hc, h => by
    rw [mu_cons, Bd.sz] at h
    simp only [adv]
    rw [val_tell]; exact adv_val P F hn f _ c hg.tell hc (by rw [mu_cons]; omega)
  | f + 1, .call p b :: st, c, hg, hc, h => by
    rw [mu_cons, Bd.sz] at h
    simp only [adv]
    obtain ⟨hg', d, hd⟩ := hg.call
    by_cases e : c = mo
    · rw [if_pos e]
      subst e
      simp only [Vo]
      rw [val_call_end (F.z p) hn]
    · rw [if_neg e, hd]
      dsimp only
      have hk := P.h p d hd
      rw [val_call (F.z p) (fun m hm => F.s p d hd m (by omega)) hn]
      have hz := sz5 hk.1 (by omega)
      have hm := mu_call (mo := mo) (st := st) (c := c) (by omega)
      exact adv_val P F hn f _ (c + 1) (Gs.cons (k := 5) (by omega) hk hg') (by omega) (by rw [mu_cons, mu_cons]; omega)
  | f + 1, .draw r :: st, c, hg, hc, h => by
    rw [mu_cons, Bd.sz] at h
    simp only [adv]
    obtain ⟨hcut, hr⟩ := hg.draw
    by_cases e : lcmR r.fs = 1
    · rw [if_pos e]
      obtain ⟨b, rfl⟩ := one_cut hcut e
      simp only [Rw.one?]
      rw [val_draw]
      simp only [prs, Vf_one]
      simp only [Rw.sz] at h
      rw [adv_val P F hn f (b :: st) c (hr ((1, 1), b) (by simp [Rw.l])) hc (by rw [mu_cons]; omega)]
      grind
    · rw [if_neg e]
      simp only [Vo]
/-- where the tape is used up -/
theorem adv_need (P : Pg bd ns ls) : ∀ (f : Nat) (st : List Bd) (c : Nat) (tp : List Int) {r : Rw} {ws : List Bd} {c' : Nat}, Gs bd ns ls st → c ≤ mo → mu mo st c < f → adv bd mo f st c tp = .need r ws c' →
    Gs bd ns ls (.draw r :: ws) ∧ 1 < lcmR r.fs ∧ c' ≤ mo ∧ tp.length + dm mo (.draw r :: ws) c' ≤ dm mo st c ∧
      ∀ t, ∃ b f', r.pick (lcmR r.fs) (t % lcmR r.fs) = some b ∧ Gs bd ns ls (b :: ws) ∧ mu mo (b :: ws) c' < f' ∧ adv bd mo f st c (tp ++ [t]) = adv bd mo f' (b :: ws) c' []
  | 0, st, c, tp, r, ws, c', _, _, h, _ => by omega
  | f + 1, [], c, tp, r, ws, c', hg, hc, h, e => by simp [adv] at e
  | f + 1, .fin :: st, c, tp, r, ws, c', hg, hc, h, e => by
    rw [mu_cons, Bd.sz] at h
    simp only [adv] at e ⊢
    rw [dm_cons (mo := mo) .fin, Bd.dp, Nat.zero_add]
    exact adv_need P f st c tp hg.tl hc (by omega) e
  | f + 1, .stop :: st, c, tp, r, ws, c', hg, hc, h, e => by simp [adv] at e
  | f + 1, .tell s b :: st, c, tp, r, ws, c', hg, hc, h, e => by
    rw [mu_cons, Bd.sz] at h
    simp only [adv] at e ⊢
    obtain ⟨h1, h2, h3, h4, h5⟩ := adv_need P f _ c tp hg.tell hc (by rw [mu_cons]; omega) e
    rw [dm_cons (mo := mo) b] at h4
    rw [dm_cons (mo := mo) (.tell s b), Bd.dp]
    exact ⟨h1, h2, h3, by omega, h5⟩
  | f + 1, .call p b :: st, c, tp, r, ws, c', hg, hc, h, e => by
    rw [mu_cons, Bd.sz] at h
    simp only [adv] at e ⊢
    obtain ⟨hg', d, hd⟩ := hg.call
    by_cases ec : c = mo
    · rw [if_pos ec] at e; cases e
    · rw [if_neg ec, hd] at e
      simp only [if_neg ec, hd]
      dsimp only at e
      have hk := P.h p d hd
      have hz := sz5 hk.1 (by omega)
      have hm := mu_call (mo := mo) (st := st) (c := c) (by omega)
      have hm2 := dm_call (mo := mo) (st := st) (c := c) (by omega)
      have hdp := dp_le d hk.1
      obtain ⟨h1, h2, h3, h4, h5⟩ := adv_need P f _ (c + 1) tp (Gs.cons (k := 5) (by omega) hk hg') (by omega) (by rw [mu_cons, mu_cons]; omega) e
      rw [dm_cons (mo := mo) d, dm_cons (mo := mo) b] at h4
      rw [dm_cons (mo := mo) (.call p b), Bd.dp]
      exact ⟨h1, h2, h3, by omega, h5⟩
  | f + 1, .draw r' :: st, c, tp, r, ws, c', hg, hc, h, e => by
    rw [mu_cons, Bd.sz] at h
    obtain ⟨hcut, hr⟩ := hg.draw
    simp only [adv] at e ⊢
    by_cases e1 : lcmR r'.fs = 1
    · rw [if_pos e1] at e
      simp only [if_pos e1]
      obtain ⟨b, rfl⟩ := one_cut hcut e1
      simp only [Rw.one?] at e ⊢
      simp only [Rw.sz] at h
      obtain ⟨h1, h2, h3, h4, h5⟩ := adv_need P f (b :: st) c tp (hr ((1, 1), b) (by simp [Rw.l])) hc (by rw [mu_cons]; omega) e
      rw [dm_cons (mo := mo) b] at h4
      have h6 : (Bd.draw (.cons (1, 1) b .nil)).dp = b.dp + 1 := by simp [Bd.dp, Rw.dp]
      rw [dm_cons (mo := mo) (.draw (.cons (1, 1) b .nil)), h6]
      exact ⟨h1, h2, h3, by omega, h5⟩
    · rw [if_neg e1] at e
      simp only [if_neg e1]
      cases tp with
      | nil =>
        simp only [Out.need.injEq] at e
        obtain ⟨rfl, rfl, rfl⟩ := e
        have hl := (cuts_lcm _ hcut).1
        refine ⟨hg, by omega, hc, by simp, fun t => ?_⟩
        obtain ⟨b, hb, q, hq⟩ := pick_ok hcut t
        refine ⟨b, f, hb, hr _ hq, ?_, by simp only [List.nil_append, hb]⟩
        have := mem_sz hq
        rw [mu_cons]; simp only at this; omega
      | cons t tp =>
        simp only [List.cons_append] at e ⊢
        obtain ⟨b, hb, q, hq⟩ := pick_ok hcut t
        rw [hb] at e
        simp only [hb]
        dsimp only at e
        have := mem_sz hq
        have h6 := mem_dp hq
        simp only at this h6
        obtain ⟨h1, h2, h3, h4, h5⟩ := adv_need P f (b :: st) c tp (hr _ hq) hc (by rw [mu_cons]; omega) e
        rw [dm_cons (mo := mo) b] at h4
        rw [dm_cons (mo := mo) (.draw r'), Bd.dp]
        exact ⟨h1, h2, h3, by simp only [List.length_cons]; omega, h5⟩
end
end DL

set_option Elab.async false
set_option linter.all false
set_option maxRecDepth 100000
set_option maxHeartbeats 4000000
/-! K34G: all numbers of a tape's next place; runs as run tells them -/
namespace DL
open PySem
def pickV (g : Bd → Rat) (r : Rw) (L t : Int) : Rat := match r.pick L t with
  | some b => g b
  | none => 0
def shs (g : Bd → Rat) (L : Int) : Rw → Rat
  | .nil => 0
  | .cons q b r => ((q.1 * (L / q.2) : Int) : Rat) * g b + shs g L r
theorem sum_const_rat (a : Rat) : ∀ n : Nat, ((List.range n).map fun _ => a).sum = (n : Rat) * a
  | 0 => by simp
  | n + 1 => by
    rw [List.range_succ, List.map_append, sum_app_rat, sum_const_rat a n]
    simp
    grind
theorem pick_sum (g : Bd → Rat) (L : Int) : ∀ r : Rw, (∀ q ∈ r.fs, 0 ≤ q.1 * (L / q.2)) → ((List.range (r.fs.map fun q => q.1 * (L / q.2)).sum.toNat).map fun t : Nat => pickV g r L t).sum = shs g L r
  | .nil, _ => by simp [Rw.fs, shs]
  | .cons q b r, h => by
    simp only [Rw.fs, List.mem_cons] at h
    have h1 := h q (.inl rfl)
    have h2 : ∀ q ∈ r.fs, 0 ≤ q.1 * (L / q.2) := fun q hq => h q (.inr hq)
    have h3 : 0 ≤ (r.fs.map fun q => q.1 * (L / q.2)).sum := by
      have : ∀ l : List (Int × Int), (∀ q ∈ l, 0 ≤ q.1 * (L / q.2)) → 0 ≤ (l.map fun q => q.1 * (L / q.2)).sum := by
        intro l
        induction l with
        | nil => intro _; simp
        | cons x l ih =>
          intro hx
          have := hx x (.head _)
          have := ih fun y hy => hx y (.tail _ hy)
          rw [List.map_cons, List.sum_cons]; omega
      exact this _ h2
    obtain ⟨a, ha⟩ := Int.eq_ofNat_of_zero_le h1
    obtain ⟨m, hm⟩ := Int.eq_ofNat_of_zero_le h3
    have ih := pick_sum g L r h2
    rw [hm] at ih
    simp only [Rw.fs, List.map_cons, List.sum_cons, shs]
    rw [hm, ha, show ((a : Int) + (m : Int)).toNat = a + m by omega, List.range_add, List.map_append, sum_app_rat, List.map_map]
    rw [show ((m : Int)).toNat = m by omega] at ih
    rw [← ih]
    congr 1
    · rw [List.map_congr_left (g := fun _ => g b), sum_const_rat]
      · rw [show (((a : Nat) : Int) : Rat) = ((a : Nat) : Rat) by exact_mod_cast rfl]
      · intro t ht
        have ht := List.mem_range.mp ht
        unfold pickV Rw.pick
        rw [if_pos (by rw [ha]; omega)]
    · congr 1
      refine List.map_congr_left fun t ht => ?_
      show pickV g (.cons q b r) L ((a + t : Nat) : Int) = pickV g r L t
      unfold pickV
      rw [Rw.pick, if_neg (by rw [ha]; omega), ha]
      rw [show (((a + t : Nat) : Int) - (a : Int)) = (t : Int) by omega]
theorem shs_prs (g : Bd → Rat) {L : Int} : ∀ r : Rw, (∀ q ∈ r.fs, L % q.2 = 0 ∧ 0 < q.1 ∧ 0 < q.2) → shs g L r = (L : Rat) * prs g r
  | .nil, _ => by simp [shs, prs]
  | .cons q b r, h => by
    simp only [Rw.fs, List.mem_cons] at h
    obtain ⟨h1, h2, h3⟩ := h q (.inl rfl)
    simp only [shs, prs]
    rw [shs_prs g r fun q hq => h q (.inr hq)]
    obtain ⟨m, hm⟩ := Int.dvd_of_emod_eq_zero h1
    have e : L / q.2 = m := by rw [hm, Int.mul_ediv_cancel_left _ (by omega)]
    have hq := cast_ne h3
    unfold Vf
    rw [e, hm, Rat.intCast_mul, Rat.intCast_mul]
    grind
/-- over all numbers that may come -/
theorem pick_all {r : Rw} (h : r.fs ∈ cuts) (g : Bd → Rat) : ((List.range (lcmR r.fs).toNat).map fun t : Nat => pickV g r (lcmR r.fs) t).sum = (lcmR r.fs : Rat) * prs g r := by
  obtain ⟨h1, _, h3, _, h5⟩ := cuts_lcm _ h
  have := pick_sum g (lcmR r.fs) r fun q hq => Int.mul_nonneg (by have := (h5 q hq).2.1; omega) (Int.ediv_nonneg (by omega) (by have := (h5 q hq).2.2; omega))
  rw [h3] at this
  rw [this, shs_prs g r h5]
/-! ## as run tells it -/
def kvB (ps : List (Str × Bd)) : KV := ps.map fun p => (.inr p.1, p.2.d)
def bdOf (ps : List (Str × Bd)) (x : Str) : Option Bd := (ps.find? fun p => decide (p.1 = x)).map (·.2)
theorem lk_kvB {ps : List (Str × Bd)} {x : Str} : lk (kvB ps) (.inr x) = (bdOf ps x).map (·.d) := by
  induction ps with
  | nil => rfl
  | cons p ps ih =>
    unfold kvB bdOf
    rw [List.map_cons, lk, List.find?_cons]
    by_cases e : p.1 = x
    · rw [if_pos (by rw [e])]; simp [e]
    · rw [if_neg (by simpa using e)]
      simp only [e, decide_false]
      exact ih
theorem kvB_P (ps : List (Str × Bd)) : kvB ps = kvP (ps.map fun p => (p.1, p.2.d)) := by simp [kvB, kvP]
def rwD (r : Rw) : List ((Int × Int) × D) := r.l.map fun x => (x.1, x.2.d)
theorem rwD_ds (r : Rw) : r.ds = (rwD r).map dRow := by
  rw [rw_ds]; unfold rwD; rw [List.map_map]; rfl
theorem rwD_fs (r : Rw) : (rwD r).map Prod.fst = r.fs := by
  rw [rw_fs]; unfold rwD; rw [List.map_map]; rfl
theorem drawnO_pick : ∀ (r : Rw) (L t : Int), drawnO (rwD r) L t = (r.pick L t).map (·.d)
  | .nil, L, t => rfl
  | .cons q b r, L, t => by
    show drawnO ((q, b.d) :: rwD r) L t = _
    rw [drawnO_cons, Rw.pick]
    split
    · rfl
    · exact drawnO_pick r L _
/-- how an end is told -/
def OutR (tp : List Int) : Out → D → Prop
  | .ended c, d => ∃ w u, d = told "ended" w (c : Int) u
  | .stopped c, d => ∃ w u, d = told "stopped" w (c : Int) u
  | .calls c, d => ∃ w u, d = told "calls" w (c : Int) u
  | .need _ _ c, d => ∃ w, d = told "tape" w (c : Int) tp.length
  | .none, _ => False
theorem go_adv {ps : List (Str × Bd)} {ns ls : List Str} (P : Pg (bdOf ps) ns ls) {mo : Nat} {tp : List Int} : ∀ (f : Nat) (st : List Bd) (c : Nat) (word : List D) (used : Nat), Gs (bdOf ps) ns ls st → c ≤ mo → mu mo st c < f → used ≤ tp.length →
    ∃ r, Go (kvB ps) tp mo f (st.map (·.d)) word c used r ∧ OutR tp (adv (bdOf ps) mo f st c (tp.drop used)) r
  | 0, st, c, word, used, _, _, h, _ => by omega
  | f + 1, [], c, word, used, hg, hc, h, hu => ⟨_, .ended, by simp only [adv, OutR]; exact ⟨_, _, rfl⟩⟩
  | f + 1, .fin :: st, c, word, used, hg, hc, h, hu => by
    rw [mu_cons, Bd.sz] at h
    obtain ⟨r, h1, h2⟩ := go_adv P (mo := mo) (tp := tp) f st c word used hg.tl hc (by omega) hu
    exact ⟨r, by simp only [List.map_cons, Bd.d]; exact .fin h1, by simp only [adv]; exact h2⟩
  | f + 1, .stop :: st, c, word, used, hg, hc, h, hu => ⟨_, by simp only [List.map_cons, Bd.d]; exact .stop, by simp only [adv, OutR]; exact ⟨_, _, rfl⟩⟩
  | f + 1, .tell s b :: st, c, word, used, hg, hc, h, hu => by
    rw [mu_cons, Bd.sz] at h
    obtain ⟨r, h1, h2⟩ := go_adv P (mo := mo) (tp := tp) f (b :: st) c (word ++ [.str s]) used hg.tell hc (by rw [mu_cons]; omega) hu
    exact ⟨r, by simp only [List.map_cons, Bd.d]; exact .tell h1, by simp only [adv]; exact h2⟩
  | f + 1, .call p b :: st, c, word, used, hg, hc, h, hu => by
    rw [mu_cons, Bd.sz] at h
    obtain ⟨hg', d, hd⟩ := hg.call
    simp only [adv]
    by_cases e : c = mo
    · subst e
      rw [if_pos rfl]
      exact ⟨_, by simp only [List.map_cons, Bd.d]; exact .calls, by simp only [OutR]; exact ⟨_, _, rfl⟩⟩
    · rw [if_neg e, hd]
      dsimp only
      have hk := P.h p d hd
      have hz := sz5 hk.1 (by omega)
      have hm := mu_call (mo := mo) (st := st) (c := c) (by omega)
      obtain ⟨r, h1, h2⟩ := go_adv P (mo := mo) (tp := tp) f (d :: b :: st) (c + 1) word used (Gs.cons (k := 5) (by omega) hk hg') (by omega) (by rw [mu_cons, mu_cons]; omega) hu
      refine ⟨r, ?_, h2⟩
      simp only [List.map_cons, Bd.d]
      refine .call (by omega) (by rw [lk_kvB, hd]; rfl) ?_
      simpa using h1
  | f + 1, .draw r' :: st, c, word, used, hg, hc, h, hu => by
    rw [mu_cons, Bd.sz] at h
    obtain ⟨hcut, hr⟩ := hg.draw
    have hden : okDens (rwD r') := okDens_cut (by rw [rwD_fs]; exact hcut)
    simp only [adv]
    by_cases e1 : lcmR r'.fs = 1
    · rw [if_pos e1]
      obtain ⟨b, rfl⟩ := one_cut hcut e1
      simp only [Rw.one?]
      simp only [Rw.sz] at h
      obtain ⟨r, h1, h2⟩ := go_adv P (mo := mo) (tp := tp) f (b :: st) c word used (hr ((1, 1), b) (by simp [Rw.l])) hc (by rw [mu_cons]; omega) hu
      exact ⟨r, by simp only [List.map_cons, Bd.d, Rw.ds]; exact .draw1 h1, h2⟩
    · rw [if_neg e1]
      have hl := (cuts_lcm _ hcut).1
      have h1l : 1 < lcmR ((rwD r').map Prod.fst) := by rw [rwD_fs]; omega
      by_cases hul : used = tp.length
      · subst hul
        rw [List.drop_length]
        refine ⟨_, ?_, ⟨word, rfl⟩⟩
        simp only [List.map_cons, Bd.d]
        rw [rwD_ds]
        exact .tape hden h1l
      · have hlt : used < tp.length := by omega
        rw [List.drop_eq_getElem_cons hlt]
        dsimp only
        obtain ⟨b, hb, q, hq⟩ := pick_ok hcut tp[used]
        rw [hb]
        dsimp only
        have hz := mem_sz hq
        obtain ⟨r, h1, h2⟩ := go_adv P (mo := mo) (tp := tp) f (b :: st) c word (used + 1) (hr _ hq) hc (by rw [mu_cons]; simp only at hz; omega) (by omega)
        refine ⟨r, ?_, h2⟩
        simp only [List.map_cons, Bd.d]
        rw [rwD_ds]
        exact .draw hden h1l (List.getElem?_eq_getElem hlt) (by rw [rwD_fs, drawnO_pick, hb]; rfl) (by simpa using h1)
end DL

set_option Elab.async false
set_option linter.all false
set_option maxRecDepth 100000
set_option maxHeartbeats 4000000
/-! K34T: tapes one after the other, the chances summed; no program in sight -/
namespace DL
open PySem
theorem lcm_max : ∀ l ∈ cuts, lcmR l ≤ 1000 := by decide +kernel
abbrev Tp := List Int × (Int × Int)
section
variable {bd : Str → Option Bd} {ns ls : List Str} {mo : Nat} {A : Str → Sq} {d : Bd}
def Wv (bd : Str → Option Bd) (mo : Nat) (A : Str → Sq) (d : Bd) (tp : List Int) (n : Nat) : Rat := Vo A n (adv bd mo 1500 [d] 1 tp)
structure TI34 (bd : Str → Option Bd) (mo : Nat) (A : Str → Sq) (d : Bd) (qs : Nat → Int × Int) (sts : List Tp) (t : Nat) : Prop where
  sum : ∀ n ≤ mo, (sts.map fun s => Vf s.2 * Wv bd mo A d s.1 n).sum + Vf (qs n) = val A [d] 1 n
  st : ∀ s ∈ sts, s.1.length ≤ 15 ∧ Gf (N0 ^ s.1.length) 1 s.2
  q : ∀ n ≤ mo, Gf (N0 ^ 15) t (qs n)
  len : sts.length ≤ 1 + 1000 * t
theorem mu_one (hd : Gb bd ns ls 5 d) (h3 : mo ≤ 3) : mu mo [d] 1 < 1500 := by
  have := sz5 hd.1 (by omega)
  unfold mu
  simp
  have : (mo - 1) * 365 ≤ 2 * 365 := Nat.mul_le_mul_right _ (by omega)
  omega
theorem dm_one (hd : Gb bd ns ls 5 d) (h3 : mo ≤ 3) : dm mo [d] 1 ≤ 15 := by
  have := dp_le d hd.1
  unfold dm
  simp
  have : (mo - 1) * 5 ≤ 2 * 5 := Nat.mul_le_mul_right _ (by omega)
  omega
theorem gs_one (hd : Gb bd ns ls 5 d) : Gs bd ns ls [d] := fun b hb => by
  rw [List.mem_singleton.mp hb]; exact ⟨5, Nat.le_refl _, hd⟩
theorem si0 (P : Pg bd ns ls) (F : Fix bd mo A) (hd : Gb bd ns ls 5 d) (h1 : 1 ≤ mo) (h3 : mo ≤ 3) : TI34 bd mo A d (fun _ => (0, 1)) [([], (1, 1))] 0 := by
  refine ⟨fun n hn => ?_, fun s hs => ?_, fun n _ => ⟨by decide, by decide, by decide, ⟨N0 ^ 15, by simp⟩, by decide⟩, by simp⟩
  · have h := adv_val P F hn 1500 [d] 1 (gs_one hd) h1 (mu_one hd h3)
    have e0 : Vf (0, 1) = 0 := by decide +kernel
    simp only [List.map_cons, List.map_nil, List.sum_cons, List.sum_nil, Wv, h, Vf_one, e0]
    grind
  · rw [List.mem_singleton.mp hs]
    exact ⟨by simp, by decide, by decide, by decide, by decide, by decide⟩
theorem si_dvd {k : Nat} (h : k ≤ 15) : N0 ^ k ∣ N0 ^ 15 := by
  have e : 15 = k + (15 - k) := by omega
  rw [e]
  exact ⟨N0 ^ (15 - k), Int.pow_add _ _ _⟩
theorem TI34.stop {qs : Nat → Int × Int} {sts : List Tp} {s : Tp} {t : Nat} (h : TI34 bd mo A d qs (sts ++ [s]) t) (hz : ∀ n, Wv bd mo A d s.1 n = 0) : TI34 bd mo A d qs sts (t + 1) := by
  refine ⟨fun n hn => ?_, fun u hu => h.st u (List.mem_append_left _ hu), fun n hn => (h.q n hn).le (by omega), by have := h.len; simp at this; omega⟩
  have := h.sum n hn
  rw [List.map_append, sum_app_rat] at this
  simp only [List.map_cons, List.map_nil, List.sum_cons, List.sum_nil, hz, Rat.mul_zero, Rat.add_zero] at this
  exact this
def updQ (qs : Nat → Int × Int) (c : Nat) (v : Int × Int) (n : Nat) : Int × Int := if n = c then v else qs n
theorem TI34.ended {qs : Nat → Int × Int} {sts : List Tp} {s : Tp} {t c : Nat} (h : TI34 bd mo A d qs (sts ++ [s]) t) (ha : adv bd mo 1500 [d] 1 s.1 = .ended c) (hc : c ≤ mo) : TI34 bd mo A d (updQ qs c (addF (qs c) s.2)) sts (t + 1) := by
  have hs := h.st s (by simp)
  have hg := hs.2.dvd (si_dvd hs.1)
  have hq := h.q c hc
  refine ⟨fun n hn => ?_, fun u hu => h.st u (List.mem_append_left _ hu), fun n hn => ?_, by have := h.len; simp at this; omega⟩
  · have := h.sum n hn
    rw [List.map_append, sum_app_rat] at this
    have hw : Wv bd mo A d s.1 n = if c = n then 1 else 0 := by unfold Wv; rw [ha]; rfl
    simp only [List.map_cons, List.map_nil, List.sum_cons, List.sum_nil, hw, Rat.add_zero] at this
    unfold updQ
    by_cases e : c = n
    · subst e
      rw [if_pos rfl] at this ⊢
      rw [Vf_add hq.p hg.p hq.z hg.z, ← this]; grind
    · rw [if_neg e] at this
      rw [if_neg (Ne.symm e), ← this]; grind
  · unfold updQ
    split
    · exact (hq.add hg)
    · exact (h.q n hn).le (by omega)
theorem sum_map_mull {α : Type} (x : α → Rat) (c : Rat) : ∀ ws : List α, (ws.map fun w => c * x w).sum = c * (ws.map x).sum
  | [] => by simp
  | w :: ws => by simp only [List.map_cons, List.sum_cons]; rw [sum_map_mull x c ws]; grind
def more (s : Tp) (L : Int) : List Tp := (List.range L.toNat).map fun k : Nat => (s.1 ++ [(k : Int)], mulF s.2 (1, L))
theorem TI34.need (P : Pg bd ns ls) (F : Fix bd mo A) (hd : Gb bd ns ls 5 d) (h1 : 1 ≤ mo) (h3 : mo ≤ 3) {qs : Nat → Int × Int} {sts : List Tp} {s : Tp} {t : Nat} {r : Rw} {ws : List Bd} {c : Nat} (h : TI34 bd mo A d qs (sts ++ [s]) t)
    (ha : adv bd mo 1500 [d] 1 s.1 = .need r ws c) : TI34 bd mo A d qs (sts ++ more s (lcmR r.fs)) (t + 1) ∧ 1 < lcmR r.fs ∧ lcmR r.fs ≤ 1000 ∧ lcmR r.fs ∣ N0 := by
  obtain ⟨g1, g2, g3, g4, g5⟩ := adv_need P 1500 [d] 1 s.1 (gs_one hd) h1 (mu_one hd h3) ha
  have hcut := g1.draw.1
  have hL := lcm_max _ hcut
  have hN : lcmR r.fs ∣ N0 := Int.dvd_of_emod_eq_zero (cuts_lcm _ hcut).2.2.2.1
  have hs := h.st s (by simp)
  have hdm := dm_one hd h3
  rw [dm_cons] at g4
  have hdr : (Bd.draw r).dp = r.dp + 1 := by simp [Bd.dp]
  refine ⟨⟨fun n hn => ?_, fun u hu => ?_, fun n hn => (h.q n hn).le (by omega), ?_⟩, g2, hL, hN⟩
  · have := h.sum n hn
    rw [List.map_append, sum_app_rat] at this ⊢
    have hw : Wv bd mo A d s.1 n = val A (.draw r :: ws) c n := by unfold Wv; rw [ha]; rfl
    simp only [List.map_cons, List.map_nil, List.sum_cons, List.sum_nil, hw, Rat.add_zero] at this
    rw [← this]
    congr 2
    have hp := pick_all hcut (fun b => val A (b :: ws) c n)
    rw [← val_draw] at hp
    have l0 := cast_ne (show 0 < lcmR r.fs by omega)
    have hv : Vf (mulF s.2 (1, lcmR r.fs)) = Vf s.2 * (1 / (lcmR r.fs : Rat)) := by
      rw [Vf_mul hs.2.p (by simp only; omega) hs.2.z (show (0 : Int) ≤ 1 by decide)]
      unfold Vf
      simp only
      rw [show ((1 : Int) : Rat) = 1 from rfl]
    have he : ((more s (lcmR r.fs)).map fun s => Vf s.2 * Wv bd mo A d s.1 n) = (List.range (lcmR r.fs).toNat).map fun t : Nat => (Vf s.2 * (1 / (lcmR r.fs : Rat))) * pickV (fun b => val A (b :: ws) c n) r (lcmR r.fs) t := by
      unfold more
      rw [List.map_map]
      refine List.map_congr_left fun k hk => ?_
      have hk := List.mem_range.mp hk
      simp only [Function.comp_apply, hv]
      congr 1
      obtain ⟨b, f', b1, b2, b3, b4⟩ := g5 (k : Int)
      unfold Wv
      rw [b4, adv_val P F hn f' (b :: ws) c b2 g3 b3]
      rw [Int.emod_eq_of_lt (by omega) (by omega)] at b1
      unfold pickV
      rw [b1]
    rw [he, sum_map_mull, hp]
    grind
  · rcases List.mem_append.mp hu with hu | hu
    · exact h.st u (List.mem_append_left _ hu)
    · obtain ⟨k, hk, rfl⟩ := List.mem_map.mp hu
      simp only [List.length_append, List.length_cons, List.length_nil]
      refine ⟨by omega, ?_⟩
      have : Gf N0 1 (1, lcmR r.fs) := ⟨by simp only; omega, (show (0 : Int) ≤ 1 by decide), by simp, hN, by simp only; omega⟩
      rw [Int.pow_succ]
      exact hs.2.mul this
  · have := h.len
    simp [more] at this ⊢
    omega
theorem TI34.done {qs : Nat → Int × Int} {t : Nat} (h : TI34 bd mo A d qs [] t) {n : Nat} (hn : n ≤ mo) : Vf (qs n) = val A [d] 1 n := by
  have := h.sum n hn
  simp only [List.map_nil, List.sum_nil] at this
  rw [← this]; grind
theorem adv_ended : ∀ (f : Nat) (st : List Bd) (c : Nat) (tp : List Int) {c' : Nat}, c ≤ mo → adv bd mo f st c tp = .ended c' → c' ≤ mo
  | 0, st, c, tp, c', hc, e => by simp [adv] at e
  | f + 1, [], c, tp, c', hc, e => by simp [adv] at e; omega
  | f + 1, .fin :: st, c, tp, c', hc, e => by simp only [adv] at e; exact adv_ended f st c tp hc e
  | f + 1, .stop :: st, c, tp, c', hc, e => by simp [adv] at e
  | f + 1, .tell s b :: st, c, tp, c', hc, e => by simp only [adv] at e; exact adv_ended f _ c tp hc e
  | f + 1, .call p b :: st, c, tp, c', hc, e => by
    simp only [adv] at e
    by_cases ec : c = mo
    · rw [if_pos ec] at e; cases e
    · rw [if_neg ec] at e
      cases hb : bd p with
      | none => rw [hb] at e; cases e
      | some d => rw [hb] at e; exact adv_ended f _ (c + 1) tp (by omega) e
  | f + 1, .draw r :: st, c, tp, c', hc, e => by
    simp only [adv] at e
    by_cases e1 : lcmR r.fs = 1
    · rw [if_pos e1] at e
      cases hb : r.one? with
      | none => rw [hb] at e; cases e
      | some d => rw [hb] at e; exact adv_ended f _ c tp hc e
    · rw [if_neg e1] at e
      cases tp with
      | nil => cases e
      | cons t tp =>
        dsimp only at e
        cases hb : r.pick (lcmR r.fs) (t % lcmR r.fs) with
        | none => rw [hb] at e; cases e
        | some d => rw [hb] at e; exact adv_ended f _ c tp hc e
end
end DL

set_option Elab.async false
set_option linter.all false
set_option maxRecDepth 100000
/-! K34S: what the defs of law k34 ask and tell -/
namespace DL
open PySem
def S_has_digits : FD := fn2 fun x y _ M Q => ∃ q : Int × Int, x = dF q ∧ y = .int 4000 ∧ Sm 4000 q.1 ∧ Sm 4000 q.2 ∧ Q (.bl true) M
def S_checked : FD := fn1 fun x _ M Q => ∃ q : Int × Int, x = dF q ∧ Sm 4000 q.1 ∧ Sm 4000 q.2 ∧ Q x M
/-- a procedure's rows -/
def dTb (t : Str × List Wy) : D := .tup [.str t.1, .tup (t.2.map dW)]
def lcmL (ds : List Int) : Int := ds.foldl (fun f d => f * (d / (Int.gcd f d : Int))) 1
/-- rows that are no more than so many, their chances' denominators divide N0 ^ 5 -/
def TokT (tb : List (Str × List Wy)) : Prop := tb.length ≤ 100 ∧ ∀ t ∈ tb, t.2.length ≤ 243 ∧ ∀ w ∈ t.2, Gf (N0 ^ 5) 243 w.ch ∧ w.cs.length ≤ 5 ∧ w.ls.length ≤ 5
def botT (tb : List (Str × List Wy)) : Int := lcmL (tb.flatMap fun t => t.2.map fun w => w.ch.2)
def S_common_bottom : FD := fn1 fun x _ M Q => ∃ tb, x = .tup (tb.map dTb) ∧ TokT tb ∧ Q (.int (botT tb)) M
/-- a key: names in a tuple -/
def kT (k : List Str) : D := .tup (k.map .str)
def kvI (p : List Str × Int) : D × D := (kT p.1, .int p.2)
/-- chances times B, those of the same calls put together -/
structure Mg (ws : List Wy) (B : Int) (kv : List (List Str × Int)) : Prop where
  nd : (kv.map Prod.fst).Nodup
  mem : ∀ p ∈ kv, ∃ w ∈ ws, p.1.Perm w.cs
  len : kv.length ≤ ws.length
  sum : ∀ g : List Str → Rat, (∀ a b : List Str, a.Perm b → g a = g b) → (kv.map fun p => (p.2 : Rat) * g p.1).sum = (ws.map fun w => ((w.ch.1 * (B / w.ch.2) : Int) : Rat) * g w.cs).sum
  sm : ∀ p ∈ kv, Sm 104 p.2
def S_merged : FD := fn2 fun x y _ M Q => ∃ (ws : List Wy) (B : Int), x = .tup (ws.map dW) ∧ y = .int B ∧ 0 < B ∧ Sm 88 B ∧ ws.length ≤ 243 ∧ (∀ w ∈ ws, Gf (N0 ^ 5) 243 w.ch ∧ w.cs.length ≤ 5) ∧
  ∀ p kv, M p = none → Mg ws B kv → Q (.ref p) (M.set p (.dn (kv.map kvI)))
/-- all beginnings of keys, the short ones first -/
structure Bg (keys : List (List Str)) (ks : List (List Str)) : Prop where
  nd : ks.Nodup
  mem : ∀ k, k ∈ ks ↔ ∃ y ∈ keys, ∃ n ≤ y.length, k = y.take n
  srt : ks.Pairwise fun a b => a.length ≤ b.length
  len : ks.length ≤ 145800
/-- tables of what is merged -/
def dPt (t : Str × Addr) : D := .tup [.str t.1, .ref t.2]
def S_beginnings : FD := fn1 fun x _ M Q => ∃ (a : Addr) (pt : List (Str × Addr)) (kvs : Addr → List (List Str × Int)), x = .ref a ∧ M a = some (.lst (pt.map dPt)) ∧ pt.length ≤ 100 ∧ (∀ t ∈ pt, M t.2 = some (.dn ((kvs t.2).map kvI)) ∧ (kvs t.2).length ≤ 243 ∧ ∀ p ∈ kvs t.2, p.1.length ≤ 5) ∧
  ∀ p ks, M p = none → Bg (pt.flatMap fun t => (kvs t.2).map Prod.fst) ks → Q (.ref p) (M.set p (.lst (ks.map kT)))
def tbOf (ps : List (Str × Bd)) (x : Str) : List Wy := match ps.find? (fun p => decide (p.1 = x)) with
  | some p => p.2.alts
  | none => []
def dRat (q : Rat) : D := .tup [.int q.num, .int q.den]
def S_lengths : FD := fn2 fun x y _ M Q => ∃ (ps : List (Str × Bd)) (mo : Nat), x = .tup (ps.map dBP) ∧ y = .int mo ∧ 1 ≤ mo ∧ mo ≤ 3 ∧ ps.length ≤ 4 ∧ (ps.map Prod.fst).Nodup ∧ (∀ r ∈ ps, BO r.2 ∧ r.2.cin (fun s => decide (s ∈ ps.map Prod.fst)) = true) ∧
  Q (.tup (ps.map fun p => .tup ((List.range (mo + 1)).map fun n => dRat (ser (tbOf ps) mo p.1 n)))) M
def S_law_next : FD := fn4 fun x y z u _ M Q => ∃ (ps : List (Str × Bd)) (p : Str) (tp : List Int) (mo : Nat) (d : Bd) (ns ls : List Str) (r : Rw) (ws : List Bd) (c : Nat), x = .tup (ps.map dBP) ∧ y = .str p ∧ z = .tup (tp.map .int) ∧ u = .int mo ∧ (ps.map Prod.fst).Nodup ∧ bdOf ps p = some d ∧ Pg (bdOf ps) ns ls ∧
  1 ≤ mo ∧ mo ≤ 3 ∧ tp.length ≤ 100 ∧ adv (bdOf ps) mo 1500 [d] 1 tp = .need r ws c ∧ Q (.int (lcmR r.fs)) M
def S_law_calls_within (n : Nat) : FD := fn2 fun x y _ M Q => ∃ (b : Bd) (ns ls : List Str) (k : Nat) (nm : List Str) (a : Addr), x = b.d ∧ y = .ref a ∧ M a = some (.lst (nm.map .str)) ∧ b.ok ns ls k ∧ k < n ∧ Q (.bl (b.cin fun s => decide (s ∈ nm))) M
end DL

set_option Elab.async false
set_option linter.all false
set_option maxRecDepth 100000
/-! mirrors of the text's defs (printed by gen.py) -/
namespace DL
open PySem
abbrev g_MOST_DIGITS : D := (.int 4000)
def FB_has_digits_1 : WS :=
  (sAsg (eBin opMul (eVar 2) (eBin opPow (eC (.int 10)) (eC (.int 50)))) (gName 2))
def T_has_digits_1 : WS :=
  (sRet (eAnd (eCmp cLt (eAbs (eSub (eVar 0) (eC (.int 0)))) (eVar 2)) (eCmp cLt (eSub (eVar 0) (eC (.int 1))) (eVar 2))))
def B_has_digits : WS :=
  (sSeq (sAsg (eC (.int 1)) (gName 2)) (sSeq (sFor (iRange1 (eBin opDiv (eVar 1) (eC (.int 50)))) (gName 3) FB_has_digits_1) T_has_digits_1))
def FB_common_bottom_1 : WS :=
  (sAsg (eBin opMul (eVar 1) (eBin opDiv (eSub (eVar 4) (eC (.int 1))) (eCall S_common_divisor [(eVar 1), (eSub (eVar 4) (eC (.int 1)))]))) (gName 1))
def FB_common_bottom_2 : WS :=
  (sFor (iVal (eVar 3)) (gTup [(gName 4), (gName 5), (gName 6)]) FB_common_bottom_1)
def T_common_bottom_1 : WS :=
  (sRet (eVar 1))
def B_common_bottom : WS :=
  (sSeq (sAsg (eC (.int 1)) (gName 1)) (sSeq (sFor (iVal (eVar 0)) (gTup [(gName 2), (gName 3)]) FB_common_bottom_2) T_common_bottom_1))
def FB_merged_1 : WS :=
  (sSeq (sAsg (eTupOf (eSrtT (eVar 4))) (gName 6)) (sAsg (eBin opAdd (eGet2 (eVar 2) (eVar 6) (eC (.int 0))) (eBin opMul (eSub (eVar 3) (eC (.int 0))) (eBin opDiv (eVar 1) (eSub (eVar 3) (eC (.int 1)))))) (gSub (eVar 2) (eVar 6))))
def T_merged_1 : WS :=
  (sRet (eVar 2))
def B_merged : WS :=
  (sSeq (sAsg eDn (gName 2)) (sSeq (sFor (iVal (eVar 0)) (gTup [(gName 3), (gName 4), (gName 5)]) FB_merged_1) T_merged_1))
def FB_beginnings_1 : WS :=
  (sAsg (eC (.bl true)) (gSub (eVar 1) (eSl (eVar 4) none (some (eVar 5)))))
def FB_beginnings_2 : WS :=
  (sFor (iRange1 (eBin opAdd (eLen (eVar 4)) (eC (.int 1)))) (gName 5) FB_beginnings_1)
def FB_beginnings_3 : WS :=
  (sLock 3 (sFor (iKeysD (eVar 3)) (gName 4) FB_beginnings_2))
def T_beginnings_1 : WS :=
  (sRet (eSrtLen (eLstN (eVar 1))))
def B_beginnings : WS :=
  (sSeq (sAsg eDn (gName 1)) (sSeq (sFor (iVal (eVar 0)) (gTup [(gName 2), (gName 3)]) FB_beginnings_3) T_beginnings_1))
def CE_lengths_1 : WE :=
  (eTup [(eVar 12), (eCall S_merged [(eVar 13), (eVar 3)])])
def CK_lengths_1 : WE :=
  (eVar 12)
def CE_lengths_2 : WE :=
  (eLst [(eC (.int 0))])
def CK_lengths_2 : WE :=
  (eVar 12)
def CE_lengths_3 : WE :=
  (eLst [(eC g_ZERO)])
def CK_lengths_3 : WE :=
  (eVar 11)
def CE_lengths_4 : WE :=
  (eLst [])
def CE_lengths_5 : WE :=
  (eBin opMul (eVar 17) (eVar 18))
def FB_lengths_1 : WS :=
  (sIf (tCmp cEq (eVar 11) (eTup [])) (sExpr (eAppend (eSub (eVar 8) (eVar 11)) (eInt (eCmp cEq (eVar 10) (eC (.int 1)))))) (sSeq (sAsg (eTup [(eSub (eVar 8) (eSl (eVar 11) none (some (eNeg (eC (.int 1)))))), (eSub (eVar 6) (eSub (eVar 11) (eNeg (eC (.int 1)))))]) (gTup [gName 15, gName 16])) (sExpr (eAppend (eSub (eVar 8) (eVar 11)) (eSum (eComp (iZip (eVar 15) (eRev (eVar 16))) [17, 18] (gTup [(gName 17), (gName 18)]) tYes CE_lengths_5))))))
def CE_lengths_6 : WE :=
  (eBin opMul (eSub (eVar 13) (eVar 11)) (eSub (eSub (eVar 8) (eVar 11)) (eBin opSub (eVar 10) (eC (.int 1)))))
def FB_lengths_2 : WS :=
  (sSeq (sAsg (eSum (eLock 13 (eComp (iKeysD (eVar 13)) [11] (gName 11) tYes CE_lengths_6))) (gName 14)) (sSeq (sExpr (eAppend (eSub (eVar 6) (eVar 12)) (eVar 14))) (sExpr (eAppend (eSub (eVar 7) (eVar 12)) (eCall S_checked [(eCall S_ratio [(eVar 14), (eVar 9)])])))))
def T_lengths_1 : WS :=
  (sSeq (sAsg (eBin opMul (eVar 9) (eVar 3)) (gName 9)) (sFor (iVal (eVar 4)) (gTup [(gName 12), (gName 13)]) FB_lengths_2))
def FB_lengths_3 : WS :=
  (sSeq (sFor (iVal (eVar 5)) (gName 11) FB_lengths_1) T_lengths_1)
def CE_lengths_7 : WE :=
  (eTupOf (eSub (eVar 7) (eVar 12)))
def T_lengths_2 : WS :=
  (sRet (eTupOf (eComp (iVal (eVar 4)) [12, 13] (gTup [(gName 12), (gName 13)]) tYes CE_lengths_7)))
def B_lengths : WS :=
  (sSeq (sAsg (eCall S_alternatives [(eVar 0)]) (gName 2)) (sSeq (sAsg (eCall S_common_bottom [(eVar 2)]) (gName 3)) (sSeq (sAsg (eComp (iVal (eVar 2)) [12, 13] (gTup [(gName 12), (gName 13)]) tYes CE_lengths_1) (gName 4)) (sSeq (sAsg (eCall S_beginnings [(eVar 4)]) (gName 5)) (sSeq (sAsg (eDcK (iVal (eVar 4)) [12, 13] (gTup [(gName 12), (gName 13)]) tYes CK_lengths_1 CE_lengths_2) (gName 6)) (sSeq (sAsg (eDcK (iVal (eVar 4)) [12, 13] (gTup [(gName 12), (gName 13)]) tYes CK_lengths_2 CE_lengths_3) (gName 7)) (sSeq (sAsg (eDcN (iVal (eVar 5)) [11] (gName 11) tYes CK_lengths_3 CE_lengths_4) (gName 8)) (sSeq (sAsg (eC (.int 1)) (gName 9)) (sSeq (sFor (iRange2 (eC (.int 1)) (eBin opAdd (eVar 1) (eC (.int 1)))) (gName 10) FB_lengths_3) T_lengths_2)))))))))
def T_checked_1 : WS :=
  (sRet (eVar 0))
def B_checked : WS :=
  (sSeq (sIf (tNot (tTru (eCall S_has_digits [(eVar 0), (eC g_MOST_DIGITS)]))) sNever sNil) T_checked_1)
def FB_law_next_1 : WS :=
  (sAsg (eBin opDiv (eBin opMul (eVar 10) (eSub (eVar 12) (eC (.int 1)))) (eCall S_law_divisor [(eVar 10), (eSub (eVar 12) (eC (.int 1)))])) (gName 10))
def T_law_next_1 : WS :=
  (sAsg (eBin opSub (eVar 11) (eVar 14)) (gName 11))
def FB_law_next_2 : WS :=
  (sSeq (sAsg (eBin opMul (eSub (eVar 12) (eC (.int 0))) (eBin opDiv (eVar 10) (eSub (eVar 12) (eC (.int 1))))) (gName 14)) (sSeq (sIf (tChain cLe cLt (eC (.int 0)) (eVar 11) (eVar 14)) (sExpr (eAppend (eVar 6) (eVar 13))) sNil) T_law_next_1))
def T_law_next_2 : WS :=
  (sSeq (sAsg (eIf (tCmp cGt (eVar 10) (eC (.int 1))) (eBin opMod (eInt (eSub (eVar 2) (eVar 8))) (eVar 10)) (eC (.int 0))) (gName 11)) (sSeq (sAsg (eBin opAdd (eVar 8) (eInt (eCmp cGt (eVar 10) (eC (.int 1))))) (gName 8)) (sFor (iVal (eSub (eVar 9) (eC (.int 1)))) (gTup [(gName 12), (gName 13)]) FB_law_next_2)))
def T_law_next_3 : WS :=
  (sSeq (sIf (tAnd (tCmp cGt (eVar 10) (eC (.int 1))) (tCmp cEq (eVar 8) (eLen (eVar 2)))) (sRet (eVar 10)) sNil) T_law_next_2)
def T_law_next_4 : WS :=
  (sSeq (sAsg (ePop (eVar 6)) (gName 9)) (sIf (tCmp cEq (eSub (eVar 9) (eC (.int 0))) (eC (.str "call"))) (sSeq (sAsg (eBin opAdd (eVar 7) (eC (.int 1))) (gName 7)) (sSeq (sExpr (eAppend (eVar 6) (eSub (eVar 9) (eC (.int 2))))) (sSeq (sExpr (eAppend (eVar 6) (eSub (eVar 4) (eSub (eVar 9) (eC (.int 1)))))) (sIf (tCmp cGt (eVar 7) (eVar 3)) (sRet (eC (.int 1))) sNil)))) (sIf (tCmp cEq (eSub (eVar 9) (eC (.int 0))) (eC (.str "tell"))) (sExpr (eAppend (eVar 6) (eSub (eVar 9) (eC (.int 2))))) (sIf (tCmp cEq (eSub (eVar 9) (eC (.int 0))) (eC (.str "stop"))) (sRet (eC (.int 1))) (sIf (tCmp cEq (eSub (eVar 9) (eC (.int 0))) (eC (.str "draw"))) (sSeq (sAsg (eC (.int 1)) (gName 10)) (sSeq (sFor (iVal (eSub (eVar 9) (eC (.int 1)))) (gTup [(gName 12), (gName 13)]) FB_law_next_1) T_law_next_3)) sNil)))))
def FB_law_next_3 : WS :=
  (sSeq (sIf (tNot (tTru (eVar 6))) (sRet (eC (.int 1))) sNil) T_law_next_4)
def T_law_next_5 : WS :=
  (sRet (eC (.int 1)))
def B_law_next : WS :=
  (sSeq (sAsg (eDict (eVar 0)) (gName 4)) (sSeq (sAsg (eTup [(eLst [(eSub (eVar 4) (eVar 1))]), (eC (.int 1)), (eC (.int 0))]) (gTup [gName 6, gName 7, gName 8])) (sSeq (sFor (iRange1 (eC (.int 2000))) (gName 5) FB_law_next_3) T_law_next_5)))
def CE_law_calls_within_1 (n : Nat) : WE :=
  (eCall (S_law_calls_within n) [(eVar 3), (eVar 1)])
def T_law_calls_within_1 (n : Nat) : WS :=
  (sRet (eOr (eCmp cLt (eLen (eVar 0)) (eC (.int 3))) (eCall (S_law_calls_within n) [(eSub (eVar 0) (eC (.int 2))), (eVar 1)])))
def T_law_calls_within_2 (n : Nat) : WS :=
  (sSeq (sIf (tCmp cEq (eSub (eVar 0) (eC (.int 0))) (eC (.str "draw"))) (sRet (eAll (eComp (iVal (eSub (eVar 0) (eC (.int 1)))) [2, 3] (gTup [(gName 2), (gName 3)]) tYes (CE_law_calls_within_1 n)))) sNil) (T_law_calls_within_1 n))
def B_law_calls_within (n : Nat) : WS :=
  (sSeq (sIf (tAnd (tCmp cEq (eSub (eVar 0) (eC (.int 0))) (eC (.str "call"))) (tCmp cNotIn (eSub (eVar 0) (eC (.int 1))) (eVar 1))) (sRet (eC (.bl false))) sNil) (T_law_calls_within_2 n))
def CE_law_1 : WE :=
  (eVar 10)
def CE_law_2 : WE :=
  (eCall (S_law_calls_within 8) [(eVar 11), (eVar 3)])
def CE_law_3 : WE :=
  (eTup [(eBin opAdd (eVar 12) (eTup [(eVar 19)])), (eCall S_law_times [(eVar 13), (eTup [(eC (.int 1)), (eVar 18)])])])
def T_law_1 : WS :=
  (sAsg (eBin opAdd (eVar 8) (eComp (iRange1 (eVar 18)) [19] (gName 19) tYes CE_law_3)) (gName 8))
def T_law_2 : WS :=
  (sIf (tCmp cEq (eVar 14) (eC (.str "tape"))) (sSeq (sAsg (eCall S_law_next [(eVar 2), (eSub (eSub (eVar 2) (eVar 6)) (eC (.int 0))), (eVar 12), (eVar 4)]) (gName 18)) (sSeq (sIf (tOr (tCmp cLt (eVar 18) (eC (.int 2))) (tCmp cNe (eVar 17) (eLen (eVar 12)))) (sRet (eC (.bl false))) sNil) T_law_1)) sNil)
def WC_law_1 : WT :=
  (tAnd (tTru (eVar 8)) (tCmp cLt (eVar 9) (eC (.int 600))))
def WB_law_1 : WS :=
  (sSeq (sAsg (ePop (eVar 8)) (gTup [(gName 12), (gName 13)])) (sSeq (sAsg (eBin opAdd (eVar 9) (eC (.int 1))) (gName 9)) (sSeq (sAsg (eCall S_run [(eVar 2), (eSub (eSub (eVar 2) (eVar 6)) (eC (.int 0))), (eVar 12), (eVar 4)]) (gTup [(gName 14), (gName 15), (gName 16), (gName 17)])) (sSeq (sIf (tCmp cEq (eVar 14) (eC (.str "ended"))) (sAsg (eCall S_law_plus [(eSub (eVar 7) (eVar 16)), (eVar 13)]) (gSub (eVar 7) (eVar 16))) sNil) T_law_2))))
def T_law_3 : WS :=
  (sIf (tAnd (tNot (tTru (eVar 8))) (tNot (tTru (eCall (S_law_alike 8) [(eSub (eVar 5) (eVar 6)), (eTupOf (eVar 7))])))) (sRet (eC (.bl false))) sNil)
def FB_law_1 : WS :=
  (sSeq (sAsg (eBin opRep (eLst [(eTup [(eC (.int 0)), (eC (.int 1))])]) (eBin opAdd (eVar 4) (eC (.int 1)))) (gName 7)) (sSeq (sAsg (eLst [(eTup [(eTup []), (eTup [(eC (.int 1)), (eC (.int 1))])])]) (gName 8)) (sSeq (sAsg (eC (.int 0)) (gName 9)) (sSeq (sWhile WC_law_1 WB_law_1) T_law_3))))
def T_law_4 : WS :=
  (sRet (eC (.bl true)))
def T_law_5 : WS :=
  (sSeq (sAsg (eBin opAdd (eC (.int 1)) (eCall S_law_take [(eVar 1), (eC (.int 3))])) (gName 4)) (sSeq (sAsg (eCall S_lengths [(eVar 2), (eVar 4)]) (gName 5)) (sSeq (sFor (iRange1 (eLen (eVar 2))) (gName 6) FB_law_1) T_law_4)))
def B_law : WS :=
  (sSeq (sAsg (eCall S_law_start [(eVar 0)]) (gName 1)) (sSeq (sAsg (eSl (eCall S_law_program [(eVar 1)]) none (some (eC (.int 3)))) (gName 2)) (sSeq (sAsg (eComp (iVal (eVar 2)) [10, 11] (gTup [(gName 10), (gName 11)]) tYes CE_law_1) (gName 3)) (sSeq (sIf (tNot (tTru (eAll (eComp (iVal (eVar 2)) [10, 11] (gTup [(gName 10), (gName 11)]) tYes CE_law_2)))) (sRet (eC (.bl true))) sNil) T_law_5))))
end DL

set_option Elab.async false
set_option linter.all false
set_option maxRecDepth 100000
set_option maxHeartbeats 4000000
/-! K34P: the small defs of law k34 -/
namespace DL
open PySem
theorem pcons {α : Type} {f : α → D} {x : D} {xs : List D} {rs : List α} (h : x :: xs = rs.map f) : ∃ r rs', rs = r :: rs' ∧ x = f r ∧ xs = rs'.map f := by
  cases rs with
  | nil => simp at h
  | cons r rs => simp at h; exact ⟨r, rs, rfl, h.1, h.2⟩
theorem pnil {α : Type} {f : α → D} {rs : List α} (h : [] = rs.map f) : rs = [] := by simpa using h.symm
theorem le_none {M m : Sto} {p : Addr} (hl : Le M m) (hp : m p = none) : M p = none := by
  cases e : M p with
  | none => rfl
  | some o => rw [hl p o e] at hp; cases hp
theorem big_pow : (2 : Nat) ^ 4000 ≤ (10 ^ 50) ^ 80 := by
  have h : (2 : Nat) ^ 50 ≤ 10 ^ 50 := by decide
  have := Nat.pow_le_pow_left h 80
  rwa [← Nat.pow_mul] at this
theorem sm_ten {k : Nat} (h : k ≤ 80) : Sm 20000 (((10 : Int) ^ 50) ^ k) := by
  refine ⟨?_⟩
  rw [Int.natAbs_pow]
  have e : ((10 : Int) ^ 50).natAbs = 10 ^ 50 := by decide
  rw [e]
  have h1 : (10 : Nat) ^ 50 ≤ 2 ^ 200 := by decide
  have h2 := Nat.pow_le_pow_left h1 k
  rw [← Nat.pow_mul 2 200 k] at h2
  have h3 : 200 * k < 20000 := by omega
  exact Nat.lt_of_le_of_lt h2 (Nat.pow_lt_pow_right (by decide) h3)
def tens (k : Nat) : Int := ((10 : Int) ^ 50) ^ k
theorem tens_s (k : Nat) : tens k * 100000000000000000000000000000000000000000000000000 = tens (k + 1) := by
  have e50 : (100000000000000000000000000000000000000000000000000 : Int) = 10 ^ 50 := by decide
  rw [e50]; exact (Int.pow_succ _ _).symm
theorem ob_has_digits : ∀ E ds M Q, S_has_digits E ds M Q → B_has_digits E (endsL Q) (start 4 ds) M := by
  intro E ds M Q h
  obtain ⟨x, y, rfl, q, rfl, rfl, s1, s2, hq⟩ := fn2_e h
  simp [B_has_digits]
  refine go ?_
  simp
  refine ⟨by decide, ?_⟩
  refine for_ind (fun xs e m => m = M ∧ ∃ (k : Nat) (x3 : Option D), xs.length + k = 80 ∧ e = [some (dF q), some (.int 4000), some (.int (tens k)), x3]) ?_ ?_ _ _ _ ⟨rfl, 0, none, by decide, by simp [tens]⟩
  · rintro x xs e m ⟨rfl, k, x3, hk, rfl⟩
    refine ⟨trivial, fun N hN => ?_⟩
    simp only [List.length_cons] at hk
    simp [FB_has_digits_1]
    refine ⟨(sm_ten (k := k) (by omega)).mulOk (n := 200) ⟨by decide⟩ (by decide), hN _ _ ⟨rfl, k + 1, some x, by omega, ?_⟩⟩
    rw [tens_s]
  · rintro e m ⟨rfl, k, x3, hk, rfl⟩
    simp only [List.length_nil, Nat.zero_add] at hk
    subst hk
    refine ⟨trivial, ?_⟩
    dsimp only
    refine go ?_
    have hb : ∀ z : Int, Sm 4000 z → (if z < 0 then -z else z) < ((10 : Int) ^ 50) ^ 80 := by
      intro z hz
      have h1 := hz.h
      have h2 : (((10 : Int) ^ 50) ^ 80).natAbs = (10 ^ 50) ^ 80 := by rw [Int.natAbs_pow, Int.natAbs_pow]; rfl
      have h3 := big_pow
      have h4 : (0 : Int) ≤ ((10 : Int) ^ 50) ^ 80 := Int.pow_nonneg (Int.pow_nonneg (by decide))
      generalize ((10 : Int) ^ 50) ^ 80 = B at *
      generalize ((10 : Nat) ^ 50) ^ 80 = C at *
      generalize (2 : Nat) ^ 4000 = D at *
      split <;> omega
    have b1 := hb q.1 s1
    have b2 := hb q.2 s2
    have b3 : q.2 < ((10 : Int) ^ 50) ^ 80 := by
      split at b2 <;> omega
    unfold tens
    generalize ((10 : Int) ^ 50) ^ 80 = B at *
    simp [T_has_digits_1, dF]
    rw [if_pos b1]
    simp [b3]
    exact ⟨m, Le.refl, hq⟩
theorem ob_checked : ∀ E ds M Q, S_checked E ds M Q → B_checked E (endsL Q) (start 1 ds) M := by
  intro E ds M Q h
  obtain ⟨x, rfl, q, rfl, s1, s2, hq⟩ := fn1_e h
  simp [B_checked, S_has_digits]
  refine ⟨_, _, rfl, s1, s2, go ?_⟩
  simp [T_checked_1]
  exact ⟨M, Le.refl, hq⟩
/-! ## common_bottom -/
theorem lcm_step {f d : Int} (hf : 0 < f) (hd : 0 < d) : f * (d / (Int.gcd f d : Int)) = (Int.lcm f d : Int) := by
  have g0 : (0 : Int) < Int.gcd f d := gcd_pos' (n := f) hd
  obtain ⟨k, hk⟩ : (Int.gcd f d : Int) ∣ d := Int.gcd_dvd_right ..
  have h := Int.gcd_mul_lcm f d
  have h' : (Int.gcd f d : Int) * (Int.lcm f d : Int) = f * d := by
    have e2 : ((f * d).natAbs : Int) = f * d := Int.natAbs_of_nonneg (Int.mul_nonneg (by omega) (by omega))
    rw [← e2, Int.natAbs_mul, ← h, Int.natCast_mul]
  generalize (Int.lcm f d : Int) = l at *
  generalize (Int.gcd f d : Int) = g at *
  subst hk
  rw [Int.mul_ediv_cancel_left _ (by omega)]
  rw [← Int.mul_assoc, Int.mul_comm f g, Int.mul_assoc] at h'
  exact (Int.eq_of_mul_eq_mul_left (by omega) h').symm
theorem lcm_fold {N : Int} (hN : 0 < N) : ∀ (ds : List Int) (f : Int), 0 < f → f ∣ N → (∀ d ∈ ds, 0 < d ∧ d ∣ N) →
    0 < ds.foldl (fun f d => f * (d / (Int.gcd f d : Int))) f ∧ ds.foldl (fun f d => f * (d / (Int.gcd f d : Int))) f ∣ N ∧ f ∣ ds.foldl (fun f d => f * (d / (Int.gcd f d : Int))) f ∧ ∀ d ∈ ds, d ∣ ds.foldl (fun f d => f * (d / (Int.gcd f d : Int))) f
  | [], f, h, hd, _ => ⟨h, hd, Int.dvd_refl f, by simp⟩
  | d :: ds, f, h, hd, hs => by
    have h1 := hs d (.head _)
    have e := lcm_step h h1.1
    have hp : (0 : Int) < (Int.lcm f d : Int) := by
      have := Int.lcm_pos (m := f) (n := d) (by omega) (by omega)
      omega
    rw [List.foldl_cons, e]
    obtain ⟨a1, a2, a3, a4⟩ := lcm_fold hN ds (Int.lcm f d : Int) hp (Int.coe_lcm_dvd hd h1.2) fun x hx => hs x (.tail _ hx)
    refine ⟨a1, a2, Int.dvd_trans (Int.dvd_lcm_left ..) a3, fun x hx => ?_⟩
    rcases List.mem_cons.mp hx with hx | hx
    · subst hx; exact Int.dvd_trans (Int.dvd_lcm_right f x) a3
    · exact a4 x hx
abbrev lcmF (f : Int) (ds : List Int) : Int := ds.foldl (fun f d => f * (d / (Int.gcd f d : Int))) f
theorem n05_sm88 {f : Int} (h0 : 0 < f) (hd : f ∣ N0 ^ 5) : Sm 88 f := by
  have h := Int.le_of_dvd (by decide) hd
  have e : N0 ^ 5 < 2 ^ 88 := by decide
  refine ⟨?_⟩
  generalize N0 ^ 5 = n at *
  omega
theorem n05_sm {f : Int} (h0 : 0 < f) (hd : f ∣ N0 ^ 5) : Sm 120 f := (n05_sm88 h0 hd).mono (by decide)
theorem ob_common_bottom : ∀ E ds M Q, S_common_bottom E ds M Q → B_common_bottom E (endsL Q) (start 7 ds) M := by
  intro E ds M Q h
  obtain ⟨x, rfl, tb, rfl, ⟨htl, htk⟩, hq⟩ := fn1_e h
  simp [B_common_bottom]
  refine go ?_
  simp
  have hdn : ∀ t ∈ tb, ∀ w ∈ t.2, 0 < w.ch.2 ∧ w.ch.2 ∣ N0 ^ 5 := fun t ht w hw => ⟨((htk t ht).2 w hw).1.p, ((htk t ht).2 w hw).1.d⟩
  refine for_ind (fun xs e m => m = M ∧ ∃ (rs : List (Str × List Wy)) (f : Int) (x2 x3 x4 x5 x6 : Option D), xs = rs.map dTb ∧ e = [some (.tup (tb.map dTb)), some (.int f), x2, x3, x4, x5, x6] ∧ (∀ t ∈ rs, t ∈ tb) ∧ 0 < f ∧ f ∣ N0 ^ 5 ∧
    lcmF f (rs.flatMap fun t => t.2.map fun w => w.ch.2) = botT tb) ?_ ?_ _ _ _ ⟨rfl, tb, 1, none, none, none, none, none, rfl, rfl, fun t ht => ht, by decide, by decide, rfl⟩
  · rintro x xs e m ⟨rfl, rs, f, x2, x3, x4, x5, x6, hx, rfl, hr, h0, hf, hl⟩
    obtain ⟨t, rs, rfl, rfl, rfl⟩ := pcons hx
    refine ⟨trivial, fun N hN => ?_⟩
    rw [List.flatMap_cons, lcmF, List.foldl_append] at hl
    simp [dTb, FB_common_bottom_2]
    refine for_ind (fun xs e m' => m' = m ∧ ∃ (ws : List Wy) (g : Int) (x4 x5 x6 : Option D), xs = ws.map dW ∧ e = [some (.tup (tb.map dTb)), some (.int g), some (.str t.1), some (.tup (t.2.map dW)), x4, x5, x6] ∧ (∀ w ∈ ws, w ∈ t.2) ∧ 0 < g ∧ g ∣ N0 ^ 5 ∧
      lcmF g (ws.map fun w => w.ch.2) = lcmF f (t.2.map fun w => w.ch.2)) ?_ ?_ _ _ _ ⟨rfl, t.2, f, _, _, _, rfl, rfl, fun w hw => hw, h0, hf, rfl⟩
    · rintro x xs e m' ⟨rfl, ws, g, y4, y5, y6, hy, rfl, hw, g0, gd, gl⟩
      obtain ⟨w, ws, rfl, rfl, rfl⟩ := pcons hy
      refine ⟨trivial, fun N' hN' => ?_⟩
      obtain ⟨d0, dd⟩ := hdn t (hr t (.head _)) w (hw w (.head _))
      have q0 : (0 : Int) < Int.gcd g w.ch.2 := gcd_pos' d0
      have hlc := lcm_fold (N := N0 ^ 5) (by decide) [w.ch.2] g g0 gd (by simpa using ⟨d0, dd⟩)
      have sg := n05_sm g0 gd
      have sd := n05_sm d0 dd
      have q1 : (Int.gcd g w.ch.2 : Int) ∣ w.ch.2 := Int.gcd_dvd_right ..
      have sq := n05_sm q0 (Int.dvd_trans q1 dd)
      have sdd : Sm 120 (w.ch.2 / (Int.gcd g w.ch.2 : Int)) := by
        refine Sm.of_le ?_ sd
        have h1 := Int.ediv_nonneg (a := w.ch.2) (b := (Int.gcd g w.ch.2 : Int)) (by omega) (by omega)
        have h2 := Int.ediv_le_self (Int.gcd g w.ch.2 : Int) (show 0 ≤ w.ch.2 by omega)
        omega
      simp [FB_common_bottom_1, dW, dF, S_common_divisor, fdiv_pos q0]
      refine ⟨by omega, sq.np (by decide), sg.mulOk sdd (by decide), hN' _ _ ⟨rfl, ws, _, _, _, _, rfl, rfl, fun v hv => hw v (.tail _ hv), hlc.1, hlc.2.1, by simpa [lcmF] using gl⟩⟩
    · rintro e m' ⟨rfl, ws, g, y4, y5, y6, hy, rfl, hw, g0, gd, gl⟩
      have := pnil hy
      subst this
      refine ⟨trivial, ?_⟩
      have gl : g = lcmF f (t.2.map fun w => w.ch.2) := gl
      refine hN _ _ ⟨rfl, rs, g, _, _, _, _, _, rfl, rfl, fun v hv => hr v (.tail _ hv), g0, gd, ?_⟩
      rw [gl]; exact hl
  · rintro e m ⟨rfl, rs, f, x2, x3, x4, x5, x6, hx, rfl, hr, h0, hf, hl⟩
    have := pnil hx
    subst this
    have hl : f = botT tb := hl
    subst hl
    refine ⟨trivial, go ?_⟩
    simp [T_common_bottom_1]
    exact ⟨m, Le.refl, hq⟩
theorem bot_ok {tb : List (Str × List Wy)} (h : TokT tb) : 0 < botT tb ∧ Sm 88 (botT tb) ∧ ∀ t ∈ tb, ∀ w ∈ t.2, w.ch.2 ∣ botT tb := by
  have hl := lcm_fold (N := N0 ^ 5) (by decide) (tb.flatMap fun t => t.2.map fun w => w.ch.2) 1 (by decide) ⟨N0 ^ 5, by simp⟩ (by
    intro d hd
    obtain ⟨t, ht, hd⟩ := List.mem_flatMap.mp hd
    obtain ⟨w, hw, rfl⟩ := List.mem_map.mp hd
    exact ⟨((h.2 t ht).2 w hw).1.p, ((h.2 t ht).2 w hw).1.d⟩)
  exact ⟨hl.1, n05_sm88 hl.1 hl.2.1, fun t ht w hw => hl.2.2.2 _ (List.mem_flatMap.mpr ⟨t, ht, List.mem_map.mpr ⟨w, hw, rfl⟩⟩)⟩
end DL

set_option Elab.async false
set_option linter.all false
set_option maxRecDepth 100000
set_option maxHeartbeats 4000000
/-! K34N: merged, beginnings, calls within -/
namespace DL
open PySem
theorem kT_inj {a b : List Str} (h : kT a = kT b) : a = b := by
  unfold kT at h
  injection h with h
  exact map_str_inj h
theorem nkOk_kT (k : List Str) : nkOk (kT k) = true := by
  simp [nkOk, kT, nest, nests_str]
abbrev KI := List (List Str × Int)
def curI (kv : KI) (k : List Str) : Int := ((kv.find? fun p => decide (p.1 = k)).map (·.2)).getD 0
def upI (kv : KI) (k : List Str) (v : Int) : KI := if k ∈ kv.map Prod.fst then kv.map fun p => if p.1 = k then (p.1, p.2 + v) else p else kv ++ [(k, v)]
theorem lk_kvI {α : Type} (f : α → D) : ∀ {kv : List (List Str × α)} {k : List Str}, lk (kv.map fun p => (kT p.1, f p.2)) (kT k) = (kv.find? fun p => decide (p.1 = k)).map fun p => f p.2
  | [], k => rfl
  | p :: kv, k => by
    simp only [List.map_cons, lk, List.find?_cons]
    by_cases e : p.1 = k
    · simp [e]
    · rw [if_neg fun z => e (kT_inj z)]
      simp [e]
      exact lk_kvI f
theorem lk_kvI' {kv : KI} {k : List Str} : (lk (kv.map kvI) (kT k)).getD (.int 0) = .int (curI kv k) := by
  have := lk_kvI D.int (kv := kv) (k := k)
  unfold kvI curI
  rw [this]
  cases kv.find? fun p => decide (p.1 = k) <;> rfl
theorem find_I {kv : KI} (nd : (kv.map Prod.fst).Nodup) {p : List Str × Int} (hp : p ∈ kv) : (kv.find? fun x => decide (x.1 = p.1)) = some p := by
  induction kv with
  | nil => simp at hp
  | cons x kv ih =>
    rw [List.map_cons, List.nodup_cons] at nd
    rw [List.find?_cons]
    rcases List.mem_cons.mp hp with rfl | hp
    · simp
    · have : x.1 ≠ p.1 := fun e => nd.1 (e ▸ List.mem_map.mpr ⟨p, hp, rfl⟩)
      simp [this]
      exact ih nd.2 hp
theorem ins_kvI {kv : KI} (nd : (kv.map Prod.fst).Nodup) (k : List Str) (v : Int) : ins (kv.map kvI) (kT k) (.int (curI kv k + v)) = (upI kv k v).map kvI := by
  unfold upI
  by_cases h : k ∈ kv.map Prod.fst
  · rw [if_pos h]
    unfold ins
    rw [if_pos]
    · rw [List.map_map, List.map_map]
      refine List.map_congr_left fun p hp => ?_
      by_cases e : p.1 = k
      · refine (if_pos (show (kvI p).1 = kT k by rw [← e]; rfl)).trans ?_
        have hc : curI kv k = p.2 := by unfold curI; rw [← e, find_I nd hp]; rfl
        simp only [Function.comp_apply, e, if_true, hc]
        rw [kvI, ← e]; rfl
      · refine (if_neg (show ¬ (kvI p).1 = kT k from fun z => e (kT_inj z))).trans ?_
        simp only [Function.comp_apply, if_neg e]
    · obtain ⟨p, hp, e⟩ := List.mem_map.mp h
      simp only [List.any_eq_true, decide_eq_true_eq]
      exact ⟨kvI p, List.mem_map.mpr ⟨p, hp, rfl⟩, by rw [← e]; rfl⟩
  · rw [if_neg h, ins_new]
    · have hc : curI kv k = 0 := by
        unfold curI
        rw [List.find?_eq_none.mpr]; rfl
        intro p hp
        simp only [decide_eq_true_eq]
        exact fun e => h (List.mem_map.mpr ⟨p, hp, e⟩)
      rw [hc, Int.zero_add, List.map_append]; rfl
    · intro hm
      rw [List.map_map] at hm
      obtain ⟨p, hp, e⟩ := List.mem_map.mp hm
      exact h (List.mem_map.mpr ⟨p, hp, kT_inj e⟩)
theorem upI_keys (kv : KI) (k : List Str) (v : Int) : (upI kv k v).map Prod.fst = if k ∈ kv.map Prod.fst then kv.map Prod.fst else kv.map Prod.fst ++ [k] := by
  unfold upI
  split
  · rw [List.map_map]
    refine List.map_congr_left fun p _ => ?_
    simp only [Function.comp_apply]
    split <;> rfl
  · simp
theorem upI_sum {kv : KI} (nd : (kv.map Prod.fst).Nodup) (k : List Str) (v : Int) (g : List Str → Rat) :
    ((upI kv k v).map fun p => (p.2 : Rat) * g p.1).sum = (kv.map fun p => (p.2 : Rat) * g p.1).sum + (v : Rat) * g k := by
  unfold upI
  split
  · rename_i h
    induction kv with
    | nil => simp at h
    | cons x kv ih =>
      rw [List.map_cons, List.nodup_cons] at nd
      simp only [List.map_cons, List.sum_cons]
      by_cases e : x.1 = k
      · have e1 : (kv.map fun p : List Str × Int => if p.1 = k then (p.1, p.2 + v) else p) = kv := by
          conv => rhs; rw [← List.map_id kv]
          refine List.map_congr_left fun p hp => ?_
          have : p.1 ≠ k := fun z => nd.1 (by rw [e, ← z]; exact List.mem_map.mpr ⟨p, hp, rfl⟩)
          simp [this]
        rw [e1, if_pos e, Rat.intCast_add, e]; grind
      · have h' : k ∈ kv.map Prod.fst := by
          rw [List.map_cons] at h
          exact (List.mem_cons.mp h).resolve_left (Ne.symm e)
        rw [ih nd.2 h', if_neg e]; grind
  · rw [List.map_append, sum_app_rat]
    simp [Rat.add_zero]
/-- as Mg, with what is known underway -/
structure MgU (ws : List Wy) (B : Int) (kv : KI) : Prop where
  nd : (kv.map Prod.fst).Nodup
  mem : ∀ p ∈ kv, ∃ w ∈ ws, p.1.Perm w.cs
  len : kv.length ≤ ws.length
  sum : ∀ g : List Str → Rat, (∀ a b : List Str, a.Perm b → g a = g b) → (kv.map fun p => (p.2 : Rat) * g p.1).sum = (ws.map fun w => ((w.ch.1 * (B / w.ch.2) : Int) : Rat) * g w.cs).sum
  bd : ∀ p ∈ kv, 0 ≤ p.2 ∧ p.2 ≤ ws.length * (243 * B)
theorem MgU.step {ws : List Wy} {B : Int} {kv : KI} {w : Wy} {ys : List Str} (h : MgU ws B kv) (hB : 0 < B) (hp : ys.Perm w.cs) (hw : Gf (N0 ^ 5) 243 w.ch) : MgU (ws ++ [w]) B (upI kv ys (w.ch.1 * (B / w.ch.2))) := by
  have v0 : 0 ≤ w.ch.1 * (B / w.ch.2) := Int.mul_nonneg hw.z (Int.ediv_nonneg (by omega) (by have := hw.p; omega))
  have v1 : w.ch.1 * (B / w.ch.2) ≤ 243 * B := by
    have h1 := hw.l
    have h2 : 0 ≤ B / w.ch.2 := Int.ediv_nonneg (by omega) (by have := hw.p; omega)
    have h3 := Int.mul_le_mul_of_nonneg_right h1 h2
    have h4 : w.ch.2 * (B / w.ch.2) ≤ B := Int.mul_ediv_self_le (by have := hw.p; omega)
    rw [Int.mul_assoc] at h3
    omega
  have hc : 0 ≤ 243 * B := by omega
  have hl : ((ws ++ [w]).length : Int) * (243 * B) = ws.length * (243 * B) + 243 * B := by
    rw [List.length_append, Int.natCast_add, Int.add_mul]; simp
  have hl0 : 0 ≤ (ws.length : Int) * (243 * B) := Int.mul_nonneg (by omega) hc
  generalize hv : w.ch.1 * (B / w.ch.2) = v at *
  refine ⟨?_, ?_, ?_, ?_, ?_⟩
  · rw [upI_keys]
    split
    · exact h.nd
    · rename_i hn
      rw [List.nodup_append]
      exact ⟨h.nd, by simp, fun a ha b hb => by rw [List.mem_singleton.mp hb]; rintro rfl; exact hn ha⟩
  · intro p hpp
    have hk : p.1 ∈ (upI kv ys v).map Prod.fst := List.mem_map.mpr ⟨p, hpp, rfl⟩
    rw [upI_keys] at hk
    have : p.1 ∈ kv.map Prod.fst ∨ p.1 = ys := by
      split at hk
      · exact .inl hk
      · simpa using hk
    rcases this with hk | hk
    · obtain ⟨q, hq, e⟩ := List.mem_map.mp hk
      obtain ⟨u, hu, hq⟩ := h.mem q hq
      exact ⟨u, List.mem_append_left _ hu, by rw [← e]; exact hq⟩
    · exact ⟨w, by simp, by rw [hk]; exact hp⟩
  · have : (upI kv ys v).length = ((upI kv ys v).map Prod.fst).length := by simp
    rw [this, upI_keys]
    have := h.len
    split <;> simp <;> omega
  · intro g hg
    rw [upI_sum h.nd, h.sum g hg, List.map_append, sum_app_rat, hg ys w.cs hp]
    simp only [List.map_cons, List.map_nil, List.sum_cons, List.sum_nil, hv, Rat.add_zero]
  · intro p hpp
    rw [hl]
    unfold upI at hpp
    split at hpp
    · obtain ⟨q, hq, rfl⟩ := List.mem_map.mp hpp
      have := h.bd q hq
      split <;> (try simp only) <;> omega
    · rcases List.mem_append.mp hpp with hpp | hpp
      · have := h.bd p hpp; omega
      · rw [List.mem_singleton.mp hpp]; (try simp only); omega
theorem ob_merged : ∀ E ds M Q, S_merged E ds M Q → B_merged E (endsL Q) (start 7 ds) M := by
  intro E ds M Q h
  obtain ⟨x, y, rfl, ws, B, rfl, rfl, hB, sB, hl, hw, hq⟩ := fn2_e h
  have hsz := sizeLine_ge
  simp [B_merged]
  intro c hc
  refine go ?_
  simp
  refine for_ind (fun xs e m => ∃ (dn rs : List Wy) (kv : KI) (x3 x4 x5 x6 : Option D), xs = rs.map dW ∧ dn ++ rs = ws ∧ e = [some (.tup (ws.map dW)), some (.int B), some (.ref c), x3, x4, x5, x6] ∧ MgU dn B kv ∧ m c = some (.dn (kv.map kvI)) ∧ Le (M.set c (.dn (kv.map kvI))) m)
    ?_ ?_ _ _ _ ⟨[], ws, [], none, none, none, none, rfl, rfl, rfl, ⟨by simp, by simp, by simp, fun _ _ => by simp, by simp⟩, by rw [set_same]; rfl, Le.refl⟩
  · rintro x xs e m ⟨dn, rs, kv, x3, x4, x5, x6, hx, hd, rfl, hg, ec, hle⟩
    obtain ⟨w, rs, rfl, rfl, rfl⟩ := pcons hx
    refine ⟨trivial, fun N hN => ?_⟩
    have hww := hw w (by rw [← hd]; simp)
    have hdl : dn.length ≤ 243 := by have := congrArg List.length hd; simp at this; omega
    have hkl := hg.len
    simp [FB_merged_1, dW]
    refine srtD_map ⟨by omega, fun ys p hp hs hpn => ?_⟩
    have hcp : c ≠ p := ne_of ec hpn
    refine go ?_
    simp [set_ne hcp, ec, dF]
    rw [show D.tup (List.map D.str ys) = kT ys from rfl]
    refine ⟨nkOk_kT _, ?_⟩
    rw [lk_kvI']
    have hn := hww.1.p
    have s2 := n05_sm hn hww.1.d
    have s1 := hww.1.sm (by decide)
    have sq : Sm 88 (B / w.ch.2) := Sm.of_le (by
      have h1 := Int.ediv_nonneg (a := B) (b := w.ch.2) (by omega) (by omega)
      have h2 := Int.ediv_le_self w.ch.2 (show 0 ≤ B by omega)
      omega) sB
    simp [fdiv_pos hn, set_ne hcp, ec]
    refine ⟨by omega, s2.np (by decide), s1.1.mulOk sq (by decide), nkOk_kT _, by omega, hN _ _ ⟨dn ++ [w], rs, upI kv ys (w.ch.1 * (B / w.ch.2)), _, _, _, _, rfl, by simpa using hd, rfl, hg.step hB hp hww.1, ?_, ?_⟩⟩
    · rw [set_same, ins_kvI hg.nd]
    · rw [ins_kvI hg.nd]
      have hM : (M.set c (.dn (kv.map kvI))) p = none := le_none hle hpn
      have := (hle.fresh (o := .lst (ys.map .str)) hM).set (p := c) (o := .dn ((upI kv ys (w.ch.1 * (B / w.ch.2))).map kvI))
      rw [set_set] at this
      exact this
  · rintro e m ⟨dn, rs, kv, x3, x4, x5, x6, hx, hd, rfl, hg, ec, hle⟩
    have := pnil hx
    subst this
    rw [List.append_nil] at hd
    subst hd
    refine ⟨trivial, ?_⟩
    dsimp only
    refine go ?_
    simp [T_merged_1]
    refine ⟨_, hle, hq c kv hc ⟨hg.nd, hg.mem, hg.len, hg.sum, fun p hp => ?_⟩⟩
    have hb := hg.bd p hp
    have s3 : Sm 104 (dn.length * (243 * B)) := by
      have h1 : Sm 8 (dn.length : Int) := ⟨by simp; omega⟩
      have h2 : Sm 8 (243 : Int) := ⟨by decide⟩
      exact h1.mul (h2.mul sB)
    exact Sm.of_le (by omega) s3
end DL

set_option Elab.async false
set_option linter.all false
set_option maxRecDepth 100000
set_option maxHeartbeats 4000000
/-! K34Q: beginnings, calls within, the next number's bound -/
namespace DL
open PySem
theorem rng_cons {i n : Nat} {x : D} {xs : List D} (h : x :: xs = rangeL (i : Int) (n : Int)) : x = .int (i : Int) ∧ xs = rangeL ((i + 1 : Nat) : Int) (n : Int) ∧ i < n := by
  unfold rangeL at h
  have hl := congrArg List.length h
  simp at hl
  obtain ⟨m, hm⟩ : ∃ m, ((n : Int) - (i : Int)).toNat = m + 1 := ⟨((n : Int) - (i : Int)).toNat - 1, by omega⟩
  rw [hm, List.range_succ_eq_map] at h
  simp only [List.map_cons, List.map_map, List.cons.injEq] at h
  refine ⟨by rw [h.1]; simp, ?_, by omega⟩
  rw [h.2]
  unfold rangeL
  rw [show ((n : Int) - ((i + 1 : Nat) : Int)).toNat = m by omega]
  refine List.map_congr_left fun k _ => ?_
  simp only [Function.comp_apply]
  congr 1
  simp; omega
theorem rng_nil {i n : Nat} (h : [] = rangeL (i : Int) (n : Int)) (hi : i ≤ n) : i = n := by
  have := congrArg List.length h
  unfold rangeL at this
  simp at this; omega
/-! ## beginnings -/
def kB (ks : List (List Str)) : List (D × D) := ks.map fun k => (kT k, .bl true)
def addK (ks : List (List Str)) (k : List Str) : List (List Str) := if k ∈ ks then ks else ks ++ [k]
theorem kB_keys (ks : List (List Str)) : (kB ks).map Prod.fst = ks.map kT := by unfold kB; rw [List.map_map]; rfl
theorem ins_kB (ks : List (List Str)) (k : List Str) : ins (kB ks) (kT k) (.bl true) = kB (addK ks k) := by
  unfold addK
  by_cases h : k ∈ ks
  · rw [if_pos h]
    unfold ins
    rw [if_pos]
    · conv => rhs; rw [← List.map_id (kB ks)]
      refine List.map_congr_left fun p hp => ?_
      obtain ⟨x, hx, rfl⟩ := List.mem_map.mp hp
      by_cases e : kT x = kT k
      · simp [e]
      · simp [e]
    · simp only [List.any_eq_true, decide_eq_true_eq]
      exact ⟨(kT k, .bl true), List.mem_map.mpr ⟨k, h, rfl⟩, rfl⟩
  · rw [if_neg h, ins_new]
    · unfold kB; rw [List.map_append]; rfl
    · rw [kB_keys]
      intro hm
      obtain ⟨x, hx, e⟩ := List.mem_map.mp hm
      exact h (kT_inj e ▸ hx)
structure BgU (src ks : List (List Str)) : Prop where
  nd : ks.Nodup
  mem : ∀ k, k ∈ ks ↔ k ∈ src
  len : ks.length ≤ src.length
theorem BgU.step {src ks : List (List Str)} (h : BgU src ks) (k : List Str) : BgU (src ++ [k]) (addK ks k) := by
  unfold addK
  split
  · rename_i hk
    refine ⟨h.nd, fun x => ?_, by have := h.len; simp; omega⟩
    rw [h.mem, List.mem_append, List.mem_singleton]
    exact ⟨.inl, fun z => z.elim id fun e => by rw [e]; exact (h.mem k).mp hk⟩
  · rename_i hk
    refine ⟨?_, fun x => ?_, by have := h.len; simp; omega⟩
    · rw [List.nodup_append]
      exact ⟨h.nd, by simp, fun a ha b hb => by rw [List.mem_singleton.mp hb]; rintro rfl; exact hk ha⟩
    · rw [List.mem_append, List.mem_append, h.mem]
def preK (y : List Str) : List (List Str) := (List.range (y.length + 1)).map y.take
def srcK (kv : List (List Str × Int)) : List (List Str) := kv.flatMap fun p => preK p.1
def srcP (kvs : Addr → List (List Str × Int)) (pt : List (Str × Addr)) : List (List Str) := pt.flatMap fun t => srcK (kvs t.2)
theorem srcK_len {kv : List (List Str × Int)} (h : ∀ p ∈ kv, p.1.length ≤ 5) : (srcK kv).length ≤ 6 * kv.length := by
  induction kv with
  | nil => simp [srcK]
  | cons p kv ih =>
    have h1 := h p (.head _)
    have h2 := ih fun q hq => h q (.tail _ hq)
    unfold srcK at h2 ⊢
    rw [List.flatMap_cons, List.length_append, List.length_cons]
    simp [preK] at *
    omega
theorem srcP_len {kvs : Addr → List (List Str × Int)} {pt : List (Str × Addr)} (h : ∀ t ∈ pt, (kvs t.2).length ≤ 243 ∧ ∀ p ∈ kvs t.2, p.1.length ≤ 5) : (srcP kvs pt).length ≤ 1458 * pt.length := by
  induction pt with
  | nil => simp [srcP]
  | cons t pt ih =>
    have h1 := h t (.head _)
    have h2 := ih fun q hq => h q (.tail _ hq)
    have h3 := srcK_len h1.2
    unfold srcP at h2 ⊢
    rw [List.flatMap_cons, List.length_append, List.length_cons]
    omega
theorem srcP_mem {kvs : Addr → List (List Str × Int)} {pt : List (Str × Addr)} {k : List Str} : k ∈ srcP kvs pt ↔ ∃ y ∈ pt.flatMap (fun t => (kvs t.2).map Prod.fst), ∃ n ≤ y.length, k = y.take n := by
  unfold srcP srcK preK
  simp only [List.mem_flatMap, List.mem_map, List.mem_range]
  constructor
  · rintro ⟨t, ht, p, hp, n, hn, rfl⟩
    exact ⟨p.1, ⟨t, ht, p, hp, rfl⟩, n, by omega, rfl⟩
  · rintro ⟨y, ⟨t, ht, p, hp, rfl⟩, n, hn, rfl⟩
    exact ⟨t, ht, p, hp, n, by omega, rfl⟩
def unT (d : D) : List Str := match d with
  | .tup xs => xs.filterMap fun x => match x with
    | .str s => some s
    | _ => none
  | _ => []
theorem unT_kT (k : List Str) : unT (kT k) = k := by
  unfold unT kT
  simp only
  induction k with
  | nil => rfl
  | cons x k ih => simp only [List.map_cons, List.filterMap_cons, ih]
theorem unT_map {ys : List D} {ks : List (List Str)} (h : ys.Perm (ks.map kT)) : ys = (ys.map unT).map kT ∧ (ys.map unT).Perm ks := by
  constructor
  · rw [List.map_map]
    conv => lhs; rw [← List.map_id ys]
    refine List.map_congr_left fun y hy => ?_
    obtain ⟨k, _, rfl⟩ := List.mem_map.mp (h.mem_iff.mp hy)
    simp [unT_kT]
  · have := h.map unT
    rw [List.map_map, show unT ∘ kT = id from funext unT_kT, List.map_id] at this
    exact this
theorem ob_beginnings : ∀ E ds M Q, S_beginnings E ds M Q → B_beginnings E (endsL Q) (start 6 ds) M := by
  intro E ds M Q h
  obtain ⟨x, rfl, a, pt, kvs, rfl, ea, hpl, hkv, hq⟩ := fn1_e h
  have hsz : 1000000 ≤ sizeLine := by decide
  simp [B_beginnings]
  intro c hc
  have hac : a ≠ c := ne_of ea hc
  refine go ?_
  simp [set_ne hac, ea]
  refine for_ind (fun xs e m => ∃ (dn rs : List (Str × Addr)) (ks : List (List Str)) (x2 x3 x4 x5 : Option D), xs = rs.map dPt ∧ dn ++ rs = pt ∧ e = [some (.ref a), some (.ref c), x2, x3, x4, x5] ∧ BgU (srcP kvs dn) ks ∧ m c = some (.dn (kB ks)) ∧ Le (M.set c (.dn (kB ks))) m)
    ?_ ?_ _ _ _ ⟨[], pt, [], none, none, none, none, rfl, rfl, rfl, ⟨by simp, by simp [srcP], by simp⟩, by rw [set_same]; rfl, Le.refl⟩
  · rintro x xs e m ⟨dn, rs, ks, x2, x3, x4, x5, hx, hd, rfl, hg, ec, hle⟩
    obtain ⟨t, rs, rfl, rfl, rfl⟩ := pcons hx
    have htp : t ∈ pt := by rw [← hd]; simp
    obtain ⟨et, htl, ht5⟩ := hkv t htp
    have htc : t.2 ≠ c := ne_of et hc
    have em : m t.2 = some (.dn ((kvs t.2).map kvI)) := hle _ _ (by rw [set_ne htc]; exact et)
    have hdl : dn.length ≤ 100 := by have := congrArg List.length hd; simp at this; omega
    have hsl := srcP_len (kvs := kvs) (pt := dn) fun u hu => ⟨(hkv u (by rw [← hd]; exact List.mem_append_left _ hu)).2.1, (hkv u (by rw [← hd]; exact List.mem_append_left _ hu)).2.2⟩
    refine ⟨hle _ _ (by rw [set_ne hac]; exact ea), fun N hN => ?_⟩
    simp [dPt, FB_beginnings_3, em]
    refine for_ind (fun xs e m' => ∃ (dk rk : List (List Str × Int)) (ks' : List (List Str)) (x4 x5 : Option D), xs = rk.map (fun p => kT p.1) ∧ dk ++ rk = kvs t.2 ∧ e = [some (.ref a), some (.ref c), some (.str t.1), some (.ref t.2), x4, x5] ∧ BgU (srcP kvs dn ++ srcK dk) ks' ∧
        m' c = some (.dn (kB ks')) ∧ m' t.2 = some (.dnF ((kvs t.2).map kvI)) ∧ Le ((M.set c (.dn (kB ks'))).set t.2 (.dnF ((kvs t.2).map kvI))) m')
      ?_ ?_ _ _ _ ⟨[], kvs t.2, ks, _, _, by simp [Function.comp_def, kvI], rfl, rfl, by simpa [srcK] using hg, by rw [set_ne htc.symm]; exact ec, set_same, hle.set⟩
    · rintro x xs e m' ⟨dk, rk, ks', y4, y5, hy, hdk, rfl, hg', ec', et', hle'⟩
      obtain ⟨p, rk, rfl, rfl, rfl⟩ := pcons hy
      have hp5 := ht5 p (by rw [← hdk]; simp)
      have hdkl : dk.length ≤ 243 := by have := congrArg List.length hdk; simp at this; omega
      have hskl := srcK_len (kv := dk) fun u hu => ht5 u (by rw [← hdk]; exact List.mem_append_left _ hu)
      refine ⟨et', fun N' hN' => ?_⟩
      simp [FB_beginnings_2, kT]
      refine ⟨by omega, by omega, ?_⟩
      refine for_ind (fun xs e m'' => ∃ (j : Nat) (ks'' : List (List Str)) (x5 : Option D), xs = rangeL (j : Int) ((p.1.length + 1 : Nat) : Int) ∧ j ≤ p.1.length + 1 ∧ e = [some (.ref a), some (.ref c), some (.str t.1), some (.ref t.2), some (kT p.1), x5] ∧ BgU (srcP kvs dn ++ srcK dk ++ (List.range j).map p.1.take) ks'' ∧
          m'' c = some (.dn (kB ks'')) ∧ m'' t.2 = some (.dnF ((kvs t.2).map kvI)) ∧ Le ((M.set c (.dn (kB ks''))).set t.2 (.dnF ((kvs t.2).map kvI))) m'')
        ?_ ?_ _ _ _ ⟨0, ks', _, by simp, by omega, rfl, by simpa using hg', ec', et', hle'⟩
      · rintro x xs e m'' ⟨j, ks'', z5, hz, hj, rfl, hg'', ec'', et'', hle''⟩
        obtain ⟨rfl, rfl, hj'⟩ := rng_cons hz
        refine ⟨trivial, fun N'' hN'' => ?_⟩
        have hcut : D.tup (cut (p.1.map D.str) none (some (j : Int))) = kT (p.1.take j) := by
          rw [cut_to _ (by omega), ← List.map_take]; rfl
        have hl := hg''.len
        simp at hl
        simp [FB_beginnings_1, kT, ec'']
        rw [hcut]
        refine ⟨nkOk_kT _, by simp [kB]; omega, hN'' _ _ ⟨j + 1, addK ks'' (p.1.take j), _, by simp, by omega, rfl, ?_, ?_, ?_, ?_⟩⟩
        · rw [List.range_succ, List.map_append, ← List.append_assoc]
          exact hg''.step _
        · rw [set_same, ins_kB]
        · rw [set_ne htc]; exact et''
        · rw [ins_kB]
          have := hle''.set (p := c) (o := .dn (kB (addK ks'' (p.1.take j))))
          rw [set_comm htc, set_set] at this
          exact this
      · rintro e m'' ⟨j, ks'', z5, hz, hj, rfl, hg'', ec'', et'', hle''⟩
        have := rng_nil hz hj
        subst this
        refine ⟨trivial, ?_⟩
        dsimp only
        refine hN' _ _ ⟨dk ++ [p], rk, ks'', _, _, rfl, by simpa using hdk, rfl, ?_, ec'', et'', hle''⟩
        have : srcK (dk ++ [p]) = srcK dk ++ (List.range (p.1.length + 1)).map p.1.take := by unfold srcK; rw [List.flatMap_append]; simp [preK]
        rw [this, ← List.append_assoc]
        exact hg''
    · rintro e m' ⟨dk, rk, ks', y4, y5, hy, hdk, rfl, hg', ec', et', hle'⟩
      have := pnil hy
      subst this
      rw [List.append_nil] at hdk
      subst hdk
      refine ⟨et', ?_⟩
      dsimp only
      refine ⟨et', hN _ _ ⟨dn ++ [t], rs, ks', _, _, _, _, rfl, by simpa using hd, rfl, ?_, ?_, ?_⟩⟩
      · have : srcP kvs (dn ++ [t]) = srcP kvs dn ++ srcK (kvs t.2) := by unfold srcP; rw [List.flatMap_append]; simp
        rw [this]; exact hg'
      · rw [set_ne htc.symm]; exact ec'
      · have := hle'.set (p := t.2) (o := .dn ((kvs t.2).map kvI))
        rw [set_set, set_self (by rw [set_ne htc]; exact et)] at this
        exact this
  · rintro e m ⟨dn, rs, ks, x2, x3, x4, x5, hx, hd, rfl, hg, ec, hle⟩
    have := pnil hx
    subst this
    rw [List.append_nil] at hd
    subst hd
    refine ⟨hle _ _ (by rw [set_ne hac]; exact ea), ?_⟩
    dsimp only
    refine go ?_
    simp [T_beginnings_1, ec]
    intro p hp
    refine ⟨fun x y hxy => ?_, fun ys p' hpm hpw hp' => ?_⟩
    · obtain ⟨k, _, e⟩ := List.mem_map.mp hxy
      cases e; rfl
    · rw [kB_keys] at hpm hp' ⊢
      obtain ⟨h1, h2⟩ := unT_map hpm
      obtain ⟨hp1, hp2⟩ := set_none.mp hp'
      have hMc := le_none hle hp2
      have hMp := (set_none.mp hMc).2
      have hMq := (set_none.mp (le_none hle hp)).2
      refine ⟨M.set p' (.lst ((ys.map unT).map kT)), ?_, hq p' (ys.map unT) hMp ⟨?_, ?_, ?_, ?_⟩⟩
      · rw [← h1]
        refine Le.set ?_
        intro x o e
        have hxc : x ≠ c := by rintro rfl; rw [hc] at e; cases e
        have hxp : x ≠ p := by rintro rfl; rw [hMq] at e; cases e
        rw [set_ne hxp]
        exact hle _ _ (by rw [set_ne hxc]; exact e)
      · exact h2.nodup_iff.mpr hg.nd
      · intro k
        rw [h2.mem_iff, hg.mem, srcP_mem]
      · rw [h1, List.pairwise_map] at hpw
        exact hpw.imp fun {a b} h => by simpa [lenT, kT] using h
      · rw [h2.length_eq]
        have h3 := hg.len
        have h4 := srcP_len (kvs := kvs) (pt := dn) fun u hu => ⟨(hkv u hu).2.1, (hkv u hu).2.2⟩
        omega
/-! ## calls within -/
theorem no_law_calls_within : ∀ E ds M Q, ¬ S_law_calls_within 0 E ds M Q := by
  intro E ds M Q h
  obtain ⟨x, y, rfl, b, ns, ls, k, nm, a, rfl, rfl, ea, hb, hk, hq⟩ := fn2_e h
  omega
theorem any_strs (ns : List Str) (w : Str) : ((ns.map D.str).any fun z => eqF z (.str w)) = decide (w ∈ ns) := by
  induction ns with
  | nil => rfl
  | cons n ns ih => simp only [List.map_cons, List.any_cons, ih]; simp [eqF, eq_comm]
theorem all_flat (ns : List Str) : (ns.map D.str).all flat = true := by simp [flat]
theorem any_strs' (ns : List Str) (w : Str) : (∃ z, z ∈ ns ∧ eqF (.str z) (.str w) = true) ↔ w ∈ ns := by simp [eqF]
theorem rw_all (nm : Str → Bool) : ∀ r : Rw, (r.l.map fun x => x.2.cin nm).all id = r.cin nm
  | .nil => rfl
  | .cons q b r => by
    have := rw_all nm r
    simp [Rw.l, Rw.cin] at this ⊢
    rw [this]
theorem ob_law_calls_within (n : Nat) : ∀ E ds M Q, S_law_calls_within (n + 1) E ds M Q → B_law_calls_within n E (endsL Q) (start 4 ds) M := by
  intro E ds M Q h
  obtain ⟨x, y, rfl, b, ns, ls, k, nm, a, rfl, rfl, ea, hb, hk, hq⟩ := fn2_e h
  have hsz := sizeLine_ge
  cases b with
  | fin =>
    simp [B_law_calls_within, Bd.d, dEnd]
    refine go ?_
    simp [T_law_calls_within_2]
    refine go ?_
    simp [T_law_calls_within_1]
    exact ⟨M, Le.refl, by simpa [Bd.cin] using hq⟩
  | stop =>
    simp [B_law_calls_within, Bd.d, dStop]
    refine go ?_
    simp [T_law_calls_within_2]
    refine go ?_
    simp [T_law_calls_within_1]
    exact ⟨M, Le.refl, by simpa [Bd.cin] using hq⟩
  | tell s b =>
    simp only [Bd.ok] at hb
    obtain ⟨_, m, rfl, hb⟩ := hb
    simp [B_law_calls_within, Bd.d]
    refine go ?_
    simp [T_law_calls_within_2]
    refine go ?_
    simp [T_law_calls_within_1, S_law_calls_within]
    refine ⟨b, rfl, ns, ls, m, nm, ea, hb, by omega, M, Le.refl, by simpa [Bd.cin] using hq⟩
  | call s b =>
    simp only [Bd.ok] at hb
    obtain ⟨_, m, rfl, hb⟩ := hb
    simp [B_law_calls_within, Bd.d, ea, flat]
    simp only [Bd.cin] at hq
    by_cases hs : s ∈ nm
    · rw [if_pos ((any_strs' nm s).mpr hs)]
      refine go ?_
      simp [T_law_calls_within_2]
      refine go ?_
      simp [T_law_calls_within_1, S_law_calls_within]
      refine ⟨b, rfl, ns, ls, m, nm, ea, hb, by omega, M, Le.refl, by simpa [hs] using hq⟩
    · rw [if_neg fun z => hs ((any_strs' nm s).mp z)]
      exact ⟨M, Le.refl, by simpa [hs] using hq⟩
  | draw r =>
    simp only [Bd.ok] at hb
    obtain ⟨hcut, m, rfl, hb⟩ := hb
    rw [rw_ok] at hb
    have hrl : r.l.length ≤ 3 := by have := (cuts_gf _ hcut).1; rw [rw_fs] at this; simpa using this
    simp [B_law_calls_within, Bd.d]
    refine go ?_
    simp [T_law_calls_within_2]
    intro p hp
    rw [rw_ds]
    refine comp_ind (fun acc xs m => ∃ dn rs : List ((Int × Int) × Bd), acc = dn.map (fun x => .bl (x.2.cin fun s => decide (s ∈ nm))) ∧ xs = rs.map dRB ∧ dn ++ rs = r.l ∧ m p = some (.lst acc) ∧ Le M m) ?_ ?_ _ [] _ ⟨[], r.l, rfl, rfl, rfl, set_same, Le.refl.fresh hp⟩
    · rintro x xs acc m' ⟨dn, rs, rfl, hx, hd, ep, hl⟩
      obtain ⟨u, rs, rfl, rfl, rfl⟩ := pcons hx
      have hdl : dn.length ≤ 3 := by have := congrArg List.length hd; simp at this; omega
      refine ⟨trivial, by simp; omega, fun T hT => ?_⟩
      simp [CE_law_calls_within_1, dRB, S_law_calls_within]
      refine ⟨u.2, rfl, ns, ls, m, nm, hl _ _ ea, hb u (by rw [← hd]; simp), by omega, hT _ _ ep ⟨dn ++ [u], rs, by simp, rfl, by simpa using hd, by rw [set_same], hl.fresh hp⟩⟩
    · rintro acc m' ⟨dn, rs, rfl, hx, hd, ep, hl⟩
      have := pnil hx
      subst this
      rw [List.append_nil] at hd
      subst hd
      refine ⟨trivial, ?_⟩
      simp [ep]
      rw [asBools_map r.l fun x => x.2.cin fun s => decide (s ∈ nm), onBs_some, rw_all]
      exact ⟨M, hl, by simpa [Bd.cin] using hq⟩
/-! ## the next number's bound -/
theorem lcm_less {l : List (Int × Int)} (h : l ∈ cuts) : 0 < lcmR l ∧ lcmR l < 1073741824 := ⟨(cuts_lcm l h).1, (cuts_lcm l h).2.1⟩
def lcG (f : Int) (l : List (Int × Int)) : Int := l.foldl (fun f r => f * r.2 / (Int.gcd f r.2 : Int)) f
theorem cut_dens {l : List (Int × Int)} (h : l ∈ cuts) {q : Int × Int} (hq : q ∈ l) : 0 < q.2 ∧ q.2 < 1073741824 ∧ 0 < q.1 ∧ q.1 < 1073741824 := (cuts_ok l h).1 q hq
theorem pairsB (ps : List (Str × Bd)) : pairsK (ps.map dBP) = some (kvB ps) := pairsK_map ps (·.1) (·.2.d)
theorem dictB {ps : List (Str × Bd)} (h : (ps.map Prod.fst).Nodup) : insAll [] (kvB ps) = kvB ps := by
  rw [kvB_P]; exact dict_prog (by rw [List.map_map]; exact h)
theorem rcons {x : D} {xs : List D} {w : Rw} (h : x :: xs = w.ds) : ∃ q b w', w = .cons q b w' ∧ x = .tup [dF q, b.d] ∧ xs = w'.ds := by
  cases w with
  | nil => simp [Rw.ds] at h
  | cons q b w' => simp only [Rw.ds, List.cons.injEq] at h; exact ⟨q, b, w', rfl, h.1, h.2⟩
theorem rnil {w : Rw} (h : [] = w.ds) : w = .nil := by
  cases w with
  | nil => rfl
  | cons q b w' => simp [Rw.ds] at h
def nxE (ps : List (Str × Bd)) (p : Str) (tp : List Int) (mo : Nat) (a b : Addr) (c used : Nat) (x5 x9 x10 x11 x12 x13 x14 : Option D) : Ev :=
  [some (D.tup (ps.map dBP)), some (D.str p), some (D.tup (tp.map D.int)), some (D.int mo), some (D.ref a), x5, some (D.ref b), some (D.int c), some (D.int used), x9, x10, x11, x12, x13, x14]
def NxI (M : Sto) (ps : List (Str × Bd)) (ns ls : List Str) (p : Str) (tp : List Int) (mo : Nat) (a b : Addr) (o : Out) (xs : List D) (e : Ev) (m : Sto) : Prop :=
  ∃ (f : Nat) (st : List Bd) (c used : Nat) (x5 x9 x10 x11 x12 x13 x14 : Option D), e = nxE ps p tp mo a b c used x5 x9 x10 x11 x12 x13 x14 ∧ m a = some (.dk (kvB ps)) ∧ m b = some (.lst (st.map (·.d)).reverse) ∧ Le M m ∧
    Gs (bdOf ps) ns ls st ∧ c ≤ mo ∧ used ≤ tp.length ∧ f ≤ xs.length ∧ st.length + f ≤ 20000 ∧ adv (bdOf ps) mo f st c (tp.drop used) = o
theorem ob_law_next : ∀ E ds M Q, S_law_next E ds M Q → B_law_next E (endsL Q) (start 15 ds) M := by
  intro E ds M Q h
  obtain ⟨x, y, z, u, rfl, ps, p, tp, mo, d, ns, ls, r, wr, c', rfl, rfl, rfl, rfl, hnd, hd, P, h1, h3, htl, hadv, hq⟩ := fn4_e h
  have hsz := sizeLine_ge
  simp [B_law_next, pairsB]
  intro a ha
  rw [dictB hnd]
  refine go ?_
  simp [lk_kvB, hd]
  intro b hb
  obtain ⟨hba, hb'⟩ := set_none.mp hb
  have hab : a ≠ b := Ne.symm hba
  refine go ?_
  simp
  refine for_ind (NxI M ps ns ls p tp mo a b (.need r wr c')) ?_ ?_ _ _ _ ⟨1500, [d], 1, 0, none, none, none, none, none, none, none, rfl, by rw [set_ne hab, set_same], by rw [set_same]; rfl, (Le.refl.fresh ha).fresh hb', ?_, h1, by omega, by rw [rangeL_len]; decide, by simp, by simpa using hadv⟩
  · rintro x xs e m ⟨f, st, c, used, x5, x9, x10, x11, x12, x13, x14, rfl, ea, eb, hl, hg, hc, hu, hf, hst, ho⟩
    refine ⟨trivial, fun N hN => ?_⟩
    have nxt : ∀ (m' : Sto) (f' : Nat) (st : List Bd) (c used : Nat) (x9 x10 x11 x12 x13 x14 : Option D), m' a = some (.dk (kvB ps)) → m' b = some (.lst (st.map (·.d)).reverse) → Le M m' → Gs (bdOf ps) ns ls st → c ≤ mo → used ≤ tp.length → f' ≤ xs.length → st.length + f' ≤ 20000 → adv (bdOf ps) mo f' st c (tp.drop used) = .need r wr c' →
        N (nxE ps p tp mo a b c used (some x) x9 x10 x11 x12 x13 x14) m' := fun m' f' st c used x9 x10 x11 x12 x13 x14 e1 e2 e3 e4 e5 e6 e7 e8 e9 => hN _ _ ⟨f', st, c, used, _, _, _, _, _, _, _, rfl, e1, e2, e3, e4, e5, e6, e7, e8, e9⟩
    clear hN
    simp only [List.length_cons] at hf
    cases f with
    | zero => simp [adv] at ho
    | succ f =>
      cases st with
      | nil => simp [adv] at ho
      | cons bd st =>
        simp only [List.length_cons] at hst
        rw [List.map_cons, List.reverse_cons] at eb
        simp [FB_law_next_3, nxE, eb]
        refine go ?_
        simp [T_law_next_4, eb]
        refine go ?_
        cases bd with
        | fin =>
          simp only [adv] at ho
          simp [Bd.d, dEnd]
          exact nxt _ f st c used _ _ _ _ _ _ (by rw [set_ne hab, ea]) (by rw [set_same]) (hl.fresh hb') hg.tl hc hu (by omega) (by omega) ho
        | stop => simp [adv] at ho
        | tell s b' =>
          simp only [adv] at ho
          simp [Bd.d]
          refine ⟨by omega, ?_⟩
          rw [set_set]
          exact nxt _ f (b' :: st) c used _ _ _ _ _ _ (by rw [set_ne hab, ea]) (by rw [set_same]; simp) (hl.fresh hb') hg.tell hc hu (by omega) (by simp; omega) ho
        | call s b' =>
          simp only [adv] at ho
          obtain ⟨hg', d', hd'⟩ := hg.call
          by_cases e : c = mo
          · rw [if_pos e] at ho; cases ho
          · rw [if_neg e, hd'] at ho
            dsimp only at ho
            simp [Bd.d]
            refine go ?_
            simp
            refine ⟨by omega, go ?_⟩
            simp [set_ne hab, ea, lk_kvB, hd']
            refine ⟨by omega, go ?_⟩
            simp
            rw [if_neg (by omega)]
            have hk := P.h s d' hd'
            simp only [set_set]
            exact nxt _ f (d' :: b' :: st) (c + 1) used _ _ _ _ _ _ (by rw [set_ne hab, ea]) (by rw [set_same]; simp) (hl.fresh hb') (Gs.cons (k := 5) (by omega) hk hg') (by omega) hu (by omega) (by simp; omega) ho
        | draw r' =>
          obtain ⟨hcut, hr⟩ := hg.draw
          have hlc := lcm_less hcut
          have hden := fun q hq => cut_dens hcut (q := q) hq
          simp [Bd.d]
          refine go ?_
          simp
          refine for_ind (fun xs' e m' => m' = m.set b (.lst (st.map (·.d)).reverse) ∧ ∃ (w : Rw) (g : Int) (x12 x13 : Option D), xs' = w.ds ∧ e = nxE ps p tp mo a b c used (some x) (some (.tup [.str "draw", .tup r'.ds])) (some (.int g)) x11 x12 x13 x14 ∧ (∀ q ∈ w.fs, q ∈ r'.fs) ∧ lcG g w.fs = lcmR r'.fs)
            ?_ ?_ _ _ _ ⟨rfl, r', 1, _, _, rfl, rfl, fun q hq => hq, rfl⟩
          · rintro y ys e m' ⟨rfl, w, g, y12, y13, hy, rfl, hw, hgw⟩
            obtain ⟨q, b', w, rfl, rfl, rfl⟩ := rcons hy
            simp only [Rw.fs, List.mem_cons] at hw
            have hdq := hden q (hw q (.inl rfl))
            have g0 := gcd_pos' (n := g) hdq.1
            have g1 := Int.gcd_le_right g hdq.1
            refine ⟨trivial, fun N' hN' => ?_⟩
            simp [FB_law_next_1, nxE, dF, S_law_divisor, fdiv_pos g0]
            refine ⟨mulOk_small (by omega), hdq.1, Sm.mono (m := 31) ⟨by omega⟩ (by decide), by omega, np_small (by omega), hN' _ _ ⟨rfl, w, _, _, _, rfl, rfl, fun v hv => hw v (.inr hv), by simpa [lcG, Rw.fs] using hgw⟩⟩
          · rintro e m' ⟨rfl, w, g, y12, y13, hy, rfl, hw, hgw⟩
            have := rnil hy
            subst this
            have hgw : g = lcmR r'.fs := hgw
            subst hgw
            refine ⟨trivial, ?_⟩
            dsimp only
            refine go ?_
            have lp : ∀ (D' : Ends) (num : Int) (used' : Nat) (b' : Bd), D'.nx = N → 0 ≤ num → r'.pick (lcmR r'.fs) num = some b' → Gs (bdOf ps) ns ls (b' :: st) → used' ≤ tp.length → adv (bdOf ps) mo f (b' :: st) c (tp.drop used') = .need r wr c' → ∀ y12 y13 y14,
                forL (gTup [gName 12, gName 13]) FB_law_next_2 (fun _ => True) r'.ds E D' (nxE ps p tp mo a b c used' (some x) (some (.tup [.str "draw", .tup r'.ds])) (some (.int (lcmR r'.fs))) (some (.int num)) y12 y13 y14) (m.set b (.lst (st.map (·.d)).reverse)) := by
              intro D' num used' b' hD hn hpk hgb hu' hov y12 y13 y14
              refine for_ind (fun xs' e m' => ∃ (w : Rw) (num' : Int) (x12 x13 x14 : Option D), xs' = w.ds ∧ e = nxE ps p tp mo a b c used' (some x) (some (.tup [.str "draw", .tup r'.ds])) (some (.int (lcmR r'.fs))) (some (.int num')) x12 x13 x14 ∧ (∀ q ∈ w.fs, q ∈ r'.fs) ∧
                  ((0 ≤ num' ∧ w.pick (lcmR r'.fs) num' = some b' ∧ m' = m.set b (.lst (st.map (·.d)).reverse)) ∨ (num' < 0 ∧ m' = m.set b (.lst ((b' :: st).map (·.d)).reverse))))
                ?_ ?_ _ _ _ ⟨r', num, _, _, _, rfl, rfl, fun q hq => hq, .inl ⟨hn, hpk, rfl⟩⟩
              · rintro y ys e m' ⟨w, num', z12, z13, z14, hy, rfl, hw, hh⟩
                obtain ⟨q, b2, w, rfl, rfl, rfl⟩ := rcons hy
                simp only [Rw.fs, List.mem_cons] at hw
                have hdq := hden q (hw q (.inl rfl))
                have hs0 : 0 ≤ q.1 * (lcmR r'.fs / q.2) := Int.mul_nonneg (by omega) (Int.ediv_nonneg (by omega) (by omega))
                refine ⟨trivial, fun N' hN' => ?_⟩
                simp [FB_law_next_2, nxE, dF, fdiv_pos hdq.1]
                refine ⟨by omega, np_small (by omega), mulOk_small' (by omega), go ?_⟩
                simp
                generalize hsh : q.1 * (lcmR r'.fs / q.2) = sh at *
                rcases hh with ⟨h0, hp, rfl⟩ | ⟨h0, rfl⟩
                · rw [if_pos h0]
                  rw [Rw.pick, hsh] at hp
                  by_cases hlt : num' < sh
                  · rw [if_pos hlt] at hp ⊢
                    cases hp
                    simp
                    refine ⟨by omega, go ?_⟩
                    simp [T_law_next_1]
                    refine hN' _ _ ⟨w, _, _, _, _, rfl, rfl, fun v hv => hw v (.inr hv), .inr ⟨by omega, ?_⟩⟩
                    rw [set_set]; simp
                  · rw [if_neg hlt] at hp ⊢
                    refine go ?_
                    simp [T_law_next_1]
                    exact hN' _ _ ⟨w, _, _, _, _, rfl, rfl, fun v hv => hw v (.inr hv), .inl ⟨by omega, hp, rfl⟩⟩
                · rw [if_neg (by omega)]
                  refine go ?_
                  simp [T_law_next_1]
                  exact hN' _ _ ⟨w, _, _, _, _, rfl, rfl, fun v hv => hw v (.inr hv), .inr ⟨by omega, by simp⟩⟩
              · rintro e m' ⟨w, num', z12, z13, z14, hy, rfl, hw, hh⟩
                have := rnil hy
                subst this
                rcases hh with ⟨h0, hp, rfl⟩ | ⟨h0, rfl⟩
                · simp [Rw.pick] at hp
                · refine ⟨trivial, ?_⟩
                  rw [hD]
                  exact nxt _ f (b' :: st) c used' _ _ _ _ _ _ (by rw [set_ne hab, ea]) (by rw [set_same]) (hl.fresh hb') hgb hc hu' (by omega) (by simp; omega) hov
            simp only [adv] at ho
            simp [T_law_next_3, nxE]
            by_cases e1 : lcmR r'.fs = 1
            · rw [if_pos e1] at ho
              rw [if_neg (by omega)]
              obtain ⟨b', rfl⟩ := one_cut hcut e1
              simp only [Rw.one?] at ho
              refine go ?_
              simp [T_law_next_2, e1]
              refine go ?_
              simp
              refine go ?_
              simp
              have := lp { nx := N, rt := (endsL Q).rt, bk := K (T_law_next_5 E (endsL Q)), ct := N } 0 used b' rfl (Int.le_refl _) (by rw [e1]; simp [Rw.pick]) (hr ((1, 1), b') (by simp [Rw.l])) hu ho y12 y13 x14
              rw [e1] at this
              exact this
            · rw [if_neg e1] at ho
              rw [if_pos (by omega)]
              by_cases hul : used = tp.length
              · subst hul
                rw [List.drop_length] at ho
                simp only [Out.need.injEq] at ho
                obtain ⟨rfl, rfl, rfl⟩ := ho
                simp
                exact ⟨M, hl.fresh hb', hq⟩
              · have hlt : used < tp.length := by omega
                rw [List.drop_eq_getElem_cons hlt] at ho
                dsimp only at ho
                obtain ⟨b', hb2, q, hq2⟩ := pick_ok hcut tp[used]
                rw [hb2] at ho
                dsimp only at ho
                rw [if_neg (by omega)]
                refine go ?_
                have h1l : 1 < lcmR r'.fs := by omega
                simp [T_law_next_2]
                rw [if_pos h1l]
                simp [hlt]
                refine ⟨by omega, go ?_⟩
                simp [h1l]
                refine go ?_
                simp
                rw [fmod_pos (by omega)]
                exact lp { nx := N, rt := (endsL Q).rt, bk := K (T_law_next_5 E (endsL Q)), ct := N } (tp[used] % lcmR r'.fs) (used + 1) b' rfl (Int.emod_nonneg _ (by omega)) hb2 (hr _ hq2) (by omega) ho y12 y13 x14
  · rintro e m ⟨f, st, c, used, x5, x9, x10, x11, x12, x13, x14, rfl, ea, eb, hl, hg, hc, hu, hf, hst, ho⟩
    simp only [List.length_nil] at hf
    have : f = 0 := by omega
    subst this
    simp [adv] at ho
  · intro b' hb
    have : b' = d := by simpa using hb
    subst this
    exact ⟨5, by omega, P.h p b' hd⟩
end DL

set_option Elab.async false
set_option linter.all false
set_option maxRecDepth 100000
set_option maxHeartbeats 4000000
/-! K34A: lists of whole numbers that stand for sequences of chances -/
namespace DL
open PySem
def pw (B : Int) (n : Nat) : Rat := ((B ^ n : Int) : Rat)
theorem pw_zero (B : Int) : pw B 0 = 1 := by simp [pw]
theorem pw_succ (B : Int) (n : Nat) : pw B (n + 1) = pw B n * (B : Rat) := by unfold pw; rw [Int.pow_succ, Rat.intCast_mul]
def zz (f : Sq) (B : Int) (n : Nat) : List Int := (List.range n).map fun i => (f i * pw B i).num
structure LZ (f : Sq) (B : Int) (n u : Nat) : Prop where
  h : ∀ i < n, ((f i * pw B i).num : Rat) = f i * pw B i ∧ (f i * pw B i).num.natAbs ≤ u
theorem zz_len {f : Sq} {B : Int} {n : Nat} : (zz f B n).length = n := by simp [zz]
theorem LZ.snoc {f : Sq} {B : Int} {n u v : Nat} (h : LZ f B n u) {z : Int} (e : (z : Rat) = f n * pw B n) (hz : z.natAbs ≤ v) (huv : u ≤ v) : LZ f B (n + 1) v ∧ zz f B n ++ [z] = zz f B (n + 1) := by
  have en : (f n * pw B n).num = z := by rw [← e]; exact Rat.num_intCast z
  refine ⟨⟨fun i hi => ?_⟩, ?_⟩
  · by_cases hin : i = n
    · subst hin
      rw [en]; exact ⟨e, hz⟩
    · have := h.h i (by omega)
      exact ⟨this.1, Nat.le_trans this.2 huv⟩
  · unfold zz
    rw [List.range_succ, List.map_append, List.map_cons, List.map_nil, en]
theorem LZ.mono {f : Sq} {B : Int} {n u v : Nat} (h : LZ f B n u) (huv : u ≤ v) : LZ f B n v := ⟨fun i hi => ⟨(h.h i hi).1, Nat.le_trans (h.h i hi).2 huv⟩⟩
theorem LZ.bd {f : Sq} {B : Int} {n u : Nat} (h : LZ f B n u) : ∀ z ∈ zz f B n, z.natAbs ≤ u := by
  intro z hz
  obtain ⟨i, hi, rfl⟩ := List.mem_map.mp hz
  exact (h.h i (List.mem_range.mp hi)).2
theorem LZ.cast {f : Sq} {B : Int} {n u : Nat} (h : LZ f B n u) : (zz f B n).map (fun z : Int => (z : Rat)) = (List.range n).map fun i => f i * pw B i := by
  unfold zz
  rw [List.map_map]
  exact List.map_congr_left fun i hi => (h.h i (List.mem_range.mp hi)).1
theorem conv_zip : ∀ (n : Nat) (f g : Sq), (List.zipWith (· * ·) ((List.range (n + 1)).map f) ((List.range (n + 1)).map g).reverse).sum = conv f g n
  | 0, f, g => by simp [conv, Rat.add_zero]
  | n + 1, f, g => by
    have ih := conv_zip n (fun i => f (i + 1)) g
    rw [show (List.range (n + 1 + 1)).map f = f 0 :: (List.range (n + 1)).map fun i => f (i + 1) by rw [List.range_succ_eq_map]; simp]
    rw [show ((List.range (n + 1 + 1)).map g).reverse = g (n + 1) :: ((List.range (n + 1)).map g).reverse by rw [List.range_succ, List.map_append, List.reverse_append]; simp]
    rw [List.zipWith_cons_cons, List.sum_cons, ih]
    rfl
theorem conv_pw (B : Int) (g : Sq) : ∀ (n : Nat) (f : Sq), conv (fun i => f i * pw B i) (fun i => g i * pw B i) n = conv f g n * pw B n
  | 0, f => by simp [conv, pw_zero, Rat.mul_one]
  | n + 1, f => by
    have ih := conv_pw B g n (fun i => f (i + 1) * (B : Rat))
    simp only [conv]
    rw [conv_congr n (f := fun i => f (i + 1) * pw B (i + 1)) (f' := fun i => f (i + 1) * (B : Rat) * pw B i) (g := fun i => g i * pw B i) (g' := fun i => g i * pw B i) (fun i _ => by rw [pw_succ]; grind) (fun _ _ => rfl), ih]
    rw [conv_congr n (f := fun i => f (i + 1) * (B : Rat)) (f' := fun i => (B : Rat) * f (i + 1)) (g := g) (g' := g) (fun i _ => by grind) (fun _ _ => rfl), conv_mul_l n (B : Rat) (fun i => f (i + 1)) g]
    rw [pw_zero, pw_succ]; grind
theorem cast_zip : ∀ as bs : List Int, (((List.zipWith (· * ·) as bs).sum : Int) : Rat) = (List.zipWith (· * ·) (as.map fun z : Int => (z : Rat)) (bs.map fun z : Int => (z : Rat))).sum
  | [], _ => by simp
  | _ :: _, [] => by simp
  | a :: as, b :: bs => by
    simp only [List.zipWith_cons_cons, List.map_cons, List.sum_cons]
    rw [Rat.intCast_add, Rat.intCast_mul, cast_zip as bs]
theorem cast_sum : ∀ as : List Int, ((as.sum : Int) : Rat) = (as.map fun z : Int => (z : Rat)).sum
  | [] => by simp
  | a :: as => by simp only [List.map_cons, List.sum_cons]; rw [Rat.intCast_add, cast_sum as]
theorem zip_bd {ua ub : Nat} : ∀ as bs : List Int, (∀ a ∈ as, a.natAbs ≤ ua) → (∀ b ∈ bs, b.natAbs ≤ ub) → (List.zipWith (· * ·) as bs).sum.natAbs ≤ as.length * (ua * ub)
  | [], _, _, _ => by simp
  | _ :: _, [], _, _ => by simp
  | a :: as, b :: bs, ha, hb => by
    simp only [List.zipWith_cons_cons, List.sum_cons, List.length_cons]
    have h1 := ha a (.head _)
    have h2 := hb b (.head _)
    have h3 := zip_bd as bs (fun x hx => ha x (.tail _ hx)) fun x hx => hb x (.tail _ hx)
    have h4 : (a * b).natAbs ≤ ua * ub := by rw [Int.natAbs_mul]; exact Nat.mul_le_mul h1 h2
    have h5 := Int.natAbs_add_le (a * b) (List.zipWith (· * ·) as bs).sum
    rw [Nat.add_mul, Nat.one_mul]
    exact Nat.le_trans h5 (by omega)
theorem sum_bd {u : Nat} : ∀ as : List Int, (∀ a ∈ as, a.natAbs ≤ u) → as.sum.natAbs ≤ as.length * u
  | [], _ => by simp
  | a :: as, ha => by
    simp only [List.sum_cons, List.length_cons]
    have h1 := ha a (.head _)
    have h3 := sum_bd as (fun x hx => ha x (.tail _ hx))
    have h5 := Int.natAbs_add_le a as.sum
    rw [Nat.add_mul, Nat.one_mul]
    exact Nat.le_trans h5 (by omega)
/-- the products' next -/
theorem prod_next {f g : Sq} {B : Int} {n ua ub : Nat} (hf : LZ f B (n + 1) ua) (hg : LZ g B (n + 1) ub) :
    (((List.zipWith (· * ·) (zz f B (n + 1)) (zz g B (n + 1)).reverse).sum : Int) : Rat) = conv f g n * pw B n ∧ (List.zipWith (· * ·) (zz f B (n + 1)) (zz g B (n + 1)).reverse).sum.natAbs ≤ (n + 1) * (ua * ub) := by
  constructor
  · rw [cast_zip, List.map_reverse, hf.cast, hg.cast, conv_zip, conv_pw]
  · have := zip_bd (zz f B (n + 1)) (zz g B (n + 1)).reverse hf.bd fun b hb => hg.bd b (List.mem_reverse.mp hb)
    rwa [zz_len] at this
/-! ## how big -/
def U : Nat → Nat
  | 0 => 1
  | n + 1 => 243 * (2 ^ 104 * (3 * U n) ^ 5)
def V (n l : Nat) : Nat := (3 * U n) ^ l
theorem U_pos : ∀ n, 1 ≤ U n
  | 0 => Nat.le_refl _
  | n + 1 => by
    have := U_pos n
    unfold U
    have h1 : 1 ≤ (3 * U n) ^ 5 := Nat.pos_of_ne_zero (Nat.ne_of_gt (Nat.pow_pos (by omega)))
    have h2 : 1 ≤ 2 ^ 104 * (3 * U n) ^ 5 := Nat.mul_pos (by decide) h1
    omega
theorem U_le (n : Nat) : U n ≤ U (n + 1) := by
  have h0 := U_pos n
  rw [show U (n + 1) = 243 * (2 ^ 104 * (3 * U n) ^ 5) from rfl]
  have h1 : 3 * U n ≤ (3 * U n) ^ 5 := Nat.le_self_pow (by decide) _
  have h2 : (3 * U n) ^ 5 ≤ 2 ^ 104 * (3 * U n) ^ 5 := Nat.le_mul_of_pos_left _ (by decide)
  omega
theorem V_pos (n l : Nat) : 1 ≤ V n l := Nat.pow_pos (by have := U_pos n; omega)
theorem V_mono {n l : Nat} : V n l ≤ V (n + 1) l := Nat.pow_le_pow_left (by have := U_le n; omega) _
theorem V_le {n l : Nat} (h : l ≤ 5) : V n l ≤ V n 5 := Nat.pow_le_pow_right (by have := U_pos n; omega) h
theorem V_next {n k l : Nat} (h : k ≤ 3) : k * (V n l * U n) ≤ V n (l + 1) := by
  unfold V
  rw [Nat.pow_succ]
  have : k * ((3 * U n) ^ l * U n) ≤ 3 * ((3 * U n) ^ l * U n) := Nat.mul_le_mul_right _ h
  calc k * ((3 * U n) ^ l * U n) ≤ 3 * ((3 * U n) ^ l * U n) := this
    _ = (3 * U n) ^ l * (3 * U n) := by rw [Nat.mul_left_comm]
theorem U3 : U 3 < 2 ^ 4000 := by decide +kernel
theorem V25 : V 2 5 < 2 ^ 4000 := by decide +kernel
theorem U_lt {n : Nat} (h : n ≤ 3) : U n < 2 ^ 4000 := by
  have h1 := U_le 0; have h2 := U_le 1; have h3 := U_le 2; have h4 := U3
  match n, h with
  | 0, _ => exact Nat.lt_of_le_of_lt (Nat.le_trans h1 (Nat.le_trans h2 h3)) h4
  | 1, _ => exact Nat.lt_of_le_of_lt (Nat.le_trans h2 h3) h4
  | 2, _ => exact Nat.lt_of_le_of_lt h3 h4
  | 3, _ => exact h4
theorem V_lt {n l : Nat} (h : n ≤ 2) (hl : l ≤ 5) : V n l < 2 ^ 4000 := by
  have h1 := V_mono (n := 0) (l := 5); have h2 := V_mono (n := 1) (l := 5); have h4 := V25
  refine Nat.lt_of_le_of_lt (V_le hl) ?_
  match n, h with
  | 0, _ => exact Nat.lt_of_le_of_lt (Nat.le_trans h1 h2) h4
  | 1, _ => exact Nat.lt_of_le_of_lt h2 h4
  | 2, _ => exact h4
/-! ## fractions -/
theorem ratio_d {n d : Int} (h : 0 < d) {q : Rat} (e : (n : Rat) = q * (d : Rat)) : fr n d = (q.num, (q.den : Int)) := by
  have hg : 0 < (Int.gcd n d : Int) := gcd_pos' h
  have h1 : (Int.gcd n d : Int) ∣ n := Int.gcd_dvd_left ..
  have h2 : (Int.gcd n d : Int) ∣ d := Int.gcd_dvd_right ..
  have e1 := Int.mul_ediv_cancel' h1
  have e2 := Int.mul_ediv_cancel' h2
  have p2 : 0 < (fr n d).2 := Int.ediv_pos_of_pos_of_dvd h (Int.le_of_lt hg) h2
  have g1 : Int.gcd (fr n d).1 (fr n d).2 = 1 := Int.gcd_ediv_gcd_ediv_gcd (by omega)
  refine Vf_inj p2 (by have := q.den_nz; simp only; omega) g1 q.reduced ?_
  have e3 : Vf (q.num, (q.den : Int)) = q := by
    unfold Vf
    rw [← Rat.divInt_eq_div]; exact Rat.num_divInt_den q
  rw [e3]
  have a2 := cast_ne h
  have a3 := cast_ne p2
  have a4 := cast_ne hg
  unfold Vf
  unfold fr at *
  simp only at *
  generalize n / (Int.gcd n d : Int) = a at *
  generalize d / (Int.gcd n d : Int) = b at *
  generalize (Int.gcd n d : Int) = g at *
  rw [← e1, ← e2, Rat.intCast_mul, Rat.intCast_mul] at e
  grind
theorem fr_le {n d : Int} (h : 0 < d) : (fr n d).1.natAbs ≤ n.natAbs ∧ (fr n d).2.natAbs ≤ d.natAbs := by
  have hg : 0 < (Int.gcd n d : Int) := gcd_pos' h
  unfold fr
  exact ⟨Int.natAbs_ediv_le_natAbs _ _, Int.natAbs_ediv_le_natAbs _ _⟩
/-! ## what the calls of ways are -/
mutual
theorem ways_cin {nm : Str → Bool} : ∀ (b : Bd) (w : Wy), b.cin nm = true → (∀ s ∈ w.cs, nm s = true) → ∀ v ∈ b.ways w, ∀ s ∈ v.cs, nm s = true
  | .fin, w, _, hw, v, hv, s, hs => by
    simp only [Bd.ways, List.mem_singleton] at hv
    subst hv; exact hw s hs
  | .stop, w, _, hw, v, hv, s, hs => by simp [Bd.ways] at hv
  | .tell t b, w, h, hw, v, hv, s, hs => by
    simp only [Bd.ways] at hv
    simp only [Bd.cin] at h
    exact ways_cin b ⟨w.ch, w.cs, w.ls ++ [t]⟩ h hw v hv s hs
  | .call t b, w, h, hw, v, hv, s, hs => by
    simp only [Bd.ways] at hv
    simp only [Bd.cin, Bool.and_eq_true] at h
    refine ways_cin b ⟨w.ch, w.cs ++ [t], w.ls⟩ h.2 (fun x hx => ?_) v hv s hs
    rcases List.mem_append.mp hx with hx | hx
    · exact hw x hx
    · rw [List.mem_singleton.mp hx]; exact h.1
  | .draw r, w, h, hw, v, hv, s, hs => by
    simp only [Bd.ways] at hv
    simp only [Bd.cin] at h
    exact rways_cin r w h hw v hv s hs
theorem rways_cin {nm : Str → Bool} : ∀ (r : Rw) (w : Wy), r.cin nm = true → (∀ s ∈ w.cs, nm s = true) → ∀ v ∈ r.ways w, ∀ s ∈ v.cs, nm s = true
  | .nil, w, _, hw, v, hv, s, hs => by simp [Rw.ways] at hv
  | .cons q b r, w, h, hw, v, hv, s, hs => by
    simp only [Rw.ways, List.mem_append] at hv
    simp only [Rw.cin, Bool.and_eq_true] at h
    rcases hv with hv | hv
    · exact ways_cin b ⟨mulF w.ch q, w.cs, w.ls⟩ h.1 hw v hv s hs
    · exact rways_cin r w h.2 hw v hv s hs
end
theorem mrg_cs : ∀ (more acc : List Wy) (P : List Str → Prop), (∀ w ∈ acc, P w.cs) → (∀ w ∈ more, P w.cs) → ∀ w ∈ more.foldl mrg acc, P w.cs
  | [], acc, P, h, _, w, hw => h w hw
  | v :: more, acc, P, h, hm, w, hw => by
    rw [List.foldl_cons] at hw
    refine mrg_cs more (mrg acc v) P (fun x hx => ?_) (fun x hx => hm x (.tail _ hx)) w hw
    rw [mrg_s] at hx
    split at hx
    · obtain ⟨y, hy, rfl⟩ := List.mem_map.mp hx
      have : (upW v y).cs = y.cs := by unfold upW; split <;> rfl
      rw [this]; exact h y hy
    · rcases List.mem_append.mp hx with hx | hx
      · exact h x hx
      · rw [List.mem_singleton.mp hx]; exact hm v (.head _)
theorem alts_cin {nm : Str → Bool} {b : Bd} (h : b.cin nm = true) : ∀ w ∈ b.alts, ∀ s ∈ w.cs, nm s = true :=
  mrg_cs (b.ways w0) [] (fun cs => ∀ s ∈ cs, nm s = true) (by simp) (ways_cin b w0 h (by simp [w0]))
/-! ## numbers of the merged -/
theorem sum_map_mulr {α : Type} (x : α → Rat) (c : Rat) : ∀ ws : List α, (ws.map fun w => x w * c).sum = (ws.map x).sum * c
  | [] => by simp
  | w :: ws => by simp only [List.map_cons, List.sum_cons]; rw [sum_map_mulr x c ws]; grind
theorem whole_part {f : Int × Int} {B : Int} (h : 0 < f.2) (hd : f.2 ∣ B) : ((f.1 * (B / f.2) : Int) : Rat) = Vf f * (B : Rat) := by
  obtain ⟨m, rfl⟩ := hd
  rw [Int.mul_ediv_cancel_left _ (by omega)]
  have := cast_ne h
  unfold Vf
  rw [Rat.intCast_mul, Rat.intCast_mul]
  grind
theorem number_eq {ws : List Wy} {B : Int} {kv : KI} {A : Str → Sq} {n : Nat} (h : Mg ws B kv) (hw : ∀ w ∈ ws, 0 < w.ch.2 ∧ w.ch.2 ∣ B) : (kv.map fun p => (p.2 : Rat) * (Mp A p.1 n * pw B n)).sum = wsum A ws n * pw B (n + 1) := by
  rw [h.sum (fun k => Mp A k n * pw B n) fun a b hp => by rw [Mp_perm A hp]]
  unfold wsum
  rw [← sum_map_mulr]
  congr 1
  refine List.map_congr_left fun w hww => ?_
  rw [whole_part (hw w hww).1 (hw w hww).2, pw_succ]
  grind
theorem tbOf_mem {ps : List (Str × Bd)} (nd : (ps.map Prod.fst).Nodup) {p : Str × Bd} (hp : p ∈ ps) : tbOf ps p.1 = p.2.alts := by
  have : ps.find? (fun x => decide (x.1 = p.1)) = some p := by
    induction ps with
    | nil => simp at hp
    | cons x ps ih =>
      rw [List.map_cons, List.nodup_cons] at nd
      rw [List.find?_cons]
      rcases List.mem_cons.mp hp with rfl | hp
      · simp
      · have : x.1 ≠ p.1 := fun e => nd.1 (e ▸ List.mem_map.mpr ⟨p, hp, rfl⟩)
        simp [this]
        exact ih nd.2 hp
  unfold tbOf
  rw [this]
end DL

set_option Elab.async false
set_option linter.all false
set_option maxRecDepth 100000
set_option maxHeartbeats 4000000
/-! K34L: lengths walked, the making of its tables -/
namespace DL
open PySem
theorem names_ok : ∀ ns ∈ allN, ∀ s ∈ ns, PyData.strOk s = true := by decide +kernel
theorem pls_str : ∀ {xs : List Str}, (∀ s ∈ xs, PyData.strOk s = true) → plsB (xs.map .str) = true
  | [], _ => rfl
  | x :: xs, h => by
    simp only [List.map_cons, plsB, plB, Bool.and_eq_true]
    exact ⟨h x (.head _), pls_str fun s hs => h s (.tail _ hs)⟩
theorem dpts_str : ∀ xs : List Str, dpts (xs.map .str) = 0
  | [] => rfl
  | x :: xs => by simp [dpts, dpt, dpts_str xs]
theorem pl_kT {k : List Str} (h : ∀ s ∈ k, PyData.strOk s = true) : plB (kT k) = true ∧ dpt (kT k) ≤ 64 := by
  constructor
  · simp [kT, plB, pls_str h]
  · simp [kT, dpt, dpts_str]
/-- a dict of lists by names -/
def kvS (ns : List Str) (ad : Str → Addr) : List (Key × D) := ns.map fun x => (.inr x, .ref (ad x))
theorem lk_kvS {ns : List Str} {ad : Str → Addr} {x : Str} (h : x ∈ ns) : lk (kvS ns ad) (.inr x) = some (.ref (ad x)) := by
  induction ns with
  | nil => simp at h
  | cons y ns ih =>
    unfold kvS
    rw [List.map_cons, lk]
    by_cases e : y = x
    · rw [if_pos (by rw [e]), e]
    · rw [if_neg (by simpa using e)]
      exact ih ((List.mem_cons.mp h).resolve_left (Ne.symm e))
theorem kvS_keys (ns : List Str) (ad : Str → Addr) : (kvS ns ad).map Prod.fst = ns.map Sum.inr := by unfold kvS; rw [List.map_map]; rfl
theorem kvS_snoc {ns : List Str} {ad : Str → Addr} {x : Str} {p : Addr} (h : x ∉ ns) : ins (kvS ns ad) (.inr x) (.ref p) = kvS (ns ++ [x]) fun s => if s = x then p else ad s := by
  rw [ins_new]
  · unfold kvS
    rw [List.map_append]
    congr 1
    · refine List.map_congr_left fun y hy => ?_
      have : y ≠ x := fun e => h (e ▸ hy)
      simp [this]
    · simp
  · rw [kvS_keys]
    intro hm
    obtain ⟨y, hy, e⟩ := List.mem_map.mp hm
    exact h (Sum.inr.inj e ▸ hy)
/-- a dict of lists by keys -/
def kvT (ks : List (List Str)) (pd : List Str → Addr) : List (D × D) := ks.map fun k => (kT k, .ref (pd k))
theorem lk_kvT {ks : List (List Str)} {pd : List Str → Addr} {k : List Str} (h : k ∈ ks) : lk (kvT ks pd) (kT k) = some (.ref (pd k)) := by
  induction ks with
  | nil => simp at h
  | cons y ks ih =>
    unfold kvT
    rw [List.map_cons, lk]
    by_cases e : y = k
    · rw [if_pos (by rw [e]), e]
    · rw [if_neg fun z => e (kT_inj z)]
      exact ih ((List.mem_cons.mp h).resolve_left (Ne.symm e))
theorem kvT_keys (ks : List (List Str)) (pd : List Str → Addr) : (kvT ks pd).map Prod.fst = ks.map kT := by unfold kvT; rw [List.map_map]; rfl
theorem kvT_snoc {ks : List (List Str)} {pd : List Str → Addr} {x : List Str} {p : Addr} (h : x ∉ ks) : ins (kvT ks pd) (kT x) (.ref p) = kvT (ks ++ [x]) fun s => if s = x then p else pd s := by
  rw [ins_new]
  · unfold kvT
    rw [List.map_append]
    congr 1
    · refine List.map_congr_left fun y hy => ?_
      have : y ≠ x := fun e => h (e ▸ hy)
      simp [this]
    · simp
  · rw [kvT_keys]
    intro hm
    obtain ⟨y, hy, e⟩ := List.mem_map.mp hm
    exact h (kT_inj e ▸ hy)
/-- such lists stand, each at a place of its own, none of it taken before -/
structure Ls {α : Type} (M : Sto) (xs : List α) (ad : α → Addr) (v : α → List D) (m : Sto) : Prop where
  at_ : ∀ x ∈ xs, m (ad x) = some (.lst (v x))
  nw : ∀ x ∈ xs, M (ad x) = none
  inj : ∀ x ∈ xs, ∀ y ∈ xs, ad x = ad y → x = y
theorem Ls.snoc {α : Type} [DecidableEq α] {M m : Sto} {xs : List α} {ad : α → Addr} {v : α → List D} {x : α} {p : Addr} (h : Ls M xs ad v m) (hl : Le M m) (hp : m p = none) (hx : x ∉ xs) : Ls M (xs ++ [x]) (fun s => if s = x then p else ad s) v (m.set p (.lst (v x))) := by
  have hne : ∀ y ∈ xs, ad y ≠ p := fun y hy => ne_of (h.at_ y hy) hp
  have hyx : ∀ y ∈ xs, y ≠ x := fun y hy e => hx (e ▸ hy)
  refine ⟨fun y hy => ?_, fun y hy => ?_, fun y hy z hz => ?_⟩
  · rcases List.mem_append.mp hy with hy | hy
    · rw [if_neg (hyx y hy), set_ne (hne y hy)]; exact h.at_ y hy
    · rw [List.mem_singleton.mp hy, if_pos rfl, set_same]
  · rcases List.mem_append.mp hy with hy | hy
    · rw [if_neg (hyx y hy)]; exact h.nw y hy
    · rw [List.mem_singleton.mp hy, if_pos rfl]; exact le_none hl hp
  · rcases List.mem_append.mp hy with hy | hy <;> rcases List.mem_append.mp hz with hz | hz
    · rw [if_neg (hyx y hy), if_neg (hyx z hz)]; exact h.inj y hy z hz
    · rw [if_neg (hyx y hy), List.mem_singleton.mp hz, if_pos rfl]; exact fun e => absurd e (hne y hy)
    · rw [if_neg (hyx z hz), List.mem_singleton.mp hy, if_pos rfl]; exact fun e => absurd e.symm (hne z hz)
    · rw [List.mem_singleton.mp hy, List.mem_singleton.mp hz]; exact fun _ => rfl
theorem Ls.other {α : Type} {M m : Sto} {xs : List α} {ad : α → Addr} {v : α → List D} {q : Addr} {o : O} (h : Ls M xs ad v m) (hq : ∀ x ∈ xs, ad x ≠ q) : Ls M xs ad v (m.set q o) := ⟨fun x hx => by rw [set_ne (hq x hx)]; exact h.at_ x hx, h.nw, h.inj⟩
theorem Ls.fresh {α : Type} {M m : Sto} {xs : List α} {ad : α → Addr} {v : α → List D} {q : Addr} {o : O} (h : Ls M xs ad v m) (hq : m q = none) : Ls M xs ad v (m.set q o) := h.other fun x hx => ne_of (h.at_ x hx) hq
def ptOf (ns : List Str) (ad : Str → Addr) : List (Str × Addr) := ns.map fun x => (x, ad x)
/-- the dict comprehension of one list for each name -/
theorem dict_lists {E : XW} {M : Sto} {Q : KD} {a : Addr} {ns : List Str} {ad : Str → Addr} {x0 x1 x2 x3 x5 x6 x7 x8 x9 x10 x11 x12 x13 x14 x15 x16 x17 x18 : Option D} (v : D) (nd : ns.Nodup) (hn : ns.length ≤ 1000) (hM : M a = some (.lst ((ptOf ns ad).map dPt)))
    (hq : ∀ p sd m, M p = none → Le (M.set p (.dk (kvS ns sd))) m → m p = some (.dk (kvS ns sd)) → Ls (M.set p (.dk [])) ns sd (fun _ => [v]) m → Q (.ref p) m) :
    eDcK (iVal (eVar 4)) [12, 13] (gTup [(gName 12), (gName 13)]) tYes (eVar 12) (eLst [(eC v)]) E [x0, x1, x2, x3, some (.ref a), x5, x6, x7, x8, x9, x10, x11, x12, x13, x14, x15, x16, x17, x18] M Q := by
  have hsz := sizeLine_ge
  simp [hM]
  intro p hp
  have hap : a ≠ p := ne_of hM hp
  refine dcomp_ind (fun xs m => ∃ (dn rs : List Str) (sd : Str → Addr), xs = (ptOf rs ad).map dPt ∧ dn ++ rs = ns ∧ m p = some (.dk (kvS dn sd)) ∧ Le (M.set p (.dk (kvS dn sd))) m ∧ Ls (M.set p (.dk [])) dn sd (fun _ => [v]) m) ?_ insK_mono ?_ _ _ ⟨[], ns, fun _ => p, by simp [ptOf], rfl, by rw [set_same]; rfl, Le.refl, ⟨by simp, by simp, by simp⟩⟩
  · rintro x xs m ⟨dn, rs, sd, hx, hd, ep, hl, hL⟩
    obtain ⟨r, rs, rfl⟩ : ∃ r rs', rs = r :: rs' := by
      cases rs with
      | nil => simp [ptOf] at hx
      | cons r rs => exact ⟨r, rs, rfl⟩
    simp only [ptOf, List.map_cons, List.cons.injEq] at hx
    obtain ⟨rfl, rfl⟩ := hx
    have hr : r ∉ dn := by
      rw [← hd, List.nodup_append] at nd
      exact fun h => nd.2.2 r h r (.head _) rfl
    have hdl : dn.length ≤ 1000 := by have := congrArg List.length hd; simp at this; omega
    refine ⟨hl _ _ (by rw [set_ne hap]; exact hM), fun T hT => ?_⟩
    simp [dPt]
    intro q hq'
    have hqp : p ≠ q := ne_of ep hq'
    refine hT _ _ _ ?_
    rw [set_ne hqp, ep, insK_S]
    have hle : Le (M.set p (.dk [])) (m.set p (.dk [])) := by
      have := hl.set (p := p) (o := .dk [])
      rwa [set_set] at this
    have hqn : (m.set p (.dk [])) q = none := by rw [set_ne hqp.symm]; exact hq'
    have hMq : M q = none := by
      have := le_none hle hqn
      rwa [set_ne hqp.symm] at this
    have hLp : ∀ x ∈ dn, sd x ≠ p := fun x hx e => by
      have := hL.at_ x hx
      rw [e, ep] at this; cases this
    refine ⟨by simp [kvS]; omega, dn ++ [r], rs, fun s => if s = r then q else sd s, rfl, by simpa using hd, ?_, ?_, ?_⟩
    · rw [set_same, kvS_snoc hr]
    · rw [kvS_snoc hr]
      have := (hl.fresh (o := .lst [v]) (show (M.set p (.dk (kvS dn sd))) q = none by rw [set_ne hqp.symm]; exact hMq)).set (p := p) (o := .dk (kvS (dn ++ [r]) fun s => if s = r then q else sd s))
      rwa [set_set] at this
    · have hL2 := (hL.other (q := p) (o := .dk []) hLp).snoc (x := r) (p := q) hle hqn hr
      refine ⟨fun y hy => ?_, hL2.nw, hL2.inj⟩
      have := hL2.at_ y hy
      have hyp : (if y = r then q else sd y) ≠ p := by
        split
        · exact hqp.symm
        · rcases List.mem_append.mp hy with hy | hy
          · exact hLp y hy
          · exact absurd (List.mem_singleton.mp hy) (by assumption)
      rw [set_ne hyp]
      rw [set_comm hqp, set_ne hyp] at this
      exact this
  · rintro m ⟨dn, rs, sd, hx, hd, ep, hl, hL⟩
    have : rs = [] := by
      cases rs with
      | nil => rfl
      | cons r rs => simp [ptOf] at hx
    subst this
    rw [List.append_nil] at hd
    subst hd
    exact ⟨hl _ _ (by rw [set_ne hap]; exact hM), hq p sd m hp hl ep hL⟩
theorem dict_keys {E : XW} {M : Sto} {Q : KD} {a : Addr} {ks : List (List Str)} {x0 x1 x2 x3 x4 x6 x7 x8 x9 x10 x11 x12 x13 x14 x15 x16 x17 x18 : Option D} (nd : ks.Nodup) (hn : ks.length < sizeLine) (hM : M a = some (.lst (ks.map kT)))
    (hq : ∀ p pd m, M p = none → Le (M.set p (.dn (kvT ks pd))) m → m p = some (.dn (kvT ks pd)) → Ls (M.set p (.dn [])) ks pd (fun _ => []) m → Q (.ref p) m) :
    eDcN (iVal (eVar 5)) [11] (gName 11) tYes (eVar 11) (eLst []) E [x0, x1, x2, x3, x4, some (.ref a), x6, x7, x8, x9, x10, x11, x12, x13, x14, x15, x16, x17, x18] M Q := by
  simp [hM]
  intro p hp
  have hap : a ≠ p := ne_of hM hp
  refine dcomp_ind (fun xs m => ∃ (dn rs : List (List Str)) (sd : List Str → Addr), xs = rs.map kT ∧ dn ++ rs = ks ∧ m p = some (.dn (kvT dn sd)) ∧ Le (M.set p (.dn (kvT dn sd))) m ∧ Ls (M.set p (.dn [])) dn sd (fun _ => []) m) ?_ insN_mono ?_ _ _ ⟨[], ks, fun _ => p, rfl, rfl, by rw [set_same]; rfl, Le.refl, ⟨by simp, by simp, by simp⟩⟩
  · rintro x xs m ⟨dn, rs, sd, hx, hd, ep, hl, hL⟩
    obtain ⟨r, rs, rfl, rfl, rfl⟩ := pcons hx
    have hr : r ∉ dn := by
      rw [← hd, List.nodup_append] at nd
      exact fun h => nd.2.2 r h r (.head _) rfl
    have hdl : dn.length < sizeLine := by have := congrArg List.length hd; simp at this; omega
    refine ⟨hl _ _ (by rw [set_ne hap]; exact hM), fun T hT => ?_⟩
    simp
    intro q hq'
    have hqp : p ≠ q := ne_of ep hq'
    refine hT _ _ _ ?_
    rw [set_ne hqp, ep, insN_s]
    have hle : Le (M.set p (.dn [])) (m.set p (.dn [])) := by
      have := hl.set (p := p) (o := .dn [])
      rwa [set_set] at this
    have hqn : (m.set p (.dn [])) q = none := by rw [set_ne hqp.symm]; exact hq'
    have hMq : M q = none := by
      have := le_none hle hqn
      rwa [set_ne hqp.symm] at this
    have hLp : ∀ x ∈ dn, sd x ≠ p := fun x hx e => by
      have := hL.at_ x hx
      rw [e, ep] at this; cases this
    refine ⟨nkOk_kT r, by simpa [kvT] using hdl, dn ++ [r], rs, fun s => if s = r then q else sd s, rfl, by simpa using hd, ?_, ?_, ?_⟩
    · rw [set_same, kvT_snoc hr]
    · rw [kvT_snoc hr]
      have := (hl.fresh (o := .lst []) (show (M.set p (.dn (kvT dn sd))) q = none by rw [set_ne hqp.symm]; exact hMq)).set (p := p) (o := .dn (kvT (dn ++ [r]) fun s => if s = r then q else sd s))
      rwa [set_set] at this
    · have hL2 := (hL.other (q := p) (o := .dn []) hLp).snoc (x := r) (p := q) hle hqn hr
      refine ⟨fun y hy => ?_, hL2.nw, hL2.inj⟩
      have := hL2.at_ y hy
      have hyp : (if y = r then q else sd y) ≠ p := by
        split
        · exact hqp.symm
        · rcases List.mem_append.mp hy with hy | hy
          · exact hLp y hy
          · exact absurd (List.mem_singleton.mp hy) (by assumption)
      rw [set_ne hyp]
      rw [set_comm hqp, set_ne hyp] at this
      exact this
  · rintro m ⟨dn, rs, sd, hx, hd, ep, hl, hL⟩
    have := pnil hx
    subst this
    rw [List.append_nil] at hd
    subst hd
    exact ⟨hl _ _ (by rw [set_ne hap]; exact hM), hq p sd m hp hl ep hL⟩
end DL

set_option Elab.async false
set_option linter.all false
set_option maxRecDepth 100000
set_option maxHeartbeats 4000000
/-! K34O: lengths walked, the numbers -/
namespace DL
open PySem
abbrev nmsB (ps : List (Str × Bd)) : List Str := ps.map Prod.fst
structure LC (ps : List (Str × Bd)) (mo : Nat) (B : Int) (F : Sto) (a4 a5 a6 a7 a8 : Addr) (ad sd fd : Str → Addr) (pd : List Str → Addr) (kvs : Addr → KI) (ks : List (List Str)) : Prop where
  nd : (nmsB ps).Nodup
  pl : ps.length ≤ 4
  B0 : 0 < B
  sB : Sm 88 B
  mo3 : mo ≤ 3
  bd : ∀ p ∈ ps, ∀ w ∈ p.2.alts, 0 < w.ch.2 ∧ w.ch.2 ∣ B
  mg : ∀ p ∈ ps, Mg p.2.alts B (kvs (ad p.1))
  ml : ∀ p ∈ ps, p.2.alts.length ≤ 243
  kcs : ∀ p ∈ ps, ∀ q ∈ kvs (ad p.1), q.1 ∈ ks
  kin : ∀ k ∈ ks, ∀ s ∈ k, s ∈ nmsB ps
  k5 : ∀ k ∈ ks, k.length ≤ 5
  kok : ∀ k ∈ ks, ∀ s ∈ k, PyData.strOk s = true
  kpre : ∀ k' s, k' ++ [s] ∈ ks → k' ∈ ks
  ksrt : ks.Pairwise fun a b => a.length ≤ b.length
  knd : ks.Nodup
  f4 : F a4 = some (.lst ((ptOf (nmsB ps) ad).map dPt))
  f5 : F a5 = some (.lst (ks.map kT))
  f6 : F a6 = some (.dk (kvS (nmsB ps) sd))
  f7 : F a7 = some (.dk (kvS (nmsB ps) fd))
  f8 : F a8 = some (.dn (kvT ks pd))
  fa : ∀ x ∈ nmsB ps, F (ad x) = some (.dn ((kvs (ad x)).map kvI))
  ns : ∀ x ∈ nmsB ps, F (sd x) = none
  nf : ∀ x ∈ nmsB ps, F (fd x) = none
  np : ∀ k ∈ ks, F (pd k) = none
  is : ∀ x ∈ nmsB ps, ∀ y ∈ nmsB ps, sd x = sd y → x = y
  iff : ∀ x ∈ nmsB ps, ∀ y ∈ nmsB ps, fd x = fd y → x = y
  ip : ∀ x ∈ ks, ∀ y ∈ ks, pd x = pd y → x = y
  sf : ∀ x ∈ nmsB ps, ∀ y ∈ nmsB ps, sd x ≠ fd y
  sp : ∀ x ∈ nmsB ps, ∀ k ∈ ks, sd x ≠ pd k
  fp : ∀ x ∈ nmsB ps, ∀ k ∈ ks, fd x ≠ pd k
/-- how the lists stand -/
structure LH (F : Sto) (ns : List Str) (ks : List (List Str)) (sd fd : Str → Addr) (pd : List Str → Addr) (vs vf : Str → List D) (vp : List Str → List D) (m : Sto) : Prop where
  le : Le F m
  s : ∀ x ∈ ns, m (sd x) = some (.lst (vs x))
  f : ∀ x ∈ ns, m (fd x) = some (.lst (vf x))
  p : ∀ k ∈ ks, m (pd k) = some (.lst (vp k))
section
variable {ps : List (Str × Bd)} {mo : Nat} {B : Int} {F : Sto} {a4 a5 a6 a7 a8 : Addr} {ad sd fd : Str → Addr} {pd : List Str → Addr} {kvs : Addr → KI} {ks : List (List Str)} {vs vf : Str → List D} {vp : List Str → List D} {m m' : Sto}
theorem LH.mono (h : LH F (nmsB ps) ks sd fd pd vs vf vp m) (hl : Le m m') : LH F (nmsB ps) ks sd fd pd vs vf vp m' := ⟨h.le.trans hl, fun x hx => hl _ _ (h.s x hx), fun x hx => hl _ _ (h.f x hx), fun x hx => hl _ _ (h.p x hx)⟩
theorem LH.congr {vs' vf' : Str → List D} {vp' : List Str → List D} (h : LH F (nmsB ps) ks sd fd pd vs vf vp m) (h1 : ∀ x ∈ nmsB ps, vs x = vs' x) (h2 : ∀ x ∈ nmsB ps, vf x = vf' x) (h3 : ∀ x ∈ ks, vp x = vp' x) : LH F (nmsB ps) ks sd fd pd vs' vf' vp' m :=
  ⟨h.le, fun x hx => by rw [← h1 x hx]; exact h.s x hx, fun x hx => by rw [← h2 x hx]; exact h.f x hx, fun x hx => by rw [← h3 x hx]; exact h.p x hx⟩
theorem LH.setS (C : LC ps mo B F a4 a5 a6 a7 a8 ad sd fd pd kvs ks) (h : LH F (nmsB ps) ks sd fd pd vs vf vp m) {x : Str} (hx : x ∈ nmsB ps) (l : List D) : LH F (nmsB ps) ks sd fd pd (fun y => if y = x then l else vs y) vf vp (m.set (sd x) (.lst l)) := by
  refine ⟨h.le.fresh (C.ns x hx), fun y hy => ?_, fun y hy => ?_, fun k hk => ?_⟩
  · by_cases e : y = x
    · rw [e, if_pos rfl, set_same]
    · rw [if_neg e, set_ne fun z => e (C.is y hy x hx z)]; exact h.s y hy
  · rw [set_ne (C.sf x hx y hy).symm]; exact h.f y hy
  · rw [set_ne (C.sp x hx k hk).symm]; exact h.p k hk
theorem LH.setF (C : LC ps mo B F a4 a5 a6 a7 a8 ad sd fd pd kvs ks) (h : LH F (nmsB ps) ks sd fd pd vs vf vp m) {x : Str} (hx : x ∈ nmsB ps) (l : List D) : LH F (nmsB ps) ks sd fd pd vs (fun y => if y = x then l else vf y) vp (m.set (fd x) (.lst l)) := by
  refine ⟨h.le.fresh (C.nf x hx), fun y hy => ?_, fun y hy => ?_, fun k hk => ?_⟩
  · rw [set_ne (C.sf y hy x hx)]; exact h.s y hy
  · by_cases e : y = x
    · rw [e, if_pos rfl, set_same]
    · rw [if_neg e, set_ne fun z => e (C.iff y hy x hx z)]; exact h.f y hy
  · rw [set_ne (C.fp x hx k hk).symm]; exact h.p k hk
theorem LH.setP (C : LC ps mo B F a4 a5 a6 a7 a8 ad sd fd pd kvs ks) (h : LH F (nmsB ps) ks sd fd pd vs vf vp m) {x : List Str} (hx : x ∈ ks) (l : List D) : LH F (nmsB ps) ks sd fd pd vs vf (fun y => if y = x then l else vp y) (m.set (pd x) (.lst l)) := by
  refine ⟨h.le.fresh (C.np x hx), fun y hy => ?_, fun y hy => ?_, fun k hk => ?_⟩
  · rw [set_ne (C.sp y hy x hx)]; exact h.s y hy
  · rw [set_ne (C.fp y hy x hx)]; exact h.f y hy
  · by_cases e : k = x
    · rw [e, if_pos rfl, set_same]
    · rw [if_neg e, set_ne fun z => e (C.ip k hk x hx z)]; exact h.p k hk
end
def vZ (f : Sq) (B : Int) (n : Nat) : List D := (zz f B n).map .int
def vR (f : Sq) (n : Nat) : List D := (List.range n).map fun i => dRat (f i)
theorem vZ_len {f : Sq} {B : Int} {n : Nat} : (vZ f B n).length = n := by simp [vZ, zz_len]
theorem vR_len {f : Sq} {n : Nat} : (vR f n).length = n := by simp [vR]
theorem vZ_snoc {f : Sq} {B : Int} {n : Nat} {z : Int} (h : zz f B n ++ [z] = zz f B (n + 1)) : vZ f B n ++ [.int z] = vZ f B (n + 1) := by unfold vZ; rw [← h]; simp
theorem vR_snoc {f : Sq} {n : Nat} : vR f n ++ [dRat (f n)] = vR f (n + 1) := by unfold vR; rw [List.range_succ]; simp
def lnE (ps : List (Str × Bd)) (mo : Nat) (tb : D) (B : Int) (a4 a5 a6 a7 a8 : Addr) (pwr : Int) (x10 x11 x12 x13 x14 x15 x16 x17 x18 : Option D) : Ev :=
  [some (.tup (ps.map dBP)), some (.int mo), some tb, some (.int B), some (.ref a4), some (.ref a5), some (.ref a6), some (.ref a7), some (.ref a8), some (.int pwr), x10, x11, x12, x13, x14, x15, x16, x17, x18]
section
variable {ps : List (Str × Bd)} {mo : Nat} {B : Int} {F : Sto} {a4 a5 a6 a7 a8 : Addr} {ad sd fd : Str → Addr} {pd : List Str → Addr} {kvs : Addr → KI} {ks : List (List Str)} {A : Str → Sq}
theorem cut_init {α : Type} (xs : List α) (x : α) : cut (xs ++ [x]) none (some (-1)) = xs := by
  unfold cut HT.sIx
  simp
  rw [show ((-1 : Int) + ((xs.length : Int) + 1)).toNat = xs.length by omega]
  simp
def mulV (x : D) : D := match x with
  | .tup [.int a, .int b] => .int (a * b)
  | _ => .non
theorem zip_val : ∀ as bs : List Int, (zipL (as.map .int) (bs.map .int)).map mulV = (List.zipWith (· * ·) as bs).map .int ∧ ∀ x ∈ zipL (as.map .int) (bs.map .int), ∃ a ∈ as, ∃ b ∈ bs, x = .tup [.int a, .int b]
  | [], _ => by simp [zipL]
  | _ :: _, [] => by simp [zipL]
  | a :: as, b :: bs => by
    obtain ⟨h1, h2⟩ := zip_val as bs
    unfold zipL at h1 h2 ⊢
    refine ⟨?_, fun x hx => ?_⟩
    · simp only [List.map_cons, List.zipWith_cons_cons]
      rw [h1]; rfl
    · simp only [List.map_cons, List.zipWith_cons_cons] at hx
      rcases List.mem_cons.mp hx with rfl | hx
      · exact ⟨a, .head _, b, .head _, rfl⟩
      · obtain ⟨a', ha, b', hb, e⟩ := h2 x hx
        exact ⟨a', .tail _ ha, b', .tail _ hb, e⟩
/-- the keys' loop -/
theorem keys_loop (C : LC ps mo B F a4 a5 a6 a7 a8 ad sd fd pd kvs ks) {j : Nat} (hj : j < mo) {E : XW} {D' : Ends} {tb : D} {x11 x12 x13 x14 x15 x16 x17 x18 : Option D} {m : Sto}
    (h : LH F (nmsB ps) ks sd fd pd (fun x => vZ (A x) B (j + 1)) (fun x => vR (A x) (j + 1)) (fun k => vZ (Mp A k) B j) m) (hA : ∀ x ∈ nmsB ps, LZ (A x) B (j + 1) (U j)) (hP : ∀ k ∈ ks, LZ (Mp A k) B j (V j k.length))
    (hD : ∀ y11 y12 y13 y14 y15 y16 y17 y18 m', LH F (nmsB ps) ks sd fd pd (fun x => vZ (A x) B (j + 1)) (fun x => vR (A x) (j + 1)) (fun k => vZ (Mp A k) B (j + 1)) m' → (∀ k ∈ ks, LZ (Mp A k) B (j + 1) (V j k.length)) →
      D'.nx (lnE ps mo tb B a4 a5 a6 a7 a8 (B ^ j) (some (.int ((j : Int) + 1))) y11 y12 y13 y14 y15 y16 y17 y18) m') :
    forL (gName 11) FB_lengths_1 (fun M' => M' a5 = some (.lst (ks.map kT))) (ks.map kT) E D' (lnE ps mo tb B a4 a5 a6 a7 a8 (B ^ j) (some (.int ((j : Int) + 1))) x11 x12 x13 x14 x15 x16 x17 x18) m := by
  have hsz := sizeLine_ge
  have hmo := C.mo3
  refine for_ind (fun xs e m' => ∃ (dk rk : List (List Str)) (y11 y12 y13 y14 y15 y16 y17 y18 : Option D), xs = rk.map kT ∧ dk ++ rk = ks ∧ e = lnE ps mo tb B a4 a5 a6 a7 a8 (B ^ j) (some (.int ((j : Int) + 1))) y11 y12 y13 y14 y15 y16 y17 y18 ∧
      LH F (nmsB ps) ks sd fd pd (fun x => vZ (A x) B (j + 1)) (fun x => vR (A x) (j + 1)) (fun k => vZ (Mp A k) B (if k ∈ dk then j + 1 else j)) m' ∧ ∀ k ∈ dk, LZ (Mp A k) B (j + 1) (V j k.length))
    ?_ ?_ _ _ _ ⟨[], ks, _, _, _, _, _, _, _, _, rfl, rfl, rfl, by simpa using h, by simp⟩
  · rintro x xs e m' ⟨dk, rk, y11, y12, y13, y14, y15, y16, y17, y18, hx, hd, rfl, hL, hZ⟩
    obtain ⟨k, rk, rfl, rfl, rfl⟩ := pcons hx
    have hk : k ∈ ks := by rw [← hd]; simp
    have hkd : k ∉ dk := by
      have := C.knd
      rw [← hd, List.nodup_append] at this
      exact fun z => this.2.2 k z k (.head _) rfl
    refine ⟨hL.le _ _ C.f5, fun N hN => ?_⟩
    have nxt : ∀ (z : Int) (y12 y13 y14 y15 y16 y17 y18 : Option D) (m2 : Sto), Le m' m2 → (z : Rat) = Mp A k j * pw B j → z.natAbs ≤ V j k.length → N (lnE ps mo tb B a4 a5 a6 a7 a8 (B ^ j) (some (.int ((j : Int) + 1))) (some (kT k)) y12 y13 y14 y15 y16 y17 y18) (m2.set (pd k) (.lst (vZ (Mp A k) B j ++ [.int z]))) := by
      intro z y12 y13 y14 y15 y16 y17 y18 m2 hl he hb
      obtain ⟨s1, s2⟩ := (hP k hk).snoc he hb (Nat.le_refl _)
      refine hN _ _ ⟨dk ++ [k], rk, _, _, _, _, _, _, _, _, rfl, by simpa using hd, rfl, ((hL.mono hl).setP C hk _).congr (fun _ _ => rfl) (fun _ _ => rfl) ?_, ?_⟩
      · intro y hy
        by_cases e : y = k
        · subst e
          rw [if_pos rfl, vZ_snoc s2]
          simp
        · rw [if_neg e]
          simp [e]
      · intro y hy
        rcases List.mem_append.mp hy with hy | hy
        · exact hZ y hy
        · rw [List.mem_singleton.mp hy]; exact s1
    clear hN
    have hpk : m' (pd k) = some (.lst (vZ (Mp A k) B j)) := by
      have := hL.p k hk
      rwa [if_neg hkd] at this
    have h8 : m' a8 = some (.dn (kvT ks pd)) := hL.le _ _ C.f8
    have h6 : m' a6 = some (.dk (kvS (nmsB ps) sd)) := hL.le _ _ C.f6
    obtain ⟨p1, p2⟩ := pl_kT (C.kok k hk)
    simp [FB_lengths_1, lnE]
    refine cEq_pl p1 rfl p2 (by simp [dpt, dpts]) ?_
    by_cases hk0 : k = []
    · subst hk0
      simp [kT, h8, subO_dn]
      rw [show D.tup [] = kT [] from rfl, lk_kvT hk]
      simp [hpk]
      rw [vZ_len]
      refine ⟨nkOk_kT _, by omega, ?_⟩
      refine nxt _ _ _ _ _ _ _ _ _ Le.refl ?_ ?_
      · rw [Mp_nil]
        unfold one
        by_cases e : j = 0
        · subst e; simp [pw_zero, Rat.mul_one]
        · rw [if_neg (by omega), if_neg e]; simp
      · have := V_pos j ([] : List Str).length
        split <;> simp <;> omega
    · have e0 : ¬ kT k = .tup [] := fun e => hk0 (kT_inj (e.trans rfl))
      obtain ⟨k', s, rfl⟩ : ∃ k' s, k = k' ++ [s] := ⟨k.dropLast, k.getLast hk0, (List.dropLast_concat_getLast hk0).symm⟩
      simp [e0, kT, h8, subO_dn]
      have ec : D.tup (cut (k'.map D.str ++ [D.str s]) none (some (-1))) = kT k' := by rw [cut_init]; rfl
      rw [ec]
      have hkk : k' ∈ ks := C.kpre k' s hk
      have hk'd : k' ∈ dk := by
        rw [← hd] at hkk
        rcases List.mem_append.mp hkk with z | z
        · exact z
        · rcases List.mem_cons.mp z with z | z
          · have := congrArg List.length z; simp at this
          · have hs := C.ksrt
            rw [← hd, List.pairwise_append, List.pairwise_cons] at hs
            have := hs.2.1.1 k' z
            simp at this
            omega
      have hs : s ∈ nmsB ps := C.kin _ hk s (by simp)
      have hk5 := C.k5 _ hk
      have hpk' : m' (pd k') = some (.lst (vZ (Mp A k') B (j + 1))) := by
        have := hL.p k' hkk
        rwa [if_pos hk'd] at this
      have hps := hL.s s hs
      refine ⟨nkOk_kT _, ?_⟩
      rw [lk_kvT hkk]
      simp [h6, show ((-1 : Int) + ((k'.length : Int) + 1)).toNat = k'.length by omega]
      rw [if_pos (by omega)]
      simp [lk_kvS hs]
      refine go ?_
      simp [h8, subO_dn]
      rw [show D.tup (k'.map D.str ++ [D.str s]) = kT (k' ++ [s]) by simp [kT], lk_kvT hk]
      refine ⟨nkOk_kT _, ?_⟩
      simp [hpk, hps]
      intro q hq
      have hne : ∀ {x : Addr} {o : O}, m' x = some o → x ≠ q := fun h => ne_of h hq
      rw [set_ne (hne hpk'), hpk']
      simp
      intro p hp
      have hmp := (set_none.mp hp).2
      have hpn := hP _ hk
      obtain ⟨z1, z2⟩ := prod_next (hZ k' hk'd) (hA s hs)
      have hlen : (zipL (vZ (Mp A k') B (j + 1)) (vZ (A s) B (j + 1)).reverse).length ≤ 4 := by
        unfold zipL; rw [List.length_zipWith, vZ_len]; have := C.mo3; omega
      have hval := zip_val (zz (Mp A k') B (j + 1)) (zz (A s) B (j + 1)).reverse
      rw [List.map_reverse] at hval
      refine comp_map mulV (fun m2 => Le (m'.set q (.lst (vZ (A s) B (j + 1)).reverse)) m2) (fun m2 o hm => hm.fresh hp) (fun m2 hm => ⟨hm _ _ (by rw [set_ne (hne hpk')]; exact hpk'), hm _ _ set_same⟩) _ [] _ ?_ (by simp; omega) set_same (Le.refl.fresh hp) ?_
      · intro x hx m2 T hm hT
        obtain ⟨a, ha, b, hb, rfl⟩ := hval.2 x hx
        have h1 := (hZ k' hk'd).bd a ha
        have h2 := (hA s hs).bd b (List.mem_reverse.mp hb)
        have hj2 : j ≤ 2 := by have := C.mo3; omega
        have h3 := V_lt (n := j) (l := k'.length) hj2 (by simp at hk5; omega)
        have h4 := U_lt (n := j) (by omega)
        simp [CE_lengths_5]
        exact ⟨(show Sm 4000 a from ⟨by omega⟩).mulOk (show Sm 4000 b from ⟨by omega⟩) (by decide), hT⟩
      · rw [set_set]
        simp only [List.nil_append]
        rw [show (zipL (vZ (Mp A k') B (j + 1)) (vZ (A s) B (j + 1)).reverse).map mulV = (List.zipWith (· * ·) (zz (Mp A k') B (j + 1)) (zz (A s) B (j + 1)).reverse).map D.int from hval.1]
        have hai := asInts_map (List.zipWith (· * ·) (zz (Mp A k') B (j + 1)) (zz (A s) B (j + 1)).reverse) fun x => x
        have hpp : pd (k' ++ [s]) ≠ p := ne_of hpk hmp
        simp only [set_same, lstD_ref, lstO_lst, hai, onIs_some, List.map_id', set_ne hpp, set_ne (hne hpk), hpk]
        refine ⟨by rw [vZ_len]; omega, ?_⟩
        refine nxt _ _ _ _ _ _ _ _ _ ((Le.refl.fresh hq).fresh hmp) ?_ ?_
        · rw [z1, Mp_snoc]
        · refine Nat.le_trans z2 ?_
          rw [List.length_append]
          exact V_next (by omega)
  · rintro e m' ⟨dk, rk, y11, y12, y13, y14, y15, y16, y17, y18, hx, hd, rfl, hL, hZ⟩
    have := pnil hx
    subst this
    rw [List.append_nil] at hd
    subst hd
    refine ⟨hL.le _ _ C.f5, hD _ _ _ _ _ _ _ _ _ (hL.congr (fun _ _ => rfl) (fun _ _ => rfl) fun k hk => ?_) hZ⟩
    rw [if_pos hk]
def zi (f : Sq) (B : Int) (j : Nat) : Int := (f j * pw B j).num
theorem vZ_get {f : Sq} {B : Int} {j : Nat} : (vZ f B (j + 1))[j]? = some (.int (zi f B j)) := by
  unfold vZ zz
  simp [zi]
theorem sm_pow {B : Int} (h : Sm 88 B) {n : Nat} (hn : n ≤ 3) : Sm 300 (B ^ n) := by
  refine ⟨?_⟩
  rw [Int.natAbs_pow]
  have h1 := Nat.pow_le_pow_left (Nat.le_of_lt h.h) n
  rw [← Nat.pow_mul 2 88 n] at h1
  have h3 : 88 * n < 300 := by omega
  exact Nat.lt_of_le_of_lt h1 (Nat.pow_lt_pow_right (by decide) h3)
theorem parts_loop (C : LC ps mo B F a4 a5 a6 a7 a8 ad sd fd pd kvs ks) {j : Nat} (hj : j < mo) {E : XW} {D' : Ends} {tb : D} {x11 x12 x13 x14 x15 x16 x17 x18 : Option D} {m : Sto}
    (h : LH F (nmsB ps) ks sd fd pd (fun x => vZ (A x) B (j + 1)) (fun x => vR (A x) (j + 1)) (fun k => vZ (Mp A k) B (j + 1)) m) (hA : ∀ x ∈ nmsB ps, LZ (A x) B (j + 1) (U j)) (hP : ∀ k ∈ ks, LZ (Mp A k) B (j + 1) (V j k.length))
    (hS : ∀ p ∈ ps, A p.1 (j + 1) = wsum A p.2.alts j)
    (hD : ∀ y11 y12 y13 y14 y15 y16 y17 y18 m', LH F (nmsB ps) ks sd fd pd (fun x => vZ (A x) B (j + 2)) (fun x => vR (A x) (j + 2)) (fun k => vZ (Mp A k) B (j + 1)) m' → (∀ x ∈ nmsB ps, LZ (A x) B (j + 2) (U (j + 1))) →
      D'.nx (lnE ps mo tb B a4 a5 a6 a7 a8 (B ^ (j + 1)) (some (.int ((j : Int) + 1))) y11 y12 y13 y14 y15 y16 y17 y18) m') :
    forL (gTup [gName 12, gName 13]) FB_lengths_2 (fun M' => M' a4 = some (.lst ((ptOf (nmsB ps) ad).map dPt))) ((ptOf (nmsB ps) ad).map dPt) E D' (lnE ps mo tb B a4 a5 a6 a7 a8 (B ^ (j + 1)) (some (.int ((j : Int) + 1))) x11 x12 x13 x14 x15 x16 x17 x18) m := by
  have hsz := sizeLine_ge
  have hmo := C.mo3
  refine for_ind (fun xs e m' => ∃ (dn rs : List Str) (y11 y12 y13 y14 y15 y16 y17 y18 : Option D), xs = (ptOf rs ad).map dPt ∧ dn ++ rs = nmsB ps ∧ e = lnE ps mo tb B a4 a5 a6 a7 a8 (B ^ (j + 1)) (some (.int ((j : Int) + 1))) y11 y12 y13 y14 y15 y16 y17 y18 ∧
      LH F (nmsB ps) ks sd fd pd (fun x => vZ (A x) B (if x ∈ dn then j + 2 else j + 1)) (fun x => vR (A x) (if x ∈ dn then j + 2 else j + 1)) (fun k => vZ (Mp A k) B (j + 1)) m' ∧ ∀ x ∈ dn, LZ (A x) B (j + 2) (U (j + 1)))
    ?_ ?_ _ _ _ ⟨[], nmsB ps, _, _, _, _, _, _, _, _, rfl, rfl, rfl, by simpa using h, by simp⟩
  · rintro x xs e m' ⟨dn, rs, y11, y12, y13, y14, y15, y16, y17, y18, hx, hd, rfl, hL, hZ⟩
    obtain ⟨r, rs, rfl⟩ : ∃ r rs', rs = r :: rs' := by
      cases rs with
      | nil => simp [ptOf] at hx
      | cons r rs => exact ⟨r, rs, rfl⟩
    simp only [ptOf, List.map_cons, List.cons.injEq] at hx
    obtain ⟨rfl, rfl⟩ := hx
    have hr : r ∈ nmsB ps := by rw [← hd]; simp
    have hrd : r ∉ dn := by
      have := C.nd
      rw [← hd, List.nodup_append] at this
      exact fun z => this.2.2 r z r (.head _) rfl
    obtain ⟨u, hu, hur⟩ := List.mem_map.mp hr
    refine ⟨hL.le _ _ C.f4, fun N hN => ?_⟩
    have hMg : Mg u.2.alts B (kvs (ad r)) := hur ▸ C.mg u hu
    have hkc : ∀ q ∈ kvs (ad r), q.1 ∈ ks := hur ▸ C.kcs u hu
    have hml := C.ml u hu
    have hbd := C.bd u hu
    have hAr : A r (j + 1) = wsum A u.2.alts j := hur ▸ hS u hu
    have had : m' (ad r) = some (.dn ((kvs (ad r)).map kvI)) := hL.le _ _ (C.fa r hr)
    have h8 : m' a8 = some (.dn (kvT ks pd)) := hL.le _ _ C.f8
    have h7 : m' a7 = some (.dk (kvS (nmsB ps) fd)) := hL.le _ _ C.f7
    have h6 : m' a6 = some (.dk (kvS (nmsB ps) sd)) := hL.le _ _ C.f6
    have hsr : m' (sd r) = some (.lst (vZ (A r) B (j + 1))) := by
      have := hL.s r hr
      rwa [if_neg hrd] at this
    have hfr : m' (fd r) = some (.lst (vR (A r) (j + 1))) := by
      have := hL.f r hr
      rwa [if_neg hrd] at this
    have hkl := hMg.len
    generalize hkv : kvs (ad r) = kv at *
    have hV : ∀ q ∈ kv, ((zi (Mp A q.1) B j : Int) : Rat) = Mp A q.1 j * pw B j ∧ (zi (Mp A q.1) B j).natAbs ≤ V j 5 := fun q hq => by
      have := (hP q.1 (hkc q hq)).h j (by omega)
      exact ⟨this.1, Nat.le_trans this.2 (V_le (C.k5 _ (hkc q hq)))⟩
    have hsum : (((kv.map fun q => q.2 * zi (Mp A q.1) B j).sum : Int) : Rat) = A r (j + 1) * pw B (j + 1) := by
      rw [cast_sum, List.map_map, hAr, ← number_eq hMg hbd]
      congr 1
      refine List.map_congr_left fun q hq => ?_
      simp only [Function.comp_apply]
      rw [Rat.intCast_mul, (hV q hq).1]
    have hsb : (kv.map fun q => q.2 * zi (Mp A q.1) B j).sum.natAbs ≤ U (j + 1) := by
      have h1 := sum_bd (u := 2 ^ 104 * V j 5) (kv.map fun q => q.2 * zi (Mp A q.1) B j) fun a ha => by
        obtain ⟨q, hq, rfl⟩ := List.mem_map.mp ha
        rw [Int.natAbs_mul]
        exact Nat.mul_le_mul (Nat.le_of_lt (hMg.sm q hq).h) (hV q hq).2
      refine Nat.le_trans h1 ?_
      rw [List.length_map]
      exact Nat.mul_le_mul_right _ (by omega)
    generalize hnum : (kv.map fun q => q.2 * zi (Mp A q.1) B j).sum = num at hsum hsb
    have hp0 : 0 < B ^ (j + 1) := Int.pow_pos C.B0
    have hsp := sm_pow C.sB (n := j + 1) (by omega)
    have hsn : Sm 4000 num := ⟨Nat.lt_of_le_of_lt hsb (U_lt (by omega))⟩
    simp [FB_lengths_2, lnE, dPt, had]
    intro p hp
    have hmp : m' p = none := (set_none.mp hp).2
    refine comp_ind (fun acc xs m2 => ∃ dk rk : KI, acc = dk.map (fun q => .int (q.2 * zi (Mp A q.1) B j)) ∧ xs = rk.map (fun q => kT q.1) ∧ dk ++ rk = kv ∧ m2 p = some (.lst acc) ∧ Le (m'.set (ad r) (.dnF (kv.map kvI))) m2) ?_ ?_ _ [] _ ⟨[], kv, rfl, by simp [Function.comp_def, kvI], rfl, set_same, Le.refl.fresh hp⟩
    · rintro x xs acc m2 ⟨dk, rk, rfl, hx, hdk, ep, hl⟩
      obtain ⟨q, rk, rfl, rfl, rfl⟩ := pcons hx
      have hq : q ∈ kv := by rw [← hdk]; simp
      have hql := hkc q hq
      have e1 : m2 (ad r) = some (.dnF (kv.map kvI)) := hl _ _ set_same
      have hne : ∀ {x : Addr} {o : O}, m' x = some o → (∀ o', o = .dn o' → o' ≠ kv.map kvI) → x ≠ ad r := fun h1 h2 e => by
        rw [e, had] at h1
        cases h1
        exact h2 _ rfl rfl
      have e2 : m2 (pd q.1) = some (.lst (vZ (Mp A q.1) B (j + 1))) := hl _ _ (by
        rw [set_ne (hne (hL.p _ hql) (by intro o' h; cases h))]; exact hL.p _ hql)
      have hlkq : lk (kv.map kvI) (kT q.1) = some (.int q.2) := by
        have := lk_kvI D.int (kv := kv) (k := q.1)
        rw [find_I hMg.nd hq] at this
        exact this
      have h8r : a8 ≠ ad r := fun e => by
        have h1 := h8
        rw [e, had] at h1
        injection h1 with h1
        injection h1 with h1
        have h2 := lk_kvT (pd := pd) hql
        rw [← h1, hlkq] at h2
        cases h2
      have e3 : m2 a8 = some (.dn (kvT ks pd)) := hl _ _ (by rw [set_ne h8r]; exact h8)
      have hdl : dk.length ≤ 243 := by have := congrArg List.length hdk; simp at this; omega
      refine ⟨e1, by simp; omega, fun T hT => ?_⟩
      simp [CE_lengths_6, e1, subO_dnF, hlkq]
      refine ⟨nkOk_kT _, ?_⟩
      simp [e3, subO_dn, lk_kvT hql]
      refine ⟨nkOk_kT _, ?_⟩
      simp [e2, vZ_len]
      rw [if_pos (by omega)]
      simp [vZ_get]
      have h9 : Sm 4000 (zi (Mp A q.1) B j) := ⟨Nat.lt_of_le_of_lt (hV q hq).2 (V_lt (by omega) (Nat.le_refl _))⟩
      refine ⟨(hMg.sm q hq).mulOk h9 (by decide), hT _ _ ep ⟨dk ++ [q], rk, by simp, rfl, by simpa using hdk, set_same, ?_⟩⟩
      exact hl.fresh hp
    · rintro acc m2 ⟨dk, rk, rfl, hx, hdk, ep, hl⟩
      have := pnil hx
      subst this
      rw [List.append_nil] at hdk
      subst hdk
      have e1 : m2 (ad r) = some (.dnF (dk.map kvI)) := hl _ _ set_same
      refine ⟨e1, ?_⟩
      refine ⟨e1, ?_⟩
      have hpa : p ≠ ad r := (set_none.mp hp).1
      have hl2 : Le m' (m2.set (ad r) (.dn (dk.map kvI))) := by
        have := hl.set (p := ad r) (o := .dn (dk.map kvI))
        rw [set_set, set_self had] at this
        exact this
      generalize hm3 : m2.set (ad r) (.dn (dk.map kvI)) = m3 at hl2
      have ep3 : m3 p = some (.lst (dk.map fun q => .int (q.2 * zi (Mp A q.1) B j))) := by rw [← hm3, set_ne hpa]; exact ep
      have hai := asInts_map dk fun q => q.2 * zi (Mp A q.1) B j
      simp only [lstD_ref, ep3, lstO_lst, hai, onIs_some, hnum, gName_s]
      refine go ?_
      have hL3 := hL.mono hl2
      have hsr3 := hl2 _ _ hsr
      have h63 := hl2 _ _ h6
      have h73 := hl2 _ _ h7
      have hfr3 := hl2 _ _ hfr
      simp [h63, lk_kvS hr, hsr3, vZ_len]
      refine ⟨by omega, go ?_⟩
      have hL4 := hL3.setS C hr (vZ (A r) B (j + 1) ++ [.int num])
      have h74 : (m3.set (sd r) (.lst (vZ (A r) B (j + 1) ++ [.int num]))) a7 = some (.dk (kvS (nmsB ps) fd)) := hL4.le _ _ C.f7
      have hfr4 : (m3.set (sd r) (.lst (vZ (A r) B (j + 1) ++ [.int num]))) (fd r) = some (.lst (vR (A r) (j + 1))) := by
        have := hL4.f r hr
        rwa [if_neg hrd] at this
      generalize m3.set (sd r) (.lst (vZ (A r) B (j + 1) ++ [.int num])) = m4 at hL4 h74 hfr4 ⊢
      have hrd2 := ratio_d hp0 (n := num) (q := A r (j + 1)) hsum
      have hfl := fr_le hp0 (n := num)
      simp [h74, lk_kvS hr, hfr4, S_ratio, S_checked, vR_len]
      refine ⟨hp0, hsp.mono (by decide), _, _, rfl, Sm.of_le hfl.1 hsn, (Sm.of_le hfl.2 hsp).mono (by decide), by omega, ?_⟩
      obtain ⟨z1, z2⟩ := (hA r hr).snoc hsum hsb (U_le j)
      have hdr : dF ((fr num (B ^ (j + 1))).1, (fr num (B ^ (j + 1))).2) = dRat (A r (j + 1)) := by rw [hrd2]; rfl
      refine hN _ _ ⟨dn ++ [r], rs, _, _, _, _, _, _, _, _, rfl, by simpa using hd, rfl, (hL4.setF C hr _).congr ?_ ?_ (fun _ _ => rfl), ?_⟩
      · intro y hy
        by_cases e : y = r
        · subst e
          rw [if_pos rfl, vZ_snoc z2]
          simp
        · rw [if_neg e]
          simp [e]
      · intro y hy
        by_cases e : y = r
        · subst e
          rw [if_pos rfl, hdr, vR_snoc]
          simp
        · rw [if_neg e]
          simp [e]
      · intro y hy
        rcases List.mem_append.mp hy with hy | hy
        · exact hZ y hy
        · rw [List.mem_singleton.mp hy]; exact z1
  · rintro e m' ⟨dn, rs, y11, y12, y13, y14, y15, y16, y17, y18, hx, hd, rfl, hL, hZ⟩
    have : rs = [] := by
      cases rs with
      | nil => rfl
      | cons r rs => simp [ptOf] at hx
    subst this
    rw [List.append_nil] at hd
    subst hd
    refine ⟨hL.le _ _ C.f4, hD _ _ _ _ _ _ _ _ _ (hL.congr (fun k hk => ?_) (fun k hk => ?_) fun k hk => rfl) hZ⟩
    · rw [if_pos hk]
    · rw [if_pos hk]
end
end DL

set_option Elab.async false
set_option linter.all false
set_option maxRecDepth 100000
set_option maxHeartbeats 4000000
/-! K34H: lengths walked -/
namespace DL
open PySem
theorem parts_comp {E : XW} {M : Sto} {Q : KD} {ps : List (Str × Bd)} {B : Int} {x0 x1 x4 x5 x6 x7 x8 x9 x10 x11 x12 x13 x14 x15 x16 x17 x18 : Option D} (nd : (nmsB ps).Nodup) (hn : ps.length ≤ 1000) (hB : 0 < B) (sB : Sm 88 B)
    (hw : ∀ p ∈ ps, p.2.alts.length ≤ 243 ∧ ∀ w ∈ p.2.alts, Gf (N0 ^ 5) 243 w.ch ∧ w.cs.length ≤ 5)
    (hq : ∀ p ad (kvs : Addr → KI) m, Le M m → M p = none → m p = some (.lst ((ptOf (nmsB ps) ad).map dPt)) → (∀ u ∈ ps, m (ad u.1) = some (.dn ((kvs (ad u.1)).map kvI)) ∧ Mg u.2.alts B (kvs (ad u.1))) → Q (.ref p) m) :
    eComp (iVal (eVar 2)) [12, 13] (gTup [(gName 12), (gName 13)]) tYes CE_lengths_1 E [x0, x1, some (.tup (ps.map dAlt)), some (.int B), x4, x5, x6, x7, x8, x9, x10, x11, x12, x13, x14, x15, x16, x17, x18] M Q := by
  have hsz := sizeLine_ge
  simp
  intro p hp
  refine comp_ind (fun acc xs m => ∃ (dn rs : List (Str × Bd)) (ad : Str → Addr) (kvs : Addr → KI), acc = (ptOf (nmsB dn) ad).map dPt ∧ xs = rs.map dAlt ∧ dn ++ rs = ps ∧ m p = some (.lst acc) ∧ Le M m ∧
      ∀ u ∈ dn, m (ad u.1) = some (.dn ((kvs (ad u.1)).map kvI)) ∧ Mg u.2.alts B (kvs (ad u.1))) ?_ ?_ _ [] _ ⟨[], ps, fun _ => p, fun _ => [], rfl, rfl, rfl, set_same, Le.refl.fresh hp, by simp⟩
  · rintro x xs acc m ⟨dn, rs, ad, kvs, rfl, hx, hd, ep, hl, hk⟩
    obtain ⟨r, rs, rfl, rfl, rfl⟩ := pcons hx
    have hdl : dn.length ≤ 1000 := by have := congrArg List.length hd; simp at this; omega
    have hr : r ∈ ps := by rw [← hd]; simp
    have hrd : ∀ u ∈ dn, u.1 ≠ r.1 := by
      have : (dn ++ r :: rs).map Prod.fst = nmsB ps := by rw [hd]
      rw [← this, List.map_append, List.nodup_append] at nd
      exact fun u hu e => nd.2.2 _ (List.mem_map.mpr ⟨u, hu, rfl⟩) _ (by simp) e
    obtain ⟨w1, w2⟩ := hw r hr
    refine ⟨trivial, by simp [ptOf]; omega, fun T hT => ?_⟩
    simp [CE_lengths_1, dAlt, S_merged]
    refine ⟨_, rfl, hB, sB, w1, w2, fun q kv hq' hMg => ?_⟩
    have hqp : q ≠ p := (ne_of ep hq').symm
    have hne : ∀ u ∈ dn, ad u.1 ≠ q := fun u hu => ne_of (hk u hu).1 hq'
    have hep : (m.set q (.dn (kv.map kvI))) p = some (.lst ((ptOf (nmsB dn) ad).map dPt)) := by rw [set_ne hqp.symm]; exact ep
    refine hT _ _ hep ⟨dn ++ [r], rs, fun s => if s = r.1 then q else ad s, fun a => if a = q then kv else kvs a, ?_, rfl, by simpa using hd, set_same, (hl.fresh (le_none hl hq')).fresh hp, fun u hu => ?_⟩
    · have e1 : ptOf (nmsB (dn ++ [r])) (fun s => if s = r.1 then q else ad s) = ptOf (nmsB dn) ad ++ [(r.1, q)] := by
        unfold ptOf nmsB
        rw [List.map_append, List.map_append]
        congr 1
        · rw [List.map_map, List.map_map]
          refine List.map_congr_left fun u hu => ?_
          simp [hrd u hu]
        · simp
      rw [e1, List.map_append]; rfl
    · rcases List.mem_append.mp hu with hu | hu
      · have h1 := hk u hu
        have h2 : ad u.1 ≠ p := fun e => by have := h1.1; rw [e, ep] at this; cases this
        dsimp only
        rw [if_neg (hrd u hu), if_neg (hne u hu), set_ne h2, set_ne (hne u hu)]
        exact h1
      · rw [List.mem_singleton.mp hu]
        dsimp only
        rw [if_pos rfl, if_pos rfl, set_ne hqp, set_same]
        exact ⟨rfl, hMg⟩
  · rintro acc m ⟨dn, rs, ad, kvs, rfl, hx, hd, ep, hl, hk⟩
    have := pnil hx
    subst this
    rw [List.append_nil] at hd
    subst hd
    exact ⟨trivial, hq p ad kvs m hl hp ep hk⟩
noncomputable def fixS (m : Sto) (P : Addr → Prop) : Sto := fun z => @ite _ (P z) (Classical.propDecidable _) none (m z)
theorem fixS_le {m : Sto} {P : Addr → Prop} : Le (fixS m P) m := fun x o h => by
  unfold fixS at h
  split at h
  · cases h
  · exact h
theorem fixS_at {m : Sto} {P : Addr → Prop} {x : Addr} (h : ¬ P x) : fixS m P x = m x := if_neg h
theorem fixS_no {m : Sto} {P : Addr → Prop} {x : Addr} (h : P x) : fixS m P x = none := if_pos h
@[simp] theorem iRange2_s {f g : WE} {E : XW} {env : Ev} {M : Sto} {k : (Sto → Prop) → List D → Sto → Prop} : iRange2 f g E env M k = f E env M fun x M1 => g E env M1 fun y M2 => intD x fun i => intD y fun j => (-(2 ^ 62) ≤ i ∧ i < 2 ^ 62 ∧ -(2 ^ 62) ≤ j ∧ j < 2 ^ 62) ∧ k (fun _ => True) (rangeL i j) M2 := by
  unfold iRange2 intD
  congr 1; funext x M1; congr 1; funext y M2
  cases x <;> cases y <;> rfl
theorem dTb_alt (ps : List (Str × Bd)) : (ps.map fun p => (p.1, p.2.alts)).map dTb = ps.map dAlt := by rw [List.map_map]; rfl
theorem alts_ok {b : Bd} (h : BO b) : b.alts.length ≤ 243 ∧ ∀ w ∈ b.alts, Gf (N0 ^ 5) 243 w.ch ∧ w.cs.length ≤ 5 ∧ w.ls.length ≤ 5 ∧ ∀ s ∈ w.cs, PyData.strOk s = true := by
  obtain ⟨ns, hns, ls, hls, hb⟩ := h
  have h5 := ways5 hb
  have hA := alts5 hb
  have hl := wts_len hA
  refine ⟨by omega, fun w hw => ?_⟩
  obtain ⟨h1, h2, h3, h4, _⟩ := hA.el w hw
  refine ⟨⟨h1.p, h1.z, h1.g, h1.d, ?_⟩, h2, h3, fun s hs => names_ok _ hns _ (h4 s hs)⟩
  have h6 := h1.l
  have h7 := h1.p
  have : ((b.ways w0).length : Int) * w.ch.2 ≤ 243 * w.ch.2 := Int.mul_le_mul_of_nonneg_right (by omega) (by omega)
  omega
theorem ob_lengths : ∀ E ds M Q, S_lengths E ds M Q → B_lengths E (endsL Q) (start 19 ds) M := by
  intro E ds M Q h
  obtain ⟨x, y, rfl, ps, mo, rfl, rfl, h1, h3, hpl, hnd, hps, hq⟩ := fn2_e h
  have hsz := sizeLine_ge
  have halt := fun r (hr : r ∈ ps) => alts_ok (hps r hr).1
  have hT : TokT (ps.map fun p => (p.1, p.2.alts)) := by
    refine ⟨by simp; omega, fun t ht => ?_⟩
    obtain ⟨p, hp, rfl⟩ := List.mem_map.mp ht
    have := halt p hp
    exact ⟨this.1, fun w hw => ⟨(this.2 w hw).1, (this.2 w hw).2.1, (this.2 w hw).2.2.1⟩⟩
  obtain ⟨B0, sB, hBd⟩ := bot_ok hT
  simp [B_lengths, S_alternatives]
  refine ⟨ps, rfl, by omega, fun a b hr => (hps (a, b) hr).1, go ?_⟩
  simp [S_common_bottom]
  refine ⟨_, (dTb_alt ps).symm, hT, go ?_⟩
  generalize botT (ps.map fun p => (p.1, p.2.alts)) = B at B0 sB hBd ⊢
  rw [sSeq_s, sAsg_s]
  refine parts_comp hnd (by omega) B0 sB (fun p hp => ⟨(halt p hp).1, fun w hw => ⟨((halt p hp).2 w hw).1, ((halt p hp).2 w hw).2.1⟩⟩) fun a4 ad kvs m4 hl4 ha4 e4 hk4 => ?_
  rw [gName_s]
  dsimp only
  refine go ?_
  have hmg : ∀ u ∈ ps, ∀ q ∈ kvs (ad u.1), ∃ w ∈ u.2.alts, q.1.Perm w.cs := fun u hu q hq => (hk4 u hu).2.mem q hq
  have hkl : ∀ u ∈ ps, (kvs (ad u.1)).length ≤ 243 ∧ ∀ q ∈ kvs (ad u.1), q.1.length ≤ 5 := fun u hu => by
    have h1 := (hk4 u hu).2.len
    have h2 := halt u hu
    refine ⟨by omega, fun q hq => ?_⟩
    obtain ⟨w, hw, hp⟩ := hmg u hu q hq
    rw [hp.length_eq]
    exact (h2.2 w hw).2.1
  have hmem : ∀ t ∈ ptOf (nmsB ps) ad, ∃ u ∈ ps, t = (u.1, ad u.1) := fun t ht => by
    obtain ⟨x, hx, rfl⟩ := List.mem_map.mp ht
    obtain ⟨u, hu, rfl⟩ := List.mem_map.mp hx
    exact ⟨u, hu, rfl⟩
  simp [put, S_beginnings]
  refine ⟨_, e4, by simp [ptOf]; omega, kvs, fun s b ht => ?_, fun a5 ks ha5 hB5 => go ?_⟩
  · obtain ⟨u, hu, e⟩ := hmem _ ht
    cases e
    exact ⟨(hk4 u hu).1, (hkl u hu).1, fun x n hq => (hkl u hu).2 _ hq⟩
  · generalize hm5 : m4.set a5 (.lst (ks.map kT)) = m5
    have l5 : Le m4 m5 := by rw [← hm5]; exact Le.refl.fresh ha5
    have e5 : m5 a5 = some (.lst (ks.map kT)) := by rw [← hm5, set_same]
    have e54 : m5 a4 = some (.lst ((ptOf (nmsB ps) ad).map dPt)) := l5 _ _ e4
    rw [sSeq_s, sAsg_s]
    refine dict_lists (.int 0) hnd (by simp [nmsB]; omega) e54 fun a6 sd m6 ha6 l6 e6 L6 => ?_
    rw [gName_s]
    dsimp only
    refine go ?_
    simp only [put]
    rw [sSeq_s, sAsg_s]
    have l56 : Le m5 m6 := fun x o e => l6 _ _ (by rw [set_ne (ne_of e ha6)]; exact e)
    refine dict_lists g_ZERO hnd (by simp [nmsB]; omega) (l56 _ _ e54) fun a7 fd m7 ha7 l7 e7 L7 => ?_
    rw [gName_s]
    dsimp only
    refine go ?_
    simp only [put]
    have l67 : Le m6 m7 := fun x o e => l7 _ _ (by rw [set_ne (ne_of e ha7)]; exact e)
    rw [sSeq_s, sAsg_s]
    refine dict_keys hB5.nd ?_ (l67 _ _ (l56 _ _ e5)) fun a8 pd m8 ha8 l8 e8 L8 => ?_
    · have := hB5.len
      have h6 : 1000000 ≤ sizeLine := by decide
      omega
    · rw [gName_s]
      dsimp only
      refine go ?_
      have l78 : Le m7 m8 := fun x o e => l8 _ _ (by rw [set_ne (ne_of e ha8)]; exact e)
      simp [put]
      -- what stays
      have a45 : ∀ x ∈ nmsB ps, m5 (sd x) = none := fun x hx => (set_none.mp (L6.nw x hx)).2
      have a6s : ∀ x ∈ nmsB ps, sd x ≠ a6 := fun x hx => (set_none.mp (L6.nw x hx)).1
      have a6f : ∀ x ∈ nmsB ps, m6 (fd x) = none := fun x hx => (set_none.mp (L7.nw x hx)).2
      have a7f : ∀ x ∈ nmsB ps, fd x ≠ a7 := fun x hx => (set_none.mp (L7.nw x hx)).1
      have a7p : ∀ x ∈ ks, m7 (pd x) = none := fun x hx => (set_none.mp (L8.nw x hx)).2
      have a8p : ∀ x ∈ ks, pd x ≠ a8 := fun x hx => (set_none.mp (L8.nw x hx)).1
      have hsd6 : ∀ x ∈ nmsB ps, m6 (sd x) = some (.lst [.int 0]) := fun x hx => L6.at_ x hx
      have hfd7 : ∀ x ∈ nmsB ps, m7 (fd x) = some (.lst [g_ZERO]) := fun x hx => L7.at_ x hx
      let P : Addr → Prop := fun z => (∃ x ∈ nmsB ps, z = sd x) ∨ (∃ x ∈ nmsB ps, z = fd x) ∨ ∃ x ∈ ks, z = pd x
      have old5 : ∀ {z : Addr} {o : O}, m5 z = some o → fixS m8 P z = some o := fun {z o} e => by
        rw [fixS_at]
        · exact l78 _ _ (l67 _ _ (l56 _ _ e))
        · rintro (⟨x, hx, rfl⟩ | ⟨x, hx, rfl⟩ | ⟨x, hx, rfl⟩)
          · rw [a45 x hx] at e; cases e
          · have := l56 _ _ e; rw [a6f x hx] at this; cases this
          · have := l67 _ _ (l56 _ _ e); rw [a7p x hx] at this; cases this
      have old6 : fixS m8 P a6 = some (.dk (kvS (nmsB ps) sd)) := by
        rw [fixS_at]
        · exact l78 _ _ (l67 _ _ e6)
        · rintro (⟨x, hx, e⟩ | ⟨x, hx, e⟩ | ⟨x, hx, e⟩)
          · exact a6s x hx e.symm
          · have := e6; rw [e, a6f x hx] at this; cases this
          · have := l67 _ _ e6; rw [e, a7p x hx] at this; cases this
      have old7 : fixS m8 P a7 = some (.dk (kvS (nmsB ps) fd)) := by
        rw [fixS_at]
        · exact l78 _ _ e7
        · rintro (⟨x, hx, e⟩ | ⟨x, hx, e⟩ | ⟨x, hx, e⟩)
          · have := hsd6 x hx; rw [← e, ha7] at this; cases this
          · exact a7f x hx e.symm
          · have := e7; rw [e, a7p x hx] at this; cases this
      have old8 : fixS m8 P a8 = some (.dn (kvT ks pd)) := by
        rw [fixS_at]
        · exact e8
        · rintro (⟨x, hx, e⟩ | ⟨x, hx, e⟩ | ⟨x, hx, e⟩)
          · have := l67 _ _ (hsd6 x hx); rw [← e, ha8] at this; cases this
          · have := hfd7 x hx; rw [← e, ha8] at this; cases this
          · exact a8p x hx e.symm
      have hkeys : ∀ k ∈ ks, ∃ u ∈ ps, ∃ w ∈ u.2.alts, ∃ q ∈ kvs (ad u.1), q.1.Perm w.cs ∧ ∃ n ≤ q.1.length, k = q.1.take n := fun k hk => by
        obtain ⟨y, hy, n, hn, rfl⟩ := (hB5.mem k).mp hk
        obtain ⟨t, ht, hy⟩ := List.mem_flatMap.mp hy
        obtain ⟨u, hu, rfl⟩ := hmem t ht
        obtain ⟨q, hq', rfl⟩ := List.mem_map.mp hy
        obtain ⟨w, hw, hp⟩ := hmg u hu q hq'
        exact ⟨u, hu, w, hw, q, hq', hp, n, hn, rfl⟩
      have C : LC ps mo B (fixS m8 P) a4 a5 a6 a7 a8 ad sd fd pd kvs ks := by
        refine ⟨hnd, hpl, B0, sB, h3, fun p hp w hw => ?_, fun p hp => (hk4 p hp).2, fun p hp => (halt p hp).1, fun p hp q hq' => ?_, fun k hk s hs => ?_, fun k hk => ?_, fun k hk s hs => ?_, fun k' s hk => ?_, hB5.srt, hB5.nd, old5 e54, old5 e5, old6, old7, old8, fun x hx => ?_,
          fun x hx => fixS_no (.inl ⟨x, hx, rfl⟩), fun x hx => fixS_no (.inr (.inl ⟨x, hx, rfl⟩)), fun x hx => fixS_no (.inr (.inr ⟨x, hx, rfl⟩)), L6.inj, L7.inj, L8.inj, fun x hx y hy e => ?_, fun x hx y hy e => ?_, fun x hx y hy e => ?_⟩
        · exact ⟨((halt p hp).2 w hw).1.p, hBd (p.1, p.2.alts) (List.mem_map.mpr ⟨p, hp, rfl⟩) w hw⟩
        · refine (hB5.mem _).mpr ⟨q.1, List.mem_flatMap.mpr ⟨(p.1, ad p.1), List.mem_map.mpr ⟨p.1, List.mem_map.mpr ⟨p, hp, rfl⟩, rfl⟩, List.mem_map.mpr ⟨q, hq', rfl⟩⟩, q.1.length, Nat.le_refl _, (List.take_length).symm⟩
        · obtain ⟨u, hu, w, hw, q, hq', hp, n, hn, rfl⟩ := hkeys k hk
          have h7 := alts_cin (hps u hu).2 w hw s (hp.mem_iff.mp (List.mem_of_mem_take hs))
          simpa using h7
        · obtain ⟨u, hu, w, hw, q, hq', hp, n, hn, rfl⟩ := hkeys k hk
          have := (hkl u hu).2 q hq'
          simp; omega
        · obtain ⟨u, hu, w, hw, q, hq', hp, n, hn, rfl⟩ := hkeys k hk
          exact ((halt u hu).2 w hw).2.2.2 s (hp.mem_iff.mp (List.mem_of_mem_take hs))
        · obtain ⟨y, hy, n, hn, e⟩ := (hB5.mem _).mp hk
          have hl := congrArg List.length e
          simp at hl
          refine (hB5.mem _).mpr ⟨y, hy, k'.length, by omega, ?_⟩
          have := congrArg (List.take k'.length) e
          rw [List.take_take, List.take_left] at this
          rw [Nat.min_eq_left (by omega)] at this
          exact this
        · obtain ⟨u, hu, rfl⟩ := List.mem_map.mp hx
          exact old5 (l5 _ _ (hk4 u hu).1)
        · have := hsd6 x hx; rw [e, a6f y hy] at this; cases this
        · have := l67 _ _ (hsd6 x hx); rw [e, a7p y hy] at this; cases this
        · have := hfd7 x hx; rw [e, a7p y hy] at this; cases this
      have hMF : Le M (fixS m8 P) := fun x o e => old5 (l5 _ _ (hl4 _ _ e))
      let A : Str → Sq := ser (tbOf ps) mo
      have hA0 : ∀ x, A x 0 = 0 := fun x => ser_zero _ _ _
      have hS : ∀ j < mo, ∀ p ∈ ps, A p.1 (j + 1) = wsum A p.2.alts j := fun j hj p hp => by
        have := ser_at (tbOf ps) hj p.1
        rw [tbOf_mem hnd hp] at this
        exact this
      have i1 : ∀ x ∈ nmsB ps, LZ (A x) B 1 (U 0) := fun x _ => ⟨fun i hi => by
        have : i = 0 := by omega
        subst this
        rw [hA0, Rat.zero_mul]; simp⟩
      have hv1 : ∀ x ∈ nmsB ps, vZ (A x) B 1 = [.int 0] := fun x _ => by
        have : zz (A x) B 1 = [0] := by
          unfold zz
          simp [hA0, Rat.zero_mul]
        unfold vZ; rw [this]; rfl
      have hr1 : ∀ x ∈ nmsB ps, vR (A x) 1 = [g_ZERO] := fun x _ => by
        unfold vR
        simp [hA0, dRat]
      have LH8 : LH (fixS m8 P) (nmsB ps) ks sd fd pd (fun x => vZ (A x) B (0 + 1)) (fun x => vR (A x) (0 + 1)) (fun k => vZ (Mp A k) B 0) m8 :=
        ⟨fixS_le, fun x hx => by rw [hv1 x hx]; exact l78 _ _ (l67 _ _ (hsd6 x hx)), fun x hx => by rw [hr1 x hx]; exact l78 _ _ (hfd7 x hx), fun k hk => L8.at_ k hk⟩
      refine go ?_
      simp
      refine ⟨by omega, ?_⟩
      refine for_ind (fun xs e m => ∃ (j : Nat) (y10 y11 y12 y13 y14 y15 y16 y17 y18 : Option D), j ≤ mo ∧ xs = rangeL ((j + 1 : Nat) : Int) ((mo + 1 : Nat) : Int) ∧ e = lnE ps mo (.tup (ps.map dAlt)) B a4 a5 a6 a7 a8 (B ^ j) y10 y11 y12 y13 y14 y15 y16 y17 y18 ∧
          LH (fixS m8 P) (nmsB ps) ks sd fd pd (fun x => vZ (A x) B (j + 1)) (fun x => vR (A x) (j + 1)) (fun k => vZ (Mp A k) B j) m ∧ (∀ x ∈ nmsB ps, LZ (A x) B (j + 1) (U j)) ∧ ∀ k ∈ ks, LZ (Mp A k) B j (V j k.length))
        ?_ ?_ _ _ _ ⟨0, none, none, none, none, none, none, none, none, none, by omega, by simp, by simp [lnE], LH8, i1, fun k hk => ⟨fun i hi => by omega⟩⟩
      · rintro x xs e m ⟨j, y10, y11, y12, y13, y14, y15, y16, y17, y18, hj, hx, rfl, hL, hA, hP⟩
        obtain ⟨rfl, rfl, hj'⟩ := rng_cons hx
        refine ⟨trivial, fun N hN => ?_⟩
        have e5m : m a5 = some (.lst (ks.map kT)) := hL.le _ _ C.f5
        simp [FB_lengths_3, lnE, e5m]
        refine keys_loop C (j := j) (by omega) (A := A) hL hA hP fun z11 z12 z13 z14 z15 z16 z17 z18 m' hL' hP' => ?_
        dsimp only
        refine go ?_
        have e4m : m' a4 = some (.lst ((ptOf (nmsB ps) ad).map dPt)) := hL'.le _ _ C.f4
        simp [T_lengths_1, lnE]
        refine ⟨(sm_pow sB (n := j) (by omega)).mulOk sB (by decide), go ?_⟩
        simp [e4m]
        rw [← Int.pow_succ]
        refine parts_loop C (j := j) (by omega) (A := A) hL' hA hP' (hS j (by omega)) fun w11 w12 w13 w14 w15 w16 w17 w18 m2 hL2 hA2 => ?_
        refine hN _ _ ⟨j + 1, _, _, _, _, _, _, _, _, _, by omega, rfl, rfl, hL2, hA2, fun k hk => (hP' k hk).mono V_mono⟩
      · rintro e m ⟨j, y10, y11, y12, y13, y14, y15, y16, y17, y18, hj, hx, rfl, hL, hA, hP⟩
        have := rng_nil hx (by omega)
        have : j = mo := by omega
        subst this
        refine ⟨trivial, ?_⟩
        dsimp only
        refine go ?_
        have e4m : m a4 = some (.lst ((ptOf (nmsB ps) ad).map dPt)) := hL.le _ _ C.f4
        have e7m : m a7 = some (.dk (kvS (nmsB ps) fd)) := hL.le _ _ C.f7
        simp [T_lengths_2, lnE, e4m]
        intro p hp
        have hap : a4 ≠ p := ne_of e4m hp
        refine comp_ind (fun acc xs m2 => ∃ dk rk : List Str, acc = dk.map (fun x => .tup (vR (A x) (j + 1))) ∧ xs = (ptOf rk ad).map dPt ∧ dk ++ rk = nmsB ps ∧ m2 p = some (.lst acc) ∧ Le m m2) ?_ ?_ _ [] _ ⟨[], nmsB ps, rfl, rfl, rfl, set_same, Le.refl.fresh hp⟩
        · rintro x xs acc m2 ⟨dk, rk, rfl, hx, hdk, ep, hl⟩
          obtain ⟨r, rk, rfl⟩ : ∃ r rs', rk = r :: rs' := by
            cases rk with
            | nil => simp [ptOf] at hx
            | cons r rs => exact ⟨r, rs, rfl⟩
          simp only [ptOf, List.map_cons, List.cons.injEq] at hx
          obtain ⟨rfl, rfl⟩ := hx
          have hr : r ∈ nmsB ps := by rw [← hdk]; simp
          have hdl : dk.length ≤ 4 := by have := congrArg List.length hdk; simp [nmsB] at this; omega
          have e72 := hl _ _ e7m
          have ef2 := hl _ _ (hL.f r hr)
          refine ⟨hl _ _ e4m, by simp; omega, fun T hT => ?_⟩
          simp [CE_lengths_7, dPt, e72, lk_kvS hr, ef2]
          exact hT _ _ ep ⟨dk ++ [r], rk, by simp, rfl, by simpa using hdk, set_same, hl.fresh hp⟩
        · rintro acc m2 ⟨dk, rk, rfl, hx, hdk, ep, hl⟩
          have : rk = [] := by
            cases rk with
            | nil => rfl
            | cons r rs => simp [ptOf] at hx
          subst this
          rw [List.append_nil] at hdk
          subst hdk
          refine ⟨hl _ _ e4m, ?_⟩
          simp [ep]
          exact ⟨M, (hMF.trans hL.le).trans hl, hq⟩
end DL

set_option Elab.async false
set_option linter.all false
set_option maxRecDepth 100000
set_option maxHeartbeats 4000000
/-! K34W: the law walked -/
namespace DL
open PySem
theorem alk_int {n : Nat} {x : Int} : alk (n + 1) (.int x) := .inl ⟨x, rfl⟩
theorem alk_tup {n : Nat} {xs : List D} (h : xs.length ≤ 100000) (h' : ∀ x ∈ xs, alk n x) : alk (n + 1) (.tup xs) := .inr (.inr ⟨xs, rfl, h, h'⟩)
def dTp (s : Tp) : D := .tup [.tup (s.1.map .int), dF s.2]
def lw (sc : List Int) (a : Addr) (ps : List (Str × Bd)) (nl : Addr) (mo : Nat) (td : D) (x6 x7 x8 x9 x10 x11 x12 x13 x14 x15 x16 x17 x18 x19 : Option D) : Ev :=
  [some (.lro (sc.map .int)), some (.ref a), some (.tup (ps.map dBP)), some (.ref nl), some (.int mo), some td, x6, x7, x8, x9, x10, x11, x12, x13, x14, x15, x16, x17, x18, x19]
structure LWc (ps : List (Str × Bd)) (ns ls : List Str) (mo : Nat) (A : Str → Sq) : Prop where
  nd : (ps.map Prod.fst).Nodup
  pl : ps.length ≤ 4
  P : Pg (bdOf ps) ns ls
  F : Fix (bdOf ps) mo A
  h1 : 1 ≤ mo
  h3 : mo ≤ 3
def toldD (ps : List (Str × Bd)) (mo : Nat) (A : Str → Sq) : D := .tup (ps.map fun p => .tup ((List.range (mo + 1)).map fun n => dRat (A p.1 n)))
section
variable {ps : List (Str × Bd)} {ns ls : List Str} {mo : Nat} {A : Str → Sq} {d : Bd}
theorem bdOf_mem (nd : (ps.map Prod.fst).Nodup) {p : Str × Bd} (hp : p ∈ ps) : bdOf ps p.1 = some p.2 := by
  have : ps.find? (fun x => decide (x.1 = p.1)) = some p := by
    induction ps with
    | nil => simp at hp
    | cons x ps ih =>
      rw [List.map_cons, List.nodup_cons] at nd
      rw [List.find?_cons]
      rcases List.mem_cons.mp hp with rfl | hp
      · simp
      · have : x.1 ≠ p.1 := fun e => nd.1 (e ▸ List.mem_map.mpr ⟨p, hp, rfl⟩)
        simp [this]
        exact ih nd.2 hp
  unfold bdOf
  rw [this]; rfl
theorem val_one (F : Fix (bdOf ps) mo A) {x : Str} (hd : bdOf ps x = some d) {n : Nat} (hn : n ≤ mo) : val A [d] 1 n = A x n := by
  unfold val
  cases n with
  | zero => rw [if_neg (by omega)]; exact (F.z x).symm
  | succ n =>
    rw [if_pos (by omega), F.s x d hd n (by omega)]
    show conv (d.sq A) one (n + 1 - 1) = _
    rw [conv_one_r]; rfl
theorem rat_pair {f : Int × Int} {q : Rat} (h1 : 0 < f.2) (h2 : Int.gcd f.1 f.2 = 1) (h : Vf f = q) : dF f = dRat q := by
  have e3 : Vf (q.num, (q.den : Int)) = q := by
    unfold Vf
    rw [← Rat.divInt_eq_div]; exact Rat.num_divInt_den q
  have := Vf_inj h1 (show 0 < (q.num, (q.den : Int)).2 by have := q.den_nz; simp only; omega) h2 q.reduced (h.trans e3.symm)
  rw [this]; rfl
theorem gf_sm {c : Nat} {f : Int × Int} (h : Gf (N0 ^ 15) (c : Int) f) (hc : c ≤ 1000) : Sm 4000 f.1 ∧ Sm 4000 f.2 := by
  have hp := h.p
  have h2 : f.2 ≤ N0 ^ 15 := Int.le_of_dvd (by decide) h.d
  have e : 1000 * N0 ^ 15 < 2 ^ 280 := by decide
  have h3 : f.1 ≤ 1000 * f.2 := by
    have := h.l
    have := Int.mul_le_mul_of_nonneg_right (show (c : Int) ≤ 1000 by omega) (Int.le_of_lt hp)
    omega
  have hz := h.z
  have a1 : Sm 280 f.1 := ⟨by generalize N0 ^ 15 = n at *; omega⟩
  have a2 : Sm 280 f.2 := ⟨by generalize N0 ^ 15 = n at *; omega⟩
  exact ⟨a1.mono (by decide), a2.mono (by decide)⟩
theorem set_updQ {qs : Nat → Int × Int} {c mo : Nat} (h : c < mo + 1) (v : Int × Int) : ((List.range (mo + 1)).map fun n => dF (qs n)).set c (dF v) = (List.range (mo + 1)).map fun n => dF (updQ qs c v n) := by
  refine List.ext_getElem (by simp) fun k h1 h2 => ?_
  simp only [List.getElem_set, List.getElem_map, List.getElem_range]
  unfold updQ
  by_cases e : c = k
  · rw [if_pos e, if_pos e.symm]
  · rw [if_neg e, if_neg (Ne.symm e)]
def moreV (s : Tp) (L : Int) (x : D) : D := match x with
  | .int k => dTp (s.1 ++ [k], mulF s.2 (1, L))
  | _ => .non
theorem moreV_map (s : Tp) (L : Int) : (rangeL 0 L).map (moreV s L) = (more s L).map dTp := by
  unfold rangeL more
  rw [List.map_map, List.map_map]
  simp only [Int.sub_zero]
  refine List.map_congr_left fun k _ => ?_
  simp [moreV]
def LwW (sc : List Int) (a : Addr) (ps : List (Str × Bd)) (nl : Addr) (mo : Nat) (td : D) (A : Str → Sq) (d : Bd) (i : Nat) (g : Addr) (m : Nat) (e : Ev) (M' : Sto) : Prop :=
  ∃ (qs : Nat → Int × Int) (sts : List Tp) (t : Nat) (h : Addr) (x10 x11 x12 x13 x14 x15 x16 x17 x18 x19 : Option D), m + t = 600 ∧ e = lw sc a ps nl mo td (some (.int i)) (some (.ref g)) (some (.ref h)) (some (.int t)) x10 x11 x12 x13 x14 x15 x16 x17 x18 x19 ∧
    M' g = some (.lst ((List.range (mo + 1)).map fun n => dF (qs n))) ∧ M' h = some (.lst (sts.map dTp)) ∧ g ≠ h ∧ TI34 (bdOf ps) mo A d qs sts t
theorem law_one (C : LWc ps ns ls mo A) {i : Nat} (hi : i < ps.length) {E : XW} {D' : Ends} {sc : List Int} {a nl : Addr} {x7 x8 x9 x10 x11 x12 x13 x14 x15 x16 x17 x18 x19 : Option D} {m : Sto}
    (hN : ∀ x6 x7 x8 x9 x10 x11 x12 x13 x14 x15 x16 x17 x18 x19 m', D'.nx (lw sc a ps nl mo (toldD ps mo A) x6 x7 x8 x9 x10 x11 x12 x13 x14 x15 x16 x17 x18 x19) m') :
    FB_law_1 E D' (lw sc a ps nl mo (toldD ps mo A) (some (.int i)) x7 x8 x9 x10 x11 x12 x13 x14 x15 x16 x17 x18 x19) m := by
  have hsz := sizeLine_ge
  have hsz6 : 1000000 ≤ sizeLine := by decide
  obtain ⟨h1, h3⟩ := (⟨C.h1, C.h3⟩ : 1 ≤ mo ∧ mo ≤ 3)
  have hp : ps[i] ∈ ps := List.getElem_mem hi
  have hbd := bdOf_mem C.nd hp
  generalize hpe : ps[i] = p at *
  have hd := C.P.h _ _ hbd
  simp [FB_law_1, lw]
  intro q hq
  refine ⟨by omega, by omega, by omega, fun g hg => go ?_⟩
  simp
  intro h hh
  refine go ?_
  simp
  refine go ?_
  refine ⟨LwW sc a ps nl mo (toldD ps mo A) A p.2 i g, ⟨600, fun _ => (0, 1), [([], (1, 1))], 0, h, _, _, _, _, _, _, _, _, _, _, by omega, rfl, ?_, by rw [set_same]; rfl, (set_none.mp hh).1.symm, si0 C.P C.F hd h1 h3⟩, ?_⟩
  · rw [set_ne (set_none.mp hh).1.symm, set_same]
    have : (List.range (mo + 1)).map (fun n => dF ((fun _ : Nat => ((0, 1) : Int × Int)) n)) = List.replicate (mo + 1) (.tup [.int 0, .int 1]) := by
      rw [List.map_const']; simp [dF]
    rw [this]
  · rintro mm env M' ⟨qs, sts, t, h, y10, y11, y12, y13, y14, y15, y16, y17, y18, y19, hmt, rfl, eg, eh, hgh, hI⟩
    simp [WC_law_1, lw, eh]
    by_cases hs : sts = []
    · subst hs
      rw [if_pos rfl]
      have hqe : ∀ n ≤ mo, dF (qs n) = dRat (A p.1 n) := fun n hn => by
        have h4 := hI.q n hn
        exact rat_pair h4.p h4.g (by rw [hI.done hn, val_one C.F hbd hn])
      have hqs : (List.range (mo + 1)).map (fun n => dF (qs n)) = (List.range (mo + 1)).map fun n => dRat (A p.1 n) := List.map_congr_left fun n hn => hqe n (by have := List.mem_range.mp hn; omega)
      rw [hqs] at eg
      simp [T_law_3, eh, toldD, hi, hpe, eg, S_law_alike]
      refine ⟨?_, ?_⟩
      · refine alk_tup (by simp; omega) fun x hx => ?_
        obtain ⟨n, _, rfl⟩ := List.mem_map.mp hx
        exact alk_tup (by simp) fun x hx => by simp at hx; rcases hx with rfl | rfl <;> exact alk_int
      · exact hN _ _ _ _ _ _ _ _ _ _ _ _ _ _ _
    · rw [if_neg hs]
      have hout : T_law_3 E D' (lw sc a ps nl mo (toldD ps mo A) (some (.int i)) (some (.ref g)) (some (.ref h)) (some (.int t)) y10 y11 y12 y13 y14 y15 y16 y17 y18 y19) M' := by
        simp [T_law_3, lw, eh]
        rw [if_neg hs]
        exact hN _ _ _ _ _ _ _ _ _ _ _ _ _ _ _
      by_cases ht : (t : Int) < 600
      · rw [if_pos ht]
        clear hout
        obtain ⟨sts', s, rfl⟩ : ∃ sts' s, sts = sts' ++ [s] := ⟨sts.dropLast, sts.getLast hs, (List.dropLast_concat_getLast hs).symm⟩
        obtain ⟨hsl, hsg⟩ := hI.st s (by simp)
        have hsm := gf_sm (c := 1) (hsg.dvd (si_dvd hsl)) (by omega)
        have htm : t < 600 := by omega
        obtain ⟨r, hgo, hout⟩ := go_adv C.P (mo := mo) (tp := s.1) 1500 [p.2] 1 [] 0 (gs_one hd) h1 (mu_one hd h3) (Nat.zero_le _)
        rw [List.drop_zero] at hout
        rw [kvB_P] at hgo
        have nxt : ∀ (qs' : Nat → Int × Int) (sts2 : List Tp) (h' : Addr) (m2 : Sto) (x10 x11 x12 x13 x14 x15 x16 x17 x18 x19 : Option D), m2 g = some (.lst ((List.range (mo + 1)).map fun n => dF (qs' n))) → m2 h' = some (.lst (sts2.map dTp)) → g ≠ h' → TI34 (bdOf ps) mo A p.2 qs' sts2 (t + 1) →
            ∃ m', m' < mm ∧ LwW sc a ps nl mo (toldD ps mo A) A p.2 i g m' (lw sc a ps nl mo (toldD ps mo A) (some (.int i)) (some (.ref g)) (some (.ref h')) (some (.int ((t : Int) + 1))) x10 x11 x12 x13 x14 x15 x16 x17 x18 x19) m2 :=
          fun qs' sts2 h' m2 x10 x11 x12 x13 x14 x15 x16 x17 x18 x19 e1 e2 e3 e4 => ⟨mm - 1, by omega, qs', sts2, t + 1, h', x10, x11, x12, x13, x14, x15, x16, x17, x18, x19, by omega, by simp, e1, e2, e3, e4⟩
        have eg2 : (M'.set h (.lst (sts'.map dTp))) g = some (.lst ((List.range (mo + 1)).map fun n => dF (qs n))) := by rw [set_ne hgh]; exact eg
        have eh2 : (M'.set h (.lst (sts'.map dTp))) h = some (.lst (sts'.map dTp)) := set_same
        simp [WB_law_1, eh, dTp]
        refine go ?_
        simp
        refine go ?_
        simp [hi, hpe, S_run, dBP]
        have hgo' : Go (kvP (ps.map fun p => (p.1, p.2.d))) s.1 mo 1500 [p.2.d] [] 1 0 r := hgo
        refine ⟨ps.map fun p => (p.1, p.2.d), by rw [List.map_map]; rfl, s.1, rfl, by rw [List.map_map]; exact C.nd, p.2.d, by rw [← kvB_P, lk_kvB, hbd]; rfl, 1500, by omega, by omega, r, hgo', ?_⟩
        clear hgo hgo'
        have hw0 : ∀ n, Wv (bdOf ps) mo A p.2 s.1 n = Vo A n (adv (bdOf ps) mo 1500 [p.2] 1 s.1) := fun n => rfl
        cases ha : adv (bdOf ps) mo 1500 [p.2] 1 s.1 with
        | none => rw [ha] at hout; exact hout.elim
        | stopped c =>
          rw [ha] at hout
          obtain ⟨w, u, rfl⟩ := hout
          simp [told]
          refine go ?_
          simp
          refine go ?_
          simp [T_law_2]
          exact nxt qs sts' h _ _ _ _ _ _ _ _ _ _ _ eg2 eh2 hgh (hI.stop fun n => by rw [hw0, ha]; rfl)
        | calls c =>
          rw [ha] at hout
          obtain ⟨w, u, rfl⟩ := hout
          simp [told]
          refine go ?_
          simp
          refine go ?_
          simp [T_law_2]
          exact nxt qs sts' h _ _ _ _ _ _ _ _ _ _ _ eg2 eh2 hgh (hI.stop fun n => by rw [hw0, ha]; rfl)
        | ended c =>
          have hc := adv_ended 1500 [p.2] 1 s.1 h1 ha
          rw [ha] at hout
          obtain ⟨w, u, rfl⟩ := hout
          have hqg := hI.q c hc
          have hqs := gf_sm hqg (by omega)
          simp [told]
          refine go ?_
          simp [eg2, S_law_plus]
          rw [if_pos (by omega)]
          have hcl : c < mo + 1 := by omega
          have hsgg := hsg.dvd (si_dvd hsl)
          simp [hcl]
          refine ⟨(qs c).1, (qs c).2, rfl, s.2.1, s.2.2, rfl, hqg.p, hsg.p, hqs.1, hqs.2, hsm.1, hsm.2, go ?_⟩
          rw [set_updQ hcl]
          simp [T_law_2]
          exact nxt (updQ qs c (addF (qs c) s.2)) sts' h _ _ _ _ _ _ _ _ _ _ _ (by rw [set_same]; rfl) (by rw [set_ne hgh.symm]; exact eh2) hgh (hI.ended ha hc)
        | need r' ws c =>
          obtain ⟨n1, n2, n3, n4⟩ := hI.need C.P C.F hd h1 h3 ha
          rw [ha] at hout
          obtain ⟨w, rfl⟩ := hout
          simp [told]
          refine go ?_
          simp
          refine go ?_
          simp [T_law_2, hi, hpe, S_law_next, dBP]
          refine ⟨ps, rfl, s.1, rfl, mo, rfl, C.nd, p.2, hbd, ⟨ns, ls, C.P⟩, h1, h3, by omega, r', ⟨ws, c, ha⟩, go ?_⟩
          generalize hL : lcmR r'.fs = L at n1 n2 n3 n4 ⊢
          have hlt2 : ¬ L < 2 := by omega
          simp [hlt2]
          refine go ?_
          simp [T_law_1]
          refine ⟨by omega, by omega, fun q2 hq2 => ?_⟩
          have hhq : h ≠ q2 := ne_of eh2 hq2
          have hgq : g ≠ q2 := ne_of eg2 hq2
          have hml : (more s L).length = L.toNat := by simp [more]
          have hsl2 := hI.len
          simp only [List.length_append, List.length_cons, List.length_nil] at hsl2
          refine comp_map (moreV s L) (fun _ => True) (fun _ _ _ => trivial) (fun _ _ => trivial) _ [] _ ?_ (by rw [rangeL_len]; simp; omega) set_same trivial ?_
          · intro x hx m3 T _ hT
            obtain ⟨k, hk0, hkL, rfl⟩ := mem_rangeL hx
            have hgs : Sm 4000 L := Sm.mono (m := 10) ⟨by omega⟩ (by decide)
            simp [CE_law_3, S_law_times]
            exact ⟨by omega, s.2.1, s.2.2, rfl, 1, L, rfl, hsg.p, by omega, hsm.1, hsm.2, Sm.mono (m := 1) ⟨by decide⟩ (by decide), hgs, by simpa [moreV, dTp, mulF] using hT⟩
          · rw [set_set, List.nil_append, moreV_map]
            rw [set_ne hhq, eh2, set_same]
            simp only [lstO_lst, List.length_map]
            refine ⟨by omega, fun h2 hh2 => ?_⟩
            have hh2' := (set_none.mp hh2)
            have eg3 : ((M'.set h (.lst (sts'.map dTp))).set q2 (.lst ((more s L).map dTp))) g = some (.lst ((List.range (mo + 1)).map fun n => dF (qs n))) := by rw [set_ne hgq]; exact eg2
            have hgh2 : g ≠ h2 := ne_of eg3 hh2
            refine nxt qs (sts' ++ more s L) h2 _ _ _ _ _ _ _ _ _ _ _ (by rw [set_ne hgh2]; exact eg3) (by rw [set_same]; simp) hgh2 n1
      · rw [if_neg ht]
        exact hout
end
theorem take3_nd {ps : List (Str × Bd)} (nd : (ps.map Prod.fst).Nodup) : ((ps.take 3).map Prod.fst).Nodup := by
  rw [List.map_take]
  exact nd.sublist (List.take_sublist _ _)
theorem allN_nd : ∀ ns ∈ allN, ns.Nodup := by decide +kernel
theorem bdOf_some {ps : List (Str × Bd)} {x : Str} {d : Bd} (h : bdOf ps x = some d) : ∃ p ∈ ps, p.1 = x ∧ p.2 = d := by
  unfold bdOf at h
  cases hf : ps.find? (fun p => decide (p.1 = x)) with
  | none => rw [hf] at h; cases h
  | some p =>
    rw [hf] at h
    have := List.find?_some hf
    exact ⟨p, List.mem_of_find?_eq_some hf, by simpa using this, by simpa using h⟩
theorem bdOf_isSome {ps : List (Str × Bd)} {x : Str} : (bdOf ps x).isSome = decide (x ∈ ps.map Prod.fst) := by
  rw [Bool.eq_iff_iff]
  simp only [decide_eq_true_eq]
  constructor
  · intro h
    obtain ⟨d, hd⟩ := Option.isSome_iff_exists.mp h
    obtain ⟨p, hp, e, _⟩ := bdOf_some hd
    exact List.mem_map.mpr ⟨p, hp, e⟩
  · intro h
    obtain ⟨p, hp, rfl⟩ := List.mem_map.mp h
    unfold bdOf
    rw [Option.isSome_map, List.find?_isSome]
    exact ⟨p, hp, by simp⟩
theorem ob_law : ∀ E ds M Q, S_law E ds M Q → B_law E (endsL Q) (start 20 ds) M := by
  intro E ds M Q h
  obtain ⟨x, rfl, ⟨sc, rfl, hl, hb⟩, hq⟩ := fn1_e h
  have hsz := sizeLine_ge
  simp [B_law]
  refine ⟨sc, rfl, hl, fun a b hab ha hb => ?_⟩
  have hc : CSt ((M.set b (.lst (sc.map .int))).set a (cs b 0 0 0 20)) a b := ⟨hab, ⟨sc, by rw [set_ne hab.symm, set_same]⟩, _, set_same, 0, 0, 0, 20, by decide, rfl⟩
  generalize ((M.set b (.lst (sc.map .int))).set a (cs b 0 0 0 20)) = M0 at hc ⊢
  refine go ?_
  simp
  refine ⟨a, b, rfl, hc, fun rs o hwp hco => ?_⟩
  have f1 := hc.refl.set hco
  generalize M0.set a o = m1 at f1 ⊢
  obtain ⟨ps0, ls, ep, hP⟩ := wp_pb hwp
  rw [ep]
  have e3 : cut (ps0.map dBP) none (some 3) = (ps0.take 3).map dBP := by
    rw [cut_to _ (by omega), List.map_take]; rfl
  simp [e3]
  rw [← List.map_take]
  have hnd0 := allN_nd _ hP.1
  have hpl : (ps0.take 3).length ≤ 3 := by simp; omega
  have hnd := take3_nd hnd0
  have hok : ∀ r ∈ ps0.take 3, r.2.ok (ps0.map Prod.fst) ls 5 := fun r hr => hP.2.2 r (List.mem_of_mem_take hr)
  have hbo : ∀ r ∈ ps0.take 3, BO r.2 := fun r hr => ⟨_, hP.1, ls, hP.2.1, hok r hr⟩
  generalize hns : ps0.map Prod.fst = ns at hok
  generalize ps0.take 3 = ps at hpl hnd hok hbo ⊢
  refine go ?_
  simp
  intro nl hnl
  have hnl1 := f1.none hnl
  refine comp_ind (fun acc xs m => ∃ dn rs : List (Str × Bd), acc = dn.map (fun p => .str p.1) ∧ xs = rs.map dBP ∧ dn ++ rs = ps ∧ m nl = some (.lst acc) ∧ Fr a b M0 m) ?_ ?_ _ [] _ ⟨[], ps, rfl, rfl, rfl, set_same, f1.fresh hnl⟩
  · rintro x xs acc m ⟨dn, rs, rfl, hx, hd, en, f⟩
    obtain ⟨r, rs, rfl, rfl, rfl⟩ := pcons hx
    have hdl : dn.length ≤ 3 := by have := congrArg List.length hd; simp at this; omega
    refine ⟨trivial, by simp; omega, fun T hT => ?_⟩
    simp [CE_law_1, dBP]
    exact hT _ _ en ⟨dn ++ [r], rs, by simp, rfl, by simpa using hd, set_same, f.upd hnl1.2 hnl1.1⟩
  · rintro acc m ⟨dn, rs, rfl, hx, hd, en, f⟩
    have := pnil hx
    subst this
    rw [List.append_nil] at hd
    subst hd
    refine ⟨trivial, go ?_⟩
    simp
    intro q hq2
    have hq1 := f.none hq2
    have hnq : nl ≠ q := ne_of en hq2
    refine comp_ind (fun acc xs m => ∃ d2 rs : List (Str × Bd), acc = d2.map (fun p => .bl (p.2.cin fun s => decide (s ∈ dn.map Prod.fst))) ∧ xs = rs.map dBP ∧ d2 ++ rs = dn ∧ m q = some (.lst acc) ∧ m nl = some (.lst ((dn.map Prod.fst).map .str)) ∧ Fr a b M0 m) ?_ ?_ _ [] _
      ⟨[], dn, rfl, rfl, rfl, set_same, by rw [set_ne hnq, en, List.map_map]; rfl, f.fresh hq2⟩
    · rintro x xs acc m2 ⟨d2, rs, rfl, hx, hd, eq2, en2, f2⟩
      obtain ⟨r, rs, rfl, rfl, rfl⟩ := pcons hx
      have hdl : d2.length ≤ 3 := by have := congrArg List.length hd; simp at this; omega
      have hr : r ∈ dn := by rw [← hd]; simp
      refine ⟨trivial, by simp; omega, fun T hT => ?_⟩
      simp [CE_law_2, dBP, S_law_calls_within]
      exact ⟨r.2, rfl, ns, ls, 5, dn.map Prod.fst, en2, hok r hr, by omega, hT _ _ eq2 ⟨d2 ++ [r], rs, by simp, rfl, by simpa using hd, set_same, by rw [set_ne hnq]; exact en2, f2.upd hq1.2 hq1.1⟩⟩
    · rintro acc m2 ⟨d2, rs, rfl, hx, hd, eq2, en2, f2⟩
      have := pnil hx
      subst this
      rw [List.append_nil] at hd
      subst hd
      refine ⟨trivial, ?_⟩
      simp [eq2]
      rw [asBools_map d2 fun p => p.2.cin fun s => decide (s ∈ d2.map Prod.fst), onBs_some]
      by_cases hcf : ∃ p ∈ d2, p.2.cin (fun s => decide (s ∈ d2.map Prod.fst)) = false
      · rw [if_pos (by obtain ⟨p, hp, e⟩ := hcf; exact List.mem_map.mpr ⟨p, hp, e⟩)]
        exact ⟨m2, Le.refl, hq _⟩
      · rw [if_neg (by intro e; obtain ⟨p, hp, e⟩ := List.mem_map.mp e; exact hcf ⟨p, hp, e⟩)]
        have hcin : ∀ p ∈ d2, p.2.cin (fun s => decide (s ∈ d2.map Prod.fst)) = true := fun p hp => by
          cases e : p.2.cin (fun s => decide (s ∈ d2.map Prod.fst)) with
          | true => rfl
          | false => exact absurd ⟨p, hp, e⟩ hcf
        refine go ?_
        simp [T_law_5, S_law_take]
        refine ⟨b, hc.fr f2, fun t o ht0 ht3 hco2 => go ?_⟩
        obtain ⟨t, rfl⟩ := Int.eq_ofNat_of_zero_le ht0
        generalize m2.set a o = m3
        have ht : t < 3 := by omega
        obtain ⟨mo, hmo⟩ : ∃ mo : Nat, mo = 1 + t := ⟨_, rfl⟩
        rw [show (1 : Int) + (t : Int) = (mo : Int) by omega]
        have hm1 : 1 ≤ mo := by omega
        have hm3 : mo ≤ 3 := by omega
        have hF : Fix (bdOf d2) mo (ser (tbOf d2) mo) := by
          refine ⟨fun p => ser_zero _ _ _, fun x d hx m hm => ?_⟩
          obtain ⟨p, hp, rfl, rfl⟩ := bdOf_some hx
          rw [ser_at (tbOf d2) hm p.1, tbOf_mem hnd hp, wsum_alts (hok p hp)]
        have hPg : Pg (bdOf d2) ns ls := ⟨fun x d hx => by
          obtain ⟨p, hp, rfl, rfl⟩ := bdOf_some hx
          refine ⟨hok p hp, ?_⟩
          have := hcin p hp
          have e : (fun x => (bdOf d2 x).isSome) = fun s => decide (s ∈ d2.map Prod.fst) := funext fun x => bdOf_isSome
          rw [e]; exact this⟩
        have C : LWc d2 ns ls mo (ser (tbOf d2) mo) := ⟨hnd, by omega, hPg, hF, hm1, hm3⟩
        simp [S_lengths]
        refine ⟨d2, rfl, mo, rfl, hm1, hm3, by omega, hnd, fun x r hr => ⟨hbo (x, r) hr, by simpa using hcin (x, r) hr⟩, go ?_⟩
        simp
        refine ⟨by omega, ?_⟩
        refine for_ind (fun xs e m => ∃ x6 x7 x8 x9 x10 x11 x12 x13 x14 x15 x16 x17 x18 x19 : Option D, (∀ x ∈ xs, ∃ i : Nat, i < d2.length ∧ x = .int i) ∧ e = lw sc a d2 nl mo (toldD d2 mo (ser (tbOf d2) mo)) x6 x7 x8 x9 x10 x11 x12 x13 x14 x15 x16 x17 x18 x19) ?_ ?_ _ _ _
          ⟨_, _, _, _, _, _, _, _, _, _, _, _, _, _, fun x hx => ?_, rfl⟩
        · rintro x xs e m ⟨x6, x7, x8, x9, x10, x11, x12, x13, x14, x15, x16, x17, x18, x19, hxs, rfl⟩
          obtain ⟨i, hi, rfl⟩ := hxs x (.head _)
          refine ⟨trivial, fun N hN => ?_⟩
          rw [gName_s]
          exact law_one C hi fun x6 x7 x8 x9 x10 x11 x12 x13 x14 x15 x16 x17 x18 x19 m' => hN _ _ ⟨_, _, _, _, _, _, _, _, _, _, _, _, _, _, fun x hx => hxs x (.tail _ hx), rfl⟩
        · rintro e m ⟨x6, x7, x8, x9, x10, x11, x12, x13, x14, x15, x16, x17, x18, x19, hxs, rfl⟩
          refine ⟨trivial, ?_⟩
          dsimp only
          refine go ?_
          simp [T_law_4]
          exact ⟨m, Le.refl, hq _⟩
        · obtain ⟨k, hk0, hk1, rfl⟩ := mem_rangeL hx
          obtain ⟨i, rfl⟩ := Int.eq_ofNat_of_zero_le hk0
          exact ⟨i, by omega, rfl⟩
end DL

set_option Elab.async false
set_option linter.all false
set_option maxRecDepth 100000
set_option maxHeartbeats 8000000
/-! derivations (printed by gen.py) -/
namespace DL
open PySem PySem.Spec PyProof.Rows L2
def top (i : Nat) : Stmt := PySem.Challenge.pw_hazardry_k34_chances_over_all_tapes.main.body.getD i (.Pass ⟨0, 0, 0, 0⟩)
structure Tx (K : PySem.W.Frag) (mg : Str → Option Value) : Prop where
  m_abs : mg "abs" = none
  m_all : mg "all" = none
  m_bool : mg "bool" = none
  m_dict : mg "dict" = none
  m_int : mg "int" = none
  m_isinstance : mg "isinstance" = none
  m_len : mg "len" = none
  m_list : mg "list" = none
  m_range : mg "range" = none
  m_sorted : mg "sorted" = none
  m_str : mg "str" = none
  m_sum : mg "sum" = none
  m_tuple : mg "tuple" = none
  m_zip : mg "zip" = none
  g_ZERO : GRep K mg "ZERO" g_ZERO
  g_ONE : GRep K mg "ONE" g_ONE
  g_MOST_DIGITS : GRep K mg "MOST_DIGITS" g_MOST_DIGITS
abbrev s_common_divisor : Stmt := top 6
theorem sc_common_divisor : FnScope ["first", "second"] ["first", "second"] (defScope s_common_divisor) := ⟨rfl, rfl, rfl, by decide +kernel, rfl, by decide +kernel, by decide +kernel⟩
abbrev s_ratio : Stmt := top 7
theorem sc_ratio : FnScope ["above", "below", "both"] ["above", "below"] (defScope s_ratio) := ⟨rfl, rfl, rfl, by decide +kernel, rfl, by decide +kernel, by decide +kernel⟩
abbrev s_plus : Stmt := top 8
theorem sc_plus : FnScope ["first", "second"] ["first", "second"] (defScope s_plus) := ⟨rfl, rfl, rfl, by decide +kernel, rfl, by decide +kernel, by decide +kernel⟩
abbrev s_times : Stmt := top 9
theorem sc_times : FnScope ["first", "second"] ["first", "second"] (defScope s_times) := ⟨rfl, rfl, rfl, by decide +kernel, rfl, by decide +kernel, by decide +kernel⟩
abbrev s_has_digits : Stmt := top 10
theorem sc_has_digits : FnScope ["one", "most", "bound", "turn"] ["one", "most"] (defScope s_has_digits) := ⟨rfl, rfl, rfl, by decide +kernel, rfl, by decide +kernel, by decide +kernel⟩
abbrev s_ways : Stmt := top 12
theorem sc_ways : FnScope ["body", "found", "left", "one", "chance", "calls", "letters", "fraction", "inner"] ["body"] (defScope s_ways) := ⟨rfl, rfl, rfl, by decide +kernel, rfl, by decide +kernel, by decide +kernel⟩
abbrev s_alternatives_of : Stmt := top 13
theorem sc_alternatives_of : FnScope ["body", "chances", "chance", "calls", "letters", "key"] ["body"] (defScope s_alternatives_of) := ⟨rfl, rfl, rfl, by decide +kernel, rfl, by decide +kernel, by decide +kernel⟩
abbrev s_alternatives : Stmt := top 14
theorem sc_alternatives : FnScope ["program", "name", "body"] ["program"] (defScope s_alternatives) := ⟨rfl, rfl, rfl, by decide +kernel, rfl, by decide +kernel, by decide +kernel⟩
abbrev s_common_bottom : Stmt := top 17
theorem sc_common_bottom : FnScope ["tables", "found", "name", "rows", "chance", "calls", "letters"] ["tables"] (defScope s_common_bottom) := ⟨rfl, rfl, rfl, by decide +kernel, rfl, by decide +kernel, by decide +kernel⟩
abbrev s_merged : Stmt := top 18
theorem sc_merged : FnScope ["rows", "bottom", "found", "chance", "calls", "letters", "key"] ["rows", "bottom"] (defScope s_merged) := ⟨rfl, rfl, rfl, by decide +kernel, rfl, by decide +kernel, by decide +kernel⟩
abbrev s_beginnings : Stmt := top 19
theorem sc_beginnings : FnScope ["tables", "found", "name", "parts", "key", "many"] ["tables"] (defScope s_beginnings) := ⟨rfl, rfl, rfl, by decide +kernel, rfl, by decide +kernel, by decide +kernel⟩
abbrev s_lengths : Stmt := top 20
theorem sc_lengths : FnScope ["program", "most", "tables", "bottom", "parts", "keys", "series", "found", "products", "power", "k", "key", "name", "rows", "number", "before", "last", "one", "two"] ["program", "most"] (defScope s_lengths) := ⟨rfl, rfl, rfl, by decide +kernel, rfl, by decide +kernel, by decide +kernel⟩
abbrev s_checked : Stmt := top 21
theorem sc_checked : FnScope ["one"] ["one"] (defScope s_checked) := ⟨rfl, rfl, rfl, by decide +kernel, rfl, by decide +kernel, by decide +kernel⟩
abbrev s_common_denominator : Stmt := top 23
theorem sc_common_denominator : FnScope ["rows", "found", "fraction", "body"] ["rows"] (defScope s_common_denominator) := ⟨rfl, rfl, rfl, by decide +kernel, rfl, by decide +kernel, by decide +kernel⟩
abbrev s_drawn : Stmt := top 24
theorem sc_drawn : FnScope ["rows", "many", "number", "fraction", "body", "share"] ["rows", "many", "number"] (defScope s_drawn) := ⟨rfl, rfl, rfl, by decide +kernel, rfl, by decide +kernel, by decide +kernel⟩
abbrev s_run : Stmt := top 25
theorem sc_run : FnScope ["program", "procedure", "tape", "most", "bodies", "body", "behind", "word", "calls", "used", "end", "many"] ["program", "procedure", "tape", "most"] (defScope s_run) := ⟨rfl, rfl, rfl, by decide +kernel, rfl, by decide +kernel, by decide +kernel⟩
abbrev s_law_start : Stmt := top 27
theorem sc_law_start : FnScope ["script", "cell"] ["script"] (defScope s_law_start) := ⟨rfl, rfl, rfl, by decide +kernel, rfl, by decide +kernel, by decide +kernel⟩
abbrev s_law_fill : Stmt := top 28
theorem sc_law_fill : FnScope ["c", "number"] ["c"] (defScope s_law_fill) := ⟨rfl, rfl, rfl, by decide +kernel, rfl, by decide +kernel, by decide +kernel⟩
abbrev s_law_take : Stmt := top 29
theorem sc_law_take : FnScope ["c", "many", "digit"] ["c", "many"] (defScope s_law_take) := ⟨rfl, rfl, rfl, by decide +kernel, rfl, by decide +kernel, by decide +kernel⟩
abbrev s_law_divisor : Stmt := top 30
theorem sc_law_divisor : FnScope ["a", "b", "turn"] ["a", "b"] (defScope s_law_divisor) := ⟨rfl, rfl, rfl, by decide +kernel, rfl, by decide +kernel, by decide +kernel⟩
abbrev s_law_fraction : Stmt := top 31
theorem sc_law_fraction : FnScope ["n", "d", "many"] ["n", "d"] (defScope s_law_fraction) := ⟨rfl, rfl, rfl, by decide +kernel, rfl, by decide +kernel, by decide +kernel⟩
abbrev s_law_plus : Stmt := top 32
theorem sc_law_plus : FnScope ["a", "b"] ["a", "b"] (defScope s_law_plus) := ⟨rfl, rfl, rfl, by decide +kernel, rfl, by decide +kernel, by decide +kernel⟩
abbrev s_law_times : Stmt := top 33
theorem sc_law_times : FnScope ["a", "b"] ["a", "b"] (defScope s_law_times) := ⟨rfl, rfl, rfl, by decide +kernel, rfl, by decide +kernel, by decide +kernel⟩
abbrev s_law_cut : Stmt := top 34
theorem sc_law_cut : FnScope ["c", "menu", "found", "rest", "n", "d", "part"] ["c"] (defScope s_law_cut) := ⟨rfl, rfl, rfl, by decide +kernel, rfl, by decide +kernel, by decide +kernel⟩
abbrev s_law_body : Stmt := top 35
theorem sc_law_body : FnScope ["c", "names", "letters", "deep", "way", "one"] ["c", "names", "letters", "deep"] (defScope s_law_body) := ⟨rfl, rfl, rfl, by decide +kernel, rfl, by decide +kernel, by decide +kernel⟩
abbrev s_law_program : Stmt := top 36
theorem sc_law_program : FnScope ["c", "names", "k", "letters", "name"] ["c"] (defScope s_law_program) := ⟨rfl, rfl, rfl, by decide +kernel, rfl, by decide +kernel, by decide +kernel⟩
abbrev s_law_alike : Stmt := top 37
theorem sc_law_alike : FnScope ["value", "due", "k"] ["value", "due"] (defScope s_law_alike) := ⟨rfl, rfl, rfl, by decide +kernel, rfl, by decide +kernel, by decide +kernel⟩
abbrev s_law_next : Stmt := top 38
theorem sc_law_next : FnScope ["program", "p", "tape", "most", "bodies", "turn", "waiting", "calls", "used", "body", "d", "t", "one", "inner", "many"] ["program", "p", "tape", "most"] (defScope s_law_next) := ⟨rfl, rfl, rfl, by decide +kernel, rfl, by decide +kernel, by decide +kernel⟩
abbrev s_law_calls_within : Stmt := top 39
theorem sc_law_calls_within : FnScope ["body", "names", "one", "inner"] ["body", "names"] (defScope s_law_calls_within) := ⟨rfl, rfl, rfl, by decide +kernel, rfl, by decide +kernel, by decide +kernel⟩
abbrev s_law : Stmt := top 40
theorem sc_law : FnScope ["script", "c", "program", "names", "most", "told", "k", "sums", "states", "count", "name", "body", "tape", "chance", "end", "word", "calls", "used", "d", "t"] ["script"] (defScope s_law) := ⟨rfl, rfl, rfl, by decide +kernel, rfl, by decide +kernel, by decide +kernel⟩
section
variable {P : Program} {w : World} {K : PySem.W.Frag} {mg : Str → Option Value} {base : Heap} {CA : String → Addr}
theorem ok_common_divisor (T : Tx K mg) {f : Addr} {fd : FuncData} (F : Fun K "common_divisor" "common_divisor" s_common_divisor f fd) : FnOk P w K mg base CX0 1 f fd ["first", "second"] (spOf ⟨P, w, K, CA⟩ S_common_divisor) :=
  fn_l F sc_common_divisor len2 (gb := B_common_divisor) (fun cdv A outer s H E hr =>
    (ss_cons (s_par 0 1 rfl sc_common_divisor.nd (by decide) (d_abs T.m_abs (d_var 0)) (d_abs T.m_abs (d_var 1)) rfl)
    (ss_cons (s_while PassesOwn.never (t_cmp (op_neA hr) neS (d_var 1) d_int (nomark _)) (ss_one (s_par 0 1 rfl sc_common_divisor.nd (by decide) (d_var 1) (d_mod (d_var 0) (d_var 1)) rfl)))
    (ss_one (s_ret (d_var 0)))))) ob_common_divisor
theorem ok_ratio (T : Tx K mg) {f : Addr} {fd : FuncData} (F : Fun K "ratio" "ratio" s_ratio f fd) (D_common_divisor : FnD ⟨P, w, K, CA⟩ mg base CX0 1 "common_divisor" S_common_divisor) : FnOk P w K mg base CX0 2 f fd ["above", "below"] (spOf ⟨P, w, K, CA⟩ S_ratio) :=
  fn_l F sc_ratio len2 (gb := B_ratio) (fun cdv A outer s H E hr =>
    (ss_cons (s_if (t_cmp op_lt ltS (d_var 1) d_int (nomark _)) (ss_one (s_par 0 1 rfl sc_ratio.nd (by decide) (d_neg (d_var 0)) (d_neg (d_var 1)) rfl)) ss_nil)
    (ss_cons (s_if (t_cmp (op_neA hr) neS (d_var 1) d_int (nomark _)) (ss_cons (s_set 2 sc_ratio.nd (d_call D_common_divisor hr (by decide) passN (a_cons (d_var 0) (a_cons (d_var 1) SAs.nil))))
    (ss_one (s_par 0 1 rfl sc_ratio.nd (by decide) (d_div (d_var 0) (d_var 2)) (d_div (d_var 1) (d_var 2)) rfl))) ss_nil)
    (ss_one (s_ret (d_tup (a_cons (d_var 0) (a_cons (d_var 1) SAs.nil)))))))) ob_ratio
theorem ok_plus (T : Tx K mg) {f : Addr} {fd : FuncData} (F : Fun K "plus" "plus" s_plus f fd) (D_ratio : FnD ⟨P, w, K, CA⟩ mg base CX0 2 "ratio" S_ratio) : FnOk P w K mg base CX0 3 f fd ["first", "second"] (spOf ⟨P, w, K, CA⟩ S_plus) :=
  fn_l F sc_plus len2 (gb := B_plus) (fun cdv A outer s H E hr =>
    (ss_cons (s_if (t_chain (op_eqA hr) eqS (op_eqA hr) eqS (d_sub_ hr (d_var 0) d_int) (d_sub_ hr (d_var 1) d_int) d_int) (ss_one (s_ret (d_tup (a_cons (d_add (d_sub_ hr (d_var 0) d_int) (d_sub_ hr (d_var 1) d_int)) (a_cons d_int SAs.nil))))) ss_nil)
    (ss_one (s_ret (d_call D_ratio hr (by decide) passN (a_cons (d_add (d_mul (d_sub_ hr (d_var 0) d_int) (d_sub_ hr (d_var 1) d_int)) (d_mul (d_sub_ hr (d_var 1) d_int) (d_sub_ hr (d_var 0) d_int))) (a_cons (d_mul (d_sub_ hr (d_var 0) d_int) (d_sub_ hr (d_var 1) d_int)) SAs.nil))))))) ob_plus
theorem ok_times (T : Tx K mg) {f : Addr} {fd : FuncData} (F : Fun K "times" "times" s_times f fd) (D_ratio : FnD ⟨P, w, K, CA⟩ mg base CX0 2 "ratio" S_ratio) : FnOk P w K mg base CX0 3 f fd ["first", "second"] (spOf ⟨P, w, K, CA⟩ S_times) :=
  fn_l F sc_times len2 (gb := B_times) (fun cdv A outer s H E hr =>
    (ss_one (s_ret (d_call D_ratio hr (by decide) passN (a_cons (d_mul (d_sub_ hr (d_var 0) d_int) (d_sub_ hr (d_var 1) d_int)) (a_cons (d_mul (d_sub_ hr (d_var 0) d_int) (d_sub_ hr (d_var 1) d_int)) SAs.nil)))))) ob_times
theorem ok_has_digits (T : Tx K mg) {f : Addr} {fd : FuncData} (F : Fun K "has_digits" "has_digits" s_has_digits f fd) : FnOk P w K mg base CX0 1 f fd ["one", "most"] (spOf ⟨P, w, K, CA⟩ S_has_digits) :=
  fn_l F sc_has_digits len2 (gb := B_has_digits) (fun cdv A outer s H E hr =>
    (ss_cons (s_set 2 sc_has_digits.nd d_int)
    (ss_cons (s_for (vs := [3]) PassesOwn.never rfl (i_range1 T.m_range (d_div (d_var 1) d_int)) (g_name 3 sc_has_digits.nd (by decide)) (ss_one (s_set 2 sc_has_digits.nd (d_mul (d_var 2) (d_pow d_int d_int)))))
    (ss_one (s_ret (d_and (d_cmp op_lt ltS (d_abs T.m_abs (d_sub_ hr (d_var 0) d_int)) (d_var 2) (nomark _)) (d_one (d_cmp op_lt ltS (d_sub_ hr (d_var 0) d_int) (d_var 2) (nomark _))))))))) ob_has_digits
theorem ok_ways (T : Tx K mg) {f : Addr} {fd : FuncData} (F : Fun K "ways" "ways" s_ways f fd) (D_times : FnD ⟨P, w, K, CA⟩ mg base CX0 3 "times" S_times) : FnOk P w K mg base CX0 4 f fd ["body"] (spOf ⟨P, w, K, CA⟩ S_ways) :=
  fn_l F sc_ways len1 (gb := B_ways) (fun cdv A outer s H E hr =>
    (ss_cons (s_set 1 sc_ways.nd (d_lst SAs.nil))
    (ss_cons (s_set 2 sc_ways.nd (d_lst (a_cons (d_tup (a_cons (d_var 0) (a_cons (d_glob T.g_ONE) (a_cons (d_tup SAs.nil) (a_cons (d_tup SAs.nil) SAs.nil))))) SAs.nil)))
    (ss_cons (s_while PassesOwn.never (t_tru (d_var 2)) (ss_cons (s_asg (vs := [3, 4, 5, 6]) (d_pop (d_var 2)) (g_tup rfl (gs_cons (g_name 3 sc_ways.nd (by decide)) (gs_cons (g_name 4 sc_ways.nd (by decide)) (gs_cons (g_name 5 sc_ways.nd (by decide)) (gs_cons (g_name 6 sc_ways.nd (by decide)) gs_nil))))))
    (ss_one (s_if (t_cmp (op_eqA hr) eqS (d_sub_ hr (d_var 3) d_int) d_str (nomark _)) (ss_one (s_expr (d_append (d_var 1) (d_tup (a_cons (d_var 4) (a_cons (d_var 5) (a_cons (d_var 6) SAs.nil))))))) (ss_one (s_if (t_cmp (op_eqA hr) eqS (d_sub_ hr (d_var 3) d_int) d_str (nomark _)) (ss_one (s_expr (d_append (d_var 2) (d_tup (a_cons (d_sub_ hr (d_var 3) d_int) (a_cons (d_var 4) (a_cons (d_var 5) (a_cons (d_add (d_var 6) (d_tup (a_cons (d_sub_ hr (d_var 3) d_int) SAs.nil))) SAs.nil)))))))) (ss_one (s_if (t_cmp (op_eqA hr) eqS (d_sub_ hr (d_var 3) d_int) d_str (nomark _)) (ss_one (s_expr (d_append (d_var 2) (d_tup (a_cons (d_sub_ hr (d_var 3) d_int) (a_cons (d_var 4) (a_cons (d_add (d_var 5) (d_tup (a_cons (d_sub_ hr (d_var 3) d_int) SAs.nil))) (a_cons (d_var 6) SAs.nil)))))))) (ss_one (s_if (t_cmp (op_eqA hr) eqS (d_sub_ hr (d_var 3) d_int) d_str (nomark _)) (ss_one (s_for (vs := [7, 8]) PassesOwn.never rfl (i_val (d_rev (d_sub_ hr (d_var 3) d_int))) (g_tup rfl (gs_cons (g_name 7 sc_ways.nd (by decide)) (gs_cons (g_name 8 sc_ways.nd (by decide)) gs_nil))) (ss_one (s_expr (d_append (d_var 2) (d_tup (a_cons (d_var 8) (a_cons (d_call D_times hr (by decide) passN (a_cons (d_var 4) (a_cons (d_var 7) SAs.nil))) (a_cons (d_var 5) (a_cons (d_var 6) SAs.nil)))))))))) ss_nil))))))))))
    (ss_one (s_ret (d_var 1))))))) ob_ways
theorem ok_alternatives_of (T : Tx K mg) {f : Addr} {fd : FuncData} (F : Fun K "alternatives_of" "alternatives_of" s_alternatives_of f fd) (D_ways : FnD ⟨P, w, K, CA⟩ mg base CX0 4 "ways" S_ways) (D_plus : FnD ⟨P, w, K, CA⟩ mg base CX0 3 "plus" S_plus) : FnOk P w K mg base CX0 5 f fd ["body"] (spOf ⟨P, w, K, CA⟩ S_alternatives_of) :=
  fn_l F sc_alternatives_of len1 (gb := B_alternatives_of) (fun cdv A outer s H E hr =>
    (ss_cons (s_set 1 sc_alternatives_of.nd d_dn)
    (ss_cons (s_for (vs := [2, 3, 4]) PassesOwn.never rfl (i_val (d_call D_ways hr (by decide) passN (a_cons (d_var 0) SAs.nil))) (g_tup rfl (gs_cons (g_name 2 sc_alternatives_of.nd (by decide)) (gs_cons (g_name 3 sc_alternatives_of.nd (by decide)) (gs_cons (g_name 4 sc_alternatives_of.nd (by decide)) gs_nil)))) (ss_one (s_asg (vs := []) (d_call D_plus hr (by decide) passN (a_cons (d_get2 hr (d_var 1) (d_tup (a_cons (d_var 3) (a_cons (d_var 4) SAs.nil))) (d_glob T.g_ZERO)) (a_cons (d_var 2) SAs.nil))) (g_sub hr (d_var 1) (d_tup (a_cons (d_var 3) (a_cons (d_var 4) SAs.nil)))))))
    (ss_one (s_ret (d_tupOf T.m_tuple (d_lock 1 (d_comp (own := [("key", 5)]) rfl sc_alternatives_of.nd (i_keys (d_var 1)) (blk_by (N := ["body", "chances", "chance", "calls", "letters", "key"]) (sc := defScope s_alternatives_of) rfl rfl (own := [("key", 5)]) (by decide +kernel)) (fun _ _ _ _ _ => (g_name 5 sc_alternatives_of.nd (by decide))) (fun _ _ _ _ _ => ts_nil) (fun _ _ _ _ _ => (d_add (d_tup (a_cons (d_sub_ hr (d_var 1) (d_var 5)) SAs.nil)) (d_var 5))))))))))) ob_alternatives_of
theorem ok_alternatives (T : Tx K mg) {f : Addr} {fd : FuncData} (F : Fun K "alternatives" "alternatives" s_alternatives f fd) (D_alternatives_of : FnD ⟨P, w, K, CA⟩ mg base CX0 5 "alternatives_of" S_alternatives_of) : FnOk P w K mg base CX0 6 f fd ["program"] (spOf ⟨P, w, K, CA⟩ S_alternatives) :=
  fn_l F sc_alternatives len1 (gb := B_alternatives) (fun cdv A outer s H E hr =>
    (ss_one (s_ret (d_tupOf T.m_tuple (d_comp (own := [("name", 1), ("body", 2)]) rfl sc_alternatives.nd (i_val (d_var 0)) (blk_by (N := ["program", "name", "body"]) (sc := defScope s_alternatives) rfl rfl (own := [("name", 1), ("body", 2)]) (by decide +kernel)) (fun _ _ _ _ _ => (g_tup rfl (gs_cons (g_name 1 sc_alternatives.nd (by decide)) (gs_cons (g_name 2 sc_alternatives.nd (by decide)) gs_nil)))) (fun _ _ _ _ _ => ts_nil) (fun _ _ _ _ _ => (d_tup (a_cons (d_var 1) (a_cons (d_call D_alternatives_of hr (by decide) passN (a_cons (d_var 2) SAs.nil)) SAs.nil))))))))) ob_alternatives
theorem ok_common_bottom (T : Tx K mg) {f : Addr} {fd : FuncData} (F : Fun K "common_bottom" "common_bottom" s_common_bottom f fd) (D_common_divisor : FnD ⟨P, w, K, CA⟩ mg base CX0 1 "common_divisor" S_common_divisor) : FnOk P w K mg base CX0 2 f fd ["tables"] (spOf ⟨P, w, K, CA⟩ S_common_bottom) :=
  fn_l F sc_common_bottom len1 (gb := B_common_bottom) (fun cdv A outer s H E hr =>
    (ss_cons (s_set 1 sc_common_bottom.nd d_int)
    (ss_cons (s_for (vs := [2, 3]) PassesOwn.never rfl (i_val (d_var 0)) (g_tup rfl (gs_cons (g_name 2 sc_common_bottom.nd (by decide)) (gs_cons (g_name 3 sc_common_bottom.nd (by decide)) gs_nil))) (ss_one (s_for (vs := [4, 5, 6]) PassesOwn.never rfl (i_val (d_var 3)) (g_tup rfl (gs_cons (g_name 4 sc_common_bottom.nd (by decide)) (gs_cons (g_name 5 sc_common_bottom.nd (by decide)) (gs_cons (g_name 6 sc_common_bottom.nd (by decide)) gs_nil)))) (ss_one (s_set 1 sc_common_bottom.nd (d_mul (d_var 1) (d_div (d_sub_ hr (d_var 4) d_int) (d_call D_common_divisor hr (by decide) passN (a_cons (d_var 1) (a_cons (d_sub_ hr (d_var 4) d_int) SAs.nil))))))))))
    (ss_one (s_ret (d_var 1)))))) ob_common_bottom
theorem ok_merged (T : Tx K mg) {f : Addr} {fd : FuncData} (F : Fun K "merged" "merged" s_merged f fd) : FnOk P w K mg base CX0 1 f fd ["rows", "bottom"] (spOf ⟨P, w, K, CA⟩ S_merged) :=
  fn_l F sc_merged len2 (gb := B_merged) (fun cdv A outer s H E hr =>
    (ss_cons (s_set 2 sc_merged.nd d_dn)
    (ss_cons (s_for (vs := [3, 4, 5]) PassesOwn.never rfl (i_val (d_var 0)) (g_tup rfl (gs_cons (g_name 3 sc_merged.nd (by decide)) (gs_cons (g_name 4 sc_merged.nd (by decide)) (gs_cons (g_name 5 sc_merged.nd (by decide)) gs_nil)))) (ss_cons (s_set 6 sc_merged.nd (d_tupOf T.m_tuple (d_srtT T.m_sorted (d_var 4))))
    (ss_one (s_asg (vs := []) (d_add (d_get2 hr (d_var 2) (d_var 6) d_int) (d_mul (d_sub_ hr (d_var 3) d_int) (d_div (d_var 1) (d_sub_ hr (d_var 3) d_int)))) (g_sub hr (d_var 2) (d_var 6))))))
    (ss_one (s_ret (d_var 2)))))) ob_merged
theorem ok_beginnings (T : Tx K mg) {f : Addr} {fd : FuncData} (F : Fun K "beginnings" "beginnings" s_beginnings f fd) : FnOk P w K mg base CX0 1 f fd ["tables"] (spOf ⟨P, w, K, CA⟩ S_beginnings) :=
  fn_l F sc_beginnings len1 (gb := B_beginnings) (fun cdv A outer s H E hr =>
    (ss_cons (s_set 1 sc_beginnings.nd d_dn)
    (ss_cons (s_for (vs := [2, 3]) PassesOwn.never rfl (i_val (d_var 0)) (g_tup rfl (gs_cons (g_name 2 sc_beginnings.nd (by decide)) (gs_cons (g_name 3 sc_beginnings.nd (by decide)) gs_nil))) (ss_one (s_lock 3 (s_for (vs := [4]) PassesOwn.never rfl (i_keys (d_var 3)) (g_name 4 sc_beginnings.nd (by decide)) (ss_one (s_for (vs := [5]) PassesOwn.never rfl (i_range1 T.m_range (d_add (d_len T.m_len (d_var 4)) d_int)) (g_name 5 sc_beginnings.nd (by decide)) (ss_one (s_asg (vs := []) d_bl (g_sub hr (d_var 1) (d_slice (d_var 4) o_none (o_some (d_var 5))))))))))))
    (ss_one (s_ret (d_srtLen hr T.m_sorted T.m_len (d_lstN rfl T.m_list (d_var 1)))))))) ob_beginnings
theorem ok_lengths (T : Tx K mg) {f : Addr} {fd : FuncData} (F : Fun K "lengths" "lengths" s_lengths f fd) (D_alternatives : FnD ⟨P, w, K, CA⟩ mg base CX0 6 "alternatives" S_alternatives) (D_common_bottom : FnD ⟨P, w, K, CA⟩ mg base CX0 2 "common_bottom" S_common_bottom) (D_beginnings : FnD ⟨P, w, K, CA⟩ mg base CX0 1 "beginnings" S_beginnings) (D_merged : FnD ⟨P, w, K, CA⟩ mg base CX0 1 "merged" S_merged) (D_checked : FnD ⟨P, w, K, CA⟩ mg base CX0 2 "checked" S_checked) (D_ratio : FnD ⟨P, w, K, CA⟩ mg base CX0 2 "ratio" S_ratio) : FnOk P w K mg base CX0 7 f fd ["program", "most"] (spOf ⟨P, w, K, CA⟩ S_lengths) :=
  fn_l F sc_lengths len2 (gb := B_lengths) (fun cdv A outer s H E hr =>
    (ss_cons (s_set 2 sc_lengths.nd (d_call D_alternatives hr (by decide) passN (a_cons (d_var 0) SAs.nil)))
    (ss_cons (s_set 3 sc_lengths.nd (d_call D_common_bottom hr (by decide) passN (a_cons (d_var 2) SAs.nil)))
    (ss_cons (s_setComp (own := [("name", 12), ("rows", 13)]) 4 rfl sc_lengths.nd (sw_true rfl rfl rfl (by decide +kernel)) (i_val (d_var 2)) (blk_by (N := ["program", "most", "tables", "bottom", "parts", "keys", "series", "found", "products", "power", "k", "key", "name", "rows", "number", "before", "last", "one", "two"]) (sc := defScope s_lengths) rfl rfl (own := [("name", 12), ("rows", 13)]) (by decide +kernel)) (fun _ _ _ _ _ => (g_tup rfl (gs_cons (g_name 12 sc_lengths.nd (by decide)) (gs_cons (g_name 13 sc_lengths.nd (by decide)) gs_nil)))) (fun _ _ _ _ _ => ts_nil) (fun _ _ _ _ _ => (d_tup (a_cons (d_var 12) (a_cons (d_call D_merged hr (by decide) passN (a_cons (d_var 13) (a_cons (d_var 3) SAs.nil))) SAs.nil)))))
    (ss_cons (s_set 5 sc_lengths.nd (d_call D_beginnings hr (by decide) passN (a_cons (d_var 4) SAs.nil)))
    (ss_cons (s_setDc (own := [("name", 12), ("rows", 13)]) 6 rfl sc_lengths.nd (sw_trueD rfl rfl rfl (by decide +kernel)) (i_val (d_var 4)) (blk_by (N := ["program", "most", "tables", "bottom", "parts", "keys", "series", "found", "products", "power", "k", "key", "name", "rows", "number", "before", "last", "one", "two"]) (sc := defScope s_lengths) rfl rfl (own := [("name", 12), ("rows", 13)]) (by decide +kernel)) (fun _ _ _ _ _ => (g_tup rfl (gs_cons (g_name 12 sc_lengths.nd (by decide)) (gs_cons (g_name 13 sc_lengths.nd (by decide)) gs_nil)))) (fun _ _ _ _ _ => ts_nil) (fun _ _ _ _ _ => (d_var 12)) (fun _ _ _ _ _ => (d_lst (a_cons d_int SAs.nil))))
    (ss_cons (s_set 7 sc_lengths.nd (d_dcomp (own := [("name", 12), ("rows", 13)]) rfl sc_lengths.nd (i_val (d_var 4)) (blk_by (N := ["program", "most", "tables", "bottom", "parts", "keys", "series", "found", "products", "power", "k", "key", "name", "rows", "number", "before", "last", "one", "two"]) (sc := defScope s_lengths) rfl rfl (own := [("name", 12), ("rows", 13)]) (by decide +kernel)) (fun _ _ _ _ _ => (g_tup rfl (gs_cons (g_name 12 sc_lengths.nd (by decide)) (gs_cons (g_name 13 sc_lengths.nd (by decide)) gs_nil)))) (fun _ _ _ _ _ => ts_nil) (fun _ _ _ _ _ => (d_var 12)) (fun _ _ _ _ _ => (d_lst (a_cons (d_glob T.g_ZERO) SAs.nil)))))
    (ss_cons (s_set 8 sc_lengths.nd (d_ncomp hr (own := [("key", 11)]) rfl sc_lengths.nd (i_val (d_var 5)) (blk_by (N := ["program", "most", "tables", "bottom", "parts", "keys", "series", "found", "products", "power", "k", "key", "name", "rows", "number", "before", "last", "one", "two"]) (sc := defScope s_lengths) rfl rfl (own := [("key", 11)]) (by decide +kernel)) (fun _ _ _ _ _ => (g_name 11 sc_lengths.nd (by decide))) (fun _ _ _ _ _ => ts_nil) (fun _ _ _ _ _ => (d_var 11)) (fun _ _ _ _ _ => (d_lst SAs.nil))))
    (ss_cons (s_set 9 sc_lengths.nd d_int)
    (ss_cons (s_for (vs := [10]) PassesOwn.never rfl (i_range2 T.m_range d_int (d_add (d_var 1) d_int)) (g_name 10 sc_lengths.nd (by decide)) (ss_cons (s_for (vs := [11]) PassesOwn.never rfl (i_val (d_var 5)) (g_name 11 sc_lengths.nd (by decide)) (ss_one (s_if (t_cmp (op_eqA hr) eqS (d_var 11) (d_tup SAs.nil) (nomark _)) (ss_one (s_expr (d_append (d_sub_ hr (d_var 8) (d_var 11)) (d_intC T.m_int (d_cmp (op_eqA hr) eqS (d_var 10) d_int (nomark _)))))) (ss_cons (s_par 15 16 rfl sc_lengths.nd (by decide) (d_sub_ hr (d_var 8) (d_slice (d_var 11) o_none (o_some (d_neg d_int)))) (d_sub_ hr (d_var 6) (d_sub_ hr (d_var 11) (d_neg d_int))) rfl)
    (ss_one (s_expr (d_append (d_sub_ hr (d_var 8) (d_var 11)) (d_sum rfl T.m_sum (d_comp (own := [("one", 17), ("two", 18)]) rfl sc_lengths.nd (i_zip T.m_zip (d_var 15) (d_rev (d_var 16))) (blk_by (N := ["program", "most", "tables", "bottom", "parts", "keys", "series", "found", "products", "power", "k", "key", "name", "rows", "number", "before", "last", "one", "two"]) (sc := defScope s_lengths) rfl rfl (own := [("one", 17), ("two", 18)]) (by decide +kernel)) (fun _ _ _ _ _ => (g_tup rfl (gs_cons (g_name 17 sc_lengths.nd (by decide)) (gs_cons (g_name 18 sc_lengths.nd (by decide)) gs_nil)))) (fun _ _ _ _ _ => ts_nil) (fun _ _ _ _ _ => (d_mul (d_var 17) (d_var 18))))))))))))
    (ss_cons (s_set 9 sc_lengths.nd (d_mul (d_var 9) (d_var 3)))
    (ss_one (s_for (vs := [12, 13]) PassesOwn.never rfl (i_val (d_var 4)) (g_tup rfl (gs_cons (g_name 12 sc_lengths.nd (by decide)) (gs_cons (g_name 13 sc_lengths.nd (by decide)) gs_nil))) (ss_cons (s_set 14 sc_lengths.nd (d_sum rfl T.m_sum (d_lock 13 (d_comp (own := [("key", 11)]) rfl sc_lengths.nd (i_keys (d_var 13)) (blk_by (N := ["program", "most", "tables", "bottom", "parts", "keys", "series", "found", "products", "power", "k", "key", "name", "rows", "number", "before", "last", "one", "two"]) (sc := defScope s_lengths) rfl rfl (own := [("key", 11)]) (by decide +kernel)) (fun _ _ _ _ _ => (g_name 11 sc_lengths.nd (by decide))) (fun _ _ _ _ _ => ts_nil) (fun _ _ _ _ _ => (d_mul (d_sub_ hr (d_var 13) (d_var 11)) (d_sub_ hr (d_sub_ hr (d_var 8) (d_var 11)) (d_sub (d_var 10) d_int))))))))
    (ss_cons (s_expr (d_append (d_sub_ hr (d_var 6) (d_var 12)) (d_var 14)))
    (ss_one (s_expr (d_append (d_sub_ hr (d_var 7) (d_var 12)) (d_call D_checked hr (by decide) passN (a_cons (d_call D_ratio hr (by decide) passN (a_cons (d_var 14) (a_cons (d_var 9) SAs.nil))) SAs.nil))))))))))))
    (ss_one (s_ret (d_tupOf T.m_tuple (d_comp (own := [("name", 12), ("rows", 13)]) rfl sc_lengths.nd (i_val (d_var 4)) (blk_by (N := ["program", "most", "tables", "bottom", "parts", "keys", "series", "found", "products", "power", "k", "key", "name", "rows", "number", "before", "last", "one", "two"]) (sc := defScope s_lengths) rfl rfl (own := [("name", 12), ("rows", 13)]) (by decide +kernel)) (fun _ _ _ _ _ => (g_tup rfl (gs_cons (g_name 12 sc_lengths.nd (by decide)) (gs_cons (g_name 13 sc_lengths.nd (by decide)) gs_nil)))) (fun _ _ _ _ _ => ts_nil) (fun _ _ _ _ _ => (d_tupOf T.m_tuple (d_sub_ hr (d_var 7) (d_var 12)))))))))))))))))) ob_lengths
theorem ok_checked (T : Tx K mg) {f : Addr} {fd : FuncData} (F : Fun K "checked" "checked" s_checked f fd) (D_has_digits : FnD ⟨P, w, K, CA⟩ mg base CX0 1 "has_digits" S_has_digits) : FnOk P w K mg base CX0 2 f fd ["one"] (spOf ⟨P, w, K, CA⟩ S_checked) :=
  fn_l F sc_checked len1 (gb := B_checked) (fun cdv A outer s H E hr =>
    (ss_cons (s_if (t_not (t_tru (d_call D_has_digits hr (by decide) passN (a_cons (d_var 0) (a_cons (d_glob T.g_MOST_DIGITS) SAs.nil))))) (ss_one s_never) ss_nil)
    (ss_one (s_ret (d_var 0))))) ob_checked
theorem ok_common_denominator (T : Tx K mg) {f : Addr} {fd : FuncData} (F : Fun K "common_denominator" "common_denominator" s_common_denominator f fd) (D_common_divisor : FnD ⟨P, w, K, CA⟩ mg base CX0 1 "common_divisor" S_common_divisor) : FnOk P w K mg base CX0 2 f fd ["rows"] (spOf ⟨P, w, K, CA⟩ S_common_denominator) :=
  fn_l F sc_common_denominator len1 (gb := B_common_denominator) (fun cdv A outer s H E hr =>
    (ss_cons (s_set 1 sc_common_denominator.nd d_int)
    (ss_cons (s_for (vs := [2, 3]) PassesOwn.never rfl (i_val (d_var 0)) (g_tup rfl (gs_cons (g_name 2 sc_common_denominator.nd (by decide)) (gs_cons (g_name 3 sc_common_denominator.nd (by decide)) gs_nil))) (ss_one (s_set 1 sc_common_denominator.nd (d_div (d_mul (d_var 1) (d_sub_ hr (d_var 2) d_int)) (d_call D_common_divisor hr (by decide) passN (a_cons (d_var 1) (a_cons (d_sub_ hr (d_var 2) d_int) SAs.nil)))))))
    (ss_one (s_ret (d_var 1)))))) ob_common_denominator
theorem ok_drawn (T : Tx K mg) {f : Addr} {fd : FuncData} (F : Fun K "drawn" "drawn" s_drawn f fd) : FnOk P w K mg base CX0 1 f fd ["rows", "many", "number"] (spOf ⟨P, w, K, CA⟩ S_drawn) :=
  fn_l F sc_drawn len3 (gb := B_drawn) (fun cdv A outer s H E hr =>
    (ss_cons (s_for (vs := [3, 4]) PassesOwn.never rfl (i_val (d_var 0)) (g_tup rfl (gs_cons (g_name 3 sc_drawn.nd (by decide)) (gs_cons (g_name 4 sc_drawn.nd (by decide)) gs_nil))) (ss_cons (s_set 5 sc_drawn.nd (d_mul (d_sub_ hr (d_var 3) d_int) (d_div (d_var 1) (d_sub_ hr (d_var 3) d_int))))
    (ss_cons (s_if (t_cmp op_lt ltS (d_var 2) (d_var 5) (nomark _)) (ss_one (s_ret (d_var 4))) ss_nil)
    (ss_one (s_augSub 2 sc_drawn.nd (d_var 5))))))
    (ss_one (s_ret d_non)))) ob_drawn
theorem ok_run (T : Tx K mg) {f : Addr} {fd : FuncData} (F : Fun K "run" "run" s_run f fd) (D_common_denominator : FnD ⟨P, w, K, CA⟩ mg base CX0 2 "common_denominator" S_common_denominator) (D_drawn : FnD ⟨P, w, K, CA⟩ mg base CX0 1 "drawn" S_drawn) : FnOk P w K mg base CX0 3 f fd ["program", "procedure", "tape", "most"] (spOf ⟨P, w, K, CA⟩ S_run) :=
  fn_l F sc_run len4 (gb := B_run) (fun cdv A outer s H E hr =>
    (ss_cons (s_set 4 sc_run.nd (d_dict rfl T.m_dict (d_var 0)))
    (ss_cons (s_set 5 sc_run.nd (d_sub_ hr (d_var 4) (d_var 1)))
    (ss_cons (s_set 6 sc_run.nd (d_lst SAs.nil))
    (ss_cons (s_set 7 sc_run.nd (d_lst SAs.nil))
    (ss_cons (s_set 8 sc_run.nd d_int)
    (ss_cons (s_set 9 sc_run.nd d_int)
    (ss_cons (s_set 10 sc_run.nd d_str)
    (ss_cons (s_while PassesOwn.never (t_cmp (op_eqA hr) eqS (d_var 10) d_str (nomark _)) (ss_one (s_if (t_cmp (op_eqA hr) eqS (d_sub_ hr (d_var 5) d_int) d_str (nomark _)) (ss_one (s_if (t_tru (d_var 6)) (ss_one (s_set 5 sc_run.nd (d_pop (d_var 6)))) (ss_one (s_set 10 sc_run.nd d_str)))) (ss_one (s_if (t_cmp (op_eqA hr) eqS (d_sub_ hr (d_var 5) d_int) d_str (nomark _)) (ss_one (s_set 10 sc_run.nd d_str)) (ss_one (s_if (t_cmp (op_eqA hr) eqS (d_sub_ hr (d_var 5) d_int) d_str (nomark _)) (ss_cons (s_expr (d_append (d_var 7) (d_sub_ hr (d_var 5) d_int)))
    (ss_one (s_set 5 sc_run.nd (d_sub_ hr (d_var 5) d_int)))) (ss_one (s_if (t_cmp (op_eqA hr) eqS (d_sub_ hr (d_var 5) d_int) d_str (nomark _)) (ss_one (s_if (t_cmp (op_eqA hr) eqS (d_var 8) (d_var 3) (nomark _)) (ss_one (s_set 10 sc_run.nd d_str)) (ss_cons (s_augAdd 8 sc_run.nd d_int)
    (ss_cons (s_expr (d_append (d_var 6) (d_sub_ hr (d_var 5) d_int)))
    (ss_one (s_set 5 sc_run.nd (d_sub_ hr (d_var 4) (d_sub_ hr (d_var 5) d_int)))))))) (ss_cons (s_set 11 sc_run.nd (d_call D_common_denominator hr (by decide) passN (a_cons (d_sub_ hr (d_var 5) d_int) SAs.nil)))
    (ss_one (s_if (t_cmp (op_eqA hr) eqS (d_var 11) d_int (nomark _)) (ss_one (s_set 5 sc_run.nd (d_sub_ hr (d_sub_ hr (d_sub_ hr (d_var 5) d_int) d_int) d_int))) (ss_one (s_if (t_cmp (op_eqA hr) eqS (d_var 9) (d_len T.m_len (d_var 2)) (nomark _)) (ss_one (s_set 10 sc_run.nd d_str)) (ss_cons (s_set 5 sc_run.nd (d_call D_drawn hr (by decide) passN (a_cons (d_sub_ hr (d_var 5) d_int) (a_cons (d_var 11) (a_cons (d_mod (d_sub_ hr (d_var 2) (d_var 9)) (d_var 11)) SAs.nil)))))
    (ss_one (s_augAdd 9 sc_run.nd d_int)))))))))))))))))
    (ss_one (s_ret (d_tup (a_cons (d_var 10) (a_cons (d_tupOf T.m_tuple (d_var 7)) (a_cons (d_var 8) (a_cons (d_var 9) SAs.nil)))))))))))))))) ob_run
theorem ok_law_start (T : Tx K mg) {f : Addr} {fd : FuncData} (F : Fun K "_law_start" "_law_start" s_law_start f fd) : FnOk P w K mg base CX0 1 f fd ["script"] (spOf ⟨P, w, K, CA⟩ S_law_start) :=
  fn_l F sc_law_start len1 (gb := B_law_start) (fun cdv A outer s H E hr =>
    (ss_one (s_ret (d_lst (a_cons (d_comp (own := [("cell", 1)]) rfl sc_law_start.nd (i_val (d_slice (d_var 0) o_none (o_some d_int))) (blk_by (N := ["script", "cell"]) (sc := defScope s_law_start) rfl rfl (own := [("cell", 1)]) (by decide +kernel)) (fun _ _ _ _ _ => (g_name 1 sc_law_start.nd (by decide))) (fun _ _ _ _ _ => ts_nil) (fun _ _ _ _ _ => (d_intC T.m_int (d_var 1)))) (a_cons d_int (a_cons d_int (a_cons d_int (a_cons d_int SAs.nil))))))))) ob_law_start
theorem ok_law_fill (T : Tx K mg) {f : Addr} {fd : FuncData} (F : Fun K "_law_fill" "_law_fill" s_law_fill f fd) : FnOk P w K mg base CX0 1 f fd ["c"] (spOf ⟨P, w, K, CA⟩ S_law_fill) :=
  fn_l F sc_law_fill len1 (gb := B_law_fill) (fun cdv A outer s H E hr =>
    (ss_cons (s_asg (vs := []) (d_add (d_sub_ hr (d_var 0) d_int) d_int) (g_sub hr (d_var 0) d_int))
    (ss_cons (s_set 1 sc_law_fill.nd (d_add (d_mul (d_sub_ hr (d_var 0) d_int) d_int) d_int))
    (ss_cons (s_if (t_cmp op_lt ltS (d_sub_ hr (d_var 0) d_int) (d_len T.m_len (d_sub_ hr (d_var 0) d_int)) (nomark _)) (ss_cons (s_set 1 sc_law_fill.nd (d_sub_ hr (d_sub_ hr (d_var 0) d_int) (d_sub_ hr (d_var 0) d_int)))
    (ss_cons (s_asg (vs := []) (d_add (d_sub_ hr (d_var 0) d_int) d_int) (g_sub hr (d_var 0) d_int))
    (ss_cons (s_if (t_cmp op_lt ltS (d_var 1) d_int (nomark _)) (ss_one (s_set 1 sc_law_fill.nd (d_sub (d_sub d_int d_int) (d_var 1)))) ss_nil)
    (ss_one (s_if (t_cmp op_ge geS (d_var 1) (d_pow d_int d_int) (nomark _)) (ss_one (s_ret (d_var 1))) ss_nil))))) ss_nil)
    (ss_cons (s_if (t_w (w_and (t_tru (d_sub_ hr (d_var 0) d_int)) (w_and1 (t_cmp op_ge geS (d_sub_ hr (d_var 0) d_int) (d_len T.m_len (d_sub_ hr (d_var 0) d_int)) (nomark _))))) (ss_one (s_set 1 sc_law_fill.nd (d_add (d_var 1) (d_mod (d_intC T.m_int (d_sub_ hr (d_sub_ hr (d_var 0) d_int) (d_neg d_int))) d_int)))) ss_nil)
    (ss_cons (s_set 1 sc_law_fill.nd (d_mod (d_intC T.m_int (d_add (d_mul (d_var 1) d_int) (d_mul (d_sub_ hr (d_var 0) d_int) d_int))) d_int))
    (ss_one (s_ret (d_add (d_div (d_intC T.m_int (d_add (d_add (d_mul (d_var 1) (d_var 1)) (d_mul (d_sub_ hr (d_var 0) d_int) d_int)) d_int)) d_int) d_int))))))))) ob_law_fill
theorem ok_law_take (T : Tx K mg) {f : Addr} {fd : FuncData} (F : Fun K "_law_take" "_law_take" s_law_take f fd) (D_law_fill : FnD ⟨P, w, K, CA⟩ mg base CX0 1 "_law_fill" S_law_fill) : FnOk P w K mg base CX0 2 f fd ["c", "many"] (spOf ⟨P, w, K, CA⟩ S_law_take) :=
  fn_l F sc_law_take len2 (gb := B_law_take) (fun cdv A outer s H E hr =>
    (ss_cons (s_if (t_cmp op_lt ltS (d_sub_ hr (d_var 0) d_int) (d_var 1) (nomark _)) (ss_one (s_asg (vs := []) (d_call D_law_fill hr (by decide) passN (a_cons (d_var 0) SAs.nil)) (g_sub hr (d_var 0) d_int))) ss_nil)
    (ss_cons (s_set 2 sc_law_take.nd (d_mod (d_intC T.m_int (d_sub_ hr (d_var 0) d_int)) (d_var 1)))
    (ss_cons (s_asg (vs := []) (d_div (d_sub_ hr (d_var 0) d_int) (d_var 1)) (g_sub hr (d_var 0) d_int))
    (ss_one (s_ret (d_var 2))))))) ob_law_take
theorem ok_law_divisor (T : Tx K mg) {f : Addr} {fd : FuncData} (F : Fun K "_law_divisor" "_law_divisor" s_law_divisor f fd) : FnOk P w K mg base CX0 1 f fd ["a", "b"] (spOf ⟨P, w, K, CA⟩ S_law_divisor) :=
  fn_l F sc_law_divisor len2 (gb := B_law_divisor) (fun cdv A outer s H E hr =>
    (ss_cons (s_for (vs := [2]) PassesOwn.never rfl (i_range1 T.m_range d_int) (g_name 2 sc_law_divisor.nd (by decide)) (ss_cons (s_if (t_cmp (op_eqA hr) eqS (d_var 1) d_int (nomark _)) (ss_one (s_ret (d_abs T.m_abs (d_var 0)))) ss_nil)
    (ss_one (s_par 0 1 rfl sc_law_divisor.nd (by decide) (d_var 1) (d_mod (d_var 0) (d_var 1)) rfl))))
    (ss_one (s_ret d_int)))) ob_law_divisor
theorem ok_law_fraction (T : Tx K mg) {f : Addr} {fd : FuncData} (F : Fun K "_law_fraction" "_law_fraction" s_law_fraction f fd) (D_law_divisor : FnD ⟨P, w, K, CA⟩ mg base CX0 1 "_law_divisor" S_law_divisor) : FnOk P w K mg base CX0 2 f fd ["n", "d"] (spOf ⟨P, w, K, CA⟩ S_law_fraction) :=
  fn_l F sc_law_fraction len2 (gb := B_law_fraction) (fun cdv A outer s H E hr =>
    (ss_cons (s_set 2 sc_law_fraction.nd (d_call D_law_divisor hr (by decide) passN (a_cons (d_var 0) (a_cons (d_var 1) SAs.nil))))
    (ss_cons (s_set 2 sc_law_fraction.nd (d_ifE (t_cmp op_gt gtS (d_var 1) d_int (nomark _)) (d_var 2) (d_sub d_int (d_var 2))))
    (ss_one (s_ret (d_tup (a_cons (d_div (d_var 0) (d_var 2)) (a_cons (d_div (d_var 1) (d_var 2)) SAs.nil)))))))) ob_law_fraction
theorem ok_law_plus (T : Tx K mg) {f : Addr} {fd : FuncData} (F : Fun K "_law_plus" "_law_plus" s_law_plus f fd) (D_law_fraction : FnD ⟨P, w, K, CA⟩ mg base CX0 2 "_law_fraction" S_law_fraction) : FnOk P w K mg base CX0 3 f fd ["a", "b"] (spOf ⟨P, w, K, CA⟩ S_law_plus) :=
  fn_l F sc_law_plus len2 (gb := B_law_plus) (fun cdv A outer s H E hr =>
    (ss_one (s_ret (d_call D_law_fraction hr (by decide) passN (a_cons (d_add (d_mul (d_sub_ hr (d_var 0) d_int) (d_sub_ hr (d_var 1) d_int)) (d_mul (d_sub_ hr (d_var 1) d_int) (d_sub_ hr (d_var 0) d_int))) (a_cons (d_mul (d_sub_ hr (d_var 0) d_int) (d_sub_ hr (d_var 1) d_int)) SAs.nil)))))) ob_law_plus
theorem ok_law_times (T : Tx K mg) {f : Addr} {fd : FuncData} (F : Fun K "_law_times" "_law_times" s_law_times f fd) (D_law_fraction : FnD ⟨P, w, K, CA⟩ mg base CX0 2 "_law_fraction" S_law_fraction) : FnOk P w K mg base CX0 3 f fd ["a", "b"] (spOf ⟨P, w, K, CA⟩ S_law_times) :=
  fn_l F sc_law_times len2 (gb := B_law_times) (fun cdv A outer s H E hr =>
    (ss_one (s_ret (d_call D_law_fraction hr (by decide) passN (a_cons (d_mul (d_sub_ hr (d_var 0) d_int) (d_sub_ hr (d_var 1) d_int)) (a_cons (d_mul (d_sub_ hr (d_var 0) d_int) (d_sub_ hr (d_var 1) d_int)) SAs.nil)))))) ob_law_times
theorem ok_law_cut (T : Tx K mg) {f : Addr} {fd : FuncData} (F : Fun K "_law_cut" "_law_cut" s_law_cut f fd) (D_law_fraction : FnD ⟨P, w, K, CA⟩ mg base CX0 2 "_law_fraction" S_law_fraction) (D_law_take : FnD ⟨P, w, K, CA⟩ mg base CX0 2 "_law_take" S_law_take) (D_law_times : FnD ⟨P, w, K, CA⟩ mg base CX0 3 "_law_times" S_law_times) (D_law_plus : FnD ⟨P, w, K, CA⟩ mg base CX0 3 "_law_plus" S_law_plus) : FnOk P w K mg base CX0 4 f fd ["c"] (spOf ⟨P, w, K, CA⟩ S_law_cut) :=
  fn_l F sc_law_cut len1 (gb := B_law_cut) (fun cdv A outer s H E hr =>
    (ss_cons (s_set 1 sc_law_cut.nd (d_lst (a_cons (d_tup (a_cons d_int (a_cons d_int SAs.nil))) (a_cons (d_tup (a_cons d_int (a_cons d_int SAs.nil))) (a_cons (d_tup (a_cons d_int (a_cons d_int SAs.nil))) (a_cons (d_tup (a_cons d_int (a_cons d_int SAs.nil))) (a_cons (d_tup (a_cons d_int (a_cons d_int SAs.nil))) (a_cons (d_tup (a_cons d_int (a_cons d_int SAs.nil))) (a_cons (d_tup (a_cons d_int (a_cons d_int SAs.nil))) (a_cons (d_tup (a_cons d_int (a_cons d_int SAs.nil))) (a_cons (d_tup (a_cons d_int (a_cons d_int SAs.nil))) SAs.nil)))))))))))
    (ss_cons (s_asg (vs := [4, 5]) (d_sub_ hr (d_var 1) (d_call D_law_take hr (by decide) passN (a_cons (d_var 0) (a_cons d_int SAs.nil)))) (g_tup rfl (gs_cons (g_name 4 sc_law_cut.nd (by decide)) (gs_cons (g_name 5 sc_law_cut.nd (by decide)) gs_nil))))
    (ss_cons (s_if (t_cmp (op_eqA hr) eqS (d_var 5) d_int (nomark _)) (ss_one (s_ret (d_lst (a_cons (d_tup (a_cons d_int (a_cons d_int SAs.nil))) SAs.nil)))) ss_nil)
    (ss_cons (s_set 2 sc_law_cut.nd (d_lst (a_cons (d_tup (a_cons (d_var 4) (a_cons (d_var 5) SAs.nil))) SAs.nil)))
    (ss_cons (s_set 3 sc_law_cut.nd (d_call D_law_fraction hr (by decide) passN (a_cons (d_sub (d_var 5) (d_var 4)) (a_cons (d_var 5) SAs.nil))))
    (ss_cons (s_if (t_cmp (op_eqA hr) eqS (d_call D_law_take hr (by decide) passN (a_cons (d_var 0) (a_cons d_int SAs.nil))) d_int (nomark _)) (ss_cons (s_asg (vs := [4, 5]) (d_sub_ hr (d_var 1) (d_add d_int (d_call D_law_take hr (by decide) passN (a_cons (d_var 0) (a_cons d_int SAs.nil))))) (g_tup rfl (gs_cons (g_name 4 sc_law_cut.nd (by decide)) (gs_cons (g_name 5 sc_law_cut.nd (by decide)) gs_nil))))
    (ss_cons (s_set 6 sc_law_cut.nd (d_call D_law_times hr (by decide) passN (a_cons (d_var 3) (a_cons (d_tup (a_cons (d_var 4) (a_cons (d_var 5) SAs.nil))) SAs.nil))))
    (ss_cons (s_expr (d_append (d_var 2) (d_var 6)))
    (ss_one (s_set 3 sc_law_cut.nd (d_call D_law_plus hr (by decide) passN (a_cons (d_var 3) (a_cons (d_tup (a_cons (d_sub d_int (d_sub_ hr (d_var 6) d_int)) (a_cons (d_sub_ hr (d_var 6) d_int) SAs.nil))) SAs.nil)))))))) ss_nil)
    (ss_one (s_ret (d_add (d_var 2) (d_lst (a_cons (d_var 3) SAs.nil)))))))))))) ob_law_cut
theorem ok_law_body (T : Tx K mg) {f : Addr} {fd : FuncData} (F : Fun K "_law_body" "_law_body" s_law_body f fd) (hm : mg "_law_body" = some (.ref f)) (hb : Binds K fd ["c", "names", "letters", "deep"] []) (D_law_take : FnD ⟨P, w, K, CA⟩ mg base CX0 2 "_law_take" S_law_take) (D_law_cut : FnD ⟨P, w, K, CA⟩ mg base CX0 4 "_law_cut" S_law_cut) : ∀ n : Nat, FnOk P w K mg base CX0 (4 + n) f fd ["c", "names", "letters", "deep"] (spOf ⟨P, w, K, CA⟩ (S_law_body n))
  | 0 => fn_none no_law_body
  | n + 1 => by
    have D_self := FnOk.d (ok_law_body T F hm hb D_law_take D_law_cut n) hm F.kp hb
    exact fn_l F sc_law_body len4 (gb := B_law_body n) (fun cdv A outer s H E hr =>
    (ss_cons (s_set 4 sc_law_body.nd (d_call D_law_take hr (Nat.le_add_right_of_le (by decide)) passN (a_cons (d_var 0) (a_cons d_int SAs.nil))))
    (ss_cons (s_if (t_w (w_or (t_cmp op_lt ltS (d_var 3) d_int (nomark _)) (w_or1 (t_cmp (op_eqA hr) eqS (d_var 4) d_int (nomark _))))) (ss_one (s_ret (d_sub_ hr (d_lst (a_cons (d_tup (a_cons d_str SAs.nil)) (a_cons (d_tup (a_cons d_str SAs.nil)) (a_cons (d_tup (a_cons d_str SAs.nil)) (a_cons (d_tup (a_cons d_str SAs.nil)) (a_cons (d_tup (a_cons d_str SAs.nil)) SAs.nil)))))) (d_call D_law_take hr (Nat.le_add_right_of_le (by decide)) passN (a_cons (d_var 0) (a_cons d_int SAs.nil)))))) ss_nil)
    (ss_cons (s_if (t_w (w_and (t_cmp op_lt ltS (d_var 4) d_int (nomark _)) (w_and1 (t_tru (d_var 2))))) (ss_one (s_ret (d_tup (a_cons d_str (a_cons (d_sub_ hr (d_var 2) (d_call D_law_take hr (Nat.le_add_right_of_le (by decide)) passN (a_cons (d_var 0) (a_cons (d_len T.m_len (d_var 2)) SAs.nil)))) (a_cons (d_call D_self hr (Nat.le_refl _) passN (a_cons (d_var 0) (a_cons (d_var 1) (a_cons (d_var 2) (a_cons (d_sub (d_var 3) d_int) SAs.nil))))) SAs.nil)))))) ss_nil)
    (ss_cons (s_if (t_cmp op_lt ltS (d_var 4) d_int (nomark _)) (ss_one (s_ret (d_tup (a_cons d_str (a_cons (d_sub_ hr (d_var 1) (d_call D_law_take hr (Nat.le_add_right_of_le (by decide)) passN (a_cons (d_var 0) (a_cons (d_len T.m_len (d_var 1)) SAs.nil)))) (a_cons (d_call D_self hr (Nat.le_refl _) passN (a_cons (d_var 0) (a_cons (d_var 1) (a_cons (d_var 2) (a_cons (d_sub (d_var 3) d_int) SAs.nil))))) SAs.nil)))))) ss_nil)
    (ss_one (s_ret (d_tup (a_cons d_str (a_cons (d_tupOf T.m_tuple (d_comp (own := [("one", 5)]) rfl sc_law_body.nd (i_val (d_call D_law_cut hr (Nat.le_add_right_of_le (by decide)) passN (a_cons (d_var 0) SAs.nil))) (blk_by (N := ["c", "names", "letters", "deep", "way", "one"]) (sc := defScope s_law_body) rfl rfl (own := [("one", 5)]) (by decide +kernel)) (fun _ _ _ _ _ => (g_name 5 sc_law_body.nd (by decide))) (fun _ _ _ _ _ => ts_nil) (fun _ _ _ _ _ => (d_tup (a_cons (d_var 5) (a_cons (d_call D_self hr (Nat.le_refl _) passN (a_cons (d_var 0) (a_cons (d_var 1) (a_cons (d_var 2) (a_cons (d_sub (d_var 3) d_int) SAs.nil))))) SAs.nil)))))) SAs.nil)))))))))) (ob_law_body n)
theorem ok_law_program (T : Tx K mg) {f : Addr} {fd : FuncData} (F : Fun K "_law_program" "_law_program" s_law_program f fd) (D_law_take : FnD ⟨P, w, K, CA⟩ mg base CX0 2 "_law_take" S_law_take) (D_law_body : FnD ⟨P, w, K, CA⟩ mg base CX0 12 "_law_body" (S_law_body 8)) : FnOk P w K mg base CX0 13 f fd ["c"] (spOf ⟨P, w, K, CA⟩ S_law_program) :=
  fn_l F sc_law_program len1 (gb := B_law_program) (fun cdv A outer s H E hr =>
    (ss_cons (s_set 1 sc_law_program.nd (d_slice (d_lst (a_cons d_str (a_cons d_str (a_cons d_str (a_cons d_str SAs.nil))))) o_none (o_some (d_add d_int (d_call D_law_take hr (by decide) passN (a_cons (d_var 0) (a_cons d_int SAs.nil)))))))
    (ss_cons (s_set 2 sc_law_program.nd (d_call D_law_take hr (by decide) passN (a_cons (d_var 0) (a_cons (d_len T.m_len (d_var 1)) SAs.nil))))
    (ss_cons (s_set 1 sc_law_program.nd (d_add (d_slice (d_var 1) (o_some (d_var 2)) o_none) (d_slice (d_var 1) o_none (o_some (d_var 2)))))
    (ss_cons (s_set 3 sc_law_program.nd (d_slice (d_lst (a_cons d_str (a_cons d_str (a_cons d_str SAs.nil)))) o_none (o_some (d_call D_law_take hr (by decide) passN (a_cons (d_var 0) (a_cons d_int SAs.nil))))))
    (ss_one (s_ret (d_tupOf T.m_tuple (d_comp (own := [("name", 4)]) rfl sc_law_program.nd (i_val (d_var 1)) (blk_by (N := ["c", "names", "k", "letters", "name"]) (sc := defScope s_law_program) rfl rfl (own := [("name", 4)]) (by decide +kernel)) (fun _ _ _ _ _ => (g_name 4 sc_law_program.nd (by decide))) (fun _ _ _ _ _ => ts_nil) (fun _ _ _ _ _ => (d_tup (a_cons (d_var 4) (a_cons (d_call D_law_body hr (by decide) passN (a_cons (d_var 0) (a_cons (d_var 1) (a_cons (d_var 3) (a_cons (d_add d_int (d_call D_law_take hr (by decide) passN (a_cons (d_var 0) (a_cons d_int SAs.nil)))) SAs.nil))))) SAs.nil))))))))))))) ob_law_program
theorem ok_law_alike (T : Tx K mg) {f : Addr} {fd : FuncData} (F : Fun K "_law_alike" "_law_alike" s_law_alike f fd) (hm : mg "_law_alike" = some (.ref f)) (hb : Binds K fd ["value", "due"] []) : ∀ n : Nat, FnOk P w K mg base CX0 (0 + n) f fd ["value", "due"] (spOf ⟨P, w, K, CA⟩ (S_law_alike n))
  | 0 => fn_none no_law_alike
  | n + 1 => by
    have D_self := FnOk.d (ok_law_alike T F hm hb n) hm F.kp hb
    exact fn_l F sc_law_alike len2 (gb := B_law_alike n) (fun cdv A outer s H E hr =>
    (ss_cons (s_if (t_tru (d_isi1 T.m_isinstance T.m_tuple (by decide +kernel) (by decide) (d_var 1))) (ss_one (s_ret (d_and (d_isi1 T.m_isinstance T.m_tuple (by decide +kernel) (by decide) (d_var 0)) (d_and (d_cmp (op_eqA hr) eqS (d_len T.m_len (d_var 0)) (d_len T.m_len (d_var 1)) (nomark _)) (d_one (d_all rfl T.m_all (d_comp (own := [("k", 2)]) rfl sc_law_alike.nd (i_range1 T.m_range (d_len T.m_len (d_var 1))) (blk_by (N := ["value", "due", "k"]) (sc := defScope s_law_alike) rfl rfl (own := [("k", 2)]) (by decide +kernel)) (fun _ _ _ _ _ => (g_name 2 sc_law_alike.nd (by decide))) (fun _ _ _ _ _ => ts_nil) (fun _ _ _ _ _ => (d_call D_self hr (Nat.le_refl _) passN (a_cons (d_sub_ hr (d_var 0) (d_var 2)) (a_cons (d_sub_ hr (d_var 1) (d_var 2)) SAs.nil))))))))))) ss_nil)
    (ss_cons (s_if (t_w (w_or (t_tru (d_isi1 T.m_isinstance T.m_bool (by decide +kernel) (by decide) (d_var 0))) (w_or1 (t_cmp (op_neA hr) neS (d_isi1 T.m_isinstance T.m_str (by decide +kernel) (by decide) (d_var 0)) (d_isi1 T.m_isinstance T.m_str (by decide +kernel) (by decide) (d_var 1)) (nomark _))))) (ss_one (s_ret d_bl)) ss_nil)
    (ss_one (s_ret (d_and (d_isi2 T.m_isinstance T.m_int (by decide +kernel) (by decide) T.m_str (by decide +kernel) (by decide) (d_var 0)) (d_one (d_cmp (op_eqA hr) eqS (d_var 0) (d_var 1) (nomark _))))))))) (ob_law_alike n)
theorem ok_law_next (T : Tx K mg) {f : Addr} {fd : FuncData} (F : Fun K "_law_next" "_law_next" s_law_next f fd) (D_law_divisor : FnD ⟨P, w, K, CA⟩ mg base CX0 1 "_law_divisor" S_law_divisor) : FnOk P w K mg base CX0 2 f fd ["program", "p", "tape", "most"] (spOf ⟨P, w, K, CA⟩ S_law_next) :=
  fn_l F sc_law_next len4 (gb := B_law_next) (fun cdv A outer s H E hr =>
    (ss_cons (s_set 4 sc_law_next.nd (d_dict rfl T.m_dict (d_var 0)))
    (ss_cons (s_par3 6 7 8 rfl sc_law_next.nd (by decide) (by decide) (by decide) (d_lst (a_cons (d_sub_ hr (d_var 4) (d_var 1)) SAs.nil)) d_int d_int rfl)
    (ss_cons (s_for (vs := [5]) PassesOwn.never rfl (i_range1 T.m_range d_int) (g_name 5 sc_law_next.nd (by decide)) (ss_cons (s_if (t_not (t_tru (d_var 6))) (ss_one (s_ret d_int)) ss_nil)
    (ss_cons (s_set 9 sc_law_next.nd (d_pop (d_var 6)))
    (ss_one (s_if (t_cmp (op_eqA hr) eqS (d_sub_ hr (d_var 9) d_int) d_str (nomark _)) (ss_cons (s_set 7 sc_law_next.nd (d_add (d_var 7) d_int))
    (ss_cons (s_expr (d_append (d_var 6) (d_sub_ hr (d_var 9) d_int)))
    (ss_cons (s_expr (d_append (d_var 6) (d_sub_ hr (d_var 4) (d_sub_ hr (d_var 9) d_int))))
    (ss_one (s_if (t_cmp op_gt gtS (d_var 7) (d_var 3) (nomark _)) (ss_one (s_ret d_int)) ss_nil))))) (ss_one (s_if (t_cmp (op_eqA hr) eqS (d_sub_ hr (d_var 9) d_int) d_str (nomark _)) (ss_one (s_expr (d_append (d_var 6) (d_sub_ hr (d_var 9) d_int)))) (ss_one (s_if (t_cmp (op_eqA hr) eqS (d_sub_ hr (d_var 9) d_int) d_str (nomark _)) (ss_one (s_ret d_int)) (ss_one (s_if (t_cmp (op_eqA hr) eqS (d_sub_ hr (d_var 9) d_int) d_str (nomark _)) (ss_cons (s_set 10 sc_law_next.nd d_int)
    (ss_cons (s_for (vs := [12, 13]) PassesOwn.never rfl (i_val (d_sub_ hr (d_var 9) d_int)) (g_tup rfl (gs_cons (g_name 12 sc_law_next.nd (by decide)) (gs_cons (g_name 13 sc_law_next.nd (by decide)) gs_nil))) (ss_one (s_set 10 sc_law_next.nd (d_div (d_mul (d_var 10) (d_sub_ hr (d_var 12) d_int)) (d_call D_law_divisor hr (by decide) passN (a_cons (d_var 10) (a_cons (d_sub_ hr (d_var 12) d_int) SAs.nil)))))))
    (ss_cons (s_if (t_w (w_and (t_cmp op_gt gtS (d_var 10) d_int (nomark _)) (w_and1 (t_cmp (op_eqA hr) eqS (d_var 8) (d_len T.m_len (d_var 2)) (nomark _))))) (ss_one (s_ret (d_var 10))) ss_nil)
    (ss_cons (s_set 11 sc_law_next.nd (d_ifE (t_cmp op_gt gtS (d_var 10) d_int (nomark _)) (d_mod (d_intC T.m_int (d_sub_ hr (d_var 2) (d_var 8))) (d_var 10)) d_int))
    (ss_cons (s_set 8 sc_law_next.nd (d_add (d_var 8) (d_intC T.m_int (d_cmp op_gt gtS (d_var 10) d_int (nomark _)))))
    (ss_one (s_for (vs := [12, 13]) PassesOwn.never rfl (i_val (d_sub_ hr (d_var 9) d_int)) (g_tup rfl (gs_cons (g_name 12 sc_law_next.nd (by decide)) (gs_cons (g_name 13 sc_law_next.nd (by decide)) gs_nil))) (ss_cons (s_set 14 sc_law_next.nd (d_mul (d_sub_ hr (d_var 12) d_int) (d_div (d_var 10) (d_sub_ hr (d_var 12) d_int))))
    (ss_cons (s_if (t_chain op_le leS op_lt ltS d_int (d_var 11) (d_var 14)) (ss_one (s_expr (d_append (d_var 6) (d_var 13)))) ss_nil)
    (ss_one (s_set 11 sc_law_next.nd (d_sub (d_var 11) (d_var 14))))))))))))) ss_nil)))))))))))
    (ss_one (s_ret d_int)))))) ob_law_next
theorem ok_law_calls_within (T : Tx K mg) {f : Addr} {fd : FuncData} (F : Fun K "_law_calls_within" "_law_calls_within" s_law_calls_within f fd) (hm : mg "_law_calls_within" = some (.ref f)) (hb : Binds K fd ["body", "names"] []) : ∀ n : Nat, FnOk P w K mg base CX0 (0 + n) f fd ["body", "names"] (spOf ⟨P, w, K, CA⟩ (S_law_calls_within n))
  | 0 => fn_none no_law_calls_within
  | n + 1 => by
    have D_self := FnOk.d (ok_law_calls_within T F hm hb n) hm F.kp hb
    exact fn_l F sc_law_calls_within len2 (gb := B_law_calls_within n) (fun cdv A outer s H E hr =>
    (ss_cons (s_if (t_w (w_and (t_cmp (op_eqA hr) eqS (d_sub_ hr (d_var 0) d_int) d_str (nomark _)) (w_and1 (t_cmp (op_notInA hr) notInS (d_sub_ hr (d_var 0) d_int) (d_var 1) (by rfl))))) (ss_one (s_ret d_bl)) ss_nil)
    (ss_cons (s_if (t_cmp (op_eqA hr) eqS (d_sub_ hr (d_var 0) d_int) d_str (nomark _)) (ss_one (s_ret (d_all rfl T.m_all (d_comp (own := [("one", 2), ("inner", 3)]) rfl sc_law_calls_within.nd (i_val (d_sub_ hr (d_var 0) d_int)) (blk_by (N := ["body", "names", "one", "inner"]) (sc := defScope s_law_calls_within) rfl rfl (own := [("one", 2), ("inner", 3)]) (by decide +kernel)) (fun _ _ _ _ _ => (g_tup rfl (gs_cons (g_name 2 sc_law_calls_within.nd (by decide)) (gs_cons (g_name 3 sc_law_calls_within.nd (by decide)) gs_nil)))) (fun _ _ _ _ _ => ts_nil) (fun _ _ _ _ _ => (d_call D_self hr (Nat.le_refl _) passN (a_cons (d_var 3) (a_cons (d_var 1) SAs.nil)))))))) ss_nil)
    (ss_one (s_ret (d_or (d_cmp op_lt ltS (d_len T.m_len (d_var 0)) d_int (nomark _)) (d_one (d_call D_self hr (Nat.le_refl _) passN (a_cons (d_sub_ hr (d_var 0) d_int) (a_cons (d_var 1) SAs.nil)))))))))) (ob_law_calls_within n)
theorem ok_law (T : Tx K mg) {f : Addr} {fd : FuncData} (F : Fun K "law" "law" s_law f fd) (D_law_start : FnD ⟨P, w, K, CA⟩ mg base CX0 1 "_law_start" S_law_start) (D_lengths : FnD ⟨P, w, K, CA⟩ mg base CX0 7 "lengths" S_lengths) (D_law_program : FnD ⟨P, w, K, CA⟩ mg base CX0 13 "_law_program" S_law_program) (D_law_take : FnD ⟨P, w, K, CA⟩ mg base CX0 2 "_law_take" S_law_take) (D_run : FnD ⟨P, w, K, CA⟩ mg base CX0 3 "run" S_run) (D_law_calls_within : FnD ⟨P, w, K, CA⟩ mg base CX0 8 "_law_calls_within" (S_law_calls_within 8)) (D_law_plus : FnD ⟨P, w, K, CA⟩ mg base CX0 3 "_law_plus" S_law_plus) (D_law_next : FnD ⟨P, w, K, CA⟩ mg base CX0 2 "_law_next" S_law_next) (D_law_alike : FnD ⟨P, w, K, CA⟩ mg base CX0 8 "_law_alike" (S_law_alike 8)) (D_law_times : FnD ⟨P, w, K, CA⟩ mg base CX0 3 "_law_times" S_law_times) : FnOk P w K mg base CX0 14 f fd ["script"] (spOf ⟨P, w, K, CA⟩ S_law) :=
  fn_l F sc_law len1 (gb := B_law) (fun cdv A outer s H E hr =>
    (ss_cons (s_set 1 sc_law.nd (d_call D_law_start hr (by decide) passN (a_cons (d_var 0) SAs.nil)))
    (ss_cons (s_set 2 sc_law.nd (d_slice (d_call D_law_program hr (by decide) passN (a_cons (d_var 1) SAs.nil)) o_none (o_some d_int)))
    (ss_cons (s_set 3 sc_law.nd (d_comp (own := [("name", 10), ("body", 11)]) rfl sc_law.nd (i_val (d_var 2)) (blk_by (N := ["script", "c", "program", "names", "most", "told", "k", "sums", "states", "count", "name", "body", "tape", "chance", "end", "word", "calls", "used", "d", "t"]) (sc := defScope s_law) rfl rfl (own := [("name", 10), ("body", 11)]) (by decide +kernel)) (fun _ _ _ _ _ => (g_tup rfl (gs_cons (g_name 10 sc_law.nd (by decide)) (gs_cons (g_name 11 sc_law.nd (by decide)) gs_nil)))) (fun _ _ _ _ _ => ts_nil) (fun _ _ _ _ _ => (d_var 10))))
    (ss_cons (s_if (t_not (t_tru (d_all rfl T.m_all (d_comp (own := [("name", 10), ("body", 11)]) rfl sc_law.nd (i_val (d_var 2)) (blk_by (N := ["script", "c", "program", "names", "most", "told", "k", "sums", "states", "count", "name", "body", "tape", "chance", "end", "word", "calls", "used", "d", "t"]) (sc := defScope s_law) rfl rfl (own := [("name", 10), ("body", 11)]) (by decide +kernel)) (fun _ _ _ _ _ => (g_tup rfl (gs_cons (g_name 10 sc_law.nd (by decide)) (gs_cons (g_name 11 sc_law.nd (by decide)) gs_nil)))) (fun _ _ _ _ _ => ts_nil) (fun _ _ _ _ _ => (d_call D_law_calls_within hr (by decide) passN (a_cons (d_var 11) (a_cons (d_var 3) SAs.nil)))))))) (ss_one (s_ret d_bl)) ss_nil)
    (ss_cons (s_set 4 sc_law.nd (d_add d_int (d_call D_law_take hr (by decide) passN (a_cons (d_var 1) (a_cons d_int SAs.nil)))))
    (ss_cons (s_set 5 sc_law.nd (d_call D_lengths hr (by decide) passN (a_cons (d_var 2) (a_cons (d_var 4) SAs.nil))))
    (ss_cons (s_for (vs := [6]) PassesOwn.never rfl (i_range1 T.m_range (d_len T.m_len (d_var 2))) (g_name 6 sc_law.nd (by decide)) (ss_cons (s_set 7 sc_law.nd (d_rep (d_lst (a_cons (d_tup (a_cons d_int (a_cons d_int SAs.nil))) SAs.nil)) (d_add (d_var 4) d_int)))
    (ss_cons (s_set 8 sc_law.nd (d_lst (a_cons (d_tup (a_cons (d_tup SAs.nil) (a_cons (d_tup (a_cons d_int (a_cons d_int SAs.nil))) SAs.nil))) SAs.nil)))
    (ss_cons (s_set 9 sc_law.nd d_int)
    (ss_cons (s_while PassesOwn.never (t_w (w_and (t_tru (d_var 8)) (w_and1 (t_cmp op_lt ltS (d_var 9) d_int (nomark _))))) (ss_cons (s_asg (vs := [12, 13]) (d_pop (d_var 8)) (g_tup rfl (gs_cons (g_name 12 sc_law.nd (by decide)) (gs_cons (g_name 13 sc_law.nd (by decide)) gs_nil))))
    (ss_cons (s_set 9 sc_law.nd (d_add (d_var 9) d_int))
    (ss_cons (s_asg (vs := [14, 15, 16, 17]) (d_call D_run hr (by decide) passN (a_cons (d_var 2) (a_cons (d_sub_ hr (d_sub_ hr (d_var 2) (d_var 6)) d_int) (a_cons (d_var 12) (a_cons (d_var 4) SAs.nil))))) (g_tup rfl (gs_cons (g_name 14 sc_law.nd (by decide)) (gs_cons (g_name 15 sc_law.nd (by decide)) (gs_cons (g_name 16 sc_law.nd (by decide)) (gs_cons (g_name 17 sc_law.nd (by decide)) gs_nil))))))
    (ss_cons (s_if (t_cmp (op_eqA hr) eqS (d_var 14) d_str (nomark _)) (ss_one (s_asg (vs := []) (d_call D_law_plus hr (by decide) passN (a_cons (d_sub_ hr (d_var 7) (d_var 16)) (a_cons (d_var 13) SAs.nil))) (g_sub hr (d_var 7) (d_var 16)))) ss_nil)
    (ss_one (s_if (t_cmp (op_eqA hr) eqS (d_var 14) d_str (nomark _)) (ss_cons (s_set 18 sc_law.nd (d_call D_law_next hr (by decide) passN (a_cons (d_var 2) (a_cons (d_sub_ hr (d_sub_ hr (d_var 2) (d_var 6)) d_int) (a_cons (d_var 12) (a_cons (d_var 4) SAs.nil))))))
    (ss_cons (s_if (t_w (w_or (t_cmp op_lt ltS (d_var 18) d_int (nomark _)) (w_or1 (t_cmp (op_neA hr) neS (d_var 17) (d_len T.m_len (d_var 12)) (nomark _))))) (ss_one (s_ret d_bl)) ss_nil)
    (ss_one (s_set 8 sc_law.nd (d_add (d_var 8) (d_comp (own := [("t", 19)]) rfl sc_law.nd (i_range1 T.m_range (d_var 18)) (blk_by (N := ["script", "c", "program", "names", "most", "told", "k", "sums", "states", "count", "name", "body", "tape", "chance", "end", "word", "calls", "used", "d", "t"]) (sc := defScope s_law) rfl rfl (own := [("t", 19)]) (by decide +kernel)) (fun _ _ _ _ _ => (g_name 19 sc_law.nd (by decide))) (fun _ _ _ _ _ => ts_nil) (fun _ _ _ _ _ => (d_tup (a_cons (d_add (d_var 12) (d_tup (a_cons (d_var 19) SAs.nil))) (a_cons (d_call D_law_times hr (by decide) passN (a_cons (d_var 13) (a_cons (d_tup (a_cons d_int (a_cons (d_var 18) SAs.nil))) SAs.nil))) SAs.nil)))))))))) ss_nil)))))))
    (ss_one (s_if (t_w (w_and (t_not (t_tru (d_var 8))) (w_and1 (t_not (t_tru (d_call D_law_alike hr (by decide) passN (a_cons (d_sub_ hr (d_var 5) (d_var 6)) (a_cons (d_tupOf T.m_tuple (d_var 7)) SAs.nil)))))))) (ss_one (s_ret d_bl)) ss_nil)))))))
    (ss_one (s_ret d_bl)))))))))) ob_law
end
theorem all_mk {l : PySem.W.OpenLaw} {w : World} {K : PySem.W.Frag} {h : Heap} {mg : Str → Option Value} {fa : Addr} (X : K.In h) (G : h.Ns mainGlobals mg) (hfa : mg "law" = some (.ref fa)) (CA : String → Addr)
    (z_abs : PySem.W.nsIn K mainGlobals "abs" = some none)
    (z_all : PySem.W.nsIn K mainGlobals "all" = some none)
    (z_bool : PySem.W.nsIn K mainGlobals "bool" = some none)
    (z_dict : PySem.W.nsIn K mainGlobals "dict" = some none)
    (z_int : PySem.W.nsIn K mainGlobals "int" = some none)
    (z_isinstance : PySem.W.nsIn K mainGlobals "isinstance" = some none)
    (z_len : PySem.W.nsIn K mainGlobals "len" = some none)
    (z_list : PySem.W.nsIn K mainGlobals "list" = some none)
    (z_range : PySem.W.nsIn K mainGlobals "range" = some none)
    (z_sorted : PySem.W.nsIn K mainGlobals "sorted" = some none)
    (z_str : PySem.W.nsIn K mainGlobals "str" = some none)
    (z_sum : PySem.W.nsIn K mainGlobals "sum" = some none)
    (z_tuple : PySem.W.nsIn K mainGlobals "tuple" = some none)
    (z_zip : PySem.W.nsIn K mainGlobals "zip" = some none)
    {a_ZERO : Addr} {t_ZERO u_ZERO : Tok} {n_ZERO : Nat} {sl_ZERO : Array (Option Value)} (v_ZERO : PySem.W.nsIn K mainGlobals "ZERO" = some (some (.ref a_ZERO))) (w_ZERO : K.lookup a_ZERO = some ⟨.type "tuple", none, .seq #[.int 0 t_ZERO, .int 1 u_ZERO] n_ZERO, sl_ZERO⟩)
    {a_ONE : Addr} {t_ONE u_ONE : Tok} {n_ONE : Nat} {sl_ONE : Array (Option Value)} (v_ONE : PySem.W.nsIn K mainGlobals "ONE" = some (some (.ref a_ONE))) (w_ONE : K.lookup a_ONE = some ⟨.type "tuple", none, .seq #[.int 1 t_ONE, .int 1 u_ONE] n_ONE, sl_ONE⟩)
    {t_MOST_DIGITS : Tok} (v_MOST_DIGITS : PySem.W.nsIn K mainGlobals "MOST_DIGITS" = some (some (.int 4000 t_MOST_DIGITS)))
    {f_common_divisor : Addr} {od_common_divisor an_common_divisor : Option Addr} {sl_common_divisor : Array (Option Value)} {oc_common_divisor kV_common_divisor dc_common_divisor pm_common_divisor cd_common_divisor ct_common_divisor : Value} (a_common_divisor : PySem.W.nsIn K mainGlobals "common_divisor" = some (some (.ref f_common_divisor))) (l_common_divisor : K.lookup f_common_divisor = some ⟨oc_common_divisor, od_common_divisor, .func (PySem.W.fnOf "common_divisor" "common_divisor" (defArgs s_common_divisor) (defBody s_common_divisor) (defScope s_common_divisor) .none kV_common_divisor dc_common_divisor pm_common_divisor an_common_divisor cd_common_divisor ct_common_divisor), sl_common_divisor⟩) (c_common_divisor : PySem.W.codeIn K cd_common_divisor "common_divisor" = true) (k_common_divisor : PySem.W.keepIn K (.ref f_common_divisor) = true)
    {f_ratio : Addr} {od_ratio an_ratio : Option Addr} {sl_ratio : Array (Option Value)} {oc_ratio kV_ratio dc_ratio pm_ratio cd_ratio ct_ratio : Value} (a_ratio : PySem.W.nsIn K mainGlobals "ratio" = some (some (.ref f_ratio))) (l_ratio : K.lookup f_ratio = some ⟨oc_ratio, od_ratio, .func (PySem.W.fnOf "ratio" "ratio" (defArgs s_ratio) (defBody s_ratio) (defScope s_ratio) .none kV_ratio dc_ratio pm_ratio an_ratio cd_ratio ct_ratio), sl_ratio⟩) (c_ratio : PySem.W.codeIn K cd_ratio "ratio" = true) (k_ratio : PySem.W.keepIn K (.ref f_ratio) = true)
    {f_plus : Addr} {od_plus an_plus : Option Addr} {sl_plus : Array (Option Value)} {oc_plus kV_plus dc_plus pm_plus cd_plus ct_plus : Value} (a_plus : PySem.W.nsIn K mainGlobals "plus" = some (some (.ref f_plus))) (l_plus : K.lookup f_plus = some ⟨oc_plus, od_plus, .func (PySem.W.fnOf "plus" "plus" (defArgs s_plus) (defBody s_plus) (defScope s_plus) .none kV_plus dc_plus pm_plus an_plus cd_plus ct_plus), sl_plus⟩) (c_plus : PySem.W.codeIn K cd_plus "plus" = true) (k_plus : PySem.W.keepIn K (.ref f_plus) = true)
    {f_times : Addr} {od_times an_times : Option Addr} {sl_times : Array (Option Value)} {oc_times kV_times dc_times pm_times cd_times ct_times : Value} (a_times : PySem.W.nsIn K mainGlobals "times" = some (some (.ref f_times))) (l_times : K.lookup f_times = some ⟨oc_times, od_times, .func (PySem.W.fnOf "times" "times" (defArgs s_times) (defBody s_times) (defScope s_times) .none kV_times dc_times pm_times an_times cd_times ct_times), sl_times⟩) (c_times : PySem.W.codeIn K cd_times "times" = true) (k_times : PySem.W.keepIn K (.ref f_times) = true)
    {f_has_digits : Addr} {od_has_digits an_has_digits : Option Addr} {sl_has_digits : Array (Option Value)} {oc_has_digits kV_has_digits dc_has_digits pm_has_digits cd_has_digits ct_has_digits : Value} (a_has_digits : PySem.W.nsIn K mainGlobals "has_digits" = some (some (.ref f_has_digits))) (l_has_digits : K.lookup f_has_digits = some ⟨oc_has_digits, od_has_digits, .func (PySem.W.fnOf "has_digits" "has_digits" (defArgs s_has_digits) (defBody s_has_digits) (defScope s_has_digits) .none kV_has_digits dc_has_digits pm_has_digits an_has_digits cd_has_digits ct_has_digits), sl_has_digits⟩) (c_has_digits : PySem.W.codeIn K cd_has_digits "has_digits" = true) (k_has_digits : PySem.W.keepIn K (.ref f_has_digits) = true)
    {f_ways : Addr} {od_ways an_ways : Option Addr} {sl_ways : Array (Option Value)} {oc_ways kV_ways dc_ways pm_ways cd_ways ct_ways : Value} (a_ways : PySem.W.nsIn K mainGlobals "ways" = some (some (.ref f_ways))) (l_ways : K.lookup f_ways = some ⟨oc_ways, od_ways, .func (PySem.W.fnOf "ways" "ways" (defArgs s_ways) (defBody s_ways) (defScope s_ways) .none kV_ways dc_ways pm_ways an_ways cd_ways ct_ways), sl_ways⟩) (c_ways : PySem.W.codeIn K cd_ways "ways" = true) (k_ways : PySem.W.keepIn K (.ref f_ways) = true)
    {f_alternatives_of : Addr} {od_alternatives_of an_alternatives_of : Option Addr} {sl_alternatives_of : Array (Option Value)} {oc_alternatives_of kV_alternatives_of dc_alternatives_of pm_alternatives_of cd_alternatives_of ct_alternatives_of : Value} (a_alternatives_of : PySem.W.nsIn K mainGlobals "alternatives_of" = some (some (.ref f_alternatives_of))) (l_alternatives_of : K.lookup f_alternatives_of = some ⟨oc_alternatives_of, od_alternatives_of, .func (PySem.W.fnOf "alternatives_of" "alternatives_of" (defArgs s_alternatives_of) (defBody s_alternatives_of) (defScope s_alternatives_of) .none kV_alternatives_of dc_alternatives_of pm_alternatives_of an_alternatives_of cd_alternatives_of ct_alternatives_of), sl_alternatives_of⟩) (c_alternatives_of : PySem.W.codeIn K cd_alternatives_of "alternatives_of" = true) (k_alternatives_of : PySem.W.keepIn K (.ref f_alternatives_of) = true)
    {f_alternatives : Addr} {od_alternatives an_alternatives : Option Addr} {sl_alternatives : Array (Option Value)} {oc_alternatives kV_alternatives dc_alternatives pm_alternatives cd_alternatives ct_alternatives : Value} (a_alternatives : PySem.W.nsIn K mainGlobals "alternatives" = some (some (.ref f_alternatives))) (l_alternatives : K.lookup f_alternatives = some ⟨oc_alternatives, od_alternatives, .func (PySem.W.fnOf "alternatives" "alternatives" (defArgs s_alternatives) (defBody s_alternatives) (defScope s_alternatives) .none kV_alternatives dc_alternatives pm_alternatives an_alternatives cd_alternatives ct_alternatives), sl_alternatives⟩) (c_alternatives : PySem.W.codeIn K cd_alternatives "alternatives" = true) (k_alternatives : PySem.W.keepIn K (.ref f_alternatives) = true)
    {f_common_bottom : Addr} {od_common_bottom an_common_bottom : Option Addr} {sl_common_bottom : Array (Option Value)} {oc_common_bottom kV_common_bottom dc_common_bottom pm_common_bottom cd_common_bottom ct_common_bottom : Value} (a_common_bottom : PySem.W.nsIn K mainGlobals "common_bottom" = some (some (.ref f_common_bottom))) (l_common_bottom : K.lookup f_common_bottom = some ⟨oc_common_bottom, od_common_bottom, .func (PySem.W.fnOf "common_bottom" "common_bottom" (defArgs s_common_bottom) (defBody s_common_bottom) (defScope s_common_bottom) .none kV_common_bottom dc_common_bottom pm_common_bottom an_common_bottom cd_common_bottom ct_common_bottom), sl_common_bottom⟩) (c_common_bottom : PySem.W.codeIn K cd_common_bottom "common_bottom" = true) (k_common_bottom : PySem.W.keepIn K (.ref f_common_bottom) = true)
    {f_merged : Addr} {od_merged an_merged : Option Addr} {sl_merged : Array (Option Value)} {oc_merged kV_merged dc_merged pm_merged cd_merged ct_merged : Value} (a_merged : PySem.W.nsIn K mainGlobals "merged" = some (some (.ref f_merged))) (l_merged : K.lookup f_merged = some ⟨oc_merged, od_merged, .func (PySem.W.fnOf "merged" "merged" (defArgs s_merged) (defBody s_merged) (defScope s_merged) .none kV_merged dc_merged pm_merged an_merged cd_merged ct_merged), sl_merged⟩) (c_merged : PySem.W.codeIn K cd_merged "merged" = true) (k_merged : PySem.W.keepIn K (.ref f_merged) = true)
    {f_beginnings : Addr} {od_beginnings an_beginnings : Option Addr} {sl_beginnings : Array (Option Value)} {oc_beginnings kV_beginnings dc_beginnings pm_beginnings cd_beginnings ct_beginnings : Value} (a_beginnings : PySem.W.nsIn K mainGlobals "beginnings" = some (some (.ref f_beginnings))) (l_beginnings : K.lookup f_beginnings = some ⟨oc_beginnings, od_beginnings, .func (PySem.W.fnOf "beginnings" "beginnings" (defArgs s_beginnings) (defBody s_beginnings) (defScope s_beginnings) .none kV_beginnings dc_beginnings pm_beginnings an_beginnings cd_beginnings ct_beginnings), sl_beginnings⟩) (c_beginnings : PySem.W.codeIn K cd_beginnings "beginnings" = true) (k_beginnings : PySem.W.keepIn K (.ref f_beginnings) = true)
    {f_lengths : Addr} {od_lengths an_lengths : Option Addr} {sl_lengths : Array (Option Value)} {oc_lengths kV_lengths dc_lengths pm_lengths cd_lengths ct_lengths : Value} (a_lengths : PySem.W.nsIn K mainGlobals "lengths" = some (some (.ref f_lengths))) (l_lengths : K.lookup f_lengths = some ⟨oc_lengths, od_lengths, .func (PySem.W.fnOf "lengths" "lengths" (defArgs s_lengths) (defBody s_lengths) (defScope s_lengths) .none kV_lengths dc_lengths pm_lengths an_lengths cd_lengths ct_lengths), sl_lengths⟩) (c_lengths : PySem.W.codeIn K cd_lengths "lengths" = true) (k_lengths : PySem.W.keepIn K (.ref f_lengths) = true)
    {f_checked : Addr} {od_checked an_checked : Option Addr} {sl_checked : Array (Option Value)} {oc_checked kV_checked dc_checked pm_checked cd_checked ct_checked : Value} (a_checked : PySem.W.nsIn K mainGlobals "checked" = some (some (.ref f_checked))) (l_checked : K.lookup f_checked = some ⟨oc_checked, od_checked, .func (PySem.W.fnOf "checked" "checked" (defArgs s_checked) (defBody s_checked) (defScope s_checked) .none kV_checked dc_checked pm_checked an_checked cd_checked ct_checked), sl_checked⟩) (c_checked : PySem.W.codeIn K cd_checked "checked" = true) (k_checked : PySem.W.keepIn K (.ref f_checked) = true)
    {f_common_denominator : Addr} {od_common_denominator an_common_denominator : Option Addr} {sl_common_denominator : Array (Option Value)} {oc_common_denominator kV_common_denominator dc_common_denominator pm_common_denominator cd_common_denominator ct_common_denominator : Value} (a_common_denominator : PySem.W.nsIn K mainGlobals "common_denominator" = some (some (.ref f_common_denominator))) (l_common_denominator : K.lookup f_common_denominator = some ⟨oc_common_denominator, od_common_denominator, .func (PySem.W.fnOf "common_denominator" "common_denominator" (defArgs s_common_denominator) (defBody s_common_denominator) (defScope s_common_denominator) .none kV_common_denominator dc_common_denominator pm_common_denominator an_common_denominator cd_common_denominator ct_common_denominator), sl_common_denominator⟩) (c_common_denominator : PySem.W.codeIn K cd_common_denominator "common_denominator" = true) (k_common_denominator : PySem.W.keepIn K (.ref f_common_denominator) = true)
    {f_drawn : Addr} {od_drawn an_drawn : Option Addr} {sl_drawn : Array (Option Value)} {oc_drawn kV_drawn dc_drawn pm_drawn cd_drawn ct_drawn : Value} (a_drawn : PySem.W.nsIn K mainGlobals "drawn" = some (some (.ref f_drawn))) (l_drawn : K.lookup f_drawn = some ⟨oc_drawn, od_drawn, .func (PySem.W.fnOf "drawn" "drawn" (defArgs s_drawn) (defBody s_drawn) (defScope s_drawn) .none kV_drawn dc_drawn pm_drawn an_drawn cd_drawn ct_drawn), sl_drawn⟩) (c_drawn : PySem.W.codeIn K cd_drawn "drawn" = true) (k_drawn : PySem.W.keepIn K (.ref f_drawn) = true)
    {f_run : Addr} {od_run an_run : Option Addr} {sl_run : Array (Option Value)} {oc_run kV_run dc_run pm_run cd_run ct_run : Value} (a_run : PySem.W.nsIn K mainGlobals "run" = some (some (.ref f_run))) (l_run : K.lookup f_run = some ⟨oc_run, od_run, .func (PySem.W.fnOf "run" "run" (defArgs s_run) (defBody s_run) (defScope s_run) .none kV_run dc_run pm_run an_run cd_run ct_run), sl_run⟩) (c_run : PySem.W.codeIn K cd_run "run" = true) (k_run : PySem.W.keepIn K (.ref f_run) = true)
    {f_law_start : Addr} {od_law_start an_law_start : Option Addr} {sl_law_start : Array (Option Value)} {oc_law_start kV_law_start dc_law_start pm_law_start cd_law_start ct_law_start : Value} (a_law_start : PySem.W.nsIn K mainGlobals "_law_start" = some (some (.ref f_law_start))) (l_law_start : K.lookup f_law_start = some ⟨oc_law_start, od_law_start, .func (PySem.W.fnOf "_law_start" "_law_start" (defArgs s_law_start) (defBody s_law_start) (defScope s_law_start) .none kV_law_start dc_law_start pm_law_start an_law_start cd_law_start ct_law_start), sl_law_start⟩) (c_law_start : PySem.W.codeIn K cd_law_start "_law_start" = true) (k_law_start : PySem.W.keepIn K (.ref f_law_start) = true)
    {f_law_fill : Addr} {od_law_fill an_law_fill : Option Addr} {sl_law_fill : Array (Option Value)} {oc_law_fill kV_law_fill dc_law_fill pm_law_fill cd_law_fill ct_law_fill : Value} (a_law_fill : PySem.W.nsIn K mainGlobals "_law_fill" = some (some (.ref f_law_fill))) (l_law_fill : K.lookup f_law_fill = some ⟨oc_law_fill, od_law_fill, .func (PySem.W.fnOf "_law_fill" "_law_fill" (defArgs s_law_fill) (defBody s_law_fill) (defScope s_law_fill) .none kV_law_fill dc_law_fill pm_law_fill an_law_fill cd_law_fill ct_law_fill), sl_law_fill⟩) (c_law_fill : PySem.W.codeIn K cd_law_fill "_law_fill" = true) (k_law_fill : PySem.W.keepIn K (.ref f_law_fill) = true)
    {f_law_take : Addr} {od_law_take an_law_take : Option Addr} {sl_law_take : Array (Option Value)} {oc_law_take kV_law_take dc_law_take pm_law_take cd_law_take ct_law_take : Value} (a_law_take : PySem.W.nsIn K mainGlobals "_law_take" = some (some (.ref f_law_take))) (l_law_take : K.lookup f_law_take = some ⟨oc_law_take, od_law_take, .func (PySem.W.fnOf "_law_take" "_law_take" (defArgs s_law_take) (defBody s_law_take) (defScope s_law_take) .none kV_law_take dc_law_take pm_law_take an_law_take cd_law_take ct_law_take), sl_law_take⟩) (c_law_take : PySem.W.codeIn K cd_law_take "_law_take" = true) (k_law_take : PySem.W.keepIn K (.ref f_law_take) = true)
    {f_law_divisor : Addr} {od_law_divisor an_law_divisor : Option Addr} {sl_law_divisor : Array (Option Value)} {oc_law_divisor kV_law_divisor dc_law_divisor pm_law_divisor cd_law_divisor ct_law_divisor : Value} (a_law_divisor : PySem.W.nsIn K mainGlobals "_law_divisor" = some (some (.ref f_law_divisor))) (l_law_divisor : K.lookup f_law_divisor = some ⟨oc_law_divisor, od_law_divisor, .func (PySem.W.fnOf "_law_divisor" "_law_divisor" (defArgs s_law_divisor) (defBody s_law_divisor) (defScope s_law_divisor) .none kV_law_divisor dc_law_divisor pm_law_divisor an_law_divisor cd_law_divisor ct_law_divisor), sl_law_divisor⟩) (c_law_divisor : PySem.W.codeIn K cd_law_divisor "_law_divisor" = true) (k_law_divisor : PySem.W.keepIn K (.ref f_law_divisor) = true)
    {f_law_fraction : Addr} {od_law_fraction an_law_fraction : Option Addr} {sl_law_fraction : Array (Option Value)} {oc_law_fraction kV_law_fraction dc_law_fraction pm_law_fraction cd_law_fraction ct_law_fraction : Value} (a_law_fraction : PySem.W.nsIn K mainGlobals "_law_fraction" = some (some (.ref f_law_fraction))) (l_law_fraction : K.lookup f_law_fraction = some ⟨oc_law_fraction, od_law_fraction, .func (PySem.W.fnOf "_law_fraction" "_law_fraction" (defArgs s_law_fraction) (defBody s_law_fraction) (defScope s_law_fraction) .none kV_law_fraction dc_law_fraction pm_law_fraction an_law_fraction cd_law_fraction ct_law_fraction), sl_law_fraction⟩) (c_law_fraction : PySem.W.codeIn K cd_law_fraction "_law_fraction" = true) (k_law_fraction : PySem.W.keepIn K (.ref f_law_fraction) = true)
    {f_law_plus : Addr} {od_law_plus an_law_plus : Option Addr} {sl_law_plus : Array (Option Value)} {oc_law_plus kV_law_plus dc_law_plus pm_law_plus cd_law_plus ct_law_plus : Value} (a_law_plus : PySem.W.nsIn K mainGlobals "_law_plus" = some (some (.ref f_law_plus))) (l_law_plus : K.lookup f_law_plus = some ⟨oc_law_plus, od_law_plus, .func (PySem.W.fnOf "_law_plus" "_law_plus" (defArgs s_law_plus) (defBody s_law_plus) (defScope s_law_plus) .none kV_law_plus dc_law_plus pm_law_plus an_law_plus cd_law_plus ct_law_plus), sl_law_plus⟩) (c_law_plus : PySem.W.codeIn K cd_law_plus "_law_plus" = true) (k_law_plus : PySem.W.keepIn K (.ref f_law_plus) = true)
    {f_law_times : Addr} {od_law_times an_law_times : Option Addr} {sl_law_times : Array (Option Value)} {oc_law_times kV_law_times dc_law_times pm_law_times cd_law_times ct_law_times : Value} (a_law_times : PySem.W.nsIn K mainGlobals "_law_times" = some (some (.ref f_law_times))) (l_law_times : K.lookup f_law_times = some ⟨oc_law_times, od_law_times, .func (PySem.W.fnOf "_law_times" "_law_times" (defArgs s_law_times) (defBody s_law_times) (defScope s_law_times) .none kV_law_times dc_law_times pm_law_times an_law_times cd_law_times ct_law_times), sl_law_times⟩) (c_law_times : PySem.W.codeIn K cd_law_times "_law_times" = true) (k_law_times : PySem.W.keepIn K (.ref f_law_times) = true)
    {f_law_cut : Addr} {od_law_cut an_law_cut : Option Addr} {sl_law_cut : Array (Option Value)} {oc_law_cut kV_law_cut dc_law_cut pm_law_cut cd_law_cut ct_law_cut : Value} (a_law_cut : PySem.W.nsIn K mainGlobals "_law_cut" = some (some (.ref f_law_cut))) (l_law_cut : K.lookup f_law_cut = some ⟨oc_law_cut, od_law_cut, .func (PySem.W.fnOf "_law_cut" "_law_cut" (defArgs s_law_cut) (defBody s_law_cut) (defScope s_law_cut) .none kV_law_cut dc_law_cut pm_law_cut an_law_cut cd_law_cut ct_law_cut), sl_law_cut⟩) (c_law_cut : PySem.W.codeIn K cd_law_cut "_law_cut" = true) (k_law_cut : PySem.W.keepIn K (.ref f_law_cut) = true)
    {f_law_body : Addr} {od_law_body an_law_body : Option Addr} {sl_law_body : Array (Option Value)} {oc_law_body kV_law_body dc_law_body pm_law_body cd_law_body ct_law_body : Value} (a_law_body : PySem.W.nsIn K mainGlobals "_law_body" = some (some (.ref f_law_body))) (l_law_body : K.lookup f_law_body = some ⟨oc_law_body, od_law_body, .func (PySem.W.fnOf "_law_body" "_law_body" (defArgs s_law_body) (defBody s_law_body) (defScope s_law_body) .none kV_law_body dc_law_body pm_law_body an_law_body cd_law_body ct_law_body), sl_law_body⟩) (c_law_body : PySem.W.codeIn K cd_law_body "_law_body" = true) (k_law_body : PySem.W.keepIn K (.ref f_law_body) = true)
    {f_law_program : Addr} {od_law_program an_law_program : Option Addr} {sl_law_program : Array (Option Value)} {oc_law_program kV_law_program dc_law_program pm_law_program cd_law_program ct_law_program : Value} (a_law_program : PySem.W.nsIn K mainGlobals "_law_program" = some (some (.ref f_law_program))) (l_law_program : K.lookup f_law_program = some ⟨oc_law_program, od_law_program, .func (PySem.W.fnOf "_law_program" "_law_program" (defArgs s_law_program) (defBody s_law_program) (defScope s_law_program) .none kV_law_program dc_law_program pm_law_program an_law_program cd_law_program ct_law_program), sl_law_program⟩) (c_law_program : PySem.W.codeIn K cd_law_program "_law_program" = true) (k_law_program : PySem.W.keepIn K (.ref f_law_program) = true)
    {f_law_alike : Addr} {od_law_alike an_law_alike : Option Addr} {sl_law_alike : Array (Option Value)} {oc_law_alike kV_law_alike dc_law_alike pm_law_alike cd_law_alike ct_law_alike : Value} (a_law_alike : PySem.W.nsIn K mainGlobals "_law_alike" = some (some (.ref f_law_alike))) (l_law_alike : K.lookup f_law_alike = some ⟨oc_law_alike, od_law_alike, .func (PySem.W.fnOf "_law_alike" "_law_alike" (defArgs s_law_alike) (defBody s_law_alike) (defScope s_law_alike) .none kV_law_alike dc_law_alike pm_law_alike an_law_alike cd_law_alike ct_law_alike), sl_law_alike⟩) (c_law_alike : PySem.W.codeIn K cd_law_alike "_law_alike" = true) (k_law_alike : PySem.W.keepIn K (.ref f_law_alike) = true)
    {f_law_next : Addr} {od_law_next an_law_next : Option Addr} {sl_law_next : Array (Option Value)} {oc_law_next kV_law_next dc_law_next pm_law_next cd_law_next ct_law_next : Value} (a_law_next : PySem.W.nsIn K mainGlobals "_law_next" = some (some (.ref f_law_next))) (l_law_next : K.lookup f_law_next = some ⟨oc_law_next, od_law_next, .func (PySem.W.fnOf "_law_next" "_law_next" (defArgs s_law_next) (defBody s_law_next) (defScope s_law_next) .none kV_law_next dc_law_next pm_law_next an_law_next cd_law_next ct_law_next), sl_law_next⟩) (c_law_next : PySem.W.codeIn K cd_law_next "_law_next" = true) (k_law_next : PySem.W.keepIn K (.ref f_law_next) = true)
    {f_law_calls_within : Addr} {od_law_calls_within an_law_calls_within : Option Addr} {sl_law_calls_within : Array (Option Value)} {oc_law_calls_within kV_law_calls_within dc_law_calls_within pm_law_calls_within cd_law_calls_within ct_law_calls_within : Value} (a_law_calls_within : PySem.W.nsIn K mainGlobals "_law_calls_within" = some (some (.ref f_law_calls_within))) (l_law_calls_within : K.lookup f_law_calls_within = some ⟨oc_law_calls_within, od_law_calls_within, .func (PySem.W.fnOf "_law_calls_within" "_law_calls_within" (defArgs s_law_calls_within) (defBody s_law_calls_within) (defScope s_law_calls_within) .none kV_law_calls_within dc_law_calls_within pm_law_calls_within an_law_calls_within cd_law_calls_within ct_law_calls_within), sl_law_calls_within⟩) (c_law_calls_within : PySem.W.codeIn K cd_law_calls_within "_law_calls_within" = true) (k_law_calls_within : PySem.W.keepIn K (.ref f_law_calls_within) = true)
    {f_law : Addr} {od_law an_law : Option Addr} {sl_law : Array (Option Value)} {oc_law kV_law dc_law pm_law cd_law ct_law : Value} (a_law : PySem.W.nsIn K mainGlobals "law" = some (some (.ref f_law))) (l_law : K.lookup f_law = some ⟨oc_law, od_law, .func (PySem.W.fnOf "law" "law" (defArgs s_law) (defBody s_law) (defScope s_law) .none kV_law dc_law pm_law an_law cd_law ct_law), sl_law⟩) (c_law : PySem.W.codeIn K cd_law "law" = true) (k_law : PySem.W.keepIn K (.ref f_law) = true) :
    ∃ fd : FuncData, (∀ (s : Shared) (v : Value), BindsTo s fd ⟨[v], []⟩ [("script", v)]) ∧ ∀ base : Heap, K.In base → base.Ns mainGlobals mg → FnOk l.prog w K mg base CX0 14 fa fd ["script"] (spOf ⟨l.prog, w, K, CA⟩ lawS) := by
  have e := hfa.symm.trans (PySem.W.mg_of X G a_law)
  cases e
  have T : Tx K mg := ⟨PySem.W.mg_none_of X G z_abs, PySem.W.mg_none_of X G z_all, PySem.W.mg_none_of X G z_bool, PySem.W.mg_none_of X G z_dict, PySem.W.mg_none_of X G z_int, PySem.W.mg_none_of X G z_isinstance, PySem.W.mg_none_of X G z_len, PySem.W.mg_none_of X G z_list, PySem.W.mg_none_of X G z_range, PySem.W.mg_none_of X G z_sorted, PySem.W.mg_none_of X G z_str, PySem.W.mg_none_of X G z_sum, PySem.W.mg_none_of X G z_tuple, PySem.W.mg_none_of X G z_zip, grep_2 (PySem.W.mg_of X G v_ZERO) w_ZERO, grep_2 (PySem.W.mg_of X G v_ONE) w_ONE, grep_int (PySem.W.mg_of X G v_MOST_DIGITS)⟩
  have F_common_divisor := fun_mk (st := s_common_divisor) l_common_divisor c_common_divisor k_common_divisor
  have b_common_divisor := F_common_divisor.binds (ps := ["first", "second"]) fun _ _ _ _ _ _ us hl => match us, hl with | [_, _], _ => rfl
  have m_common_divisor := PySem.W.mg_of X G a_common_divisor
  have F_ratio := fun_mk (st := s_ratio) l_ratio c_ratio k_ratio
  have b_ratio := F_ratio.binds (ps := ["above", "below"]) fun _ _ _ _ _ _ us hl => match us, hl with | [_, _], _ => rfl
  have m_ratio := PySem.W.mg_of X G a_ratio
  have F_plus := fun_mk (st := s_plus) l_plus c_plus k_plus
  have b_plus := F_plus.binds (ps := ["first", "second"]) fun _ _ _ _ _ _ us hl => match us, hl with | [_, _], _ => rfl
  have m_plus := PySem.W.mg_of X G a_plus
  have F_times := fun_mk (st := s_times) l_times c_times k_times
  have b_times := F_times.binds (ps := ["first", "second"]) fun _ _ _ _ _ _ us hl => match us, hl with | [_, _], _ => rfl
  have m_times := PySem.W.mg_of X G a_times
  have F_has_digits := fun_mk (st := s_has_digits) l_has_digits c_has_digits k_has_digits
  have b_has_digits := F_has_digits.binds (ps := ["one", "most"]) fun _ _ _ _ _ _ us hl => match us, hl with | [_, _], _ => rfl
  have m_has_digits := PySem.W.mg_of X G a_has_digits
  have F_ways := fun_mk (st := s_ways) l_ways c_ways k_ways
  have b_ways := F_ways.binds (ps := ["body"]) fun _ _ _ _ _ _ us hl => match us, hl with | [_], _ => rfl
  have m_ways := PySem.W.mg_of X G a_ways
  have F_alternatives_of := fun_mk (st := s_alternatives_of) l_alternatives_of c_alternatives_of k_alternatives_of
  have b_alternatives_of := F_alternatives_of.binds (ps := ["body"]) fun _ _ _ _ _ _ us hl => match us, hl with | [_], _ => rfl
  have m_alternatives_of := PySem.W.mg_of X G a_alternatives_of
  have F_alternatives := fun_mk (st := s_alternatives) l_alternatives c_alternatives k_alternatives
  have b_alternatives := F_alternatives.binds (ps := ["program"]) fun _ _ _ _ _ _ us hl => match us, hl with | [_], _ => rfl
  have m_alternatives := PySem.W.mg_of X G a_alternatives
  have F_common_bottom := fun_mk (st := s_common_bottom) l_common_bottom c_common_bottom k_common_bottom
  have b_common_bottom := F_common_bottom.binds (ps := ["tables"]) fun _ _ _ _ _ _ us hl => match us, hl with | [_], _ => rfl
  have m_common_bottom := PySem.W.mg_of X G a_common_bottom
  have F_merged := fun_mk (st := s_merged) l_merged c_merged k_merged
  have b_merged := F_merged.binds (ps := ["rows", "bottom"]) fun _ _ _ _ _ _ us hl => match us, hl with | [_, _], _ => rfl
  have m_merged := PySem.W.mg_of X G a_merged
  have F_beginnings := fun_mk (st := s_beginnings) l_beginnings c_beginnings k_beginnings
  have b_beginnings := F_beginnings.binds (ps := ["tables"]) fun _ _ _ _ _ _ us hl => match us, hl with | [_], _ => rfl
  have m_beginnings := PySem.W.mg_of X G a_beginnings
  have F_lengths := fun_mk (st := s_lengths) l_lengths c_lengths k_lengths
  have b_lengths := F_lengths.binds (ps := ["program", "most"]) fun _ _ _ _ _ _ us hl => match us, hl with | [_, _], _ => rfl
  have m_lengths := PySem.W.mg_of X G a_lengths
  have F_checked := fun_mk (st := s_checked) l_checked c_checked k_checked
  have b_checked := F_checked.binds (ps := ["one"]) fun _ _ _ _ _ _ us hl => match us, hl with | [_], _ => rfl
  have m_checked := PySem.W.mg_of X G a_checked
  have F_common_denominator := fun_mk (st := s_common_denominator) l_common_denominator c_common_denominator k_common_denominator
  have b_common_denominator := F_common_denominator.binds (ps := ["rows"]) fun _ _ _ _ _ _ us hl => match us, hl with | [_], _ => rfl
  have m_common_denominator := PySem.W.mg_of X G a_common_denominator
  have F_drawn := fun_mk (st := s_drawn) l_drawn c_drawn k_drawn
  have b_drawn := F_drawn.binds (ps := ["rows", "many", "number"]) fun _ _ _ _ _ _ us hl => match us, hl with | [_, _, _], _ => rfl
  have m_drawn := PySem.W.mg_of X G a_drawn
  have F_run := fun_mk (st := s_run) l_run c_run k_run
  have b_run := F_run.binds (ps := ["program", "procedure", "tape", "most"]) fun _ _ _ _ _ _ us hl => match us, hl with | [_, _, _, _], _ => rfl
  have m_run := PySem.W.mg_of X G a_run
  have F_law_start := fun_mk (st := s_law_start) l_law_start c_law_start k_law_start
  have b_law_start := F_law_start.binds (ps := ["script"]) fun _ _ _ _ _ _ us hl => match us, hl with | [_], _ => rfl
  have m_law_start := PySem.W.mg_of X G a_law_start
  have F_law_fill := fun_mk (st := s_law_fill) l_law_fill c_law_fill k_law_fill
  have b_law_fill := F_law_fill.binds (ps := ["c"]) fun _ _ _ _ _ _ us hl => match us, hl with | [_], _ => rfl
  have m_law_fill := PySem.W.mg_of X G a_law_fill
  have F_law_take := fun_mk (st := s_law_take) l_law_take c_law_take k_law_take
  have b_law_take := F_law_take.binds (ps := ["c", "many"]) fun _ _ _ _ _ _ us hl => match us, hl with | [_, _], _ => rfl
  have m_law_take := PySem.W.mg_of X G a_law_take
  have F_law_divisor := fun_mk (st := s_law_divisor) l_law_divisor c_law_divisor k_law_divisor
  have b_law_divisor := F_law_divisor.binds (ps := ["a", "b"]) fun _ _ _ _ _ _ us hl => match us, hl with | [_, _], _ => rfl
  have m_law_divisor := PySem.W.mg_of X G a_law_divisor
  have F_law_fraction := fun_mk (st := s_law_fraction) l_law_fraction c_law_fraction k_law_fraction
  have b_law_fraction := F_law_fraction.binds (ps := ["n", "d"]) fun _ _ _ _ _ _ us hl => match us, hl with | [_, _], _ => rfl
  have m_law_fraction := PySem.W.mg_of X G a_law_fraction
  have F_law_plus := fun_mk (st := s_law_plus) l_law_plus c_law_plus k_law_plus
  have b_law_plus := F_law_plus.binds (ps := ["a", "b"]) fun _ _ _ _ _ _ us hl => match us, hl with | [_, _], _ => rfl
  have m_law_plus := PySem.W.mg_of X G a_law_plus
  have F_law_times := fun_mk (st := s_law_times) l_law_times c_law_times k_law_times
  have b_law_times := F_law_times.binds (ps := ["a", "b"]) fun _ _ _ _ _ _ us hl => match us, hl with | [_, _], _ => rfl
  have m_law_times := PySem.W.mg_of X G a_law_times
  have F_law_cut := fun_mk (st := s_law_cut) l_law_cut c_law_cut k_law_cut
  have b_law_cut := F_law_cut.binds (ps := ["c"]) fun _ _ _ _ _ _ us hl => match us, hl with | [_], _ => rfl
  have m_law_cut := PySem.W.mg_of X G a_law_cut
  have F_law_body := fun_mk (st := s_law_body) l_law_body c_law_body k_law_body
  have b_law_body := F_law_body.binds (ps := ["c", "names", "letters", "deep"]) fun _ _ _ _ _ _ us hl => match us, hl with | [_, _, _, _], _ => rfl
  have m_law_body := PySem.W.mg_of X G a_law_body
  have F_law_program := fun_mk (st := s_law_program) l_law_program c_law_program k_law_program
  have b_law_program := F_law_program.binds (ps := ["c"]) fun _ _ _ _ _ _ us hl => match us, hl with | [_], _ => rfl
  have m_law_program := PySem.W.mg_of X G a_law_program
  have F_law_alike := fun_mk (st := s_law_alike) l_law_alike c_law_alike k_law_alike
  have b_law_alike := F_law_alike.binds (ps := ["value", "due"]) fun _ _ _ _ _ _ us hl => match us, hl with | [_, _], _ => rfl
  have m_law_alike := PySem.W.mg_of X G a_law_alike
  have F_law_next := fun_mk (st := s_law_next) l_law_next c_law_next k_law_next
  have b_law_next := F_law_next.binds (ps := ["program", "p", "tape", "most"]) fun _ _ _ _ _ _ us hl => match us, hl with | [_, _, _, _], _ => rfl
  have m_law_next := PySem.W.mg_of X G a_law_next
  have F_law_calls_within := fun_mk (st := s_law_calls_within) l_law_calls_within c_law_calls_within k_law_calls_within
  have b_law_calls_within := F_law_calls_within.binds (ps := ["body", "names"]) fun _ _ _ _ _ _ us hl => match us, hl with | [_, _], _ => rfl
  have m_law_calls_within := PySem.W.mg_of X G a_law_calls_within
  have F_law := fun_mk (st := s_law) l_law c_law k_law
  have b_law := F_law.binds (ps := ["script"]) fun _ _ _ _ _ _ us hl => match us, hl with | [_], _ => rfl
  have m_law := PySem.W.mg_of X G a_law
  refine ⟨PySem.W.fnOf "law" "law" (defArgs s_law) (defBody s_law) (defScope s_law) .none kV_law dc_law pm_law an_law cd_law ct_law, fun s v => .of_eq rfl, fun base _ _ => ?_⟩ 
  have D_law_start := FnOk.d (ok_law_start (P := l.prog) (w := w) (base := base) (CA := CA) T F_law_start) m_law_start k_law_start b_law_start
  have D_common_divisor := FnOk.d (ok_common_divisor (P := l.prog) (w := w) (base := base) (CA := CA) T F_common_divisor) m_common_divisor k_common_divisor b_common_divisor
  have D_ratio := FnOk.d (ok_ratio (P := l.prog) (w := w) (base := base) (CA := CA) T F_ratio D_common_divisor) m_ratio k_ratio b_ratio
  have D_times := FnOk.d (ok_times (P := l.prog) (w := w) (base := base) (CA := CA) T F_times D_ratio) m_times k_times b_times
  have D_ways := FnOk.d (ok_ways (P := l.prog) (w := w) (base := base) (CA := CA) T F_ways D_times) m_ways k_ways b_ways
  have D_plus := FnOk.d (ok_plus (P := l.prog) (w := w) (base := base) (CA := CA) T F_plus D_ratio) m_plus k_plus b_plus
  have D_alternatives_of := FnOk.d (ok_alternatives_of (P := l.prog) (w := w) (base := base) (CA := CA) T F_alternatives_of D_ways D_plus) m_alternatives_of k_alternatives_of b_alternatives_of
  have D_alternatives := FnOk.d (ok_alternatives (P := l.prog) (w := w) (base := base) (CA := CA) T F_alternatives D_alternatives_of) m_alternatives k_alternatives b_alternatives
  have D_common_bottom := FnOk.d (ok_common_bottom (P := l.prog) (w := w) (base := base) (CA := CA) T F_common_bottom D_common_divisor) m_common_bottom k_common_bottom b_common_bottom
  have D_beginnings := FnOk.d (ok_beginnings (P := l.prog) (w := w) (base := base) (CA := CA) T F_beginnings) m_beginnings k_beginnings b_beginnings
  have D_merged := FnOk.d (ok_merged (P := l.prog) (w := w) (base := base) (CA := CA) T F_merged) m_merged k_merged b_merged
  have D_has_digits := FnOk.d (ok_has_digits (P := l.prog) (w := w) (base := base) (CA := CA) T F_has_digits) m_has_digits k_has_digits b_has_digits
  have D_checked := FnOk.d (ok_checked (P := l.prog) (w := w) (base := base) (CA := CA) T F_checked D_has_digits) m_checked k_checked b_checked
  have D_lengths := FnOk.d (ok_lengths (P := l.prog) (w := w) (base := base) (CA := CA) T F_lengths D_alternatives D_common_bottom D_beginnings D_merged D_checked D_ratio) m_lengths k_lengths b_lengths
  have D_law_fill := FnOk.d (ok_law_fill (P := l.prog) (w := w) (base := base) (CA := CA) T F_law_fill) m_law_fill k_law_fill b_law_fill
  have D_law_take := FnOk.d (ok_law_take (P := l.prog) (w := w) (base := base) (CA := CA) T F_law_take D_law_fill) m_law_take k_law_take b_law_take
  have D_law_divisor := FnOk.d (ok_law_divisor (P := l.prog) (w := w) (base := base) (CA := CA) T F_law_divisor) m_law_divisor k_law_divisor b_law_divisor
  have D_law_fraction := FnOk.d (ok_law_fraction (P := l.prog) (w := w) (base := base) (CA := CA) T F_law_fraction D_law_divisor) m_law_fraction k_law_fraction b_law_fraction
  have D_law_times := FnOk.d (ok_law_times (P := l.prog) (w := w) (base := base) (CA := CA) T F_law_times D_law_fraction) m_law_times k_law_times b_law_times
  have D_law_plus := FnOk.d (ok_law_plus (P := l.prog) (w := w) (base := base) (CA := CA) T F_law_plus D_law_fraction) m_law_plus k_law_plus b_law_plus
  have D_law_cut := FnOk.d (ok_law_cut (P := l.prog) (w := w) (base := base) (CA := CA) T F_law_cut D_law_fraction D_law_take D_law_times D_law_plus) m_law_cut k_law_cut b_law_cut
  have D_law_body := FnOk.d (ok_law_body (P := l.prog) (w := w) (base := base) (CA := CA) T F_law_body m_law_body b_law_body D_law_take D_law_cut 8) m_law_body k_law_body b_law_body
  have D_law_program := FnOk.d (ok_law_program (P := l.prog) (w := w) (base := base) (CA := CA) T F_law_program D_law_take D_law_body) m_law_program k_law_program b_law_program
  have D_common_denominator := FnOk.d (ok_common_denominator (P := l.prog) (w := w) (base := base) (CA := CA) T F_common_denominator D_common_divisor) m_common_denominator k_common_denominator b_common_denominator
  have D_drawn := FnOk.d (ok_drawn (P := l.prog) (w := w) (base := base) (CA := CA) T F_drawn) m_drawn k_drawn b_drawn
  have D_run := FnOk.d (ok_run (P := l.prog) (w := w) (base := base) (CA := CA) T F_run D_common_denominator D_drawn) m_run k_run b_run
  have D_law_calls_within := FnOk.d (ok_law_calls_within (P := l.prog) (w := w) (base := base) (CA := CA) T F_law_calls_within m_law_calls_within b_law_calls_within 8) m_law_calls_within k_law_calls_within b_law_calls_within
  have D_law_next := FnOk.d (ok_law_next (P := l.prog) (w := w) (base := base) (CA := CA) T F_law_next D_law_divisor) m_law_next k_law_next b_law_next
  have D_law_alike := FnOk.d (ok_law_alike (P := l.prog) (w := w) (base := base) (CA := CA) T F_law_alike m_law_alike b_law_alike 8) m_law_alike k_law_alike b_law_alike
  exact ok_law T F_law D_law_start D_lengths D_law_program D_law_take D_run D_law_calls_within D_law_plus D_law_next D_law_alike D_law_times
end DL

set_option Elab.async false
set_option maxRecDepth 100000
open PySem PySem.W PyProof.Rows in
set_option maxRecDepth 100000 in
set_option maxHeartbeats 0 in
theorem PySem.Challenge.cw_hazardry_k34_chances_over_all_tapes_holds : PySem.Challenge.rw_hazardry_k34_chances_over_all_tapes.Holds := by
  w_on; o_law; k_head; (case hw => w_witness2)
  k_fill
  refine DL.law_walk (l := PySem.Challenge.rw_hazardry_k34_chances_over_all_tapes) (k := 14) (fun _ _ => 0) rfl rfl ⟨rfl, by decide, by decide⟩ (fun w h Y => PySem.W.kIn_of Y) ?F
  case F =>
    intro w mg fa h KX G hmg
    refine' DL.all_mk KX G hmg (fun _ => 0) ?z_abs ?z_all ?z_bool ?z_dict ?z_int ?z_isinstance ?z_len ?z_list ?z_range ?z_sorted ?z_str ?z_sum ?z_tuple ?z_zip ?v_ZERO ?w_ZERO ?v_ONE ?w_ONE ?v_MOST_DIGITS ?a_common_divisor ?l_common_divisor ?c_common_divisor ?k_common_divisor ?a_ratio ?l_ratio ?c_ratio ?k_ratio ?a_plus ?l_plus ?c_plus ?k_plus ?a_times ?l_times ?c_times ?k_times ?a_has_digits ?l_has_digits ?c_has_digits ?k_has_digits ?a_ways ?l_ways ?c_ways ?k_ways ?a_alternatives_of ?l_alternatives_of ?c_alternatives_of ?k_alternatives_of ?a_alternatives ?l_alternatives ?c_alternatives ?k_alternatives ?a_common_bottom ?l_common_bottom ?c_common_bottom ?k_common_bottom ?a_merged ?l_merged ?c_merged ?k_merged ?a_beginnings ?l_beginnings ?c_beginnings ?k_beginnings ?a_lengths ?l_lengths ?c_lengths ?k_lengths ?a_checked ?l_checked ?c_checked ?k_checked ?a_common_denominator ?l_common_denominator ?c_common_denominator ?k_common_denominator ?a_drawn ?l_drawn ?c_drawn ?k_drawn ?a_run ?l_run ?c_run ?k_run ?a_law_start ?l_law_start ?c_law_start ?k_law_start ?a_law_fill ?l_law_fill ?c_law_fill ?k_law_fill ?a_law_take ?l_law_take ?c_law_take ?k_law_take ?a_law_divisor ?l_law_divisor ?c_law_divisor ?k_law_divisor ?a_law_fraction ?l_law_fraction ?c_law_fraction ?k_law_fraction ?a_law_plus ?l_law_plus ?c_law_plus ?k_law_plus ?a_law_times ?l_law_times ?c_law_times ?k_law_times ?a_law_cut ?l_law_cut ?c_law_cut ?k_law_cut ?a_law_body ?l_law_body ?c_law_body ?k_law_body ?a_law_program ?l_law_program ?c_law_program ?k_law_program ?a_law_alike ?l_law_alike ?c_law_alike ?k_law_alike ?a_law_next ?l_law_next ?c_law_next ?k_law_next ?a_law_calls_within ?l_law_calls_within ?c_law_calls_within ?k_law_calls_within ?a_law ?l_law ?c_law ?k_law
    (case z_abs => k_is)
    (case z_all => k_is)
    (case z_bool => k_is)
    (case z_dict => k_is)
    (case z_int => k_is)
    (case z_isinstance => k_is)
    (case z_len => k_is)
    (case z_list => k_is)
    (case z_range => k_is)
    (case z_sorted => k_is)
    (case z_str => k_is)
    (case z_sum => k_is)
    (case z_tuple => k_is)
    (case z_zip => k_is)
    (case v_ZERO => k_is)
    (case w_ZERO => k_is)
    (case v_ONE => k_is)
    (case w_ONE => k_is)
    (case v_MOST_DIGITS => k_is)
    (case a_common_divisor => k_is)
    (case l_common_divisor => k_is)
    (case c_common_divisor => k_is)
    (case k_common_divisor => k_is)
    (case a_ratio => k_is)
    (case l_ratio => k_is)
    (case c_ratio => k_is)
    (case k_ratio => k_is)
    (case a_plus => k_is)
    (case l_plus => k_is)
    (case c_plus => k_is)
    (case k_plus => k_is)
    (case a_times => k_is)
    (case l_times => k_is)
    (case c_times => k_is)
    (case k_times => k_is)
    (case a_has_digits => k_is)
    (case l_has_digits => k_is)
    (case c_has_digits => k_is)
    (case k_has_digits => k_is)
    (case a_ways => k_is)
    (case l_ways => k_is)
    (case c_ways => k_is)
    (case k_ways => k_is)
    (case a_alternatives_of => k_is)
    (case l_alternatives_of => k_is)
    (case c_alternatives_of => k_is)
    (case k_alternatives_of => k_is)
    (case a_alternatives => k_is)
    (case l_alternatives => k_is)
    (case c_alternatives => k_is)
    (case k_alternatives => k_is)
    (case a_common_bottom => k_is)
    (case l_common_bottom => k_is)
    (case c_common_bottom => k_is)
    (case k_common_bottom => k_is)
    (case a_merged => k_is)
    (case l_merged => k_is)
    (case c_merged => k_is)
    (case k_merged => k_is)
    (case a_beginnings => k_is)
    (case l_beginnings => k_is)
    (case c_beginnings => k_is)
    (case k_beginnings => k_is)
    (case a_lengths => k_is)
    (case l_lengths => k_is)
    (case c_lengths => k_is)
    (case k_lengths => k_is)
    (case a_checked => k_is)
    (case l_checked => k_is)
    (case c_checked => k_is)
    (case k_checked => k_is)
    (case a_common_denominator => k_is)
    (case l_common_denominator => k_is)
    (case c_common_denominator => k_is)
    (case k_common_denominator => k_is)
    (case a_drawn => k_is)
    (case l_drawn => k_is)
    (case c_drawn => k_is)
    (case k_drawn => k_is)
    (case a_run => k_is)
    (case l_run => k_is)
    (case c_run => k_is)
    (case k_run => k_is)
    (case a_law_start => k_is)
    (case l_law_start => k_is)
    (case c_law_start => k_is)
    (case k_law_start => k_is)
    (case a_law_fill => k_is)
    (case l_law_fill => k_is)
    (case c_law_fill => k_is)
    (case k_law_fill => k_is)
    (case a_law_take => k_is)
    (case l_law_take => k_is)
    (case c_law_take => k_is)
    (case k_law_take => k_is)
    (case a_law_divisor => k_is)
    (case l_law_divisor => k_is)
    (case c_law_divisor => k_is)
    (case k_law_divisor => k_is)
    (case a_law_fraction => k_is)
    (case l_law_fraction => k_is)
    (case c_law_fraction => k_is)
    (case k_law_fraction => k_is)
    (case a_law_plus => k_is)
    (case l_law_plus => k_is)
    (case c_law_plus => k_is)
    (case k_law_plus => k_is)
    (case a_law_times => k_is)
    (case l_law_times => k_is)
    (case c_law_times => k_is)
    (case k_law_times => k_is)
    (case a_law_cut => k_is)
    (case l_law_cut => k_is)
    (case c_law_cut => k_is)
    (case k_law_cut => k_is)
    (case a_law_body => k_is)
    (case l_law_body => k_is)
    (case c_law_body => k_is)
    (case k_law_body => k_is)
    (case a_law_program => k_is)
    (case l_law_program => k_is)
    (case c_law_program => k_is)
    (case k_law_program => k_is)
    (case a_law_alike => k_is)
    (case l_law_alike => k_is)
    (case c_law_alike => k_is)
    (case k_law_alike => k_is)
    (case a_law_next => k_is)
    (case l_law_next => k_is)
    (case c_law_next => k_is)
    (case k_law_next => k_is)
    (case a_law_calls_within => k_is)
    (case l_law_calls_within => k_is)
    (case c_law_calls_within => k_is)
    (case k_law_calls_within => k_is)
    (case a_law => k_is)
    (case l_law => k_is)
    (case c_law => k_is)
    (case k_law => k_is)

