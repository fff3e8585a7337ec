import PyProof.Rows.All
import Wide.All
import OpenK.AllK
import Wide.FinOn
import PySem.Str
import PyProof.Fits
import PyProof.NoPylong
import HandS.List
import HandS.Nested
import HandS.ForMost
import HandS.TupAny
import HandS.IsInst
import HandS.Wide
import HandS.Style
import HandS.Conv
import HandS.Deep
import HandS.EndBits
import KE.KDictKeyed
import KE.KDictPairs
import KE.IntBitsLaws
import HandS.DictComp
import HandS.Zip
import KE.SortKeyHeap
import HandS.More
import HandS.SortKw
import HandS.Text
import PyProof.EqLayable
import PyProof.ReprRoads
import HandS.EndTab
import HandS.TryOnly
import HandS.ExcOwn
import PyProof.P3Eq
import PyProof.StrLawsRepr
import PySem.Challenge.RW_hazardry_k40_unfolded_programs
set_option Elab.async false
set_option linter.all false
/-! DL: a clean level over the hand layer. Values (tuples by value, lists and dicts by address), a store, and what Python's
expressions and statements ask, as predicate transformers. -/
namespace DL
open PySem

/-! ## values -/
inductive D where
  | non | bl (b : Bool) | int (i : Int) | str (x : Str) | tup (xs : List D) | ref (a : Addr) | ty (n : String)
  /-- a list that is read alone -/
  | lro (xs : List D)
  deriving Inhabited

mutual
def D.beq : D → D → Bool
  | .non, .non => true
  | .bl a, .bl b => a == b
  | .int a, .int b => decide (a = b)
  | .str a, .str b => decide (a = b)
  | .tup a, .tup b => D.beqs a b
  | .lro a, .lro b => D.beqs a b
  | .ref a, .ref b => decide (a = b)
  | .ty a, .ty b => decide (a = b)
  | _, _ => false
def D.beqs : List D → List D → Bool
  | [], [] => true
  | a :: as, b :: bs => D.beq a b && D.beqs as bs
  | _, _ => false
end
mutual
theorem D.beq_self : ∀ a : D, D.beq a a = true
  | .non => rfl
  | .bl a => by simp [D.beq]
  | .int a => by simp [D.beq]
  | .str a => by simp [D.beq]
  | .tup a => by rw [D.beq]; exact D.beqs_self a
  | .lro a => by rw [D.beq]; exact D.beqs_self a
  | .ref a => by simp [D.beq]
  | .ty a => by simp [D.beq]
theorem D.beqs_self : ∀ a : List D, D.beqs a a = true
  | [] => rfl
  | a :: as => by rw [D.beqs, D.beq_self a, D.beqs_self as]; rfl
end
mutual
theorem D.eq_of_beq : ∀ a b : D, D.beq a b = true → a = b
  | .non, b, h => by cases b <;> simp [D.beq] at h ⊢
  | .bl a, b, h => by cases b <;> simp [D.beq] at h ⊢; exact h
  | .int a, b, h => by cases b <;> simp [D.beq] at h ⊢; exact h
  | .str a, b, h => by cases b <;> simp [D.beq] at h ⊢; exact h
  | .tup a, b, h => by
    cases b <;> simp [D.beq] at h ⊢
    exact D.eq_of_beqs a _ h
  | .lro a, b, h => by
    cases b <;> simp [D.beq] at h ⊢
    exact D.eq_of_beqs a _ h
  | .ref a, b, h => by cases b <;> simp [D.beq] at h ⊢; exact h
  | .ty a, b, h => by cases b <;> simp [D.beq] at h ⊢; exact h
theorem D.eq_of_beqs : ∀ a b : List D, D.beqs a b = true → a = b
  | [], b, h => by cases b <;> simp [D.beqs] at h ⊢
  | a :: as, b, h => by
    cases b with
    | nil => simp [D.beqs] at h
    | cons b bs =>
      simp only [D.beqs, Bool.and_eq_true] at h
      rw [D.eq_of_beq a b h.1, D.eq_of_beqs as bs h.2]
end
instance : DecidableEq D := fun a b => if h : D.beq a b = true then isTrue (D.eq_of_beq a b h) else isFalse fun e => h (e ▸ D.beq_self a)

/-! ## the store -/
abbrev Key := Sum Int Str
inductive O where
  | lst (xs : List D)
  /-- a dict whose keys are ints and texts; one whose keys are tuples (of ints, texts, None, tuples) -/
  | dk (kvs : List (Key × D)) | dn (kvs : List (D × D))
  /-- an instance of a class of the text -/
  | ins (C : String) (fs : List (Str × D))
  /-- dicts while they are walked: read, not written -/
  | dkF (kvs : List (Key × D)) | dnF (kvs : List (D × D))
  /-- a def made within a def; a code object of that name; a def's table of such, which code objects it may tell -/
  | fn (F : NdefX.NF) | code (q : Str) | tab (cs : List Addr)
  /-- a lambda: its words, its body -/
  | lam (F : NdefX.NF) (e : Expr)
def O.un : O → O
  | .dkF k => .dk k
  | .dnF k => .dn k
  | o => o
abbrev Sto := Addr → Option O
def Sto.set (M : Sto) (a : Addr) (o : O) : Sto := fun b => if b = a then some o else M b
@[simp] theorem set_same {M : Sto} {a : Addr} {o : O} : M.set a o a = some o := if_pos rfl
theorem set_ne {M : Sto} {a b : Addr} {o : O} (h : b ≠ a) : M.set a o b = M b := if_neg h
theorem set_set {M : Sto} {a : Addr} {o u : O} : (M.set a o).set a u = M.set a u := by
  funext b; unfold Sto.set; split <;> rfl
theorem set_comm {M : Sto} {a b : Addr} {o u : O} (h : a ≠ b) : (M.set a o).set b u = (M.set b u).set a o := by
  funext c; unfold Sto.set
  by_cases h1 : c = b
  · subst h1; rw [if_pos rfl, if_neg (Ne.symm h), if_pos rfl]
  · rw [if_neg h1, if_neg h1]
theorem set_self {M : Sto} {a : Addr} {o : O} (h : M a = some o) : M.set a o = M := by
  funext b; unfold Sto.set; split
  · rename_i e; rw [e, h]
  · rfl
theorem ne_of {M : Sto} {a b : Addr} {o : O} (h : M a = some o) (h' : M b = none) : a ≠ b := by
  intro e; subst e; rw [h] at h'; cases h'

/-! ## names -/
abbrev Ev := List (Option D)
@[simp] def gt : Ev → Nat → Option D
  | [], _ => none
  | x :: _, 0 => x
  | _ :: r, i + 1 => gt r i
@[simp] def put : Ev → Nat → D → Ev
  | [], _, _ => []
  | _ :: r, 0, d => some d :: r
  | x :: r, i + 1, d => x :: put r i d
@[simp] def wipe (e : Ev) : List Nat → Ev
  | [] => e
  | i :: r => (wipe e r).set i none
@[simp] def start (n : Nat) (ds : List D) : Ev := ds.map some ++ List.replicate (n - ds.length) none

/-! ## what is wanted -/
/-- of an exception: its class, its own fields -/
abbrev XW := String → List (Str × D) → Sto → Prop
abbrev KD := D → Sto → Prop
abbrev WE := XW → Ev → Sto → KD → Prop
abbrev WT := XW → Ev → Sto → (Bool → Sto → Prop) → Prop
structure Ends where
  nx : Ev → Sto → Prop
  rt : KD
  bk : Ev → Sto → Prop
  ct : Ev → Sto → Prop
abbrev WS := XW → Ends → Ev → Sto → Prop
abbrev WG := D → XW → Ev → Sto → (Ev → Sto → Prop) → Prop
abbrev FD := XW → List D → Sto → KD → Prop
abbrev X0 : XW := fun _ _ _ => False

/-! ## operations by values -/
abbrev B2 := D → D → Sto → KD → Prop
abbrev C2 := D → D → Sto → (Bool → Prop) → Prop
def opAdd : B2 := fun x y M Q => match x, y with
  | .int i, .int j => Q (.int (i + j)) M
  | .str a, .str b => a.length + b.length ≤ sizeLine ∧ Q (.str (a ++ b)) M
  | .tup xs, .tup ys => xs.length + ys.length ≤ sizeLine ∧ Q (.tup (xs ++ ys)) M
  | .ref a, .ref b => match M a, M b with
    | some (.lst xs), some (.lst ys) => xs.length + ys.length ≤ sizeLine ∧ ∀ p, M p = none → Q (.ref p) (M.set p (.lst (xs ++ ys)))
    | _, _ => False
  | _, _ => False
/-- + in place, of ints, texts and tuples -/
def ipAdd : B2 := fun x y M Q => match x, y with
  | .int i, .int j => Q (.int (i + j)) M
  | _, _ => False
def opSub : B2 := fun x y M Q => match x, y with
  | .int i, .int j => Q (.int (i - j)) M
  | _, _ => False
def opMul : B2 := fun x y M Q => match x, y with
  | .int i, .int j => IntMulOk i j ∧ Q (.int (i * j)) M
  | _, _ => False
def opDiv : B2 := fun x y M Q => match x, y with
  | .int i, .int j => j ≠ 0 ∧ Builtin.divisionGoesByPylong i j = false ∧ Q (.int (i.fdiv j)) M
  | _, _ => False
def opMod : B2 := fun x y M Q => match x, y with
  | .int i, .int j => j ≠ 0 ∧ Q (.int (i.fmod j)) M
  | _, _ => False
def opPow : B2 := fun x y M Q => match x, y with
  | .int i, .int j => 0 ≤ j ∧ j ≤ 1000000 ∧ i.natAbs < 2 ^ 64 ∧ Q (.int (i ^ j.toNat)) M
  | _, _ => False
/-- a flat value -/
def flat : D → Bool
  | .non | .bl _ | .int _ | .str _ => true
  | _ => false
/-- x == y of flat values -/
def eqF : D → D → Bool
  | .non, .non => true
  | .bl a, .bl b => a == b
  | .bl a, .int b => (if a then 1 else 0) == b
  | .int a, .bl b => a == (if b then 1 else 0)
  | .int a, .int b => decide (a = b)
  | .str a, .str b => decide (a = b)
  | _, _ => false
mutual
/-- as data -/
def D.py : D → PyData
  | .non => .none
  | .bl b => .bool b
  | .int i => .int i
  | .str x => .str x
  | .tup xs => .tuple (D.pys xs)
  | .ref _ => .dict []
  | .ty _ => .dict []
  | .lro _ => .dict []
def D.pys : List D → List PyData
  | [] => []
  | x :: xs => x.py :: D.pys xs
end
def D.scal : D → D → Bool
  | .int _, .int _ | .str _, .str _ | .bl _, .bl _ => true
  | _, _ => false
def cEq : C2 := fun x y M k => match x, y with
  | .int i, .int j => k (decide (i = j))
  | .str a, .str b => k (decide (a = b))
  | .bl a, .bl b => k (a == b)
  | x, y => SeqAt.shaped x.py = true ∧ SeqAt.shaped y.py = true ∧ k (PyData.eqv x.py y.py)
def cNe : C2 := fun x y M k => cEq x y M fun b => k (!b)
def cLt : C2 := fun x y M k => match x, y with
  | .int i, .int j => k (decide (i < j))
  | _, _ => False
def cLe : C2 := fun x y M k => match x, y with
  | .int i, .int j => k (decide (i ≤ j))
  | _, _ => False
def cGt : C2 := fun x y M k => match x, y with
  | .int i, .int j => k (decide (j < i))
  | _, _ => False
def cGe : C2 := fun x y M k => match x, y with
  | .int i, .int j => k (decide (j ≤ i))
  | _, _ => False
def cIsN : C2 := fun x y _ k => match y with
  | .non => k (decide (x = .non))
  | _ => False
def cNotN : C2 := fun x y _ k => match y with
  | .non => k (!decide (x = .non))
  | _ => False
/-- a key of a dict -/
def keyD : D → Option Key
  | .int i => some (.inl i)
  | .str x => some (.inr x)
  | _ => none
def dKey : Key → D
  | .inl i => .int i
  | .inr x => .str x
mutual
def nest : D → Option Nat
  | .non | .int _ | .str _ => some 0
  | .tup xs => (nests xs).map (· + 1)
  | _ => none
def nests : List D → Option Nat
  | [] => some 0
  | x :: xs => match nest x, nests xs with
    | some a, some b => some (max a b)
    | _, _ => none
end
/-- a tuple that may be a key -/
def nkOk (x : D) : Bool := match x with
  | .tup _ => match nest x with
    | some n => decide (n ≤ 8)
    | none => false
  | _ => false
section
variable {κ : Type} [DecidableEq κ]
def lk : List (κ × D) → κ → Option D
  | [], _ => none
  | p :: r, k => if p.1 = k then some p.2 else lk r k
def ins (kvs : List (κ × D)) (k : κ) (v : D) : List (κ × D) :=
  if (kvs.any fun kv => decide (kv.1 = k)) = true then kvs.map fun kv => if kv.1 = k then (kv.1, v) else kv else kvs ++ [(k, v)]
end
/-- k in d, or what stands there -/
def dLk (x : O) (y : D) (k : Option D → Prop) : Prop := match x.un with
  | .dk kvs => match keyD y with
    | some κ => k (lk kvs κ)
    | none => False
  | .dn kvs => nkOk y = true ∧ k (lk kvs y)
  | _ => False
def cIn : C2 := fun x y M k => match y with
  | .tup xs => flat x = true ∧ xs.all flat = true ∧ k (xs.any fun z => eqF z x)
  | .str s => match x with
    | .str t => k (!(Builtin.Str.occurrences s t 0 s.length 1).isEmpty)
    | _ => False
  | .ref a => match M a with
    | some (.lst xs) => flat x = true ∧ xs.all flat = true ∧ k (xs.any fun z => eqF z x)
    | some o => dLk o x fun r => k r.isSome
    | none => False
  | _ => False
def cNotIn : C2 := fun x y M k => cIn x y M fun b => k (!b)

/-! ## truth, length, items -/
def truD (x : D) (M : Sto) (k : Bool → Prop) : Prop := match x with
  | .non => k false
  | .bl b => k b
  | .int i => k (i != 0)
  | .str s => s.length ≤ sizeLine ∧ k ((s.length : Int) != 0)
  | .tup xs => k (!xs.isEmpty)
  | .lro xs => k (!xs.isEmpty)
  | .ref a => match M a with
    | some (.lst xs) => k (!xs.isEmpty)
    | some (.dk kvs) => k (!kvs.isEmpty)
    | _ => False
  | .ty _ => False
def lenD (x : D) (M : Sto) (k : Nat → Prop) : Prop := match x with
  | .str s => s.length ≤ sizeLine ∧ k s.length
  | .tup xs => k xs.length
  | .lro xs => k xs.length
  | .ref a => match M a with
    | some (.lst xs) => k xs.length
    | _ => False
  | _ => False
def at' (xs : List D) (i : Int) (k : D → Prop) : Prop := match L2.atI xs i with
  | some d => k d
  | none => False
def subD (x y : D) (M : Sto) (k : D → Prop) : Prop := match x with
  | .tup xs => match y with
    | .int i => at' xs i k
    | _ => False
  | .lro xs => match y with
    | .int i => at' xs i k
    | _ => False
  | .str s => match y with
    | .int i => s.length ≤ sizeLine ∧ match L2.atI s.cps.toList i with
      | some c => k (.str ⟨#[c]⟩)
      | none => False
    | _ => False
  | .ref a => match M a with
    | some (.lst xs) => match y with
      | .int i => at' xs i k
      | _ => False
    | some o => dLk o y fun r => match r with
      | some d => k d
      | none => False
    | none => False
  | _ => False
def cut {α : Type} (xs : List α) (lo hi : Option Int) : List α := (xs.drop (HT.sIx xs.length 0 lo)).take (HT.sIx xs.length xs.length hi - HT.sIx xs.length 0 lo)
def slD (x : D) (lo hi : Option Int) (M : Sto) (Q : KD) : Prop := match x with
  | .tup xs => Q (.tup (cut xs lo hi)) M
  | .lro xs => ∀ p, M p = none → Q (.ref p) (M.set p (.lst (cut xs lo hi)))
  | .ref a => match M a with
    | some (.lst xs) => ∀ p, M p = none → Q (.ref p) (M.set p (.lst (cut xs lo hi)))
    | _ => False
  | _ => False
def revD (x : D) (M : Sto) (Q : KD) : Prop := match x with
  | .tup xs => Q (.tup xs.reverse) M
  | .ref a => match M a with
    | some (.lst xs) => ∀ p, M p = none → Q (.ref p) (M.set p (.lst xs.reverse))
    | _ => False
  | _ => False

/-! ## expressions -/
def eVar (i : Nat) : WE := fun _ env M Q => match gt env i with
  | some d => Q d M
  | none => False
def eC (d : D) : WE := fun _ _ M Q => Q d M
def argsW : List WE → XW → Ev → Sto → (List D → Sto → Prop) → Prop
  | [], _, _, M, Q => Q [] M
  | f :: fs, E, env, M, Q => f E env M fun d M1 => argsW fs E env M1 fun ds M2 => Q (d :: ds) M2
def eTup (fs : List WE) : WE := fun E env M Q => argsW fs E env M fun ds M1 => Q (.tup ds) M1
def eLst (fs : List WE) : WE := fun E env M Q => argsW fs E env M fun ds M1 => ∀ p, M1 p = none → Q (.ref p) (M1.set p (.lst ds))
def eBin (op : B2) (f g : WE) : WE := fun E env M Q => f E env M fun x M1 => g E env M1 fun y M2 => op x y M2 Q
def eNeg (f : WE) : WE := fun E env M Q => f E env M fun x M1 => match x with
  | .int i => Q (.int (-i)) M1
  | _ => False
def eCmp (c : C2) (f g : WE) : WE := fun E env M Q => f E env M fun x M1 => g E env M1 fun y M2 => c x y M2 fun b => Q (.bl b) M2
def tCmp (c : C2) (f g : WE) : WT := fun E env M Q => f E env M fun x M1 => g E env M1 fun y M2 => c x y M2 fun b => Q b M2
/-- a < b < c -/
def tChain (c c' : C2) (f g h : WE) : WT := fun E env M Q => f E env M fun x M1 => g E env M1 fun y M2 => c x y M2 fun b =>
  if b = true then h E env M2 fun z M3 => c' y z M3 fun b' => Q b' M3 else Q false M2
def tTru (f : WE) : WT := fun E env M Q => f E env M fun x M1 => truD x M1 fun b => Q b M1
def tAnd (t u : WT) : WT := fun E env M Q => t E env M fun b M1 => if b = true then u E env M1 Q else Q false M1
def tOr (t u : WT) : WT := fun E env M Q => t E env M fun b M1 => if b = true then Q true M1 else u E env M1 Q
def tNot (t : WT) : WT := fun E env M Q => t E env M fun b M1 => Q (!b) M1
/-- and, or, not as values (of bools) -/
def eAnd (f g : WE) : WE := fun E env M Q => f E env M fun x M1 => match x with
  | .bl b => if b = true then g E env M1 Q else Q (.bl false) M1
  | _ => False
def eOr (f g : WE) : WE := fun E env M Q => f E env M fun x M1 => match x with
  | .bl b => if b = true then Q (.bl true) M1 else g E env M1 Q
  | _ => False
def eNotB (f : WE) : WE := fun E env M Q => f E env M fun x M1 => match x with
  | .bl b => Q (.bl (!b)) M1
  | _ => False
def eIf (t : WT) (f g : WE) : WE := fun E env M Q => t E env M fun b M1 => if b = true then f E env M1 Q else g E env M1 Q
def eSub (f g : WE) : WE := fun E env M Q => f E env M fun x M1 => g E env M1 fun y M2 => subD x y M2 fun d => Q d M2
def optW : Option WE → XW → Ev → Sto → (Option Int → Sto → Prop) → Prop
  | none, _, _, M, Q => Q none M
  | some f, E, env, M, Q => f E env M fun x M1 => match x with
    | .int i => Q (some i) M1
    | _ => False
def eSl (f : WE) (lo hi : Option WE) : WE := fun E env M Q => f E env M fun x M1 => optW lo E env M1 fun l M2 => optW hi E env M2 fun h M3 => slD x l h M3 Q
def eRev (f : WE) : WE := fun E env M Q => f E env M fun x M1 => revD x M1 Q
def eFld (C : String) (f : WE) (name : Str) : WE := fun E env M Q => f E env M fun x M1 => match x with
  | .ref a => match M1 a with
    | some (.ins C' fs) => C' = C ∧ match fs.lookup name with
      | some d => Q d M1
      | none => False
    | _ => False
  | _ => False
/-! calls -/
def eCall (g : FD) (fs : List WE) : WE := fun E env M Q => argsW fs E env M fun ds M1 => g E ds M1 Q
def eMeth (C : String) (m : Str) (g : FD) (f : WE) (fs : List WE) : WE := fun E env M Q => f E env M fun x M1 => match x with
  | .ref a => match M1 a with
    | some (.ins C' flds) => C' = C ∧ flds.lookup m = none ∧ argsW fs E env M1 fun ds M2 => g E (x :: ds) M2 Q
    | _ => False
  | _ => False
def eNew (C : String) (g : FD) (fs : List WE) : WE := fun E env M Q => argsW fs E env M fun ds M1 => ∀ x, M1 x = none →
  g E (.ref x :: ds) (M1.set x (.ins C [])) fun v M2 => v = .non ∧ Q (.ref x) M2
def eLen (f : WE) : WE := fun E env M Q => f E env M fun x M1 => lenD x M1 fun n => Q (.int n) M1
def eAbs (f : WE) : WE := fun E env M Q => f E env M fun x M1 => match x with
  | .int i => Q (.int (if i < 0 then -i else i)) M1
  | _ => False
def eInt (f : WE) : WE := fun E env M Q => f E env M fun x M1 => match x with
  | .int i => Q (.int i) M1
  | .bl b => Q (.int (if b then 1 else 0)) M1
  | _ => False
def eTupOf (f : WE) : WE := fun E env M Q => f E env M fun x M1 => match x with
  | .tup xs => Q (.tup xs) M1
  | .ref a => match M1 a with
    | some (.lst xs) => Q (.tup xs) M1
    | _ => False
  | _ => False
def eLstOf (f : WE) : WE := fun E env M Q => f E env M fun x M1 => match x with
  | .tup xs => ∀ p, M1 p = none → Q (.ref p) (M1.set p (.lst xs))
  | .ref a => match M1 a with
    | some (.lst xs) => ∀ p, M1 p = none → Q (.ref p) (M1.set p (.lst xs))
    | some (.dk kvs) => ∀ p, M1 p = none → Q (.ref p) (M1.set p (.lst (kvs.map fun kv => dKey kv.1)))
    | _ => False
  | _ => False
def asBools : List D → Option (List Bool)
  | [] => some []
  | .bl b :: r => (asBools r).map (b :: ·)
  | _ => none
def asInts : List D → Option (List Int)
  | [] => some []
  | .int i :: r => (asInts r).map (i :: ·)
  | _ => none
def eAll (f : WE) : WE := fun E env M Q => f E env M fun x M1 => match x with
  | .ref a => match M1 a with
    | some (.lst xs) => match asBools xs with
      | some bs => Q (.bl (bs.all id)) M1
      | none => False
    | _ => False
  | _ => False
def eAny (f : WE) : WE := fun E env M Q => f E env M fun x M1 => match x with
  | .ref a => match M1 a with
    | some (.lst xs) => match asBools xs with
      | some bs => Q (.bl (bs.any id)) M1
      | none => False
    | _ => False
  | _ => False
def eSum (f : WE) : WE := fun E env M Q => f E env M fun x M1 => match x with
  | .ref a => match M1 a with
    | some (.lst xs) => match asInts xs with
      | some ks => Q (.int ks.sum) M1
      | none => False
    | _ => False
  | _ => False
/-- the type's name of a value -/
def tyD (x : D) (M : Sto) (k : String → Prop) : Prop := match x with
  | .non => k "NoneType"
  | .bl _ => k "bool"
  | .int _ => k "int"
  | .str _ => k "str"
  | .tup _ => k "tuple"
  | .ref a => match M a with
    | some (.lst _) => k "list"
    | some (.dk _) => k "dict"
    | _ => False
  | .lro _ => k "list"
  | .ty _ => False
def isTy (t c : String) : Bool := t == c || (t == "bool" && c == "int")
def eIsi (f : WE) (cs : List String) : WE := fun E env M Q => f E env M fun x M1 => tyD x M1 fun t => Q (.bl (cs.any (isTy t))) M1
/-! dicts -/
def eDk : WE := fun _ _ M Q => ∀ p, M p = none → Q (.ref p) (M.set p (.dk []))
def eDn : WE := fun _ _ M Q => ∀ p, M p = none → Q (.ref p) (M.set p (.dn []))
def refD (x : D) (M : Sto) (k : O → Prop) : Prop := match x with
  | .ref a => match M a with
    | some o => k o
    | none => False
  | _ => False
def isDct (x : D) (M : Sto) (k : Prop) : Prop := match x with
  | .ref a => match M a with
    | some (.dk _) => k
    | some (.dn _) => k
    | _ => False
  | _ => False
def eGet1 (f g : WE) : WE := fun E env M Q => f E env M fun x M1 => isDct x M1 <| g E env M1 fun y M2 => refD x M2 fun o => dLk o y fun r => Q (r.getD .non) M2
def eGet2 (f g h : WE) : WE := fun E env M Q => f E env M fun x M1 => isDct x M1 <| g E env M1 fun y M2 => h E env M2 fun z M3 => refD x M3 fun o => dLk o y fun r => Q (r.getD z) M3
/-- dict(pairs) of texts or ints -/
def pairsK : List D → Option (List (Key × D))
  | [] => some []
  | .tup [k, v] :: r => match keyD k, pairsK r with
    | some κ, some s => some ((κ, v) :: s)
    | _, _ => none
  | _ => none
def insAll (kvs : List (Key × D)) (more : List (Key × D)) : List (Key × D) := more.foldl (fun acc kv => ins acc kv.1 kv.2) kvs
def itemsD (x : D) (M : Sto) (k : List D → Prop) : Prop := match x with
  | .tup xs => k xs
  | .ref a => match M a with
    | some (.lst xs) => k xs
    | _ => False
  | _ => False
def eDict (f : WE) : WE := fun E env M Q => f E env M fun x M1 => itemsD x M1 fun xs => match pairsK xs with
    | some kvs => ∀ p, M1 p = none → Q (.ref p) (M1.set p (.dk (insAll [] kvs)))
    | none => False
/-! methods of lists -/
def lstAt (x : D) (M : Sto) (k : Addr → List D → Prop) : Prop := match x with
  | .ref a => match M a with
    | some (.lst xs) => k a xs
    | _ => False
  | _ => False
def eAppend (f g : WE) : WE := fun E env M Q => f E env M fun x M1 => lstAt x M1 fun _ _ => g E env M1 fun y M2 => lstAt x M2 fun a xs => xs.length < sizeLine ∧ Q .non (M2.set a (.lst (xs ++ [y])))
def ePop (f : WE) : WE := fun E env M Q => f E env M fun x M1 => lstAt x M1 fun a xs => match xs.getLast? with
  | some y => Q y (M1.set a (.lst xs.dropLast))
  | none => False
def eExtend (f g : WE) : WE := fun E env M Q => f E env M fun x M1 => lstAt x M1 fun _ _ => g E env M1 fun y M2 => lstAt x M2 fun a xs => lstAt y M2 fun _ ys => xs.length + ys.length ≤ sizeLine ∧ Q .non (M2.set a (.lst (xs ++ ys)))

/-! ## what a loop walks: a check at each turn, the items -/
abbrev WI := XW → Ev → Sto → ((Sto → Prop) → List D → Sto → Prop) → Prop
def iVal (f : WE) : WI := fun E env M k => f E env M fun x M1 => match x with
  | .tup xs => k (fun _ => True) xs M1
  | .lro xs => k (fun _ => True) xs M1
  | .ref a => match M1 a with
    | some (.lst xs) => k (fun M' => M' a = some (.lst xs)) xs M1
    | _ => False
  | _ => False
def rangeL (lo hi : Int) : List D := (List.range (hi - lo).toNat).map fun (i : Nat) => .int (lo + i)
def iRange1 (f : WE) : WI := fun E env M k => f E env M fun x M1 => match x with
  | .int j => -(2 ^ 62) ≤ j ∧ j < 2 ^ 62 ∧ k (fun _ => True) (rangeL 0 j) M1
  | _ => False
def iRange2 (f g : WE) : WI := fun E env M k => f E env M fun x M1 => g E env M1 fun y M2 => match x, y with
  | .int i, .int j => (-(2 ^ 62) ≤ i ∧ i < 2 ^ 62 ∧ -(2 ^ 62) ≤ j ∧ j < 2 ^ 62) ∧ k (fun _ => True) (rangeL i j) M2
  | _, _ => False

def charsOf (s : Str) : List D := s.cps.toList.map fun c => .str ⟨#[c]⟩
def iChars (f : WE) : WI := fun E env M k => f E env M fun x M1 => match x with
  | .str s => k (fun _ => True) (charsOf s) M1
  | _ => False
def cIsB : C2 := fun x y _ k => match x, y with
  | .bl a, .bl b => k (a == b)
  | _, _ => False
def cNotB : C2 := fun x y _ k => match x, y with
  | .bl a, .bl b => k (!(a == b))
  | _, _ => False
/-! dicts that are walked: locked the while -/
def lockO (o : Option O) (k : O → O → Prop) : Prop := match o with
  | some (.dk kvs) => k (.dk kvs) (.dkF kvs)
  | some (.dn kvs) => k (.dn kvs) (.dnF kvs)
  | _ => False
def lockD (x : Option D) (M : Sto) (k : Addr → O → O → Prop) : Prop := match x with
  | some (.ref a) => lockO (M a) (k a)
  | _ => False
def eLock (i : Nat) (f : WE) : WE := fun _ env M Q => lockD (gt env i) M fun a o o' => f X0 env (M.set a o') fun d M' => M' a = some o' ∧ Q d (M'.set a o)
/-- the keys of a locked dict -/
def keysO (o : Option O) (k : O → List D → Prop) : Prop := match o with
  | some (.dkF kvs) => k (.dkF kvs) (kvs.map fun kv => dKey kv.1)
  | some (.dnF kvs) => k (.dnF kvs) (kvs.map Prod.fst)
  | _ => False
def iKeysD (f : WE) : WI := fun E env M k => f E env M fun x M1 => match x with
  | .ref a => keysO (M1 a) fun o xs => k (fun M' => M' a = some o) xs M1
  | _ => False
/-! ## targets -/
def gName (i : Nat) : WG := fun d _ env M Q => Q (put env i d) M
def gAll : List WG → List D → XW → Ev → Sto → (Ev → Sto → Prop) → Prop
  | [], [], _, env, M, Q => Q env M
  | g :: gs, d :: ds, E, env, M, Q => g d E env M fun env1 M1 => gAll gs ds E env1 M1 Q
  | _, _, _, _, _, _ => False
def gTup (gs : List WG) : WG := fun d E env M Q => match d with
  | .tup ds => ds.length = gs.length ∧ gAll gs ds E env M Q
  | _ => False
/-- o[i] = d -/
def setD (o i d : D) (M : Sto) (Q : Sto → Prop) : Prop := match o with
  | .ref a => match M a with
    | some (.lst xs) => match i with
      | .int k => match L2.ixN xs.length k with
        | some j => Q (M.set a (.lst (xs.set j d)))
        | none => False
      | _ => False
    | some (.dk kvs) => match keyD i with
      | some κ => kvs.length < sizeLine ∧ Q (M.set a (.dk (ins kvs κ d)))
      | none => False
    | some (.dn kvs) => nkOk i = true ∧ kvs.length < sizeLine ∧ Q (M.set a (.dn (ins kvs i d)))
    | _ => False
  | _ => False
def gSub (f g : WE) : WG := fun d E env M Q => f E env M fun o M1 => g E env M1 fun i M2 => setD o i d M2 fun M3 => Q env M3
def putF (name : Str) (d : D) : List (Str × D) → List (Str × D)
  | [] => [(name, d)]
  | p :: r => if p.1 = name then (name, d) :: r else p :: putF name d r
def gFld (C : String) (f : WE) (name : Str) : WG := fun d E env M Q => f E env M fun o M1 => match o with
  | .ref a => match M1 a with
    | some (.ins C' fs) => C' = C ∧ fs.length < 1000 ∧ Q env (M1.set a (.ins C (putF name d fs)))
    | _ => False
  | _ => False

/-! ## statements -/
def sNil : WS := fun _ D env M => D.nx env M
def sSeq (s t : WS) : WS := fun E D env M => s E { D with nx := fun e m => t E D e m } env M
def sAsg (f : WE) (g : WG) : WS := fun E D env M => f E env M fun d M1 => g d E env M1 D.nx
def sAug (i : Nat) (op : B2) (f : WE) : WS := fun E D env M => match gt env i with
  | some x => f E env M fun y M1 => op x y M1 fun z M2 => D.nx (put env i z) M2
  | none => False
/-- o.name op= e -/
def sAugF (C : String) (o : WE) (name : Str) (op : B2) (f : WE) : WS := fun E D env M => o E env M fun x M1 => match x with
  | .ref a => match M1 a with
    | some (.ins C0 fs) => C0 = C ∧ match fs.lookup name with
      | some old => f E env M1 fun y M2 => op old y M2 fun z M3 => match M3 a with
        | some (.ins C' fs') => C' = C ∧ fs'.length < 1000 ∧ D.nx env (M3.set a (.ins C (putF name z fs')))
        | _ => False
      | none => False
    | _ => False
  | _ => False
def sExpr (f : WE) : WS := fun E D env M => f E env M fun _ M1 => D.nx env M1
def sRet (f : WE) : WS := fun E D env M => f E env M D.rt
def sRetN : WS := fun _ D _ M => D.rt .non M
def sIf (t : WT) (a b : WS) : WS := fun E D env M => t E env M fun c M1 => if c = true then a E D env M1 else b E D env M1
def sBreak : WS := fun _ D env M => D.bk env M
def sCont : WS := fun _ D env M => D.ct env M
def sNever : WS := fun _ _ _ _ => False
def forL (g : WG) (b : WS) (chk : Sto → Prop) : List D → XW → Ends → Ev → Sto → Prop
  | [], _, D, env, M => chk M ∧ D.nx env M
  | x :: xs, E, D, env, M => chk M ∧ g x E env M fun env1 M1 => b E { D with nx := fun e m => forL g b chk xs E D e m, ct := fun e m => forL g b chk xs E D e m, bk := D.nx } env1 M1
def sFor (src : WI) (g : WG) (b : WS) : WS := fun E D env M => src E env M fun chk xs M1 => forL g b chk xs E D env M1
def sWhile (c : WT) (b : WS) : WS := fun E D env M => ∃ W : Nat → Ev → Sto → Prop, (∃ m, W m env M) ∧ ∀ m env M, W m env M →
  c E env M fun t M1 => if t = true then b E { D with nx := fun e M' => ∃ m', m' < m ∧ W m' e M', ct := fun e M' => ∃ m', m' < m ∧ W m' e M', bk := D.nx } env M1 else D.nx env M1

/-! ## comprehensions -/
def compL (p : Addr) (vs : List Nat) (g : WG) (t : WT) (f : WE) (env : Ev) (chk : Sto → Prop) : List D → Sto → (Sto → Prop) → Prop
  | [], M, Q => chk M ∧ Q M
  | x :: xs, M, Q => chk M ∧ g x X0 (wipe env vs) M fun env1 M1 => t X0 env1 M1 fun b M2 =>
    if b = true then f X0 env1 M2 fun d M3 => (match M3 p with
      | some (.lst acc) => acc.length < sizeLine ∧ compL p vs g t f env chk xs (M3.set p (.lst (acc ++ [d]))) Q
      | _ => False)
    else compL p vs g t f env chk xs M2 Q
def tYes : WT := fun _ _ M Q => Q true M
def eComp (src : WI) (vs : List Nat) (g : WG) (t : WT) (f : WE) : WE := fun E env M Q => src E env M fun chk xs M1 => ∀ p, M1 p = none →
  compL p vs g t f env chk xs (M1.set p (.lst [])) fun M2 => Q (.ref p) M2

/-! ## defs -/
def endsOf (Q : KD) : Ends := ⟨fun _ M => Q .non M, Q, fun _ _ => False, fun _ _ => False⟩
@[simp] def fn1 (g : D → XW → Sto → KD → Prop) : FD := fun E ds M Q => match ds with
  | [x] => g x E M Q
  | _ => False
@[simp] def fn2 (g : D → D → XW → Sto → KD → Prop) : FD := fun E ds M Q => match ds with
  | [x, y] => g x y E M Q
  | _ => False
@[simp] def fn3 (g : D → D → D → XW → Sto → KD → Prop) : FD := fun E ds M Q => match ds with
  | [x, y, z] => g x y z E M Q
  | _ => False
@[simp] def fn4 (g : D → D → D → D → XW → Sto → KD → Prop) : FD := fun E ds M Q => match ds with
  | [x, y, z, u] => g x y z u E M Q
  | _ => False
@[simp] def fn5 (g : D → D → D → D → D → XW → Sto → KD → Prop) : FD := fun E ds M Q => match ds with
  | [x, y, z, u, v] => g x y z u v E M Q
  | _ => False
end DL

set_option Elab.async false
set_option linter.all false
set_option maxRecDepth 100000
set_option maxHeartbeats 4000000
/-! DS: the clean level is sound over the hand layer -/
namespace DL
open PySem PySem.Spec PyProof.Rows L2

/-! ## what a value stands for -/
/-- a list that nobody writes -/
def SqF (K : PySem.W.Frag) (H : Hp) (a : Addr) (xs : List V) : Prop :=
  (∃ o, H a = some (.frz o (.lst xs))) ∨
    ∃ (o : Obj) (its : Array Value) (n : Nat), K.lookup a = some o ∧ o.cls = .type "list" ∧ o.dict = none ∧ o.data = .seq its n ∧ its.size ≤ sizeLine ∧ Vals xs its.toList
theorem SqF.l {K : PySem.W.Frag} {H : Hp} {a : Addr} {xs : List V} (h : SqF K H a xs) : SqL K H a xs := h.elim (fun h => .inl (.inr h)) .inr
/-- the object of a tuple as the text makes it -/
abbrev TupO (its : List Value) : Obj := { cls := .type "tuple", data := .seq its.toArray }
/-- a tuple, known to the object -/
def SqD (K : PySem.W.Frag) (H : Hp) (a : Addr) (xs : List V) : Prop :=
  (∃ its, H a = some (.frz (TupO its) (.tup xs))) ∨
    ∃ (o : Obj) (its : Array Value) (n : Nat), K.lookup a = some o ∧ o.cls = .type "tuple" ∧ o.dict = none ∧ o.data = .seq its n ∧ its.size ≤ sizeLine ∧ Vals xs its.toList
theorem SqD.s {K : PySem.W.Frag} {H : Hp} {a : Addr} {xs : List V} (h : SqD K H a xs) : SqT K H a xs :=
  h.elim (fun ⟨_, h⟩ => .inl (.inr ⟨_, h⟩)) fun ⟨o, its, n, a, b, _, c, d, e⟩ => .inr ⟨o, its, n, a, b, c, d, e⟩
mutual
inductive Rep (K : PySem.W.Frag) (H : Hp) : V → D → Prop
  | non : Rep K H .non .non
  | bl (b : Bool) : Rep K H (.bl b) (.bl b)
  | int (i : Int) : Rep K H (.int i) (.int i)
  | str (x : Str) : Rep K H (.str x) (.str x)
  | ref (a : Addr) : Rep K H (.ref a) (.ref a)
  | ty (n : String) : Rep K H (.ty n) (.ty n)
  | tup {a : Addr} {vs : List V} {ds : List D} : SqD K H a vs → Reps K H vs ds → Rep K H (.ref a) (.tup ds)
  | lro {a : Addr} {vs : List V} {ds : List D} : SqF K H a vs → Reps K H vs ds → Rep K H (.ref a) (.lro ds)
inductive Reps (K : PySem.W.Frag) (H : Hp) : List V → List D → Prop
  | nil : Reps K H [] []
  | cons {v : V} {d : D} {vs : List V} {ds : List D} : Rep K H v d → Reps K H vs ds → Reps K H (v :: vs) (d :: ds)
end
/-- tuples and lists that nobody writes stand still -/
structure TF (K : PySem.W.Frag) (H H' : Hp) : Prop where
  t : ∀ a vs, SqD K H a vs → SqD K H' a vs
  f : ∀ a vs, SqF K H a vs → SqF K H' a vs
/-- .. and what is locked stays so -/
structure Tups (K : PySem.W.Frag) (H H' : Hp) : Prop extends TF K H H' where
  z : ∀ a o u, H a = some (.frz o u) → H' a = some (.frz o u)
theorem Tups.refl {K : PySem.W.Frag} {H : Hp} : Tups K H H := ⟨⟨fun _ _ h => h, fun _ _ h => h⟩, fun _ _ _ h => h⟩
theorem Tups.trans {K : PySem.W.Frag} {H H1 H2 : Hp} (a : Tups K H H1) (b : Tups K H1 H2) : Tups K H H2 := ⟨⟨fun x vs h => b.t x vs (a.t x vs h), fun x vs h => b.f x vs (a.f x vs h)⟩, fun x o u h => b.z x o u (a.z x o u h)⟩
section
variable {K : PySem.W.Frag} {H H' : Hp}
mutual
theorem Rep.mono (t : TF K H H') : ∀ (d : D) {v : V}, Rep K H v d → Rep K H' v d
  | .non, _, h => by cases h; exact .non
  | .bl b, _, h => by cases h; exact .bl b
  | .int b, _, h => by cases h; exact .int b
  | .str b, _, h => by cases h; exact .str b
  | .ref b, _, h => by cases h; exact .ref b
  | .ty b, _, h => by cases h; exact .ty b
  | .tup ds, _, h => by
    cases h with
    | tup s r => exact .tup (t.t _ _ s) (Reps.mono t ds r)
  | .lro ds, _, h => by
    cases h with
    | lro s r => exact .lro (t.f _ _ s) (Reps.mono t ds r)
theorem Reps.mono (t : TF K H H') : ∀ (ds : List D) {vs : List V}, Reps K H vs ds → Reps K H' vs ds
  | [], _, h => by cases h; exact .nil
  | d :: ds, _, h => by
    cases h with
    | cons a b => exact .cons (Rep.mono t d a) (Reps.mono t ds b)
end
theorem Rep.m0 {v : V} {d : D} (h : Rep K H v d) (t : TF K H H') : Rep K H' v d := Rep.mono t d h
theorem Reps.m0 {vs : List V} {ds : List D} (h : Reps K H vs ds) (t : TF K H H') : Reps K H' vs ds := Reps.mono t ds h
theorem Rep.m {v : V} {d : D} (h : Rep K H v d) (t : Tups K H H') : Rep K H' v d := Rep.mono t.toTF d h
theorem Reps.m {vs : List V} {ds : List D} (h : Reps K H vs ds) (t : Tups K H H') : Reps K H' vs ds := Reps.mono t.toTF ds h
theorem Reps.length : ∀ {vs : List V} {ds : List D}, Reps K H vs ds → vs.length = ds.length
  | _, _, .nil => rfl
  | _, _, .cons _ t => by rw [List.length_cons, List.length_cons, Reps.length t]
theorem Reps.get : ∀ {vs : List V} {ds : List D} {i : Nat} {d : D}, Reps K H vs ds → ds[i]? = some d → ∃ v, vs[i]? = some v ∧ Rep K H v d
  | _, _, _, _, .nil, e => by simp at e
  | _, _, 0, _, .cons r _, e => by simp at e; subst e; exact ⟨_, rfl, r⟩
  | _, _, i + 1, d, .cons _ t, e => by
    obtain ⟨u, h1, h2⟩ := Reps.get (i := i) (d := d) t (by simpa using e)
    exact ⟨u, by simpa using h1, h2⟩
theorem Reps.getV : ∀ {vs : List V} {ds : List D} {i : Nat} {v : V}, Reps K H vs ds → vs[i]? = some v → ∃ d, ds[i]? = some d ∧ Rep K H v d
  | _, _, _, _, .nil, e => by simp at e
  | _, _, 0, _, .cons r _, e => by simp at e; subst e; exact ⟨_, rfl, r⟩
  | _, _, i + 1, d, .cons _ t, e => by
    obtain ⟨u, h1, h2⟩ := Reps.getV (i := i) (v := d) t (by simpa using e)
    exact ⟨u, by simpa using h1, h2⟩
theorem Reps.append : ∀ {vs ws : List V} {ds es : List D}, Reps K H vs ds → Reps K H ws es → Reps K H (vs ++ ws) (ds ++ es)
  | _, _, _, _, .nil, s => s
  | _, _, _, _, .cons r t, s => .cons r (Reps.append t s)
theorem Reps.take : ∀ {vs : List V} {ds : List D} (n : Nat), Reps K H vs ds → Reps K H (vs.take n) (ds.take n)
  | _, _, 0, _ => .nil
  | _, _, _ + 1, .nil => .nil
  | _, _, n + 1, .cons r t => .cons r (Reps.take n t)
theorem Reps.drop : ∀ {vs : List V} {ds : List D} (n : Nat), Reps K H vs ds → Reps K H (vs.drop n) (ds.drop n)
  | _, _, 0, r => r
  | _, _, _ + 1, .nil => .nil
  | _, _, n + 1, .cons _ t => Reps.drop n t
theorem Reps.reverse : ∀ {vs : List V} {ds : List D}, Reps K H vs ds → Reps K H vs.reverse ds.reverse
  | _, _, .nil => .nil
  | _, _, .cons r t => by
    rw [List.reverse_cons, List.reverse_cons]
    exact (Reps.reverse t).append (.cons r .nil)
theorem Reps.set {v : V} {d : D} (r : Rep K H v d) : ∀ {vs : List V} {ds : List D} (i : Nat), Reps K H vs ds → Reps K H (vs.set i v) (ds.set i d)
  | _, _, _, .nil => .nil
  | _, _, 0, .cons _ t => .cons r t
  | _, _, i + 1, .cons q t => .cons q (Reps.set r i t)
theorem Reps.dropLast : ∀ {vs : List V} {ds : List D}, Reps K H vs ds → Reps K H vs.dropLast ds.dropLast
  | _, _, .nil => .nil
  | _, _, .cons _ .nil => .nil
  | _, _, .cons r (.cons q t) => .cons r (Reps.dropLast (.cons q t))
end

/-! ## constants of the context -/
structure Cn where
  P : Program
  w : World
  K : PySem.W.Frag
  CA : String → Addr
abbrev cn (X : Cx) (CA : String → Addr) : Cn := ⟨X.prog, X.w, X.K, CA⟩

/-! ## what stands at an address -/
mutual
/-- a key of nested tuples -/
def nkD : D → NestedKey
  | .non => .none
  | .int i => .num i
  | .str x => .text x
  | .tup xs => .tup (nkDs xs)
  | _ => .none
def nkDs : List D → List NestedKey
  | [] => []
  | x :: xs => nkD x :: nkDs xs
end
abbrev Ent := NestedKey × Addr × V
def NDict (c : Cn) (a : Addr) (es : List Ent) : HO := .ext fun h => es.length ≤ sizeLine ∧ (a == sysModules) = false ∧
  ∃ xs : List (NestedKey × Addr × Value), Paired (fun (p : Ent) (q : NestedKey × Addr × Value) => p.1 = q.1 ∧ p.2.1 = q.2.1 ∧ RelV p.2.2 q.2.2) es xs ∧
    (∃ o es ep, h.get? a = some o ∧ o.ExactDict ∧ o.data = .dict es ep ∧ es.toList = xs.map (entryOfKey (nestedKind c.P c.w))) ∧ (xs.map (·.1)).Nodup
abbrev PKV (K : PySem.W.Frag) (H : Hp) : List (L2.Key × V) → List (Key × D) → Prop := Paired fun p q => p.1 = q.1 ∧ Rep K H p.2 q.2
abbrev PFs (K : PySem.W.Frag) (H : Hp) : List (Str × V) → List (Str × D) → Prop := Paired fun p q => p.1 = q.1 ∧ Rep K H p.2 q.2
/-- the object at f is the lambda F with the body e -/
def LamO (f : Addr) (F : NdefX.NF) (e : Expr) : HO := .ext fun h => ∃ (od : Option Addr) (sl : Array (Option Value)) (pm ctv : Value), h.get? f = some (⟨.type "function", od, .func (PySem.W.kla_fn F.name F.qual F.params e F.scope F.cl pm (.ref F.c) ctv), sl⟩ : Obj)
def RepO (c : Cn) (H : Hp) (a : Addr) : O → Prop
  | .lst xs => ∃ vs, H a = some (.lst vs) ∧ Reps c.K H vs xs
  | .dk kvs => ∃ vs : List (L2.Key × V), H a = some (.dK vs) ∧ PKV c.K H vs kvs
  | .dn kvs => ∃ es : List Ent, H a = some (NDict c a es) ∧ Paired (fun (p : Ent) (q : D × D) => p.1 = nkD q.1 ∧ nkOk q.1 = true ∧ Rep c.K H (.ref p.2.1) q.1 ∧ Rep c.K H p.2.2 q.2) es kvs
  | .ins C fs => ∃ (dx : Addr) (vs : List (Str × V)), H a = some (.ins (c.CA C) dx vs) ∧ PFs c.K H vs fs
  | .dkF kvs => ∃ (od : Obj) (vs : List (L2.Key × V)), H a = some (.frz od (.dK vs)) ∧ PKV c.K H vs kvs
  | .dnF kvs => ∃ (od : Obj) (es : List Ent), H a = some (.frz od (NDict c a es)) ∧ Paired (fun (p : Ent) (q : D × D) => p.1 = nkD q.1 ∧ nkOk q.1 = true ∧ Rep c.K H (.ref p.2.1) q.1 ∧ Rep c.K H p.2.2 q.2) es kvs
  | .fn F => H a = some (NdefX.FnO a F)
  | .lam F e => H a = some (LamO a F e)
  | .code q => H a = some (LamX.CodeO a q)
  | .tab cs => ∃ ps : Array Value, H a = some (.tbl ps) ∧ TriplesOk ps.toList ∧ ∀ (pos : Pos) (cv : Value), codeAmong pos ps.toList = some cv → ∃ x ∈ cs, cv = .ref x
def R (c : Cn) (M : Sto) (H : Hp) : Prop := ∀ a o, M a = some o → RepO c H a o
section
variable {c : Cn} {M : Sto} {H H' : Hp} {a p : Addr} {o : O} {ho : HO}
theorem paired_mono {α β : Type} {F G : α → β → Prop} {l : List α} {r : List β} (h : Paired F l r) (f : ∀ a b, F a b → G a b) : Paired G l r := Paired.mapP h f
theorem PFs.m0 {K : PySem.W.Frag} {H H' : Hp} {vs : List (Str × V)} {fs : List (Str × D)} (h : PFs K H vs fs) (t : TF K H H') : PFs K H' vs fs := paired_mono h fun _ _ z => ⟨z.1, z.2.m0 t⟩
theorem PFs.m {K : PySem.W.Frag} {H H' : Hp} {vs : List (Str × V)} {fs : List (Str × D)} (h : PFs K H vs fs) (t : Tups K H H') : PFs K H' vs fs := h.m0 t.toTF
theorem RepO.mono0 (h : RepO c H a o) (t : TF c.K H H') (e : H' a = H a) : RepO c H' a o := by
  cases o with
  | lst xs => obtain ⟨vs, h1, h2⟩ := h; exact ⟨vs, by rw [e]; exact h1, h2.m0 t⟩
  | dk kvs => obtain ⟨vs, h1, h2⟩ := h; exact ⟨vs, by rw [e]; exact h1, paired_mono h2 fun p q z => ⟨z.1, z.2.m0 t⟩⟩
  | dn kvs => obtain ⟨vs, h1, h2⟩ := h; exact ⟨vs, by rw [e]; exact h1, paired_mono h2 fun p q z => ⟨z.1, z.2.1, z.2.2.1.m0 t, z.2.2.2.m0 t⟩⟩
  | ins C fs => obtain ⟨dx, vs, h1, h2⟩ := h; exact ⟨dx, vs, by rw [e]; exact h1, h2.m0 t⟩
  | dkF kvs => obtain ⟨od, vs, h1, h2⟩ := h; exact ⟨od, vs, by rw [e]; exact h1, paired_mono h2 fun p q z => ⟨z.1, z.2.m0 t⟩⟩
  | dnF kvs => obtain ⟨od, vs, h1, h2⟩ := h; exact ⟨od, vs, by rw [e]; exact h1, paired_mono h2 fun p q z => ⟨z.1, z.2.1, z.2.2.1.m0 t, z.2.2.2.m0 t⟩⟩
  | fn F => exact e.trans h
  | lam F e' => exact e.trans h
  | code q => exact e.trans h
  | tab cs => obtain ⟨ps, h1, h2⟩ := h; exact ⟨ps, e.trans h1, h2⟩
theorem RepO.mono (h : RepO c H a o) (t : Tups c.K H H') (e : H' a = H a) : RepO c H' a o := h.mono0 t.toTF e
/-- a dict that is read -/
theorem RepO.dk_rd {kvs : List (Key × D)} (h : RepO c H a o) (e : o.un = .dk kvs) : ∃ vs : List (L2.Key × V), Rd H a (.dK vs) ∧ PKV c.K H vs kvs := by
  cases o <;> cases e
  · obtain ⟨vs, h1, h2⟩ := h; exact ⟨vs, .inl h1, h2⟩
  · obtain ⟨od, vs, h1, h2⟩ := h; exact ⟨vs, .inr ⟨od, h1⟩, h2⟩
theorem RepO.dn_rd {kvs : List (D × D)} (h : RepO c H a o) (e : o.un = .dn kvs) : ∃ es : List Ent, Rd H a (NDict c a es) ∧ Paired (fun (p : Ent) (q : D × D) => p.1 = nkD q.1 ∧ nkOk q.1 = true ∧ Rep c.K H (.ref p.2.1) q.1 ∧ Rep c.K H p.2.2 q.2) es kvs := by
  cases o <;> cases e
  · obtain ⟨vs, h1, h2⟩ := h; exact ⟨vs, .inl h1, h2⟩
  · obtain ⟨od, vs, h1, h2⟩ := h; exact ⟨vs, .inr ⟨od, h1⟩, h2⟩
theorem ne_frz {u : HO} (h : match u with | .frz _ _ => False | _ => True) : ∀ o xs, u ≠ .frz o xs := by
  intro o xs z; subst z; exact h
theorem RepO.there (h : RepO c H a o) : ∃ u, H a = some u := by
  cases o with
  | lst xs => obtain ⟨vs, h1, h2⟩ := h; exact ⟨_, h1⟩
  | dk kvs => obtain ⟨vs, h1, h2⟩ := h; exact ⟨_, h1⟩
  | dn kvs => obtain ⟨vs, h1, h2⟩ := h; exact ⟨_, h1⟩
  | ins C fs => obtain ⟨dx, vs, h1, h2⟩ := h; exact ⟨_, h1⟩
  | dkF kvs => obtain ⟨od, vs, h1, h2⟩ := h; exact ⟨_, h1⟩
  | dnF kvs => obtain ⟨od, vs, h1, h2⟩ := h; exact ⟨_, h1⟩
  | fn F => exact ⟨_, h⟩
  | lam F e' => exact ⟨_, h⟩
  | code q => exact ⟨_, h⟩
  | tab cs => obtain ⟨ps, h1, h2⟩ := h; exact ⟨_, h1⟩
theorem tups_at {K : PySem.W.Frag} (n : ∀ o xs, H p ≠ some (.frz o xs)) : Tups K H (upd H p ho) := by
  refine ⟨⟨fun a vs h => ?_, fun a vs h => ?_⟩, fun a o u h => ?_⟩
  · rcases h with ⟨u, h⟩ | h
    · exact .inl ⟨u, by rw [upd_ne (fun z => n _ _ (by rw [← z]; exact h))]; exact h⟩
    · exact .inr h
  · rcases h with ⟨u, h⟩ | h
    · exact .inl ⟨u, by rw [upd_ne (fun z => n u _ (by rw [← z]; exact h))]; exact h⟩
    · exact .inr h
  · rw [upd_ne (fun z => n _ _ (by rw [← z]; exact h))]; exact h
/-- what was locked, and is no tuple or list, is set free -/
theorem tf_un {K : PySem.W.Frag} {od : Obj} {u : HO} (e : H p = some (.frz od u)) (n : match u with | .tup _ => False | .lst _ => False | _ => True) : TF K H (upd H p ho) := by
  refine ⟨fun a vs h => ?_, fun a vs h => ?_⟩
  · rcases h with ⟨w, h⟩ | h
    · refine .inl ⟨w, ?_⟩
      rw [upd_ne (fun z => ?_)]; exact h
      subst z; rw [e] at h; cases h; exact n
    · exact .inr h
  · rcases h with ⟨w, h⟩ | h
    · refine .inl ⟨w, ?_⟩
      rw [upd_ne (fun z => ?_)]; exact h
      subst z; rw [e] at h; cases h; exact n
    · exact .inr h
theorem Tups.new {K : PySem.W.Frag} (hp : H p = none) : Tups K H (upd H p ho) := tups_at fun _ _ => by rw [hp]; exact nofun
/-- what may be written is no tuple -/
theorem Tups.wr {K : PySem.W.Frag} {u : HO} (hp : H p = some u) (nf : ∀ o xs, u ≠ .frz o xs) : Tups K H (upd H p ho) := tups_at
  fun o xs => by rw [hp]; exact fun z => nf o xs (Option.some.inj z)
theorem R.fresh (r : R c M H) (h : H p = none) : M p = none := by
  cases e : M p with
  | none => rfl
  | some o =>
    obtain ⟨u, q⟩ := (r p o e).there
    rw [h] at q; cases q
/-- one address is written (or new), all else stands -/
theorem R.at (r : R c M H) (t : Tups c.K H (upd H a ho)) (n : RepO c (upd H a ho) a o) : R c (M.set a o) (upd H a ho) := fun b u e => by
  by_cases hb : b = a
  · subst hb; rw [set_same] at e; cases e; exact n
  · rw [set_ne hb] at e; exact (r b u e).mono t (upd_ne hb)
theorem R.keep (r : R c M H) (h : H p = none) : R c M (upd H p ho) := fun b u e => by
  refine (r b u e).mono (Tups.new h) (upd_ne ?_)
  rintro rfl
  rw [r.fresh h] at e; cases e
end

/-! ## names -/
inductive RelEnv (K : PySem.W.Frag) (H : Hp) : L2.St → Ev → Prop
  | nil : RelEnv K H [] []
  | cons {ov : Option V} {od : Option D} {σ : L2.St} {env : Ev} : (∀ d, od = some d → ∃ v, ov = some v ∧ Rep K H v d) → RelEnv K H σ env → RelEnv K H (ov :: σ) (od :: env)
section
variable {K : PySem.W.Frag} {H H' : Hp}
theorem RelEnv.mono0 (t : TF K H H') : ∀ {σ : L2.St} {env : Ev}, RelEnv K H σ env → RelEnv K H' σ env
  | _, _, .nil => .nil
  | _, _, .cons h r => .cons (fun d e => let ⟨v, a, b⟩ := h d e; ⟨v, a, b.m0 t⟩) (RelEnv.mono0 t r)
theorem RelEnv.mono (t : Tups K H H') {σ : L2.St} {env : Ev} (h : RelEnv K H σ env) : RelEnv K H' σ env := h.mono0 t.toTF
theorem RelEnv.get : ∀ {σ : L2.St} {env : Ev} {i : Nat} {d : D}, RelEnv K H σ env → gt env i = some d → ∃ v, σ[i]? = some (some v) ∧ Rep K H v d
  | _, _, _, _, .nil, e => by simp [gt] at e
  | _, _, 0, d, .cons h _, e => by
    obtain ⟨v, a, b⟩ := h d e
    exact ⟨v, by simp [a], b⟩
  | _, _, i + 1, d, .cons _ r, e => by
    obtain ⟨v, a, b⟩ := RelEnv.get (i := i) r e
    exact ⟨v, by simpa using a, b⟩
theorem RelEnv.put {v : V} {d : D} (q : Rep K H v d) : ∀ {σ : L2.St} {env : Ev} (i : Nat), RelEnv K H σ env → RelEnv K H (σ.set i (some v)) (put env i d)
  | _, _, _, .nil => .nil
  | _, _, 0, .cons _ r => .cons (fun d' e => ⟨v, rfl, by cases e; exact q⟩) r
  | _, _, i + 1, .cons h r => .cons h (RelEnv.put q i r)
theorem RelEnv.clear : ∀ {σ : L2.St} {env : Ev} (i : Nat), RelEnv K H σ env → RelEnv K H (σ.set i none) (env.set i none)
  | _, _, _, .nil => .nil
  | _, _, 0, .cons _ r => .cons (nofun) r
  | _, _, i + 1, .cons h r => .cons h (RelEnv.clear i r)
theorem RelEnv.nones : ∀ (n : Nat), RelEnv K H (List.replicate n none) (List.replicate n none)
  | 0 => .nil
  | n + 1 => .cons nofun (RelEnv.nones n)
theorem RelEnv.app : ∀ {vs : List V} {ds : List D} {σ : L2.St} {env : Ev}, Reps K H vs ds → RelEnv K H σ env → RelEnv K H (vs.map some ++ σ) (ds.map some ++ env)
  | _, _, _, _, .nil, r => r
  | _, _, _, _, .cons q s, r => .cons (fun d e => ⟨_, rfl, by cases e; exact q⟩) (RelEnv.app s r)
theorem RelEnv.start {N : List Str} {vs : List V} {ds : List D} (r : Reps K H vs ds) : RelEnv K H (L2.start N vs) (start N.length ds) := by
  unfold L2.start DL.start
  rw [← r.length]
  exact RelEnv.app r (RelEnv.nones _)
end
end DL

set_option Elab.async false
set_option linter.all false
set_option maxRecDepth 100000
set_option maxHeartbeats 4000000
/-! DT: tuples, known to the object: made by a display, +, a slice, tuple(..), [::-1] -/
namespace DL
open PySem PySem.Spec PyProof.Rows L2
section
variable {X : Cx} {e : Expr} {es : List Expr} {te : TE} {t : TA} {pos : Pos} {pins : List (Addr × Obj)} {σ : L2.St} {H : Hp} {s : Shared}
theorem layT {xs : List V} {its : List Value} {h' : Heap} (I : Inv X pins σ H s) (k : ∀ b o, s.heap.get? b = some o → h'.get? b = some o) (r : Vals xs its) (z : xs.length ≤ sizeLine) {Q : VK} (hs : s.heap.objs.size ≤ h'.objs.size)
    (q : ∀ p its, H p = none → Q (.ref p) (upd H p (.frz (TupO its) (.tup xs)))) : EP X pins σ Q (.ref h'.objs.size) { s with heap := h'.push (TupO its) } := by
  have I1 : Inv X pins σ H { s with heap := h' } := I.kept (t' := s.toks) k
  refine ⟨.ref h'.objs.size, upd H h'.objs.size (.frz (TupO its) (.tup xs)), I1.laid (t' := s.toks) (fun b o e => Heap.get?_push_of_some _ e) (Nat.le_refl _) ?_, rfl, q _ _ (I1.hok.fresh (Nat.le_refl _))⟩
  exact ⟨Heap.get?_push_size _ rfl, z, its, r, _, Heap.get?_push_size _ rfl, rfl, _, rfl⟩
def tTupF (t : TA) : TE := fun σ H Q => t σ H fun xs H1 => xs.length ≤ sizeLine ∧ ∀ p its, H1 p = none → Q (.ref p) (upd H1 p (.frz (TupO its) (.tup xs)))
theorem pe_tupF {x1} (h : PA X es t) : PE X (.Tuple es x1 pos) (tTupF t) := by
  refine ⟨fun pins s σ H Q I hq => ?_⟩
  refine wpAny_Tuple_spliced (thn (h.run pos pins s σ H _ I hq) fun us s1 ⟨xs, H1, I1, r, z, q⟩ => ⟨by rw [← r.length]; exact z, ?_⟩)
  exact layT I1 (fun _ _ e => e) r z (Nat.le_refl _) q
def rCatF (K : PySem.W.Frag) : R2 := fun x y H Q => ∃ a b xs ys, x = .ref a ∧ y = .ref b ∧ SqT K H a xs ∧ SqT K H b ys ∧ xs.length + ys.length ≤ sizeLine ∧
  (xs = [] → Q (.ref b) H) ∧ (xs ≠ [] → ys = [] → Q (.ref a) H) ∧ (xs ≠ [] → ys ≠ [] → ∀ p its, H p = none → Q (.ref p) (upd H p (.frz (TupO its) (.tup (xs ++ ys)))))
theorem op_catF : OpR X (binaryOp .Add) (rCatF X.K) := by
  intro pins s σ H x y v u Q I rx ry h
  obtain ⟨a, b, xs, ys, rfl, rfl, ha, hb, hz, q0, q1, q2⟩ := h
  cases rx
  cases ry
  obtain ⟨its, r1, p1, _⟩ := I.tuple ha
  obtain ⟨its2, r2, p2, _⟩ := I.tuple hb
  by_cases hx : xs = []
  · subst hx
    cases r1
    exact cat_tup0 p1 p2 ⟨.ref b, H, I, rfl, q0 rfl⟩
  · refine HT.cat_tup p1 p2 (fun z => hx (r1.nil_iff.mp z)) (fun z => ⟨.ref a, H, I, rfl, q1 hx (r2.nil_iff.mp z)⟩) (fun z => ?_) (by rw [← r1.length, ← r2.length]; exact hz)
    exact layT I (fun _ _ e => e) (r1.append r2) (by rw [List.length_append]; exact hz) (Nat.le_refl _) (q2 hx fun w => z (r2.nil_iff.mpr w))
def rSlF (K : PySem.W.Frag) : V → Option Int → Option Int → Hp → VK → Prop := fun x lo hi H Q => ∃ a xs, x = .ref a ∧ SqT K H a xs ∧
  (HT.sIx xs.length 0 lo = 0 ∧ HT.sIx xs.length xs.length hi = xs.length → Q (.ref a) H) ∧ (¬ (HT.sIx xs.length 0 lo = 0 ∧ HT.sIx xs.length xs.length hi = xs.length) → ∀ p its, H p = none → Q (.ref p) (upd H p (.frz (TupO its) (.tup (cutV xs lo hi)))))
theorem sl_tupF : SlR X (rSlF X.K) := by
  intro pins s σ H x v vl vu lo hi sl Q I rx hs pl pu h
  obtain ⟨a, xs, rfl, hx, q1, q2⟩ := h
  cases rx
  obtain ⟨its, r, ht, hz⟩ := I.tuple hx
  have hlen : its.toArray.size = xs.length := by rw [List.size_toArray]; exact r.length.symm
  refine ⟨"tuple", _, PyProof.Rows.slot_tuple_getitem.lookup, ht.typeIs, ?_⟩
  by_cases hw : HT.sIx xs.length 0 lo = 0 ∧ HT.sIx xs.length xs.length hi = xs.length
  · exact getItem_tuple_whole ht hs pl pu (by rw [hlen]; exact hw) ⟨.ref a, H, I, rfl, q1 hw⟩
  · refine HT.getItem_tuple_cut ht hs pl pu (by rw [hlen]; exact hw) ?_ (by rw [hlen]; exact hz)
    rw [hlen]
    exact layT I (fun _ _ e => e) ((r.drop (HT.sIx xs.length 0 lo)).take (HT.sIx xs.length xs.length hi - HT.sIx xs.length 0 lo)) (Nat.le_trans (cutV_length xs lo hi) hz) (Nat.le_refl _) (q2 hw)
theorem call_tupleF : CallR X (.type "tuple") (fun xs H Q => ∃ p ys, xs = [.ref p] ∧ ((SqL X.K H p ys ∧ ∀ l its, H l = none → Q (.ref l) (upd H l (.frz (TupO its) (.tup ys)))) ∨ (SqT X.K H p ys ∧ Q (.ref p) H))) := by
  intro pins s σ H xs us Q I r h
  obtain ⟨p, ys, rfl, h⟩ := h
  obtain ⟨u, rfl, rx⟩ := vals1 r
  cases rx
  rcases h with ⟨hq, q⟩ | ⟨hq, q⟩
  · obtain ⟨its, r', pl, hz⟩ := I.list hq
    have hlen := r'.length
    refine call_tuple_list pl.isList (fun h' kp => ?_) (by simp only [List.size_toArray] <;> omega)
    have I1 : Inv X pins σ H { s with heap := h' } := I.kept (t' := s.toks) kp
    exact layT (s := { s with heap := h' }) I1 (fun _ _ e => e) r' hz (Nat.le_refl _) q
  · obtain ⟨its, r', pl, hz⟩ := I.tuple hq
    exact call_tuple_same pl ⟨.ref p, H, I, rfl, q⟩
end
section
variable {prog : Program} {w : World} {A : Around} {E : Value → Shared → Prop} {s : Shared}
theorem sliceApplied_rev {sl : Addr} {vl vu vs : Value} {n : Nat} {Q : Int × Int × Nat → Shared → Prop} (hs : s.heap.IsSliceOf sl vl vu vs) (pl : IsPart vl none) (pu : IsPart vu none) (ps : IsPart vs (some (-1)))
    (h : Q ((n : Int) - 1, -1, n) s) : wpAny (model prog w) A (Builtin.Slice.sliceApplied (.ref sl) (pure (n : Int))) Q E s := by
  obtain ⟨os, hos, hcs, hds⟩ := id hs
  unfold Builtin.Slice.sliceApplied Builtin.Slice.sliceFields
  refine wpAny_bind (wpAny_bind (wpAny_field hos hds (x := vl) rfl (wpAny_bind (wpAny_field hos hds (x := vu) rfl (wpAny_bind (wpAny_field hos hds (x := vs) rfl (wpAny_pure ?_)))))))
  refine wpAny_bind (HT.slicePart_ ps ?_)
  show wpAny _ _ (if ((-1 : Int) == 0) = true then _ else _) _ _ s
  rw [if_neg (by decide)]
  refine wpAny_bind (HT.slicePart_ pl (wpAny_bind (HT.slicePart_ pu (wpAny_bind (wpAny_pure ?_)))))
  show wpAny _ _ (match Builtin.Slice.sliceAdjust none none (-1) (n : Int) with | (lo, hi) => pure (lo, (-1 : Int), Builtin.Slice.slicePlaces lo hi (-1))) _ _ s
  have e : Builtin.Slice.sliceAdjust none none (-1) (n : Int) = ((n : Int) - 1, -1) := by
    unfold Builtin.Slice.sliceAdjust
    rfl
  rw [e]
  show wpAny _ _ (pure ((n : Int) - 1, (-1 : Int), Builtin.Slice.slicePlaces ((n : Int) - 1) (-1) (-1))) _ _ s
  have e2 : Builtin.Slice.slicePlaces ((n : Int) - 1) (-1) (-1) = n := by
    unfold Builtin.Slice.slicePlaces
    have h1 : ¬ ((-1 : Int) > 0) := by decide
    simp only [h1, if_false]
    split
    · rw [show (- -1 : Int) = 1 by decide, Int.ediv_one]; omega
    · omega
  rw [e2]
  exact wpAny_pure h
theorem pick_rev (xs : Array Value) : ((List.range xs.size).filterMap fun (k : Nat) => xs[((xs.size : Int) - 1 + (k : Int) * (-1)).toNat]?).toArray = xs.toList.reverse.toArray := by
  have e : (List.range xs.size).filterMap (fun (k : Nat) => xs[((xs.size : Int) - 1 + (k : Int) * (-1)).toNat]?) = ((List.range xs.size).map fun k => xs.size - 1 - k).filterMap (xs[·]?) := by
    rw [List.filterMap_map]
    have key : ∀ (l : List Nat), (∀ k ∈ l, k < xs.size) → l.filterMap (fun (k : Nat) => xs[((xs.size : Int) - 1 + (k : Int) * (-1)).toNat]?) = l.filterMap ((fun x => xs[x]?) ∘ fun k => xs.size - 1 - k) := by
      intro l
      induction l with
      | nil => intro _; rfl
      | cons k r ih =>
        intro hl
        have h1 := hl k List.mem_cons_self
        have h2 : ((xs.size : Int) - 1 + (k : Int) * (-1)).toNat = xs.size - 1 - k := by omega
        rw [List.filterMap_cons, List.filterMap_cons, ih fun j hj => hl j (List.mem_cons_of_mem _ hj), h2]
        rfl
    exact key _ fun k hk => List.mem_range.mp hk
  rw [e, PySem.W.krv_range, List.filterMap_reverse, PySem.W.krv_all]
theorem getItem_tuple_rev {t sl : Addr} {items : Array Value} {vl vu vs : Value} {Q : Value → Shared → Prop} (ht : IsTup s.heap t items) (hs : s.heap.IsSliceOf sl vl vu vs) (pl : IsPart vl none) (pu : IsPart vu none) (ps : IsPart vs (some (-1)))
    (h : Q (.ref s.heap.objs.size) { s with heap := s.heap.push { cls := .type "tuple", data := .seq items.toList.reverse.toArray } })
    (hsz : items.size ≤ sizeLine) : wpAny (model prog w) A (getItem (.ref t) (.ref sl)) Q E s := by
  have htake : sizeOk (.seq items.toList.reverse.toArray) := by
    show items.toList.reverse.toArray.size ≤ sizeLine
    rw [List.size_toArray, List.length_reverse, Array.length_toList]
    exact hsz
  obtain ⟨os, hos, hcs, hds⟩ := id hs
  have hTs : s.TypeIs (.ref sl) "slice" := ⟨os, hos, hcs⟩
  unfold getItem
  try with_reducible refine wpAny_holding ?_
  first | refine wpAny_bind (wpAny_pure ?_) | skip
  refine wpAny_bind (wpAny_sequenceKey ht.typeIs (by decide) ?_)
  refine wpAny_bind (wpAny_callSpecial?_slot (name := Str.ofString "__getitem__") ht.typeIs PyProof.Rows.slot_tuple_getitem
    (wpAny_call_entry PyProof.Rows.slot_tuple_getitem ht.typeIs entry_tuple_getitem ?_ (args_tuple_getitem _ _)))
  show wpAny _ _ (Builtin.Tuple.tupleItemsOf (.ref t) >>= _) _ _ s
  refine wpAny_bind (tupleItemsOf_ ht ?_)
  refine wpAny_bind (wpAny_typeOf hTs ?_)
  rw [if_pos (by decide)]
  refine wpAny_bind (sliceApplied_rev hs pl pu ps ?_)
  have hno : ¬ ((((items.size : Int) - 1) == 0 && (-1 : Int) == 1 && items.size == items.size) = true) := by
    intro q
    rw [Bool.and_eq_true, Bool.and_eq_true] at q
    exact absurd q.1.2 (by decide)
  show wpAny _ _ (if (((items.size : Int) - 1) == 0 && (-1 : Int) == 1 && items.size == items.size) = true then _ else _) _ _ s
  rw [if_neg hno, pick_rev]
  first
    | exact wpAny_bind (m := Builtin.Tuple.tupleExact _) (wpAny_newObj_type (wpAny_pure ⟨_, rfl, wpAny_pure h⟩) htake)
    | exact wpAny_bind (m := Builtin.Tuple.tupleExact _) (wpAny_newObj_type (wpAny_bind (wpAny_pure (wpAny_pure ⟨_, rfl, wpAny_pure h⟩))) htake)
end
section
variable {X : Cx} {e : Expr} {te : TE} {pos : Pos}
/-- x[::-1] of a tuple or a list -/
def tRevF (K : PySem.W.Frag) (te : TE) : TE := fun σ H Q => te σ H fun x H1 => ∃ a xs, x = .ref a ∧ ((SqT K H1 a xs ∧ ∀ p its, H1 p = none → Q (.ref p) (upd H1 p (.frz (TupO its) (.tup xs.reverse)))) ∨ (SqL K H1 a xs ∧ ∀ p, H1 p = none → Q (.ref p) (upd H1 p (.lst xs.reverse))))
theorem pe_revF {k : Nat} {p1 p2 p3 : Pos} (he : PE X e te) : PE X (.Subscript e (.Slice none none (some (.UnaryOp .USub (.Constant (.int 1) k p1) p2)) p3) pos) (tRevF X.K te) := by
  refine ⟨fun pins s σ H Q I h => ?_⟩
  refine Subscript_ (thn (he.run pins s σ H _ I h) fun v s1 ⟨x, H1, I1, r1, q1⟩ => ?_)
  obtain ⟨a, xs, ex, q1⟩ := q1
  subst ex
  cases r1
  have hst : PO X (some (.UnaryOp .USub (.Constant (.int 1) k p1) p2)) (tPart (tUn (rU fun i => .int (-i)) (tC (.int 1)))) := po_some (pe_un un_neg pe_int)
  refine wpAny_Slice (thn (po_none.run pins s1 σ H1 (fun o H2 => o = none ∧ H2 = H1) I1 ⟨rfl, rfl⟩) fun vl s2 ⟨l, H2, I2, pl, el, e2⟩ => ?_)
  subst el e2
  refine thn (po_none.run pins s2 σ H2 (fun o H3 => o = none ∧ H3 = H2) I2 ⟨rfl, rfl⟩) fun vu s3 ⟨u, H3, I3, pu, eu, e3⟩ => ?_
  subst eu e3
  refine thn (hst.run pins s3 σ H3 (fun o H4 => o = some (-1) ∧ H4 = H3) I3 ⟨1, rfl, -1, rfl, rfl, rfl⟩) fun vs s4 ⟨o, H4, I4, ps, eo, e4⟩ => ?_
  subst eo e4
  have I5 : Inv X pins σ H4 { s4 with heap := s4.heap.push { cls := .type "slice", data := .fields #[vl, vu, vs] } } := I4.kept (t' := s4.toks) fun b ob q => Heap.get?_push_of_some _ q
  show wpAny (model X.prog X.w) X.A (subscriptTail e (.Slice none none (some (.UnaryOp .USub (.Constant (.int 1) k p1) p2)) p3) (.ref a) (.ref s4.heap.objs.size)) (EP X pins σ Q) X.xe { s4 with heap := s4.heap.push { cls := .type "slice", data := .fields #[vl, vu, vs] } }
  rcases q1 with ⟨hx, q⟩ | ⟨hx, q⟩
  · obtain ⟨its, r, ht, hz⟩ := I5.tuple hx
    have hlen := r.length
    refine tail_any (ops := [.ref a, .ref s4.heap.objs.size]) ht.typeIs (PyProof.Rows.slot_tuple_getitem.lookup) ?_ (by with_unfolding_all rfl)
    refine getItem_tuple_rev ht (Heap.IsSliceOf.new _ vl vu vs) pl pu ps ?_ (by rw [List.size_toArray]; omega)
    exact layT I5 (fun _ _ e => e) r.reverse (by rw [List.length_reverse]; exact hz) (Nat.le_refl _) q
  · obtain ⟨its, r, ht, hz⟩ := I5.list hx
    have hlen := r.length
    refine tail_any (ops := [.ref a, .ref s4.heap.objs.size]) ht.isList.typeIs (PySem.slot_list_getitem.lookup) ?_ (by with_unfolding_all rfl)
    refine wpAny_getItem_list_slice ht.isList (Heap.IsSliceOf.new _ vl vu vs) pl pu ps (by decide) ?_ (by rw [List.size_toArray]; omega)
    rw [PySem.W.krv_pick]
    refine ⟨.ref _, _, I5.laid (t' := s4.toks) (o := .lst xs.reverse) (fun b ob q => Heap.get?_push_of_some _ q) (Nat.le_refl _) ?_, rfl, q _ (I5.hok.fresh (Nat.le_refl _))⟩
    exact ⟨by rw [List.length_reverse]; exact hz, _, 0, r.reverse, Heap.get?_push_size _ rfl⟩
end
end DL

set_option Elab.async false
set_option linter.all false
set_option maxRecDepth 100000
set_option maxHeartbeats 4000000
/-! DE: judgements; expressions -/
namespace DL
open PySem PySem.Spec PyProof.Rows L2
/-! ## the judgements -/
def KQ (c : Cn) (H : Hp) (Qd : KD) (Q : VK) : Prop := ∀ d M' v H', Qd d M' → Rep c.K H' v d → R c M' H' → Tups c.K H H' → Q v H'
def RepX (c : Cn) (H : Hp) (oa : Option Addr) (fs : List (Str × D)) : Prop := (oa = none ∧ fs = []) ∨ ∃ d vs, oa = some d ∧ H d = some (.xd vs) ∧ PFs c.K H vs fs
def KX (c : Cn) (H : Hp) (Ed : XW) (XE : XK) : Prop := ∀ C fs M' oa H', Ed C fs M' → RepX c H' oa fs → R c M' H' → Tups c.K H H' → XE (.ref (c.CA C)) oa H'
theorem KX.mono {c : Cn} {H H' : Hp} {Ed : XW} {XE : XK} (k : KX c H Ed XE) (t : Tups c.K H H') : KX c H' Ed XE := fun C fs M' oa H2 e x r t2 => k C fs M' oa H2 e x r (t.trans t2)
theorem KX.no {c : Cn} {H : Hp} {XE : XK} : KX c H X0 XE := fun _ _ _ _ _ e => e.elim
structure Pre (c : Cn) (XE : XK) (σ : L2.St) (H : Hp) (env : Ev) (M : Sto) (Ed : XW) : Prop where
  e : RelEnv c.K H σ env
  r : R c M H
  x : KX c H Ed XE
theorem Pre.to {c : Cn} {XE : XK} {σ : L2.St} {H H' : Hp} {env : Ev} {M M' : Sto} {Ed : XW} (p : Pre c XE σ H env M Ed) (t : Tups c.K H H') (r : R c M' H') : Pre c XE σ H' env M' Ed := ⟨p.e.mono t, r, p.x.mono t⟩
def tOf (c : Cn) (XE : XK) (f : WE) : TE := fun σ H Q => ∃ env M Ed Qd, Pre c XE σ H env M Ed ∧ f Ed env M Qd ∧ KQ c H Qd Q
def SE (X : Cx) (CA : String → Addr) (XE : XK) (e : Expr) (f : WE) : Prop := PE X e (tOf (cn X CA) XE f)
def tOfT (c : Cn) (XE : XK) (f : WT) : TT := fun σ H Q => ∃ env M Ed Qd, Pre c XE σ H env M Ed ∧ f Ed env M Qd ∧ ∀ b M' H', Qd b M' → R c M' H' → Tups c.K H H' → Q b H'
def ST (X : Cx) (CA : String → Addr) (XE : XK) (e : Expr) (f : WT) : Prop := PT X e (tOfT (cn X CA) XE f)
def SW (X : Cx) (CA : String → Addr) (XE : XK) (e : Expr) (f : WT) : Prop := PW X e (tOfT (cn X CA) XE f)
def tOfA (c : Cn) (XE : XK) (fs : List WE) : TA := fun σ H Q => ∃ env M Ed Qd, Pre c XE σ H env M Ed ∧ argsW fs Ed env M Qd ∧ ∀ ds M' vs H', Qd ds M' → Reps c.K H' vs ds → R c M' H' → Tups c.K H H' → vs.length = fs.length → Q vs H'
section
variable {X : Cx} {e : Expr} {es : List Expr}
theorem PE_weak {t t' : TE} (h : PE X e t) (w : ∀ σ H Q, t' σ H Q → t σ H Q) : PE X e t' := ⟨fun pins s σ H Q I q => h.run pins s σ H Q I (w σ H Q q)⟩
theorem PT_weak {t t' : TT} (h : PT X e t) (w : ∀ σ H Q, t' σ H Q → t σ H Q) : PT X e t' := ⟨fun pins s σ H Q I q => h.run pins s σ H Q I (w σ H Q q)⟩
theorem PW_weak {t t' : TT} (h : PW X e t) (w : ∀ σ H Q, t' σ H Q → t σ H Q) : PW X e t' := ⟨fun wh pins s σ H Q I q => h.run wh pins s σ H Q I (w σ H Q q)⟩
theorem PA_weak {t t' : TA} (h : PA X es t) (w : ∀ σ H Q, t' σ H Q → t σ H Q) : PA X es t' := ⟨fun pos pins s σ H Q I q => h.run pos pins s σ H Q I (w σ H Q q)⟩
end
section
variable {X : Cx} {CA : String → Addr} {XE : XK} {a b e : Expr} {es : List Expr} {f g h : WE} {fs : List WE} {pos : Pos}
/-! ## names and constants -/
theorem d_var (i : Nat) {x : Str} (hN : X.N[i]? = some x := by rfl) (hv : Vis X.env.scope x := by first | exact Or.inl rfl | exact Or.inr (Or.inl rfl) | exact Or.inr (Or.inr rfl)) (hd : (x == ("__debug__" : Str)) = false := by decide)
    (hcd : (x == ("__classdict__" : Str)) = false := by decide) : SE X CA XE (.Name x pos) (eVar i) :=
  PE_weak (pe_var hN hv hd hcd) fun σ H Q ⟨env, M, Ed, Qd, p, q, k⟩ => by
    unfold eVar at q
    split at q
    · rename_i d e
      obtain ⟨v, e1, r1⟩ := p.e.get e
      exact ⟨v, e1, k _ _ _ _ q r1 p.r .refl⟩
    · exact q.elim
theorem d_of {v : V} {d : D} (h : PE X e (tC v)) (r : ∀ H, Rep X.K H v d) : SE X CA XE e (eC d) :=
  PE_weak h fun σ H Q ⟨env, M, Ed, Qd, p, q, k⟩ => k _ _ _ _ q (r H) p.r .refl
theorem d_int {i j} : SE X CA XE (.Constant (.int i) j pos) (eC (.int i)) := d_of pe_int fun _ => .int i
theorem d_bl {b j} : SE X CA XE (.Constant (.bool b) j pos) (eC (.bl b)) := d_of pe_bl fun _ => .bl b
theorem d_non {j} : SE X CA XE (.Constant .none j pos) (eC .non) := d_of pe_non fun _ => .non
theorem d_str {x j} : SE X CA XE (.Constant (.str x) j pos) (eC (.str x)) := d_of pe_str fun _ => .str x
/-- a constant of the module -/
structure GRep (K : PySem.W.Frag) (mg : Str → Option Value) (x : Str) (d : D) : Prop where
  h : ∃ u v, mg x = some u ∧ RelV v u ∧ ∀ H, Rep K H v d
theorem d_glob {x : Str} {d : D} (G : GRep X.K X.mg x d) (hg : Gl X x := by rfl) (hd : (x == ("__debug__" : Str)) = false := by decide) : SE X CA XE (.Name x pos) (eC d) :=
  let ⟨_, _, hm, r, k⟩ := G.h
  d_of (pe_glob hg hm r hd) k
/-! ## argument lists, displays -/
inductive SAs (X : Cx) (CA : String → Addr) (XE : XK) : List Expr → List WE → Prop
  | nil : SAs X CA XE [] []
  | cons {e : Expr} {es : List Expr} {f : WE} {fs : List WE} (h : SE X CA XE e f) (r : SAs X CA XE es fs) (hs : starEach (e :: es) X.env = (false, eval e X.env) :: starEach es X.env) : SAs X CA XE (e :: es) (f :: fs)
theorem a_cons (h : SE X CA XE e f) (r : SAs X CA XE es fs) (hs : starEach (e :: es) X.env = (false, eval e X.env) :: starEach es X.env := by rfl) : SAs X CA XE (e :: es) (f :: fs) := .cons h r hs
theorem SAs.pa : ∀ {es : List Expr} {fs : List WE}, SAs X CA XE es fs → PA X es (tOfA (cn X CA) XE fs)
  | _, _, .nil => PA_weak pa_nil fun σ H Q ⟨env, M, Ed, Qd, p, q, k⟩ => k _ _ _ _ q .nil p.r .refl rfl
  | _, _, .cons h r hs => PA_weak (pa_cons h (SAs.pa r) hs) fun σ H Q ⟨env, M, Ed, Qd, p, q, k⟩ =>
    ⟨env, M, Ed, _, p, q, fun d1 M1 v1 H1 q1 r1 R1 T1 => ⟨env, M1, Ed, _, p.to T1 R1, q1, fun ds M2 vs H2 q2 r2 R2 T2 hl => k _ _ _ _ q2 (.cons (r1.m T2) r2) R2 (T1.trans T2) (by rw [List.length_cons, List.length_cons, hl])⟩⟩
theorem argsW_len : ∀ {fs : List WE} {E : XW} {env : Ev} {M : Sto} {Q : List D → Sto → Prop}, (∀ f ∈ fs, ∀ E env M Q Q', (∀ d M, Q d M → Q' d M) → f E env M Q → f E env M Q') → argsW fs E env M Q → argsW fs E env M fun ds M' => ds.length = fs.length ∧ Q ds M'
  | [], _, _, _, _, _, h => ⟨rfl, h⟩
  | f :: fs, E, env, M, Q, m, h => m f List.mem_cons_self _ _ _ _ _ (fun d M1 q => by
      have ih := argsW_len (fun f hf => m f (List.mem_cons_of_mem _ hf)) q
      simpa using ih) h
theorem lay_tup {c : Cn} {M : Sto} {H : Hp} {p : Addr} {xs : List V} {its : List Value} {ds : List D} (hp : H p = none) (r : Reps c.K H xs ds) (hR : R c M H) : Rep c.K (upd H p (.frz (TupO its) (.tup xs))) (.ref p) (.tup ds) ∧ R c M (upd H p (.frz (TupO its) (.tup xs))) ∧ Tups c.K H (upd H p (.frz (TupO its) (.tup xs))) :=
  ⟨.tup (.inl ⟨its, upd_same⟩) (r.m (Tups.new hp)), hR.keep hp, Tups.new hp⟩
theorem lay_lst {c : Cn} {M : Sto} {H : Hp} {p : Addr} {xs : List V} {ds : List D} (hp : H p = none) (r : Reps c.K H xs ds) (hR : R c M H) : R c (M.set p (.lst ds)) (upd H p (.lst xs)) ∧ Tups c.K H (upd H p (.lst xs)) :=
  ⟨hR.at (Tups.new hp) ⟨xs, upd_same, r.m (Tups.new hp)⟩, Tups.new hp⟩
theorem few {n : Nat} (h : n ≤ 1000) : n ≤ sizeLine := Nat.le_of_lt (small1000 h)
theorem d_tup {k : Nat} (h : SAs X CA XE es fs) (hl : fs.length ≤ 1000 := by exact Nat.le_of_ble_eq_true rfl) : SE X CA XE (.Tuple es k pos) (eTup fs) :=
  PE_weak (pe_tupF h.pa) fun σ H Q ⟨env, M, Ed, Qd, p, q, k⟩ => ⟨env, M, Ed, _, p, q, fun ds M1 vs H1 q1 r1 R1 T1 hn => ⟨by rw [hn]; exact few hl, fun a its ha => by
    obtain ⟨x, y, z⟩ := lay_tup ha r1 R1
    exact k _ _ _ _ q1 x y (T1.trans z)⟩⟩
theorem d_lst (h : SAs X CA XE es fs) (hl : fs.length ≤ 1000 := by exact Nat.le_of_ble_eq_true rfl) : SE X CA XE (.List es pos) (eLst fs) :=
  PE_weak (pe_lst h.pa) fun σ H Q ⟨env, M, Ed, Qd, p, q, k⟩ => ⟨env, M, Ed, _, p, q, fun ds M1 vs H1 q1 r1 R1 T1 hn => ⟨by rw [hn]; exact few hl, fun a ha => by
    obtain ⟨x, y⟩ := lay_lst ha r1 R1
    exact k _ _ _ _ (q1 a (R1.fresh ha)) (.ref a) x (T1.trans y)⟩⟩
/-! ## operators -/
def OpS (c : Cn) (op : B2) (r : R2) : Prop := ∀ v1 v2 d1 d2 M H Qd Q, Rep c.K H v1 d1 → Rep c.K H v2 d2 → R c M H → op d1 d2 M Qd → KQ c H Qd Q → r v1 v2 H Q
theorem KQ.mono {c : Cn} {H H' : Hp} {Qd : KD} {Q : VK} (k : KQ c H Qd Q) (t : Tups c.K H H') : KQ c H' Qd Q := fun d M v H2 q r R T => k d M v H2 q r R (t.trans T)
theorem d_bin {op : Operator} {r : R2} {b2 : B2} (ho : OpR X (binaryOp op) r) (hs : OpS (cn X CA) b2 r) (ha : SE X CA XE a f) (hb : SE X CA XE b g) : SE X CA XE (.BinOp a op b pos) (eBin b2 f g) :=
  PE_weak (pe_op ho ha hb) fun σ H Q ⟨env, M, Ed, Qd, p, q, k⟩ => ⟨env, M, Ed, _, p, q, fun d1 M1 v1 H1 q1 r1 R1 T1 => ⟨env, M1, Ed, _, p.to T1 R1, q1, fun d2 M2 v2 H2 q2 r2 R2 T2 => hs _ _ _ _ _ _ _ _ (r1.m T2) r2 R2 q2 (k.mono (T1.trans T2))⟩⟩
def rAddA (K : PySem.W.Frag) : R2 := fun x y H Q => rI0 (fun i j => .int (i + j)) x y H Q ∨ ((∃ i j, x = .str i ∧ y = .str j ∧ i.length + j.length ≤ sizeLine ∧ Q (.str (i ++ j)) H) ∨ (rCatF K x y H Q ∨ rCat x y H Q))
theorem op_addA : OpR X (binaryOp .Add) (rAddA X.K) := op_add.or (op_add_str.or (op_catF.or op_cat))
theorem addS {c : Cn} : OpS c opAdd (rAddA c.K) := by
  intro v1 v2 d1 d2 M H Qd Q r1 r2 hR h k
  unfold opAdd at h
  split at h
  · cases r1; cases r2
    exact .inl ⟨_, _, rfl, rfl, k _ _ _ _ h (.int _) hR .refl⟩
  · cases r1; cases r2
    exact .inr (.inl ⟨_, _, rfl, rfl, h.1, k _ _ _ _ h.2 (.str _) hR .refl⟩)
  · cases r1 with
    | @tup a1 vs1 _ s1 p1 =>
      cases r2 with
      | @tup a2 vs2 _ s2 p2 =>
        refine .inr (.inr (.inl ⟨_, _, _, _, rfl, rfl, s1.s, s2.s, by rw [p1.length, p2.length]; exact h.1, fun e => ?_, fun e1 e2 => ?_, fun e1 e2 p its hp => ?_⟩))
        · subst e
          cases p1
          exact k _ _ _ _ h.2 (.tup s2 p2) hR .refl
        · subst e2
          cases p2
          exact k _ _ _ _ h.2 (by rw [List.append_nil]; exact .tup s1 p1) hR .refl
        · obtain ⟨x, y, z⟩ := lay_tup hp (p1.append p2) hR
          exact k _ _ _ _ h.2 x y z
  · split at h
    · rename_i xs ys e1 e2
      cases r1; cases r2
      obtain ⟨vs, h1, p1⟩ := hR _ _ e1
      obtain ⟨ws, h2, p2⟩ := hR _ _ e2
      refine .inr (.inr (.inr ⟨_, _, _, _, rfl, rfl, h1, h2, by rw [p1.length, p2.length]; exact h.1, fun p hp => ?_⟩))
      obtain ⟨x, y⟩ := lay_lst hp (p1.append p2) hR
      exact k _ _ _ _ (h.2 p (hR.fresh hp)) (.ref p) x y
    · exact h.elim
  · exact h.elim
theorem d_add (ha : SE X CA XE a f) (hb : SE X CA XE b g) : SE X CA XE (.BinOp a .Add b pos) (eBin opAdd f g) := d_bin op_addA addS ha hb
theorem subS {c : Cn} : OpS c opSub (rI0 fun i j => .int (i - j)) := by
  intro v1 v2 d1 d2 M H Qd Q r1 r2 hR h k
  unfold opSub at h
  split at h
  · cases r1; cases r2
    exact ⟨_, _, rfl, rfl, k _ _ _ _ h (.int _) hR .refl⟩
  · exact h.elim
theorem d_sub (ha : SE X CA XE a f) (hb : SE X CA XE b g) : SE X CA XE (.BinOp a .Sub b pos) (eBin opSub f g) := d_bin op_sub subS ha hb
theorem op_mulX : OpR X (binaryOp .Mult) (rI IntMulOk fun i j => .int (i * j)) := opI fun _ _ _ _ _ _ _ hc q => mul_int q hc
theorem mulS {c : Cn} : OpS c opMul (rI IntMulOk fun i j => .int (i * j)) := by
  intro v1 v2 d1 d2 M H Qd Q r1 r2 hR h k
  unfold opMul at h
  split at h
  · cases r1; cases r2
    exact ⟨_, _, rfl, rfl, h.1, k _ _ _ _ h.2 (.int _) hR .refl⟩
  · exact h.elim
theorem d_mul (ha : SE X CA XE a f) (hb : SE X CA XE b g) : SE X CA XE (.BinOp a .Mult b pos) (eBin opMul f g) := d_bin op_mulX mulS ha hb
def CDivX (i j : Int) : Prop := j ≠ 0 ∧ Builtin.divisionGoesByPylong i j = false
theorem op_divX : OpR X (binaryOp .FloorDiv) (rI CDivX fun i j => .int (i.fdiv j)) := opI fun _ _ _ _ _ _ _ hc q => floordiv_int hc.1 q (.inl hc.2)
theorem divS {c : Cn} : OpS c opDiv (rI CDivX fun i j => .int (i.fdiv j)) := by
  intro v1 v2 d1 d2 M H Qd Q r1 r2 hR h k
  unfold opDiv at h
  split at h
  · cases r1; cases r2
    exact ⟨_, _, rfl, rfl, ⟨h.1, h.2.1⟩, k _ _ _ _ h.2.2 (.int _) hR .refl⟩
  · exact h.elim
theorem d_div (ha : SE X CA XE a f) (hb : SE X CA XE b g) : SE X CA XE (.BinOp a .FloorDiv b pos) (eBin opDiv f g) := d_bin op_divX divS ha hb
theorem modS {c : Cn} : OpS c opMod (rI (fun _ j => j ≠ 0) fun i j => .int (i.fmod j)) := by
  intro v1 v2 d1 d2 M H Qd Q r1 r2 hR h k
  unfold opMod at h
  split at h
  · cases r1; cases r2
    exact ⟨_, _, rfl, rfl, h.1, k _ _ _ _ h.2 (.int _) hR .refl⟩
  · exact h.elim
theorem d_mod (ha : SE X CA XE a f) (hb : SE X CA XE b g) : SE X CA XE (.BinOp a .Mod b pos) (eBin opMod f g) := d_bin op_modN modS ha hb
theorem powS {c : Cn} : OpS c opPow (rI CPow fun i j => .int (i ^ j.toNat)) := by
  intro v1 v2 d1 d2 M H Qd Q r1 r2 hR h k
  unfold opPow at h
  split at h
  · cases r1; cases r2
    exact ⟨_, _, rfl, rfl, ⟨h.1, h.2.1, h.2.2.1⟩, k _ _ _ _ h.2.2.2 (.int _) hR .refl⟩
  · exact h.elim
theorem d_pow (ha : SE X CA XE a f) (hb : SE X CA XE b g) : SE X CA XE (.BinOp a .Pow b pos) (eBin opPow f g) := d_bin op_pow powS ha hb
theorem d_neg (ha : SE X CA XE a f) : SE X CA XE (.UnaryOp .USub a pos) (eNeg f) :=
  PE_weak (pe_un un_neg ha) fun σ H Q ⟨env, M, Ed, Qd, p, q, k⟩ => ⟨env, M, Ed, _, p, q, fun d1 M1 v1 H1 q1 r1 R1 T1 => by
    split at q1
    · cases r1
      exact ⟨_, rfl, k _ _ _ _ q1 (.int _) R1 T1⟩
    · exact q1.elim⟩
/-! ## comparisons -/
def CmpS (c : Cn) (op : C2) (r : R2) : Prop := ∀ v1 v2 d1 d2 M H (kd : Bool → Prop) Q, Rep c.K H v1 d1 → Rep c.K H v2 d2 → R c M H → op d1 d2 M kd → (∀ b, kd b → Q (.bl b) H) → r v1 v2 H Q
theorem d_cmp {op : CmpOp} {r : R2} {c2 : C2} (ho : OpR X (compareOp op) r) (hs : CmpS (cn X CA) c2 r) (ha : SE X CA XE a f) (hb : SE X CA XE b g) (hm : behindInMarks op b = false) : SE X CA XE (.Compare a [op] [b] pos) (eCmp c2 f g) :=
  PE_weak (pe_cmpR ho ha hb hm) fun σ H Q ⟨env, M, Ed, Qd, p, q, k⟩ => ⟨env, M, Ed, _, p, q, fun d1 M1 v1 H1 q1 r1 R1 T1 => ⟨env, M1, Ed, _, p.to T1 R1, q1, fun d2 M2 v2 H2 q2 r2 R2 T2 =>
    hs _ _ _ _ _ _ _ _ (r1.m T2) r2 R2 q2 fun b q3 => k _ _ _ _ q3 (.bl b) R2 (T1.trans T2)⟩⟩
theorem t_cmp {op : CmpOp} {r : R2} {c2 : C2} (ho : OpR X (compareOp op) r) (hs : CmpS (cn X CA) c2 r) (ha : SE X CA XE a f) (hb : SE X CA XE b g) (hm : behindInMarks op b = false) : ST X CA XE (.Compare a [op] [b] pos) (tCmp c2 f g) :=
  PT_weak (pt_cmpR ho ha hb hm) fun σ H Q ⟨env, M, Ed, Qd, p, q, k⟩ => ⟨env, M, Ed, _, p, q, fun d1 M1 v1 H1 q1 r1 R1 T1 => ⟨env, M1, Ed, _, p.to T1 R1, q1, fun d2 M2 v2 H2 q2 r2 R2 T2 =>
    hs _ _ _ _ _ _ _ _ (r1.m T2) r2 R2 q2 fun b q3 => ⟨b, rfl, k _ _ _ q3 R2 (T1.trans T2)⟩⟩⟩
mutual
theorem Rep.dp {K : PySem.W.Frag} {H : Hp} : ∀ (d : D) {v : V}, Rep K H v d → SeqAt.shaped d.py = true → Dp K H v d.py
  | .non, _, h, _ => by cases h; exact .non
  | .bl b, _, h, _ => by cases h; exact .bl b
  | .int b, _, h, _ => by cases h; exact .int b
  | .str b, _, h, _ => by cases h; exact .str b
  | .ref b, _, h, z => by simp [D.py, SeqAt.shaped, PyData.canLay0] at z
  | .ty b, _, h, z => by simp [D.py, SeqAt.shaped, PyData.canLay0] at z
  | .lro b, _, h, z => by simp [D.py, SeqAt.shaped, PyData.canLay0] at z
  | .tup ds, _, h, z => by
    cases h with
    | tup s r =>
      refine .tup s.s (Reps.dp ds r ?_)
      simp only [D.py, SeqAt.shaped, PyData.canLay0, Bool.and_eq_true, decide_eq_true_eq, PyData.depth] at z
      exact ⟨z.1, by omega⟩
theorem Reps.dp {K : PySem.W.Frag} {H : Hp} : ∀ (ds : List D) {vs : List V}, Reps K H vs ds → PyData.canLayAll0 (D.pys ds) = true ∧ PyData.depthAll (D.pys ds) ≤ 64 → DpAll K H vs (D.pys ds)
  | [], _, h, _ => by cases h; exact .nil
  | d :: ds, _, h, z => by
    cases h with
    | cons a b =>
      simp only [D.pys, PyData.canLayAll0, PyData.depthAll, Bool.and_eq_true] at z
      exact .cons (Rep.dp d a (by simp only [SeqAt.shaped, Bool.and_eq_true, decide_eq_true_eq]; exact ⟨z.1.1, by omega⟩)) (Reps.dp ds b ⟨z.1.2, by omega⟩)
end
def rEqA (K : PySem.W.Frag) : R2 := fun x y H Q => rEq x y H Q ∨ rEqD K x y H Q
def rNeA (K : PySem.W.Frag) : R2 := fun x y H Q => rNe x y H Q ∨ rNeD K x y H Q
theorem eqS {c : Cn} : CmpS c cEq (rEqA c.K) := by
  intro v1 v2 d1 d2 M H kd Q r1 r2 hR h k
  unfold cEq at h
  split at h
  · cases r1; cases r2
    exact .inl ⟨rfl, by rw [dec_int, Bool.beq_eq_decide_eq]; exact k _ h⟩
  · cases r1; cases r2
    exact .inl ⟨rfl, by rw [dec_str, Bool.beq_eq_decide_eq]; exact k _ h⟩
  · cases r1; cases r2
    exact .inl ⟨rfl, by rw [dec_bl]; exact k _ h⟩
  · exact .inr ⟨_, _, r1.dp _ h.1, r2.dp _ h.2.1, h.1, h.2.1, k _ h.2.2⟩
theorem neS {c : Cn} : CmpS c cNe (rNeA c.K) := by
  intro v1 v2 d1 d2 M H kd Q r1 r2 hR h k
  unfold cNe cEq at h
  split at h
  · cases r1; cases r2
    exact .inl ⟨rfl, by rw [dec_int, Bool.beq_eq_decide_eq]; exact k _ h⟩
  · cases r1; cases r2
    exact .inl ⟨rfl, by rw [dec_str, Bool.beq_eq_decide_eq]; exact k _ h⟩
  · cases r1; cases r2
    exact .inl ⟨rfl, by rw [dec_bl]; exact k _ h⟩
  · exact .inr ⟨_, _, r1.dp _ h.1, r2.dp _ h.2.1, h.1, h.2.1, k _ h.2.2⟩
theorem op_eqA {k : Nat} (hr : Room k X.A) : OpR X (compareOp .Eq) (rEqA X.K) := op_eq.or (op_eqD hr.units)
theorem op_neA {k : Nat} (hr : Room k X.A) : OpR X (compareOp .NotEq) (rNeA X.K) := op_ne.or (op_neD hr.units)
theorem intCmp {c : Cn} {p : Int → Int → Bool} {c2 : C2} (h : ∀ x y M k, c2 x y M k → ∃ i j, x = .int i ∧ y = .int j ∧ k (p i j)) : CmpS c c2 (rI0 fun i j => .bl (p i j)) := by
  intro v1 v2 d1 d2 M H kd Q r1 r2 hR q k
  obtain ⟨i, j, rfl, rfl, q'⟩ := h _ _ _ _ q
  cases r1; cases r2
  exact ⟨_, _, rfl, rfl, k _ q'⟩
theorem ltS {c : Cn} : CmpS c cLt (rI0 fun i j => .bl (decide (i < j))) := intCmp fun x y M k h => by
  unfold cLt at h; split at h
  · exact ⟨_, _, rfl, rfl, h⟩
  · exact h.elim
theorem leS {c : Cn} : CmpS c cLe (rI0 fun i j => .bl (decide (i ≤ j))) := intCmp fun x y M k h => by
  unfold cLe at h; split at h
  · exact ⟨_, _, rfl, rfl, h⟩
  · exact h.elim
theorem gtS {c : Cn} : CmpS c cGt (rI0 fun i j => .bl (decide (j < i))) := intCmp fun x y M k h => by
  unfold cGt at h; split at h
  · exact ⟨_, _, rfl, rfl, h⟩
  · exact h.elim
theorem geS {c : Cn} : CmpS c cGe (rI0 fun i j => .bl (decide (j ≤ i))) := intCmp fun x y M k h => by
  unfold cGe at h; split at h
  · exact ⟨_, _, rfl, rfl, h⟩
  · exact h.elim
theorem Rep.isNon {K : PySem.W.Frag} {H : Hp} {v : V} {d : D} (r : Rep K H v d) : decide (v = .non) = decide (d = .non) := by
  cases r <;> simp
theorem isNS {c : Cn} : CmpS c cIsN (fun x y H Q => y = .non ∧ Q (.bl (decide (x = .non))) H) := by
  intro v1 v2 d1 d2 M H kd Q r1 r2 hR h k
  unfold cIsN at h
  split at h
  · cases r2
    exact ⟨rfl, by rw [r1.isNon]; exact k _ h⟩
  · exact h.elim
theorem notNS {c : Cn} : CmpS c cNotN (fun x y H Q => y = .non ∧ Q (.bl (!decide (x = .non))) H) := by
  intro v1 v2 d1 d2 M H kd Q r1 r2 hR h k
  unfold cNotN at h
  split at h
  · cases r2
    exact ⟨rfl, by rw [r1.isNon]; exact k _ h⟩
  · exact h.elim
end
end DL

set_option Elab.async false
set_option linter.all false
set_option maxRecDepth 100000
set_option maxHeartbeats 4000000
/-! DE2: truth, subscripts, calls of built-ins, dicts -/
namespace DL
open PySem PySem.Spec PyProof.Rows L2
section
variable {X : Cx} {CA : String → Addr} {XE : XK} {a b e : Expr} {es : List Expr} {f g h : WE} {fs : List WE} {pos : Pos}
/-! ## membership -/
theorem Rep.flat {K : PySem.W.Frag} {H : Hp} {v : V} {d : D} (r : Rep K H v d) (h : flat d = true) : flatV v = true := by
  cases r <;> first | rfl | (simp [DL.flat] at h)
theorem Reps.flat {K : PySem.W.Frag} {H : Hp} : ∀ {vs : List V} {ds : List D}, Reps K H vs ds → ds.all DL.flat = true → vs.all flatV = true
  | _, _, .nil, _ => rfl
  | _, _, .cons r t, h => by
    simp only [List.all_cons, Bool.and_eq_true] at h ⊢
    exact ⟨r.flat h.1, Reps.flat t h.2⟩
theorem Rep.eqF {K : PySem.W.Frag} {H : Hp} {v w : V} {d e : D} (r : Rep K H v d) (q : Rep K H w e) (h1 : DL.flat d = true) (h2 : DL.flat e = true) : eqV v w = eqF d e := by
  cases r <;> first | (simp [DL.flat] at h1; done) | (cases q <;> first | (simp [DL.flat] at h2; done) | (simp [eqV, DL.eqF]; done) | (simp [eqV, DL.eqF, Bool.beq_eq_decide_eq]; done))
theorem Reps.inV {K : PySem.W.Frag} {H : Hp} {v : V} {d : D} (r : Rep K H v d) (h1 : DL.flat d = true) : ∀ {vs : List V} {ds : List D}, Reps K H vs ds → ds.all DL.flat = true → L2.inV v vs = ds.any fun z => DL.eqF z d
  | _, _, .nil, _ => rfl
  | _, _, .cons q t, h => by
    simp only [List.all_cons, Bool.and_eq_true] at h
    have ih := Reps.inV r h1 t h.2
    unfold L2.inV at ih ⊢
    rw [List.any_cons, List.any_cons, ih, q.eqF r h.1 h1]
theorem Rep.key {K : PySem.W.Frag} {H : Hp} {v : V} {d : D} {κ : Key} (r : Rep K H v d) (h : keyD d = some κ) : v = kV κ := by
  cases r <;> simp [keyD] at h <;> subst h <;> rfl
theorem lk_val {K : PySem.W.Frag} {H : Hp} : ∀ {vs : List (L2.Key × V)} {kvs : List (Key × D)} (κ : Key), PKV K H vs kvs → (∀ d, lk kvs κ = some d → ∃ v, valV vs κ = some v ∧ Rep K H v d) ∧ (lk kvs κ = none → valV vs κ = none)
  | _, _, κ, .nil => ⟨fun _ e => by simp [lk] at e, fun _ => rfl⟩
  | _, _, κ, .cons (a := p) (b := q) r t => by
    have ih := lk_val κ t
    unfold lk
    by_cases e : q.1 = κ
    · rw [if_pos e, valV_pos (by rw [r.1]; exact e)]
      exact ⟨fun d z => ⟨_, rfl, by cases z; exact r.2⟩, nofun⟩
    · rw [if_neg e, valV_neg (by rw [r.1]; exact e)]
      exact ih
def rInDK : R2 := fun x y H Q => ∃ a kvs k, y = .ref a ∧ Rd H a (.dK kvs) ∧ x = kV k ∧ Q (.bl (valV kvs k).isSome) H
def rNotInDK : R2 := fun x y H Q => ∃ a kvs k, y = .ref a ∧ Rd H a (.dK kvs) ∧ x = kV k ∧ Q (.bl (!(valV kvs k).isSome)) H
theorem op_inDK (hu : X.A.units + 1 < cLine) : OpR X (compareOp .In) rInDK := by
  intro pins s σ H x y v u Q I rx ry h
  obtain ⟨a, kvs, k, rfl, e, rfl, q⟩ := h
  cases ry
  exact d_in hu I (.inl ⟨kvs, k, e, rfl, rfl⟩) rx fun s' I' => ⟨.bl _, H, I', rfl, q⟩
theorem op_notInDK (hu : X.A.units + 1 < cLine) : OpR X (compareOp .NotIn) rNotInDK := by
  intro pins s σ H x y v u Q I rx ry h
  obtain ⟨a, kvs, k, rfl, e, rfl, q⟩ := h
  cases ry
  exact d_notIn hu I (.inl ⟨kvs, k, e, rfl, rfl⟩) rx fun s' I' => ⟨.bl _, H, I', rfl, q⟩
/-! nested keys -/
section
variable {K : PySem.W.Frag}
mutual
theorem nk_depth : ∀ (d : D) (n : Nat), nest d = some n → (nkD d).depth = n
  | .non, n, h => by simp [nest] at h; subst h; rfl
  | .int _, n, h => by simp [nest] at h; subst h; rfl
  | .str _, n, h => by simp [nest] at h; subst h; rfl
  | .tup xs, n, h => by
    simp only [nest, Option.map_eq_some_iff] at h
    obtain ⟨m, e, rfl⟩ := h
    rw [nkD, NestedKey.depth, nks_depth xs m e]
  | .bl _, n, h => by simp [nest] at h
  | .ref _, n, h => by simp [nest] at h
  | .ty _, n, h => by simp [nest] at h
  | .lro _, n, h => by simp [nest] at h
theorem nks_depth : ∀ (ds : List D) (n : Nat), nests ds = some n → NestedKey.depthAll (nkDs ds) = n
  | [], n, h => by simp [nests] at h; subst h; rfl
  | d :: ds, n, h => by
    unfold nests at h
    split at h
    · rename_i x y e1 e2
      cases h
      rw [nkDs, NestedKey.depthAll, nk_depth d _ e1, nks_depth ds _ e2]
    · cases h
end
mutual
theorem nk_is {pins : List (Addr × Obj)} {σ : L2.St} {H : Hp} {s : Shared} (I : Inv X pins σ H s) : ∀ (d : D) {v : V} {u : Value} {n : Nat}, Rep X.K H v d → RelV v u → nest d = some n → NestedIs s.heap (nkD d) u
  | .non, _, _, _, r, q, _ => by cases r; cases q; exact .none
  | .int i, _, _, _, r, q, _ => by cases r; obtain ⟨t, rfl⟩ := q; exact .int i t
  | .str x, _, _, _, r, q, _ => by cases r; obtain ⟨t, rfl⟩ := q; exact .text x t
  | .tup ds, _, _, _, r, q, h => by
    cases r with
    | tup s1 r1 =>
      cases q
      obtain ⟨its, rv, ⟨o, ho, hc, n, hd⟩, _⟩ := I.tuple s1.s
      simp only [nest, Option.map_eq_some_iff] at h
      obtain ⟨m, e, _⟩ := h
      exact .tup ho hc hd (nks_is I ds r1 rv e)
  | .bl _, _, _, _, _, _, h => by simp [nest] at h
  | .ref _, _, _, _, _, _, h => by simp [nest] at h
  | .ty _, _, _, _, _, _, h => by simp [nest] at h
  | .lro _, _, _, _, _, _, h => by simp [nest] at h
theorem nks_is {pins : List (Addr × Obj)} {σ : L2.St} {H : Hp} {s : Shared} (I : Inv X pins σ H s) : ∀ (ds : List D) {vs : List V} {us : List Value} {n : Nat}, Reps X.K H vs ds → Vals vs us → nests ds = some n → NestedAll s.heap (nkDs ds) us
  | [], _, _, _, r, q, _ => by cases r; cases q; exact .nil
  | d :: ds, _, _, _, r, q, h => by
    cases r with
    | cons r1 r2 =>
      cases q with
      | cons q1 q2 =>
        unfold nests at h
        split at h
        · rename_i x y e1 e2
          exact .cons (nk_is I d r1 q1 e1) (nks_is I ds r2 q2 e2)
        · cases h
end
mutual
theorem nkD_inj : ∀ (d e : D) (m n : Nat), nest d = some m → nest e = some n → nkD d = nkD e → d = e
  | .non, e, _, _, _, h2, h => by cases e <;> simp [nkD, nest] at h h2 ⊢
  | .int _, e, _, _, _, h2, h => by cases e <;> simp [nkD, nest] at h h2 ⊢; exact h
  | .str _, e, _, _, _, h2, h => by cases e <;> simp [nkD, nest] at h h2 ⊢; exact h
  | .tup xs, e, _, _, h1, h2, h => by
    cases e <;> simp [nkD] at h
    rename_i ys
    simp only [nest, Option.map_eq_some_iff] at h1 h2
    obtain ⟨m, e1, _⟩ := h1
    obtain ⟨n, e2, _⟩ := h2
    rw [nkDs_inj xs ys m n e1 e2 h]
  | .bl _, _, _, _, h, _, _ => by simp [nest] at h
  | .ref _, _, _, _, h, _, _ => by simp [nest] at h
  | .ty _, _, _, _, h, _, _ => by simp [nest] at h
  | .lro _, _, _, _, h, _, _ => by simp [nest] at h
theorem nkDs_inj : ∀ (ds es : List D) (m n : Nat), nests ds = some m → nests es = some n → nkDs ds = nkDs es → ds = es
  | [], es, _, _, _, _, h => by cases es <;> simp [nkDs] at h ⊢
  | d :: ds, es, _, _, h1, h2, h => by
    cases es with
    | nil => simp [nkDs] at h
    | cons e es =>
      simp only [nkDs, List.cons.injEq] at h
      unfold nests at h1 h2
      split at h1
      · rename_i x y e1 e2
        split at h2
        · rename_i x' y' e1' e2'
          rw [nkD_inj d e _ _ e1 e1' h.1, nkDs_inj ds es _ _ e2 e2' h.2]
        · cases h2
      · cases h1
end
theorem nkOk_nest {d : D} (h : nkOk d = true) : ∃ xs n, d = .tup xs ∧ nest d = some n ∧ n ≤ 8 := by
  unfold nkOk at h
  split at h
  · split at h
    · rename_i n e
      exact ⟨_, n, rfl, e, of_decide_eq_true h⟩
    · cases h
  · cases h
end
/-- a key in hand, as the library wants it -/
theorem nk_at {pins : List (Addr × Obj)} {σ : L2.St} {H : Hp} {s : Shared} (I : Inv X pins σ H s) {d : D} {a : Addr} (r : Rep X.K H (.ref a) d) (h : nkOk d = true) : (nestedKind X.prog X.w).is s.heap (nkD d) a := by
  obtain ⟨xs, n, rfl, e, hn⟩ := nkOk_nest h
  exact ⟨nk_is I _ r rfl e, by rw [nk_depth _ _ e]; exact hn⟩
abbrev PDn (c : Cn) (H : Hp) : List Ent → List (D × D) → Prop := Paired fun p q => p.1 = nkD q.1 ∧ nkOk q.1 = true ∧ Rep c.K H (.ref p.2.1) q.1 ∧ Rep c.K H p.2.2 q.2
/-- the dict in hand, as the library wants it -/
theorem nd_of {pins : List (Addr × Obj)} {σ : L2.St} {H : Hp} {s : Shared} (I : Inv X pins σ H s) {a : Addr} {es : List Ent} {kvs : List (D × D)} (e : Rd H a (NDict (cn X CA) a es)) (p : PDn (cn X CA) H es kvs) :
    es.length ≤ sizeLine ∧ (a == sysModules) = false ∧ ∃ xs : List (NestedKey × Addr × Value), Paired (fun (p : Ent) (q : NestedKey × Addr × Value) => p.1 = q.1 ∧ p.2.1 = q.2.1 ∧ RelV p.2.2 q.2.2) es xs ∧ s.heap.DictOfH (nestedKind X.prog X.w) a xs := by
  obtain ⟨⟨z, hd, xs, pr, ⟨o, es', ep, ho, ex, hdat, hent⟩, nd⟩, _⟩ := e.ok I.hok
  refine ⟨z, hd, xs, pr, o, es', ep, ho, ex, hdat, hent, ?_, nd⟩
  have key : ∀ {es : List Ent} {xs : List (NestedKey × Addr × Value)} {kvs : List (D × D)}, Paired (fun (p : Ent) (q : NestedKey × Addr × Value) => p.1 = q.1 ∧ p.2.1 = q.2.1 ∧ RelV p.2.2 q.2.2) es xs → PDn (cn X CA) H es kvs → ∀ x ∈ xs, (nestedKind X.prog X.w).is s.heap x.1 x.2.1 := by
    intro es xs kvs h1
    induction h1 generalizing kvs with
    | nil => intro _ x hx; cases hx
    | cons a1 t ih =>
      intro h2 x hx
      cases h2 with
      | cons b1 t2 =>
        rcases List.mem_cons.mp hx with rfl | hx
        · rw [← a1.1, ← a1.2.1, b1.1]
          exact nk_at I b1.2.2.1 b1.2.1
        · exact ih t2 x hx
  exact key pr p
end
end DL

set_option Elab.async false
set_option linter.all false
set_option maxRecDepth 100000
set_option maxHeartbeats 4000000
/-! DE3: dicts by values; membership; subscripts; slices -/
namespace DL
open PySem PySem.Spec PyProof.Rows L2
section
variable {X : Cx} {CA : String → Addr} {XE : XK} {a b e : Expr} {es : List Expr} {f g h : WE} {fs : List WE} {pos : Pos}
abbrev PEx : List Ent → List (NestedKey × Addr × Value) → Prop := Paired fun (p : Ent) (q : NestedKey × Addr × Value) => p.1 = q.1 ∧ p.2.1 = q.2.1 ∧ RelV p.2.2 q.2.2
/-- what stands at a key -/
theorem nd_at {c : Cn} {H : Hp} {k : D} (hk : nkOk k = true) : ∀ {es : List Ent} {xs : List (NestedKey × Addr × Value)} {kvs : List (D × D)}, PEx es xs → PDn c H es kvs →
    (∀ d, lk kvs k = some d → ∃ b v u, atKey xs (nkD k) = some (b, u) ∧ RelV v u ∧ Rep c.K H v d) ∧ (lk kvs k = none → atKey xs (nkD k) = none)
  | _, _, _, .nil, .nil => ⟨fun _ e => by simp [lk] at e, fun _ => rfl⟩
  | _, _, _, .cons (a := p) (b := x) h1 t1, .cons (b := q) h2 t2 => by
    have ih := nd_at hk t1 t2
    obtain ⟨_, m, _, em, _⟩ := nkOk_nest hk
    obtain ⟨_, n, _, en, _⟩ := nkOk_nest h2.2.1
    have hx : x.1 = nkD q.1 := by rw [← h1.1, h2.1]
    unfold lk
    by_cases e : q.1 = k
    · rw [if_pos e]
      have e' : x.1 = nkD k := by rw [hx, e]
      refine ⟨fun d z => ⟨x.2.1, p.2.2, x.2.2, ?_, h1.2.2, ?_⟩, nofun⟩
      · simp [atKey, e']
      · cases z; exact h2.2.2.2
    · rw [if_neg e]
      have e' : ¬ x.1 = nkD k := fun z => e (nkD_inj q.1 k _ _ en em (by rw [← hx, z]))
      have e2 : ∀ r, atKey (x :: r) (nkD k) = atKey r (nkD k) := fun r => by simp [atKey, e']
      rw [e2]
      exact ih
/-- a nested dict is asked -/
def rInDN (c : Cn) : R2 := fun x y H Q => ∃ a b es kvs k, y = .ref a ∧ x = .ref b ∧ Rd H a (NDict c a es) ∧ PDn c H es kvs ∧ Rep c.K H (.ref b) k ∧ nkOk k = true ∧ Q (.bl (lk kvs k).isSome) H
def rNotInDN (c : Cn) : R2 := fun x y H Q => ∃ a b es kvs k, y = .ref a ∧ x = .ref b ∧ Rd H a (NDict c a es) ∧ PDn c H es kvs ∧ Rep c.K H (.ref b) k ∧ nkOk k = true ∧ Q (.bl (!(lk kvs k).isSome)) H
theorem room_n {A : Around} {k : Nat} (hr : Room k A) : (nestedKind X.prog X.w).room A.in1 := by
  show A.units + 1 + 8 < cLine
  have := hr.units
  omega
theorem isSome_nd {c : Cn} {H : Hp} {k : D} {es : List Ent} {xs : List (NestedKey × Addr × Value)} {kvs : List (D × D)} (hk : nkOk k = true) (h1 : PEx es xs) (h2 : PDn c H es kvs) : (atKey xs (nkD k)).isSome = (lk kvs k).isSome := by
  have q := nd_at hk h1 h2
  cases e : lk kvs k with
  | none => rw [q.2 e]; rfl
  | some d => obtain ⟨_, _, _, z, _⟩ := q.1 d e; rw [z]; rfl
theorem op_inDN {k : Nat} (hr : Room k X.A) : OpR X (compareOp .In) (rInDN (cn X CA)) := by
  intro pins s σ H x y v u Q I rx ry h
  obtain ⟨a, b, es, kvs, k, rfl, rfl, e, p, r, hk, q⟩ := h
  cases ry; cases rx
  obtain ⟨z, hd, xs, pr, dd⟩ := nd_of I e p
  refine wpAny_in_heap (room_n hr) (nk_at I r hk) hd dd ?_
  rw [isSome_nd hk pr p]
  exact ⟨.bl _, H, I.tok _, rfl, q⟩
theorem op_notInDN {k : Nat} (hr : Room k X.A) : OpR X (compareOp .NotIn) (rNotInDN (cn X CA)) := by
  intro pins s σ H x y v u Q I rx ry h
  obtain ⟨a, b, es, kvs, k, rfl, rfl, e, p, r, hk, q⟩ := h
  cases ry; cases rx
  obtain ⟨z, hd, xs, pr, dd⟩ := nd_of I e p
  refine PySem.notIn_keyed (kvs := pairsH xs) (room_n hr) (nk_at I r hk) hd ⟨xs, dd, rfl⟩ ?_
  rw [valueAt_pairsH, Option.isSome_map, isSome_nd hk pr p]
  exact ⟨.bl _, H, I.tok _, rfl, q⟩
def rInA (c : Cn) : R2 := fun x y H Q => rIn c.K false x y H Q ∨ ((∃ i j, x = .str i ∧ y = .str j ∧ Q (.bl (!(Builtin.Str.occurrences j i 0 j.length 1).isEmpty)) H) ∨ (rInDK x y H Q ∨ rInDN c x y H Q))
def rNotInA (c : Cn) : R2 := fun x y H Q => rIn c.K true x y H Q ∨ ((∃ i j, x = .str i ∧ y = .str j ∧ Q (.bl (!(!(Builtin.Str.occurrences j i 0 j.length 1).isEmpty))) H) ∨ (rNotInDK x y H Q ∨ rNotInDN c x y H Q))
theorem op_inA {k : Nat} (hr : Room k X.A) : OpR X (compareOp .In) (rInA (cn X CA)) := op_in_seq.or (op_in_str.or ((op_inDK (hu_of hr)).or (op_inDN hr)))
theorem op_notInA {k : Nat} (hr : Room k X.A) : OpR X (compareOp .NotIn) (rNotInA (cn X CA)) := op_notIn_seq.or (L2.op_notIn_str.or ((op_notInDK (hu_of hr)).or (op_notInDN hr)))
theorem inS0 {c : Cn} {v1 v2 : V} {d1 d2 : D} {M : Sto} {H : Hp} {kd : Bool → Prop} {Q1 Q2 Q3 Q4 : Bool → Prop} (r1 : Rep c.K H v1 d1) (r2 : Rep c.K H v2 d2) (hR : R c M H) (h : cIn d1 d2 M kd) :
    (∃ p xs, v2 = .ref p ∧ (SqL c.K H p xs ∨ SqT c.K H p xs) ∧ flatV v1 = true ∧ xs.all flatV = true ∧ kd (L2.inV v1 xs)) ∨
    (∃ i j, v1 = .str i ∧ v2 = .str j ∧ kd (!(Builtin.Str.occurrences j i 0 j.length 1).isEmpty)) ∨
    (∃ a kvs k, v2 = .ref a ∧ Rd H a (.dK kvs) ∧ v1 = kV k ∧ kd (valV kvs k).isSome) ∨
    (∃ a b es kvs k, v2 = .ref a ∧ v1 = .ref b ∧ Rd H a (NDict c a es) ∧ PDn c H es kvs ∧ Rep c.K H (.ref b) k ∧ nkOk k = true ∧ kd (lk kvs k).isSome) := by
  unfold cIn at h
  split at h
  · cases r2 with
    | tup s2 p2 => exact .inl ⟨_, _, rfl, .inr s2.s, r1.flat h.1, p2.flat h.2.1, by rw [p2.inV r1 h.1 h.2.1]; exact h.2.2⟩
  · split at h
    · cases r1; cases r2
      exact .inr (.inl ⟨_, _, rfl, rfl, h⟩)
    · exact h.elim
  · cases r2
    split at h
    · rename_i xs e
      obtain ⟨vs, h1, p1⟩ := hR _ _ e
      exact .inl ⟨_, _, rfl, .inl (SqL.of h1), r1.flat h.1, p1.flat h.2.1, by rw [p1.inV r1 h.1 h.2.1]; exact h.2.2⟩
    · rename_i o _ e
      unfold dLk at h
      split at h
      · split at h
        · rename_i κ ek
          obtain ⟨vs, h1, p1⟩ := (hR _ _ e).dk_rd (by assumption)
          refine .inr (.inr (.inl ⟨_, vs, κ, rfl, h1, r1.key ek, ?_⟩))
          have q := lk_val κ p1
          cases el : lk _ κ with
          | none => rw [q.2 el]; rw [el] at h; exact h
          | some d => obtain ⟨v, ev, _⟩ := q.1 d el; rw [ev]; rw [el] at h; exact h
        · exact h.elim
      · obtain ⟨es, h1, p1⟩ := (hR _ _ e).dn_rd (by assumption)
        obtain ⟨hk, h⟩ := h
        obtain ⟨xs, n, rfl, _, _⟩ := nkOk_nest hk
        cases r1 with
        | tup s1 q1 => exact .inr (.inr (.inr ⟨_, _, es, _, _, rfl, rfl, h1, p1, .tup s1 q1, hk, h⟩))
      · exact h.elim
    · exact h.elim
  · exact h.elim
theorem inS {c : Cn} : CmpS c cIn (rInA c) := by
  intro v1 v2 d1 d2 M H kd Q r1 r2 hR h k
  rcases inS0 (Q1 := fun _ => True) (Q2 := fun _ => True) (Q3 := fun _ => True) (Q4 := fun _ => True) r1 r2 hR h with ⟨p, xs, e, s, x, y, z⟩ | ⟨i, j, e1, e2, z⟩ | ⟨a, kvs, k', e1, e2, e3, z⟩ | ⟨a, b, es, kvs, k', e1, e2, e3, e4, e5, e6, z⟩
  · exact .inl ⟨p, xs, e, s, x, y, k _ z⟩
  · exact .inr (.inl ⟨i, j, e1, e2, k _ z⟩)
  · exact .inr (.inr (.inl ⟨a, kvs, k', e1, e2, e3, k _ z⟩))
  · exact .inr (.inr (.inr ⟨a, b, es, kvs, k', e1, e2, e3, e4, e5, e6, k _ z⟩))
theorem notInS {c : Cn} : CmpS c cNotIn (rNotInA c) := by
  intro v1 v2 d1 d2 M H kd Q r1 r2 hR h k
  rcases inS0 (Q1 := fun _ => True) (Q2 := fun _ => True) (Q3 := fun _ => True) (Q4 := fun _ => True) r1 r2 hR (show cIn d1 d2 M fun b => kd (!b) from h) with ⟨p, xs, e, s, x, y, z⟩ | ⟨i, j, e1, e2, z⟩ | ⟨a, kvs, k', e1, e2, e3, z⟩ | ⟨a, b, es, kvs, k', e1, e2, e3, e4, e5, e6, z⟩
  · exact .inl ⟨p, xs, e, s, x, y, k _ z⟩
  · exact .inr (.inl ⟨i, j, e1, e2, k _ z⟩)
  · exact .inr (.inr (.inl ⟨a, kvs, k', e1, e2, e3, k _ z⟩))
  · exact .inr (.inr (.inr ⟨a, b, es, kvs, k', e1, e2, e3, e4, e5, e6, k _ z⟩))
/-! ## subscripts -/
theorem atI_rep {K : PySem.W.Frag} {H : Hp} {vs : List V} {ds : List D} {i : Int} {d : D} (r : Reps K H vs ds) (h : atI ds i = some d) : ∃ v, atI vs i = some v ∧ Rep K H v d := by
  unfold atI at h ⊢
  rw [r.length]
  cases e : ixN ds.length i with
  | none => rw [e] at h; cases h
  | some j =>
    rw [e] at h
    obtain ⟨v, e1, r1⟩ := r.get (show ds[j]? = some d from h)
    exact ⟨v, e1, r1⟩
theorem ix_dk (hu : X.A.units + 1 < cLine) : IxR X (fun x y H Q => ∃ a kvs k v, x = .ref a ∧ y = kV k ∧ Rd H a (.dK kvs) ∧ valV kvs k = some v ∧ Q v H) := by
  intro value slice pins s σ H x y v u Q I rx ry h hs
  obtain ⟨a, kvs, k, z, rfl, rfl, e, el, q⟩ := h
  cases rx
  refine tail_any (dict_typeIs I ((.inl ⟨kvs, k, e, rfl, rfl⟩ : DGet H a (kV k) (valV kvs k)))) PySem.slot_dict_getitem.lookup (d_getItem hu I (by rw [← el]; exact .inl ⟨kvs, k, e, rfl, rfl⟩) ry fun w' s' I' rw' => ⟨z, H, I', rw', q⟩) hs
theorem ix_dn {k : Nat} (hr : Room k X.A) : IxR X (fun x y H Q => ∃ a b es kvs k, x = .ref a ∧ y = .ref b ∧ Rd H a (NDict (cn X CA) a es) ∧ PDn (cn X CA) H es kvs ∧ Rep X.K H (.ref b) k ∧ nkOk k = true ∧ ∃ d, lk kvs k = some d ∧ ∀ v, Rep X.K H v d → Q v H) := by
  intro value slice pins s σ H x y v u Q I rx ry h hs
  obtain ⟨a, b, es, kvs, k, rfl, rfl, e, p, r, hk, d, el, q⟩ := h
  cases rx; cases ry
  obtain ⟨z, hd, xs, pr, dd⟩ := nd_of I e p
  obtain ⟨b', v', u', e1, rv, rd⟩ := (nd_at hk pr p).1 d el
  refine tail_any dd.typeIs PySem.slot_dict_getitem.lookup (PySem.getItem_keyed (kvs := pairsH xs) (room_n hr) (nk_at I r hk) ⟨xs, dd, rfl⟩ (v := u') (by rw [valueAt_pairsH, e1]; rfl) ?_) hs
  exact ⟨v', H, I.tok _, rv, q v' rd⟩
theorem IxR.or {r r' : R2} (h : IxR X r) (h' : IxR X r') : IxR X fun x y H Q => r x y H Q ∨ r' x y H Q := by
  intro value slice pins s σ H x y v u Q I rx ry q hs
  rcases q with q | q
  · exact h value slice pins s σ H x y v u Q I rx ry q hs
  · exact h' value slice pins s σ H x y v u Q I rx ry q hs
def rSubA (c : Cn) : R2 := fun x y H Q => rIx c.K x y H Q ∨ ((∃ a kvs k v, x = .ref a ∧ y = kV k ∧ Rd H a (.dK kvs) ∧ valV kvs k = some v ∧ Q v H) ∨
  ∃ a b es kvs k, x = .ref a ∧ y = .ref b ∧ Rd H a (NDict c a es) ∧ PDn c H es kvs ∧ Rep c.K H (.ref b) k ∧ nkOk k = true ∧ ∃ d, lk kvs k = some d ∧ ∀ v, Rep c.K H v d → Q v H)
theorem ix_A {k : Nat} (hr : Room k X.A) : IxR X (rSubA (cn X CA)) := IxR.or ix_seq (IxR.or (ix_dk (hu_of hr)) (ix_dn hr))
theorem subDS {c : Cn} {v1 v2 : V} {d1 d2 : D} {M : Sto} {H : Hp} {kd : D → Prop} {Q : VK} (r1 : Rep c.K H v1 d1) (r2 : Rep c.K H v2 d2) (hR : R c M H) (h : subD d1 d2 M kd) (k : ∀ d v, kd d → Rep c.K H v d → Q v H) : rSubA c v1 v2 H Q := by
  unfold subD at h
  split at h
  · split at h
    · unfold at' at h
      split at h
      · rename_i xs i d e
        cases r2
        cases r1 with
        | tup s1 p1 =>
          obtain ⟨v, e1, rv⟩ := atI_rep p1 e
          exact .inl (.inr (.inl ⟨_, _, _, v, rfl, rfl, s1.s, e1, k d v h rv⟩))
      · exact h.elim
    · exact h.elim
  · split at h
    · unfold at' at h
      split at h
      · rename_i xs i d e
        cases r2
        cases r1 with
        | lro s1 p1 =>
          obtain ⟨v, e1, rv⟩ := atI_rep p1 e
          exact .inl (.inl ⟨_, _, _, v, rfl, rfl, s1.l, e1, k d v h rv⟩)
      · exact h.elim
    · exact h.elim
  · split at h
    · obtain ⟨hz, h⟩ := h
      split at h
      · cases r1; cases r2
        exact .inl (.inr (.inr ⟨_, _, _, rfl, rfl, hz, by assumption, k _ _ h (.str _)⟩))
      · exact h.elim
    · exact h.elim
  · split at h
    · rename_i xs e
      split at h
      · unfold at' at h
        split at h
        · rename_i i d el
          cases r1; cases r2
          obtain ⟨vs, h1, p1⟩ := hR _ _ e
          obtain ⟨v, e1, rv⟩ := atI_rep p1 el
          exact .inl (.inl ⟨_, _, _, v, rfl, rfl, SqL.of h1, e1, k d v h rv⟩)
        · exact h.elim
      · exact h.elim
    · rename_i o _ e
      unfold dLk at h
      split at h
      · split at h
        · rename_i κ ek
          split at h
          · rename_i d el
            obtain ⟨vs, h1, p1⟩ := (hR _ _ e).dk_rd (by assumption)
            obtain ⟨v, ev, rv⟩ := (lk_val κ p1).1 d el
            cases r1
            exact .inr (.inl ⟨_, vs, κ, v, rfl, r2.key ek, h1, ev, k d v h rv⟩)
          · exact h.elim
        · exact h.elim
      · obtain ⟨hk, h⟩ := h
        split at h
        · rename_i d el
          obtain ⟨es, h1, p1⟩ := (hR _ _ e).dn_rd (by assumption)
          obtain ⟨xs, n, rfl, _, _⟩ := nkOk_nest hk
          cases r1
          cases r2 with
          | tup s1 q1 => exact .inr (.inr ⟨_, _, es, _, _, rfl, rfl, h1, p1, .tup s1 q1, hk, d, el, fun v rv => k d v h rv⟩)
        · exact h.elim
      · exact h.elim
    · exact h.elim
  · exact h.elim
theorem d_sub_ {k : Nat} (hr : Room k X.A) (ha : SE X CA XE a f) (hb : SE X CA XE b g) (hs : PlainIx b := by exact fun _ _ => rfl) : SE X CA XE (.Subscript a b pos) (eSub f g) :=
  PE_weak (pe_ix (ix_A hr) ha hb hs) fun σ H Q ⟨env, M, Ed, Qd, p, q, kq⟩ => ⟨env, M, Ed, _, p, q, fun d1 M1 v1 H1 q1 r1 R1 T1 => ⟨env, M1, Ed, _, p.to T1 R1, q1, fun d2 M2 v2 H2 q2 r2 R2 T2 =>
    subDS (r1.m T2) r2 R2 q2 fun d v q3 r3 => kq _ _ _ _ q3 r3 R2 (T1.trans T2)⟩⟩
end
end DL

set_option Elab.async false
set_option linter.all false
set_option maxRecDepth 100000
set_option maxHeartbeats 4000000
/-! DE4: tests; slices; built-ins; lists; dicts -/
namespace DL
open PySem PySem.Spec PyProof.Rows L2
section
variable {X : Cx} {CA : String → Addr} {XE : XK} {a b e : Expr} {es rest : List Expr} {f g h : WE} {fs : List WE} {pos p : Pos} {t u : WT} {x : Str}
/-! ## tests -/
theorem truS {c : Cn} {v : V} {d : D} {M : Sto} {H : Hp} {kd : Bool → Prop} {Q : Bool → Hp → Prop} (r : Rep c.K H v d) (hR : R c M H) (h : truD d M kd) (k : ∀ b, kd b → Q b H) : ∃ b, TruV c.K v H b ∧ Q b H := by
  unfold truD at h
  split at h
  · cases r; exact ⟨_, rfl, k _ h⟩
  · cases r; exact ⟨_, rfl, k _ h⟩
  · cases r; exact ⟨_, rfl, k _ h⟩
  · cases r; exact ⟨_, ⟨h.1, rfl⟩, k _ h.2⟩
  · cases r with
    | tup s q => exact ⟨_, .inr (.inl ⟨_, s.s, by cases q <;> rfl⟩), k _ h⟩
  · cases r with
    | lro s q => exact ⟨_, .inl ⟨_, s.l, by cases q <;> rfl⟩, k _ h⟩
  · cases r
    split at h
    · obtain ⟨vs, h1, q⟩ := hR _ _ (by assumption)
      exact ⟨_, .inl ⟨_, SqL.of h1, by cases q <;> rfl⟩, k _ h⟩
    · obtain ⟨vs, h1, q⟩ := hR _ _ (by assumption)
      exact ⟨_, .inr (.inr ⟨_, h1, by cases q <;> rfl⟩), k _ h⟩
    · exact h.elim
  · exact h.elim
theorem t_tru (ha : SE X CA XE a f) (he : ∀ whole, isTrue a X.env whole = (do let v ← whole; standAt a.pos; holding [v] (truthy v)) := by intro _; rfl) : ST X CA XE a (tTru f) :=
  PT_weak (pt_truth ha he) fun σ H Q ⟨env, M, Ed, Qd, p, q, k⟩ => ⟨env, M, Ed, _, p, q, fun d M1 v H1 q1 r1 R1 T1 => truS (c := cn X CA) r1 R1 q1 fun b q2 => k _ _ _ q2 R1 T1⟩
theorem t_w (h : SW X CA XE a t) : ST X CA XE a t := ⟨h.run _⟩
theorem w_and1 (ha : ST X CA XE a t) : SW X CA XE (.BoolOp .And [a] pos) t := pw_and1 ha
theorem w_or1 (ha : ST X CA XE a t) : SW X CA XE (.BoolOp .Or [a] pos) t := pw_or1 ha
theorem w_and (ha : ST X CA XE a t) (hb : SW X CA XE (.BoolOp .And (b :: rest) pos) u) : SW X CA XE (.BoolOp .And (a :: b :: rest) pos) (tAnd t u) :=
  PW_weak (pw_and ha hb) fun σ H Q ⟨env, M, Ed, Qd, p, q, k⟩ => ⟨env, M, Ed, _, p, q, fun c M1 H1 q1 R1 T1 => by
    cases c with
    | true => exact ⟨env, M1, Ed, _, p.to T1 R1, q1, fun b M2 H2 q2 R2 T2 => k _ _ _ q2 R2 (T1.trans T2)⟩
    | false => exact k _ _ _ q1 R1 T1⟩
theorem w_or (ha : ST X CA XE a t) (hb : SW X CA XE (.BoolOp .Or (b :: rest) pos) u) : SW X CA XE (.BoolOp .Or (a :: b :: rest) pos) (tOr t u) :=
  PW_weak (pw_or ha hb) fun σ H Q ⟨env, M, Ed, Qd, p, q, k⟩ => ⟨env, M, Ed, _, p, q, fun c M1 H1 q1 R1 T1 => by
    cases c with
    | false => exact ⟨env, M1, Ed, _, p.to T1 R1, q1, fun b M2 H2 q2 R2 T2 => k _ _ _ q2 R2 (T1.trans T2)⟩
    | true => exact k _ _ _ q1 R1 T1⟩
theorem t_not (ha : ST X CA XE a t) : ST X CA XE (.UnaryOp .Not a pos) (tNot t) :=
  PT_weak (pt_not ha) fun σ H Q ⟨env, M, Ed, Qd, p, q, k⟩ => ⟨env, M, Ed, _, p, q, fun c M1 H1 q1 R1 T1 => k _ _ _ q1 R1 T1⟩
theorem t_chain {op op' : CmpOp} {r r' : R2} {c2 c2' : C2} {c : Expr} (ho : OpR X (compareOp op) r) (hs : CmpS (cn X CA) c2 r) (ho' : OpR X (compareOp op') r') (hs' : CmpS (cn X CA) c2' r') (ha : SE X CA XE a f) (hb : SE X CA XE b g) (hc : SE X CA XE c h)
    (hm : lastMarks [op, op'] [b, c] = false := by rfl) : ST X CA XE (.Compare a [op, op'] [b, c] pos) (tChain c2 c2' f g h) :=
  PT_weak (pt_chain ho ho' ha hb hc hm) fun σ H Q ⟨env, M, Ed, Qd, p, q, k⟩ => ⟨env, M, Ed, _, p, q, fun d1 M1 v1 H1 q1 r1 R1 T1 => ⟨env, M1, Ed, _, p.to T1 R1, q1, fun d2 M2 v2 H2 q2 r2 R2 T2 =>
    hs _ _ _ _ _ _ _ _ (r1.m T2) r2 R2 q2 fun b q3 => ⟨b, rfl, by
      cases b with
      | true => exact ⟨env, M2, Ed, _, p.to (T1.trans T2) R2, q3, fun d3 M3 v3 H3 q4 r3 R3 T3 => hs' _ _ _ _ _ _ _ _ (r2.m T3) r3 R3 q4 fun b' q5 => ⟨b', rfl, k _ _ _ q5 R3 (T1.trans (T2.trans T3))⟩⟩
      | false => exact ⟨false, rfl, k _ _ _ q3 R2 (T1.trans T2)⟩⟩⟩⟩
/-! as values -/
theorem d_one {op} (h : SE X CA XE a f) : SE X CA XE (.BoolOp op [a] pos) f := pe_one h
theorem d_and (ha : SE X CA XE a f) (hb : SE X CA XE (.BoolOp .And (b :: rest) pos) g) : SE X CA XE (.BoolOp .And (a :: b :: rest) pos) (eAnd f g) :=
  PE_weak (pe_and ha hb) fun σ H Q ⟨env, M, Ed, Qd, p, q, k⟩ => ⟨env, M, Ed, _, p, q, fun d M1 v H1 q1 r1 R1 T1 => by
    split at q1
    · rename_i c
      cases r1
      refine ⟨c, rfl, ?_⟩
      cases c with
      | true => exact ⟨env, M1, Ed, _, p.to T1 R1, q1, k.mono T1⟩
      | false => exact k _ _ _ _ q1 (.bl _) R1 T1
    · exact q1.elim⟩
theorem d_or (ha : SE X CA XE a f) (hb : SE X CA XE (.BoolOp .Or (b :: rest) pos) g) : SE X CA XE (.BoolOp .Or (a :: b :: rest) pos) (eOr f g) :=
  PE_weak (pe_or ha hb) fun σ H Q ⟨env, M, Ed, Qd, p, q, k⟩ => ⟨env, M, Ed, _, p, q, fun d M1 v H1 q1 r1 R1 T1 => by
    split at q1
    · rename_i c
      cases r1
      refine ⟨c, rfl, ?_⟩
      cases c with
      | false => exact ⟨env, M1, Ed, _, p.to T1 R1, q1, k.mono T1⟩
      | true => exact k _ _ _ _ q1 (.bl _) R1 T1
    · exact q1.elim⟩
/-- and, or of truths as a value: a value that is a bool -/
theorem d_notB (ha : SE X CA XE a f) : SE X CA XE (.UnaryOp .Not a pos) (eNotB f) :=
  PE_weak (pe_not ha) fun σ H Q ⟨env, M, Ed, Qd, p, q, k⟩ => ⟨env, M, Ed, _, p, q, fun d M1 v H1 q1 r1 R1 T1 => by
    split at q1
    · cases r1
      exact ⟨_, rfl, k _ _ _ _ q1 (.bl _) R1 T1⟩
    · exact q1.elim⟩
theorem d_ifE {c : Expr} (hc : ST X CA XE c t) (ha : SE X CA XE a f) (hb : SE X CA XE b g) : SE X CA XE (.IfExp c a b pos) (eIf t f g) :=
  PE_weak (pe_ifExp hc ha hb) fun σ H Q ⟨env, M, Ed, Qd, p, q, k⟩ => ⟨env, M, Ed, _, p, q, fun d M1 H1 q1 R1 T1 => by
    cases d with
    | true => exact ⟨env, M1, Ed, _, p.to T1 R1, q1, k.mono T1⟩
    | false => exact ⟨env, M1, Ed, _, p.to T1 R1, q1, k.mono T1⟩⟩
/-! ## slices -/
def tOfO (c : Cn) (XE : XK) (o : Option WE) : TO := fun σ H Q => ∃ env M Ed Qd, Pre c XE σ H env M Ed ∧ optW o Ed env M Qd ∧ ∀ i M' H', Qd i M' → R c M' H' → Tups c.K H H' → Q i H'
def SO (X : Cx) (CA : String → Addr) (XE : XK) (e : Option Expr) (o : Option WE) : Prop := PO X e (tOfO (cn X CA) XE o)
theorem PO_weak {o : Option Expr} {t t' : TO} (h : PO X o t) (w : ∀ σ H Q, t' σ H Q → t σ H Q) : PO X o t' := ⟨fun pins s σ H Q I q => h.run pins s σ H Q I (w σ H Q q)⟩
theorem o_none : SO X CA XE none none := PO_weak po_none fun σ H Q ⟨env, M, Ed, Qd, p, q, k⟩ => k _ _ _ q p.r .refl
theorem o_some (ha : SE X CA XE a f) : SO X CA XE (some a) (some f) :=
  PO_weak (po_some ha) fun σ H Q ⟨env, M, Ed, Qd, p, q, k⟩ => ⟨env, M, Ed, _, p, q, fun d M1 v H1 q1 r1 R1 T1 => by
    split at q1
    · cases r1
      exact ⟨_, rfl, k _ _ _ q1 R1 T1⟩
    · exact q1.elim⟩
def rSlAll (K : PySem.W.Frag) : V → Option Int → Option Int → Hp → VK → Prop := fun x lo hi H Q => rSlL K x lo hi H Q ∨ rSlF K x lo hi H Q
theorem sl_all : SlR X (rSlAll X.K) := SlR.or sl_list sl_tupF
theorem cut_reps {K : PySem.W.Frag} {H : Hp} {vs : List V} {ds : List D} (r : Reps K H vs ds) (lo hi : Option Int) : Reps K H (cutV vs lo hi) (cut ds lo hi) := by
  unfold cutV cut
  rw [r.length]
  exact (r.drop _).take _
theorem slS {c : Cn} {v : V} {d : D} {M : Sto} {H : Hp} {lo hi : Option Int} {Qd : KD} {Q : VK} (r : Rep c.K H v d) (hR : R c M H) (h : slD d lo hi M Qd) (k : KQ c H Qd Q) : rSlAll c.K v lo hi H Q := by
  unfold slD at h
  split at h
  · rename_i ds
    cases r with
    | @tup a vs _ s q =>
      refine .inr ⟨_, _, rfl, s.s, fun hw => ?_, fun hw p its hp => ?_⟩
      · have e : cut ds lo hi = ds := by
          unfold cut
          rw [← q.length, hw.1, hw.2, List.drop_zero, Nat.sub_zero, q.length, List.take_length]
        rw [e] at h
        exact k _ _ _ _ h (.tup s q) hR .refl
      · obtain ⟨x, y, z⟩ := lay_tup hp (cut_reps q lo hi) hR
        exact k _ _ _ _ h x y z
  · cases r with
    | lro s q =>
      refine .inl ⟨_, _, rfl, s.l, fun p hp => ?_⟩
      obtain ⟨x, y⟩ := lay_lst hp (cut_reps q lo hi) hR
      exact k _ _ _ _ (h p (hR.fresh hp)) (.ref p) x y
  · cases r
    split at h
    · obtain ⟨vs, h1, q⟩ := hR _ _ (by assumption)
      refine .inl ⟨_, _, rfl, SqL.of h1, fun p hp => ?_⟩
      obtain ⟨x, y⟩ := lay_lst hp (cut_reps q lo hi) hR
      exact k _ _ _ _ (h p (hR.fresh hp)) (.ref p) x y
    · exact h.elim
  · exact h.elim
theorem d_slice {lo hi : Option Expr} {l u : Option WE} {p2 : Pos} (ha : SE X CA XE a f) (hl : SO X CA XE lo l) (hu : SO X CA XE hi u) : SE X CA XE (.Subscript a (.Slice lo hi none p2) pos) (eSl f l u) :=
  PE_weak (pe_slice sl_all ha hl hu) fun σ H Q ⟨env, M, Ed, Qd, p, q, k⟩ => ⟨env, M, Ed, _, p, q, fun d M1 v H1 q1 r1 R1 T1 => ⟨env, M1, Ed, _, p.to T1 R1, q1, fun i M2 H2 q2 R2 T2 =>
    ⟨env, M2, Ed, _, p.to (T1.trans T2) R2, q2, fun j M3 H3 q3 R3 T3 => slS (c := cn X CA) (r1.m (T2.trans T3)) R3 q3 (k.mono (T1.trans (T2.trans T3)))⟩⟩⟩
theorem d_rev {k : Nat} {p1 p2 p3 : Pos} (ha : SE X CA XE a f) : SE X CA XE (.Subscript a (.Slice none none (some (.UnaryOp .USub (.Constant (.int 1) k p1) p2)) p3) pos) (eRev f) :=
  PE_weak (pe_revF ha) fun σ H Q ⟨env, M, Ed, Qd, p, q, k⟩ => ⟨env, M, Ed, _, p, q, fun d M1 v H1 q1 r1 R1 T1 => by
    unfold revD at q1
    split at q1
    · cases r1 with
      | tup s r =>
        refine ⟨_, _, rfl, .inl ⟨s.s, fun p its hp => ?_⟩⟩
        obtain ⟨x, y, z⟩ := lay_tup hp r.reverse R1
        exact k _ _ _ _ q1 x y (T1.trans z)
    · cases r1
      split at q1
      · obtain ⟨vs, h1, r⟩ := R1 _ _ (by assumption)
        refine ⟨_, _, rfl, .inr ⟨SqL.of h1, fun p hp => ?_⟩⟩
        obtain ⟨x, y⟩ := lay_lst hp r.reverse R1
        exact k _ _ _ _ (q1 p (R1.fresh hp)) (.ref p) x (T1.trans y)
      · exact q1.elim
    · exact q1.elim⟩
/-! ## calls of built-ins by one argument -/
theorem d_b1 {G : D → Sto → KD → Prop} {id : String} {r : List V → Hp → VK → Prop} (hc : CallR X (.builtin id) r) (hs : ∀ v d M H Qd Q, Rep X.K H v d → R (cn X CA) M H → G d M Qd → KQ (cn X CA) H Qd Q → r [v] H Q)
    (hg : Gl X x) (hm : X.mg x = none) (hv : bootBuiltins x = some (.builtin id)) (ha : SE X CA XE a f) (hn : x ≠ "__name__" := by decide) (hdb : (x == ("__debug__" : Str)) = false := by decide)
    (he : starEach [a] X.env = (false, eval a X.env) :: starEach [] X.env := by rfl) (hpl : (backTo pos (starEach [] X.env)).any (·.1) = false := by rfl) :
    SE X CA XE (.Call (.Name x p) [a] [] pos) (fun E env M Q => f E env M fun d M1 => G d M1 Q) :=
  PE_weak (pe_callB hc hg hm hv (pa_cons ha pa_nil he) hn hdb he hpl) fun σ H Q ⟨env, M, Ed, Qd, p, q, k⟩ => ⟨env, M, Ed, _, p, q, fun d M1 v H1 q1 r1 R1 T1 => hs _ _ _ _ _ _ r1 R1 q1 (k.mono T1)⟩
theorem d_ty1 {G : D → Sto → KD → Prop} {id : String} {r : List V → Hp → VK → Prop} (hc : CallR X (.type id) r) (hs : ∀ v d M H Qd Q, Rep X.K H v d → R (cn X CA) M H → G d M Qd → KQ (cn X CA) H Qd Q → r [v] H Q)
    (hg : Gl X x) (hm : X.mg x = none) (hv : bootBuiltins x = some (.type id)) (ha : SE X CA XE a f) (hn : x ≠ "__name__" := by decide) (hdb : (x == ("__debug__" : Str)) = false := by decide)
    (he : starEach [a] X.env = (false, eval a X.env) :: starEach [] X.env := by rfl) (hpl : (backTo pos (starEach [] X.env)).any (·.1) = false := by rfl) :
    SE X CA XE (.Call (.Name x p) [a] [] pos) (fun E env M Q => f E env M fun d M1 => G d M1 Q) :=
  PE_weak (pe_callTy hc hg hm hv (pa_cons ha pa_nil he) hn hdb he hpl) fun σ H Q ⟨env, M, Ed, Qd, p, q, k⟩ => ⟨env, M, Ed, _, p, q, fun d M1 v H1 q1 r1 R1 T1 => hs _ _ _ _ _ _ r1 R1 q1 (k.mono T1)⟩
theorem d_len (hm : X.mg "len" = none) (ha : SE X CA XE a f) (hg : Gl X "len" := by rfl) (he : starEach [a] X.env = (false, eval a X.env) :: starEach [] X.env := by rfl) (hpl : (backTo pos (starEach [] X.env)).any (·.1) = false := by rfl) : SE X CA XE (.Call (.Name "len" p) [a] [] pos) (eLen f) :=
  d_b1 (G := fun d M Q => lenD d M fun n => Q (.int n) M) call_len (fun v d M H Qd Q r1 hR h k => by
    unfold lenD at h
    split at h
    · cases r1; exact ⟨_, _, rfl, ⟨h.1, rfl⟩, k _ _ _ _ h.2 (.int _) hR .refl⟩
    · cases r1 with
      | tup s q => exact ⟨_, _, rfl, .inr ⟨_, s.s, rfl⟩, k _ _ _ _ (by rw [q.length]; exact h) (.int _) hR .refl⟩
    · cases r1 with
      | lro s q => exact ⟨_, _, rfl, .inl ⟨_, s.l, rfl⟩, k _ _ _ _ (by rw [q.length]; exact h) (.int _) hR .refl⟩
    · cases r1
      split at h
      · obtain ⟨vs, h1, q⟩ := hR _ _ (by assumption)
        exact ⟨_, _, rfl, .inl ⟨_, SqL.of h1, rfl⟩, k _ _ _ _ (by rw [q.length]; exact h) (.int _) hR .refl⟩
      · exact h.elim
    · exact h.elim) hg hm PySem.boot_len ha (he := he) (hpl := hpl)
theorem d_abs (hm : X.mg "abs" = none) (ha : SE X CA XE a f) (hg : Gl X "abs" := by rfl) (he : starEach [a] X.env = (false, eval a X.env) :: starEach [] X.env := by rfl) (hpl : (backTo pos (starEach [] X.env)).any (·.1) = false := by rfl) : SE X CA XE (.Call (.Name "abs" p) [a] [] pos) (eAbs f) :=
  d_b1 (G := fun d M Q => match d with | .int i => Q (.int (if i < 0 then -i else i)) M | _ => False) call_abs (fun v d M H Qd Q r1 hR h k => by
    split at h
    · cases r1; exact ⟨_, rfl, k _ _ _ _ h (.int _) hR .refl⟩
    · exact h.elim) hg hm (by decide +kernel) ha (he := he) (hpl := hpl)
theorem d_intC (hm : X.mg "int" = none) (ha : SE X CA XE a f) (hg : Gl X "int" := by rfl) (he : starEach [a] X.env = (false, eval a X.env) :: starEach [] X.env := by rfl) (hpl : (backTo pos (starEach [] X.env)).any (·.1) = false := by rfl) : SE X CA XE (.Call (.Name "int" p) [a] [] pos) (eInt f) :=
  d_ty1 (G := fun d M Q => match d with | .int i => Q (.int i) M | .bl b => Q (.int (if b then 1 else 0)) M | _ => False) call_int1 (fun v d M H Qd Q r1 hR h k => by
    split at h
    · cases r1; exact .inl ⟨_, rfl, k _ _ _ _ h (.int _) hR .refl⟩
    · cases r1; exact .inr ⟨_, rfl, k _ _ _ _ h (.int _) hR .refl⟩
    · exact h.elim) hg hm (by decide +kernel) ha (he := he) (hpl := hpl)
theorem d_tupOf (hm : X.mg "tuple" = none) (ha : SE X CA XE a f) (hg : Gl X "tuple" := by rfl) (he : starEach [a] X.env = (false, eval a X.env) :: starEach [] X.env := by rfl) (hpl : (backTo pos (starEach [] X.env)).any (·.1) = false := by rfl) : SE X CA XE (.Call (.Name "tuple" p) [a] [] pos) (eTupOf f) :=
  d_ty1 (G := fun d M Q => match d with
    | .tup xs => Q (.tup xs) M
    | .ref a => match M a with
      | some (.lst xs) => Q (.tup xs) M
      | _ => False
    | _ => False) call_tupleF (fun v d M H Qd Q r1 hR h k => by
    split at h
    · cases r1 with
      | tup s q => exact ⟨_, _, rfl, .inr ⟨s.s, k _ _ _ _ h (.tup s q) hR .refl⟩⟩
    · cases r1
      split at h
      · obtain ⟨vs, h1, q⟩ := hR _ _ (by assumption)
        refine ⟨_, _, rfl, .inl ⟨SqL.of h1, fun l its hl => ?_⟩⟩
        obtain ⟨x, y, z⟩ := lay_tup hl q hR
        exact k _ _ _ _ h x y z
      · exact h.elim
    · exact h.elim) hg hm (by decide +kernel) ha (he := he) (hpl := hpl)
theorem CallR.or {v : Value} {r r' : List V → Hp → VK → Prop} (h : CallR X v r) (h' : CallR X v r') : CallR X v fun xs H Q => r xs H Q ∨ r' xs H Q := by
  intro pins s σ H xs us Q I rv q
  rcases q with q | q
  · exact h pins s σ H xs us Q I rv q
  · exact h' pins s σ H xs us Q I rv q
theorem keys_reps {K : PySem.W.Frag} {H : Hp} : ∀ {vs : List (L2.Key × V)} {kvs : List (Key × D)}, PKV K H vs kvs → Reps K H (vs.map fun kv => kV kv.1) (kvs.map fun kv => dKey kv.1)
  | _, _, .nil => .nil
  | _, _, .cons (a := p) (b := q) r t => by
    rw [List.map_cons, List.map_cons, r.1]
    refine .cons ?_ (keys_reps t)
    cases q.1 with
    | inl i => exact .int i
    | inr y => exact .str y
theorem d_lstOf (hc : X.calm = true) (hm : X.mg "list" = none) (ha : SE X CA XE a f) (hg : Gl X "list" := by rfl) (he : starEach [a] X.env = (false, eval a X.env) :: starEach [] X.env := by rfl) (hpl : (backTo pos (starEach [] X.env)).any (·.1) = false := by rfl) : SE X CA XE (.Call (.Name "list" p) [a] [] pos) (eLstOf f) :=
  d_ty1 (G := fun d M Q => match d with
    | .tup xs => ∀ p, M p = none → Q (.ref p) (M.set p (.lst xs))
    | .ref a => match M a with
      | some (.lst xs) => ∀ p, M p = none → Q (.ref p) (M.set p (.lst xs))
      | some (.dk kvs) => ∀ p, M p = none → Q (.ref p) (M.set p (.lst (kvs.map fun kv => dKey kv.1)))
      | _ => False
    | _ => False) (CallR.or call_list_of (call_list_dK hc)) (fun v d M H Qd Q r1 hR h k => by
    split at h
    · cases r1 with
      | tup s q =>
        refine .inl ⟨_, _, rfl, .inr s.s, fun l hl => ?_⟩
        obtain ⟨x, y⟩ := lay_lst hl q hR
        exact k _ _ _ _ (h l (hR.fresh hl)) (.ref l) x y
    · cases r1
      split at h
      · obtain ⟨vs, h1, q⟩ := hR _ _ (by assumption)
        refine .inl ⟨_, _, rfl, .inl (SqL.of h1), fun l hl => ?_⟩
        obtain ⟨x, y⟩ := lay_lst hl q hR
        exact k _ _ _ _ (h l (hR.fresh hl)) (.ref l) x y
      · obtain ⟨vs, h1, q⟩ := hR _ _ (by assumption)
        refine .inr ⟨_, _, rfl, h1, fun l hl => ?_⟩
        obtain ⟨x, y⟩ := lay_lst hl (keys_reps q) hR
        exact k _ _ _ _ (h l (hR.fresh hl)) (.ref l) x y
      · exact h.elim
    · exact h.elim) hg hm (by decide +kernel) ha (he := he) (hpl := hpl)
theorem bools_rep {K : PySem.W.Frag} {H : Hp} : ∀ {vs : List V} {ds : List D} {bs : List Bool}, Reps K H vs ds → asBools ds = some bs → vs = bs.map V.bl
  | _, _, _, .nil, h => by simp [asBools] at h; subst h; rfl
  | _, _, _, .cons (d := d) r t, h => by
    cases r <;> simp only [asBools] at h <;> first | (cases h; done) | skip
    rename_i b
    rw [Option.map_eq_some_iff] at h
    obtain ⟨bs, e, rfl⟩ := h
    rw [List.map_cons, bools_rep t e]
theorem ints_rep {K : PySem.W.Frag} {H : Hp} : ∀ {vs : List V} {ds : List D} {bs : List Int}, Reps K H vs ds → asInts ds = some bs → vs = bs.map V.int
  | _, _, _, .nil, h => by simp [asInts] at h; subst h; rfl
  | _, _, _, .cons (d := d) r t, h => by
    cases r <;> simp only [asInts] at h <;> first | (cases h; done) | skip
    rename_i b
    rw [Option.map_eq_some_iff] at h
    obtain ⟨bs, e, rfl⟩ := h
    rw [List.map_cons, ints_rep t e]
theorem d_all (hc : X.calm = true) (hm : X.mg "all" = none) (ha : SE X CA XE a f) (hg : Gl X "all" := by rfl) (he : starEach [a] X.env = (false, eval a X.env) :: starEach [] X.env := by rfl) (hpl : (backTo pos (starEach [] X.env)).any (·.1) = false := by rfl) : SE X CA XE (.Call (.Name "all" p) [a] [] pos) (eAll f) :=
  d_b1 (G := fun d M Q => match d with
    | .ref a => match M a with
      | some (.lst xs) => match asBools xs with
        | some bs => Q (.bl (bs.all id)) M
        | none => False
      | _ => False
    | _ => False) (cr_all hc) (fun v d M H Qd Q r1 hR h k => by
    split at h
    · cases r1
      split at h
      · split at h
        · obtain ⟨vs, h1, q⟩ := hR _ _ (by assumption)
          have e := bools_rep q (by assumption)
          subst e
          exact ⟨_, _, rfl, SqL.of h1, k _ _ _ _ h (.bl _) hR .refl⟩
        · exact h.elim
      · exact h.elim
    · exact h.elim) hg hm (by decide +kernel) ha (he := he) (hpl := hpl)
theorem d_any (hc : X.calm = true) (hm : X.mg "any" = none) (ha : SE X CA XE a f) (hg : Gl X "any" := by rfl) (he : starEach [a] X.env = (false, eval a X.env) :: starEach [] X.env := by rfl) (hpl : (backTo pos (starEach [] X.env)).any (·.1) = false := by rfl) : SE X CA XE (.Call (.Name "any" p) [a] [] pos) (eAny f) :=
  d_b1 (G := fun d M Q => match d with
    | .ref a => match M a with
      | some (.lst xs) => match asBools xs with
        | some bs => Q (.bl (bs.any id)) M
        | none => False
      | _ => False
    | _ => False) (cr_any hc) (fun v d M H Qd Q r1 hR h k => by
    split at h
    · cases r1
      split at h
      · split at h
        · obtain ⟨vs, h1, q⟩ := hR _ _ (by assumption)
          have e := bools_rep q (by assumption)
          subst e
          exact ⟨_, _, rfl, SqL.of h1, k _ _ _ _ h (.bl _) hR .refl⟩
        · exact h.elim
      · exact h.elim
    · exact h.elim) hg hm (by decide +kernel) ha (he := he) (hpl := hpl)
theorem d_sum (hc : X.calm = true) (hm : X.mg "sum" = none) (ha : SE X CA XE a f) (hg : Gl X "sum" := by rfl) (he : starEach [a] X.env = (false, eval a X.env) :: starEach [] X.env := by rfl) (hpl : (backTo pos (starEach [] X.env)).any (·.1) = false := by rfl) : SE X CA XE (.Call (.Name "sum" p) [a] [] pos) (eSum f) :=
  d_b1 (G := fun d M Q => match d with
    | .ref a => match M a with
      | some (.lst xs) => match asInts xs with
        | some bs => Q (.int bs.sum) M
        | none => False
      | _ => False
    | _ => False) (cr_sum hc) (fun v d M H Qd Q r1 hR h k => by
    split at h
    · cases r1
      split at h
      · split at h
        · obtain ⟨vs, h1, q⟩ := hR _ _ (by assumption)
          have e := ints_rep q (by assumption)
          subst e
          exact ⟨_, _, rfl, SqL.of h1, k _ _ _ _ h (.int _) hR .refl⟩
        · exact h.elim
      · exact h.elim
    · exact h.elim) hg hm (by decide +kernel) ha (he := he) (hpl := hpl)
/-! ## isinstance -/
theorem ty_of {c : Cn} {v : V} {d : D} {M : Sto} {H : Hp} {k : String → Prop} (r : Rep c.K H v d) (hR : R c M H) (h : tyD d M k) : ∃ t ∈ ["NoneType", "bool", "int", "str", "tuple", "list", "dict"], TyX c.K H v (.type t) ∧ k t := by
  unfold tyD at h
  split at h
  · cases r; exact ⟨_, by simp, .base .non, h⟩
  · cases r; exact ⟨_, by simp, .base (.bl _), h⟩
  · cases r; exact ⟨_, by simp, .base (.int _), h⟩
  · cases r; exact ⟨_, by simp, .base (.str _), h⟩
  · cases r with
    | tup s q =>
      refine ⟨"tuple", by simp, ?_, h⟩
      rcases s with ⟨its, s⟩ | ⟨o, its, n, e, cl, _⟩
      · exact .fTuple s
      · exact .kTuple e cl
  · cases r
    split at h
    · obtain ⟨vs, h1, q⟩ := hR _ _ (by assumption)
      exact ⟨"list", by simp, .base (.lst h1), h⟩
    · obtain ⟨vs, h1, q⟩ := hR _ _ (by assumption)
      exact ⟨"dict", by simp, .base (.dK h1), h⟩
    · exact h.elim
  · cases r with
    | lro s q =>
      refine ⟨"list", by simp, ?_, h⟩
      rcases s with ⟨o, s⟩ | ⟨o, its, n, e, cl, _⟩
      · exact .base (.frz s)
      · exact .kList e cl
  · exact h.elim
theorem kit_all : (["NoneType", "bool", "int", "str", "tuple", "list", "dict"].all fun t => ["int", "str", "bool", "tuple", "list", "dict"].all fun c => kitB t c == some (isTy t c)) = true := by decide +kernel
theorem kit_at {K : PySem.W.Frag} {t c : String} (ht : t ∈ ["NoneType", "bool", "int", "str", "tuple", "list", "dict"]) (hc : c ∈ ["int", "str", "bool", "tuple", "list", "dict"]) : PySem.W.kitOne K (.type t) (.type c) = some (isTy t c) :=
  kit_ty (beq_iff_eq.mp (List.all_eq_true.mp (List.all_eq_true.mp kit_all t ht) c hc))
theorem d_isi1 {c : String} {y : Str} {py : Pos} (hm : X.mg "isinstance" = none) (hmy : X.mg y = none) (hvy : bootBuiltins y = some (.type c)) (hc : c ∈ ["int", "str", "bool", "tuple", "list", "dict"]) (ha : SE X CA XE a f) (hg : Gl X "isinstance" := by rfl) (hgy : Gl X y := by rfl)
    (hny : y ≠ "__name__" := by decide) (hdy : (y == ("__debug__" : Str)) = false := by decide)
    (he : starEach [a, .Name y py] X.env = (false, eval a X.env) :: starEach [.Name y py] X.env := by rfl) (he2 : starEach [.Name y py] X.env = (false, eval (.Name y py) X.env) :: starEach [] X.env := by rfl) (hpl : (backTo pos (starEach [.Name y py] X.env)).any (·.1) = false := by rfl) :
    SE X CA XE (.Call (.Name "isinstance" p) [a, .Name y py] [] pos) (eIsi f [c]) :=
  PE_weak (pe_callB call_isi hg hm (by decide +kernel) (pa_cons ha (pa_cons (pe_bltn (v := .ty c) hgy hmy hvy rfl hny hdy) pa_nil he2) he) (by decide) (by decide) he hpl) fun σ H Q ⟨env, M, Ed, Qd, p, q, k⟩ => ⟨env, M, Ed, _, p, q, fun d M1 v H1 q1 r1 R1 T1 => by
    obtain ⟨t, ht, ty, q2⟩ := ty_of (c := cn X CA) r1 R1 q1
    exact ⟨_, _, _, _, _, rfl, .ty c, ty, kit_at ht hc, k _ _ _ _ (by simpa using q2) (.bl _) R1 T1⟩⟩
theorem d_isi2 {c c' : String} {y y' : Str} {py py' pt : Pos} {kt : Nat} (hm : X.mg "isinstance" = none) (hmy : X.mg y = none) (hvy : bootBuiltins y = some (.type c)) (hc : c ∈ ["int", "str", "bool", "tuple", "list", "dict"])
    (hmy' : X.mg y' = none) (hvy' : bootBuiltins y' = some (.type c')) (hc' : c' ∈ ["int", "str", "bool", "tuple", "list", "dict"]) (ha : SE X CA XE a f) (hg : Gl X "isinstance" := by rfl) (hgy : Gl X y := by rfl) (hgy' : Gl X y' := by rfl)
    (hny : y ≠ "__name__" := by decide) (hdy : (y == ("__debug__" : Str)) = false := by decide) (hny' : y' ≠ "__name__" := by decide) (hdy' : (y' == ("__debug__" : Str)) = false := by decide)
    (he : starEach [a, .Tuple [.Name y py, .Name y' py'] kt pt] X.env = (false, eval a X.env) :: starEach [.Tuple [.Name y py, .Name y' py'] kt pt] X.env := by rfl) (he2 : starEach [.Tuple [.Name y py, .Name y' py'] kt pt] X.env = (false, eval (.Tuple [.Name y py, .Name y' py'] kt pt) X.env) :: starEach [] X.env := by rfl)
    (he3 : starEach [.Name y py, .Name y' py'] X.env = (false, eval (.Name y py) X.env) :: starEach [.Name y' py'] X.env := by rfl) (he4 : starEach [.Name y' py'] X.env = (false, eval (.Name y' py') X.env) :: starEach [] X.env := by rfl)
    (hpl : (backTo pos (starEach [.Tuple [.Name y py, .Name y' py'] kt pt] X.env)).any (·.1) = false := by rfl) :
    SE X CA XE (.Call (.Name "isinstance" p) [a, .Tuple [.Name y py, .Name y' py'] kt pt] [] pos) (eIsi f [c, c']) :=
  PE_weak (pe_callB call_isiT hg hm (by decide +kernel) (pa_cons ha (pa_cons (pe_tup (pa_cons (pe_bltn (v := .ty c) hgy hmy hvy rfl hny hdy) (pa_cons (pe_bltn (v := .ty c') hgy' hmy' hvy' rfl hny' hdy') pa_nil he4) he3)) pa_nil he2) he) (by decide) (by decide) he hpl) fun σ H Q ⟨env, M, Ed, Qd, p, q, k⟩ => ⟨env, M, Ed, _, p, q, fun d M1 v H1 q1 r1 R1 T1 => by
    refine ⟨by show 2 ≤ sizeLine; decide, fun l hl => ?_⟩
    obtain ⟨t, ht, ty, q2⟩ := ty_of (c := cn X CA) (r1.m (Tups.new (ho := .tup [.ty c, .ty c']) hl)) (R1.keep (ho := .tup [.ty c, .ty c']) hl) q1
    refine ⟨_, l, _, _, [.type c, .type c'], isTy t c || isTy t c', rfl, upd_same, .cons (.ty c) (.cons (.ty c') .nil), ty, ?_, k _ _ _ _ (by simpa using q2) (.bl _) (R1.keep hl) (T1.trans (Tups.new hl))⟩
    refine kitAny_cons (kit_at ht hc) (fun e => ?_) (fun e => by rw [e]; rfl)
    rw [e, Bool.false_or]
    refine kitAny_cons (kit_at ht hc') (fun e => ?_) (fun e => e)
    rw [e]
    rfl⟩
end
end DL

set_option Elab.async false
set_option linter.all false
set_option maxRecDepth 100000
set_option maxHeartbeats 4000000
/-! DE5: dicts and lists that are made and changed -/
namespace DL
open PySem PySem.Spec PyProof.Rows L2
section
variable {X : Cx} {CA : String → Addr} {XE : XK} {a b e : Expr} {es rest : List Expr} {f g h : WE} {fs : List WE} {pos p apos cpos : Pos} {t u : WT} {x : Str}
theorem d_dk : SE X CA XE (.Dict [] [] pos) eDk :=
  PE_weak pe_dnewK fun σ H Q ⟨env, M, Ed, Qd, p, q, k⟩ l hl => k _ _ _ _ (q l (p.r.fresh hl)) (.ref l) (p.r.at (Tups.new hl) ⟨[], upd_same, .nil⟩) (Tups.new hl)
def tDNewN (c : Cn) : TE := fun _ H Q => ∀ p, H p = none → Q (.ref p) (upd H p (NDict c p []))
theorem pe_dnewN : PE X (.Dict [] [] pos) (tDNewN (cn X CA)) := ⟨fun pins s σ H Q I h =>
  wpAny_Dict_empty ⟨.ref s.heap.objs.size, _, I.laid (a := s.heap.objs.size) (o := NDict (cn X CA) s.heap.objs.size []) (t' := s.toks) (fun _ _ q => Heap.get?_push_of_some _ q) (Nat.le_refl _)
    ⟨⟨Nat.zero_le _, beq_eq_false_iff_ne.mpr (Ne.symm (Nat.ne_of_lt I.big)), [], .nil, ⟨_, #[], 0, Heap.get?_push_size _ rfl, ⟨rfl, rfl, rfl⟩, rfl, rfl⟩, List.nodup_nil⟩, ⟨_, Heap.get?_push_size _ rfl⟩,
      fun h1 h2 ⟨a, b, xs, c, ⟨o, es, ep, d, e⟩, f⟩ k => ⟨a, b, xs, c, ⟨o, es, ep, k _ d, e⟩, f⟩⟩, rfl, h _ (I.hok.fresh (Nat.le_refl _))⟩⟩
theorem d_dn : SE X CA XE (.Dict [] [] pos) eDn :=
  PE_weak (pe_dnewN (CA := CA)) fun σ H Q ⟨env, M, Ed, Qd, p, q, k⟩ l hl => k _ _ _ _ (q l (p.r.fresh hl)) (.ref l) (p.r.at (Tups.new hl) ⟨[], upd_same, .nil⟩) (Tups.new hl)
/-! ## d.get -/
def IsDA (c : Cn) (H : Hp) (a : Addr) : Prop := (∃ kvs, H a = some (.dK kvs)) ∨ ∃ es, H a = some (NDict c a es)
theorem isDA_at {pins : List (Addr × Obj)} {σ : L2.St} {H : Hp} {s : Shared} {a : Addr} (I : Inv X pins σ H s) (d : IsDA (cn X CA) H a) :
    s.TypeIs (.ref a) "dict" ∧ (∀ b, Value.ref a = .ref b → ∃ ob, s.heap.get? b = some ob ∧ ob.dict = none) := by
  rcases d with ⟨kvs, e⟩ | ⟨es, e⟩
  · obtain ⟨x, y, _⟩ := isD_at I (.inl ⟨kvs, .inl e⟩)
    exact ⟨x, y⟩
  · obtain ⟨⟨_, _, _, _, ⟨o, es', ep, h1, h2, _⟩, _⟩, _⟩ := I.hok a _ e
    refine ⟨⟨o, h1, h2.1⟩, fun b q => ?_⟩
    cases q
    exact ⟨o, h1, h2.2.1⟩
/-- what d.get(y, z) hands on -/
def GetA (c : Cn) (a : Addr) (y z : V) (H : Hp) (Q : VK) : Prop := (∃ o, DGet H a y o ∧ Q (o.getD z) H) ∨
  ∃ b es kvs k, y = .ref b ∧ Rd H a (NDict c a es) ∧ PDn c H es kvs ∧ Rep c.K H (.ref b) k ∧ nkOk k = true ∧ (∀ d v, lk kvs k = some d → Rep c.K H v d → Q v H) ∧ (lk kvs k = none → Q z H)
def tGet1A (c : Cn) (td ty : TE) : TE := fun σ H Q => td σ H fun x H1 => ∃ a, x = .ref a ∧ IsDA c H1 a ∧ ty σ H1 fun y H2 => GetA c a y .non H2 Q
def tGet2A (c : Cn) (td ty tz : TE) : TE := fun σ H Q => td σ H fun x H1 => ∃ a, x = .ref a ∧ IsDA c H1 a ∧ ty σ H1 fun y H2 => tz σ H2 fun z H3 => GetA c a y z H3 Q
theorem pe_get1A {k : Nat} {td ty : TE} (hr : Room k X.A) (ho : PE X a td) (he : PE X b ty) (m : M1 X a "get" apos b cpos) : PE X (.Call (.Attribute a "get" apos) [b] [] cpos) (tGet1A (cn X CA) td ty) := by
  refine ⟨fun pins s σ H Q I h => ?_⟩
  refine wpAny_Call_method m.base m.few m.line PySem.F.plainAttrs_dict PySem.F.slot_dict_get PySem.F.type_dict_get (thn (ho.run pins s σ H _ I h) fun u s1 ⟨x, H1, I1, rx, a, ex, d, q1⟩ => ?_)
  subst ex
  obtain rfl : u = Value.ref a := rx
  obtain ⟨t1, t2⟩ := isDA_at I1 d
  refine ⟨t1, t2, ?_⟩
  rw [m.trees]
  refine Calls.callWith_builtin rfl (Calls.evalArgs_plain (Calls.spliced_cons (thn (he.run pins s1 σ H1 _ I1 q1) fun iv s2 ⟨y, H2, I2, ry, q2⟩ => Calls.spliced_nil ?_)))
  rcases q2 with ⟨ov, g, q2⟩ | ⟨bb, es, kvs, k', ey, e, p, r, hk, h1, h2⟩
  · exact d_get1 (hu_of hr) I2 g ry fun w' s3 I3 rw' => ⟨_, H2, I3, rw', q2⟩
  · subst ey
    cases ry
    obtain ⟨z, hd, xs, pr, dd⟩ := nd_of I2 e p
    refine PySem.get_keyed (kvs := pairsH xs) (room_n hr) (nk_at I2 r hk) hd ⟨xs, dd, rfl⟩ ?_
    rw [valueAt_pairsH]
    have q := nd_at hk pr p
    cases el : lk kvs k' with
    | none => rw [q.2 el]; exact ⟨.non, H2, I2.tok _, rfl, h2 el⟩
    | some d => obtain ⟨b', v', u', e1, rv, rd⟩ := q.1 d el; rw [e1]; exact ⟨v', H2, I2.tok _, rv, h1 d v' el rd⟩
theorem pe_get2A {k : Nat} {td ty tz : TE} (hr : Room k X.A) (ho : PE X a td) (he : PE X b ty) (hf : PE X e tz) (m : M2 X a "get" apos b e cpos) : PE X (.Call (.Attribute a "get" apos) [b, e] [] cpos) (tGet2A (cn X CA) td ty tz) := by
  refine ⟨fun pins s σ H Q I h => ?_⟩
  refine wpAny_Call_method m.base m.few m.line PySem.F.plainAttrs_dict PySem.F.slot_dict_get PySem.F.type_dict_get (thn (ho.run pins s σ H _ I h) fun u s1 ⟨x, H1, I1, rx, a, ex, d, q1⟩ => ?_)
  subst ex
  obtain rfl : u = Value.ref a := rx
  obtain ⟨t1, t2⟩ := isDA_at I1 d
  refine ⟨t1, t2, ?_⟩
  rw [m.trees]
  refine Calls.callWith_builtin rfl (Calls.evalArgs_plain (Calls.spliced_cons (thn (he.run pins s1 σ H1 _ I1 q1) fun iv s2 ⟨y, H2, I2, ry, q2⟩ =>
    Calls.spliced_cons (thn (hf.run pins s2 σ H2 _ I2 q2) fun zv s3 ⟨z, H3, I3, rz, q3⟩ => Calls.spliced_nil ?_))))
  rcases q3 with ⟨ov, g, q2⟩ | ⟨bb, es, kvs, k', ey, e, p, r, hk, h1, h2⟩
  · exact d_get2 (hu_of hr) I3 g ry rz fun w' s4 I4 rw' => ⟨_, H3, I4, rw', q2⟩
  · subst ey
    cases ry
    obtain ⟨z', hd, xs, pr, dd⟩ := nd_of I3 e p
    refine PySem.getOr_keyed (kvs := pairsH xs) (room_n hr) (nk_at I3 r hk) hd ⟨xs, dd, rfl⟩ ?_
    rw [valueAt_pairsH]
    have q := nd_at hk pr p
    cases el : lk kvs k' with
    | none => rw [q.2 el]; exact ⟨z, H3, I3.tok _, rz, h2 el⟩
    | some d => obtain ⟨b', v', u', e1, rv, rd⟩ := q.1 d el; rw [e1]; exact ⟨v', H3, I3.tok _, rv, h1 d v' el rd⟩
theorem isDA_of {c : Cn} {v : V} {d : D} {M : Sto} {H : Hp} {k : Prop} (r : Rep c.K H v d) (hR : R c M H) (h : isDct d M k) : ∃ a, v = .ref a ∧ d = .ref a ∧ IsDA c H a ∧ k := by
  unfold isDct at h
  split at h
  · cases r
    split at h
    · obtain ⟨vs, h1, _⟩ := hR _ _ (by assumption)
      exact ⟨_, rfl, rfl, .inl ⟨_, h1⟩, h⟩
    · obtain ⟨vs, h1, _⟩ := hR _ _ (by assumption)
      exact ⟨_, rfl, rfl, .inr ⟨_, h1⟩, h⟩
    · exact h.elim
  · exact h.elim
theorem getA_of {c : Cn} {a : Addr} {y z : V} {dy : D} {M : Sto} {H : Hp} {Q : VK} {k : Option D → Prop} (ry : Rep c.K H y dy) (hR : R c M H) (h : refD (.ref a) M fun o => dLk o dy k) (h1 : ∀ d v, k (some d) → Rep c.K H v d → Q v H) (h2 : k none → Q z H) : GetA c a y z H Q := by
  unfold refD at h
  simp only at h
  split at h
  · rename_i o e
    unfold dLk at h
    split at h
    · split at h
      · rename_i κ ek
        obtain ⟨vs, e1, p1⟩ := (hR _ _ e).dk_rd (by assumption)
        have q := lk_val κ p1
        refine .inl ⟨valV vs κ, by rw [ry.key ek]; exact .inl ⟨vs, κ, e1, rfl, rfl⟩, ?_⟩
        cases el : lk _ κ with
        | none => rw [q.2 el]; rw [el] at h; exact h2 h
        | some d => obtain ⟨v, ev, rv⟩ := q.1 d el; rw [ev]; rw [el] at h; exact h1 d v h rv
      · exact h.elim
    · obtain ⟨es, e1, p1⟩ := (hR _ _ e).dn_rd (by assumption)
      obtain ⟨hk, h⟩ := h
      obtain ⟨xs, n, rfl, _, _⟩ := nkOk_nest hk
      cases ry with
      | tup s1 q1 => exact .inr ⟨_, es, _, _, rfl, e1, p1, .tup s1 q1, hk, fun d v el rv => h1 d v (by rw [el] at h; exact h) rv, fun el => h2 (by rw [el] at h; exact h)⟩
    · exact h.elim
  · exact h.elim
theorem d_get1 {k : Nat} (hr : Room k X.A) (ha : SE X CA XE a f) (hb : SE X CA XE b g) (m : M1 X a "get" apos b cpos := by exact ⟨rfl, rfl, rfl, rfl⟩) : SE X CA XE (.Call (.Attribute a "get" apos) [b] [] cpos) (eGet1 f g) :=
  PE_weak (pe_get1A (CA := CA) hr ha hb m) fun σ H Q ⟨env, M, Ed, Qd, p, q, k⟩ => ⟨env, M, Ed, _, p, q, fun d1 M1 v1 H1 q1 r1 R1 T1 => by
    obtain ⟨a', e1, e2, i, q1⟩ := isDA_of (c := cn X CA) r1 R1 q1
    subst e2
    exact ⟨a', e1, i, env, M1, Ed, _, p.to T1 R1, q1, fun d2 M2 v2 H2 q2 r2 R2 T2 => getA_of (c := cn X CA) r2 R2 q2 (fun d v q rv => k _ _ _ _ q rv R2 (T1.trans T2)) fun q => k _ _ _ _ q .non R2 (T1.trans T2)⟩⟩
theorem d_get2 {k : Nat} (hr : Room k X.A) (ha : SE X CA XE a f) (hb : SE X CA XE b g) (he : SE X CA XE e h) (m : M2 X a "get" apos b e cpos := by exact ⟨rfl, rfl, rfl, rfl⟩) : SE X CA XE (.Call (.Attribute a "get" apos) [b, e] [] cpos) (eGet2 f g h) :=
  PE_weak (pe_get2A (CA := CA) hr ha hb he m) fun σ H Q ⟨env, M, Ed, Qd, p, q, k⟩ => ⟨env, M, Ed, _, p, q, fun d1 M1 v1 H1 q1 r1 R1 T1 => by
    obtain ⟨a', e1, e2, i, q1⟩ := isDA_of (c := cn X CA) r1 R1 q1
    subst e2
    exact ⟨a', e1, i, env, M1, Ed, _, p.to T1 R1, q1, fun d2 M2 v2 H2 q2 r2 R2 T2 => ⟨env, M2, Ed, _, p.to (T1.trans T2) R2, q2, fun d3 M3 v3 H3 q3 r3 R3 T3 =>
      getA_of (c := cn X CA) (r2.m T3) R3 q3 (fun d v q rv => k _ _ _ _ q rv R3 (T1.trans (T2.trans T3))) fun q => k _ _ _ _ q r3 R3 (T1.trans (T2.trans T3))⟩⟩⟩
/-! ## d[k] = v -/
theorem ins_len {κ : Type} [DecidableEq κ] (kvs : List (κ × D)) (k : κ) (d : D) : (ins kvs k d).length ≤ kvs.length + 1 := by
  unfold ins
  split
  · rw [List.length_map]; omega
  · rw [List.length_append, List.length_singleton]; omega
theorem valV_none_notin {κ : Type} [DecidableEq κ] {vs : List (κ × V)} {k : κ} (h : valV vs k = none) : ∀ p ∈ vs, ¬ p.1 = k := fun p hp e => by
  have := (valV_any k vs)
  rw [h] at this
  have h2 : (vs.any fun kv => decide (kv.1 = k)) = true := List.any_eq_true.mpr ⟨p, hp, by simp [e]⟩
  rw [h2] at this; cases this
theorem paired_map {α β γ δ : Type} {F : α → β → Prop} {G : γ → δ → Prop} {f : α → γ} {g : β → δ} {l : List α} {r : List β} (h : Paired F l r) (k : ∀ a b, F a b → G (f a) (g b)) : Paired G (l.map f) (r.map g) := by
  induction h with
  | nil => exact .nil
  | cons r t ih => exact .cons (k _ _ r) ih
theorem paired_app {α β : Type} {F : α → β → Prop} {l l' : List α} {r r' : List β} (h : Paired F l r) (h' : Paired F l' r') : Paired F (l ++ l') (r ++ r') := by
  induction h with
  | nil => exact h'
  | cons r t ih => exact .cons r ih
theorem paired_any {α β : Type} {F : α → β → Prop} {l : List α} {r : List β} {f : α → Bool} {g : β → Bool} (h : Paired F l r) (k : ∀ a b, F a b → f a = g b) : l.any f = r.any g := by
  induction h with
  | nil => rfl
  | cons r t ih => rw [List.any_cons, List.any_cons, ih, k _ _ r]
theorem put_ins {K : PySem.W.Frag} {H : Hp} {κ : Key} {v : V} {d : D} (rv : Rep K H v d) {vs : List (L2.Key × V)} {kvs : List (Key × D)} (h : PKV K H vs kvs) : PKV K H (putK vs κ v) (ins kvs κ d) := by
  unfold putK ins
  rw [paired_any (g := fun kv => decide (kv.1 = κ)) h fun a b r => by rw [r.1]]
  split
  · refine paired_map h fun a b r => ?_
    by_cases e : b.1 = κ
    · rw [if_pos (by rw [r.1]; exact e), if_pos e]; exact ⟨r.1, rv⟩
    · rw [if_neg (by rw [r.1]; exact e), if_neg e]; exact r
  · exact paired_app h (.cons ⟨rfl, rv⟩ .nil)
/-- the nested one -/
def putN (es : List Ent) (k : NestedKey) (b : Addr) (v : V) : List Ent := if (es.any fun x => decide (x.1 = k)) = true then es.map fun x => if x.1 = k then (x.1, x.2.1, v) else x else es ++ [(k, b, v)]
theorem putN_x {es : List Ent} {xs : List (NestedKey × Addr × Value)} {k : NestedKey} {b : Addr} {v : V} {u : Value} (rv : RelV v u) (h : PEx es xs) : PEx (putN es k b v) (storedH xs k b u) := by
  have e1 : (atKey xs k).isSome = (es.any fun x => decide (x.1 = k)) := by
    induction h with
    | nil => rfl
    | @cons p q es xs r t ih =>
      rw [List.any_cons, ← ih, r.1]
      by_cases e : q.1 = k
      · simp [atKey, e]
      · simp [atKey, e]
  unfold putN storedH
  rw [e1]
  split
  · refine paired_map h fun a c r => ?_
    unfold putAt
    by_cases e : c.1 = k
    · rw [if_pos (by rw [r.1]; exact e), if_pos e]; exact ⟨r.1, r.2.1, rv⟩
    · rw [if_neg (by rw [r.1]; exact e), if_neg e]; exact r
  · exact paired_app h (.cons ⟨rfl, rfl, rv⟩ .nil)
theorem putN_d {c : Cn} {H : Hp} {es : List Ent} {kvs : List (D × D)} {k : D} {b : Addr} {v : V} {d : D} (hk : nkOk k = true) (rk : Rep c.K H (.ref b) k) (rv : Rep c.K H v d) (h : PDn c H es kvs) : PDn c H (putN es (nkD k) b v) (ins kvs k d) := by
  obtain ⟨_, m, _, em, _⟩ := nkOk_nest hk
  have key : ∀ (p : Ent) (q : D × D), (p.1 = nkD q.1 ∧ nkOk q.1 = true ∧ Rep c.K H (.ref p.2.1) q.1 ∧ Rep c.K H p.2.2 q.2) → (p.1 = nkD k ↔ q.1 = k) := fun p q r => by
    obtain ⟨_, n, _, en, _⟩ := nkOk_nest r.2.1
    exact ⟨fun z => nkD_inj q.1 k _ _ en em (by rw [← r.1, z]), fun z => by rw [r.1, z]⟩
  unfold putN ins
  rw [paired_any (g := fun kv => decide (kv.1 = k)) h fun a b r => by rw [decide_eq_decide]; exact key a b r]
  split
  · refine paired_map h fun a q r => ?_
    by_cases e : q.1 = k
    · rw [if_pos ((key a q r).mpr e), if_pos e]; exact ⟨r.1, r.2.1, r.2.2.1, rv⟩
    · rw [if_neg (fun z => e ((key a q r).mp z)), if_neg e]; exact r
  · exact paired_app h (.cons ⟨rfl, hk, rk, rv⟩ .nil)
theorem putN_len (es : List Ent) (k : NestedKey) (b : Addr) (v : V) : (putN es k b v).length ≤ es.length + 1 := by
  unfold putN
  split
  · rw [List.length_map]; omega
  · rw [List.length_append, List.length_singleton]; omega
/-- o[i] = v, by values: a list, a dict of either kind -/
def rSetA (c : Cn) : TSet := fun o i v H Q => rSetL o i v H Q ∨ ((∃ a kvs k, o = .ref a ∧ i = kV k ∧ H a = some (.dK kvs) ∧ kvs.length < sizeLine ∧ Q (upd H a (.dK (putK kvs k v)))) ∨
  ∃ a b es kvs k, o = .ref a ∧ i = .ref b ∧ H a = some (NDict c a es) ∧ PDn c H es kvs ∧ Rep c.K H (.ref b) k ∧ nkOk k = true ∧ es.length < sizeLine ∧ Q (upd H a (NDict c a (putN es (nkD k) b v))))
theorem set_A {k : Nat} (hr : Room k X.A) : PSet X (rSetA (cn X CA)) := by
  intro pins s σ H o i v ov iv u Q I ro ri rv h
  rcases h with h | ⟨a, kvs, k, rfl, rfl, e, hz, q⟩ | ⟨a, b, es, kvs, k, rfl, rfl, e, p, r, hk, hz, q⟩
  · exact set_list pins s σ H o i v ov iv u Q I ro ri rv h
  · cases ro
    exact d_setItem (hu_of hr) I (DPut.k e hz) ri rv fun s' I' => ⟨_, I', q⟩
  · cases ro; cases ri
    obtain ⟨z, hd, xs, pr, dd⟩ := nd_of I (.inl e) p
    have hl : es.length = xs.length := Paired.length pr
    refine wpAny_setItem_heap (knd := nestedKind X.prog X.w) (room_n hr) (nk_at I r hk) dd (fun h' hm' hs => ?_) (hsz := by rw [← hl]; exact z)
    obtain ⟨o', es', ep, h1, h2, h3, h4, _, h6⟩ := hm'
    refine ⟨_, d_write I (by rw [e]; exact trivial) hs ⟨o', h1⟩ ?_, q⟩
    refine ⟨⟨Nat.le_trans (putN_len _ _ _ _) hz, hd, _, putN_x rv pr, ⟨o', es', ep, h1, h2, h3, h4⟩, h6⟩, ⟨o', h1⟩, fun h1 h2 ⟨a, b, xs, c, ⟨o, es, ep, d, e⟩, f⟩ k => ⟨a, b, xs, c, ⟨o, es, ep, k _ d, e⟩, f⟩⟩
end
end DL

set_option Elab.async false
set_option linter.all false
set_option maxRecDepth 100000
set_option maxHeartbeats 4000000
/-! DE6: methods of lists, dict(pairs), calls of the text's defs -/
namespace DL
open PySem PySem.Spec PyProof.Rows L2
section
variable {X : Cx} {CA : String → Addr} {XE : XK} {a b e o : Expr} {es rest : List Expr} {f g h : WE} {fs : List WE} {pos p apos cpos : Pos} {t u : WT} {x m : Str}
theorem lstAt_of {c : Cn} {v : V} {d : D} {M : Sto} {H : Hp} {k : Addr → List D → Prop} (r : Rep c.K H v d) (hR : R c M H) (h : lstAt d M k) : ∃ a xs vs, v = .ref a ∧ d = .ref a ∧ M a = some (.lst xs) ∧ H a = some (.lst vs) ∧ Reps c.K H vs xs ∧ k a xs := by
  unfold lstAt at h
  split at h
  · cases r
    split at h
    · rename_i xs e
      obtain ⟨vs, h1, q⟩ := hR _ _ e
      exact ⟨_, xs, vs, rfl, rfl, e, h1, q, h⟩
    · exact h.elim
  · exact h.elim
theorem wr_lst {c : Cn} {M : Sto} {H : Hp} {a : Addr} {xs ys : List D} {vs ws : List V} (hR : R c M H) (hM : M a = some (.lst xs)) (h1 : H a = some (.lst vs)) (r : Reps c.K H ws ys) : R c (M.set a (.lst ys)) (upd H a (.lst ws)) ∧ Tups c.K H (upd H a (.lst ws)) := by
  have T : Tups c.K H (upd H a (.lst ws)) := Tups.wr h1 (ne_frz trivial)
  exact ⟨hR.at T ⟨ws, upd_same, r.m T⟩, T⟩
theorem d_append (ha : SE X CA XE a f) (hb : SE X CA XE b g) (hbase : attributeBase a "append" X.env (eval a X.env) = eval a X.env := by rfl)
    (hfew : ((backTo cpos (starEach [b] X.env)).all (fun x => !x.1) && (backToKw cpos (keywordEach [] X.env)).all (fun x => x.1.isSome) && decide ([b].length + ([] : List Keyword).length + (if ([] : List Keyword).isEmpty then 0 else 1) < 30)) = true := by rfl)
    (hline : (apos.endLine == cpos.line) = true := by rfl) (hs : starEach [b] X.env = (false, eval b X.env) :: starEach [] X.env := by rfl) (hplain : (backTo cpos (starEach [] X.env)).any (·.1) = false := by rfl) :
    SE X CA XE (.Call (.Attribute a "append" apos) [b] [] cpos) (eAppend f g) :=
  PE_weak (pe_bm PySem.F.plainAttrs_list PySem.F.slot_list_append PySem.F.type_list_append mt_append ha (pa_cons hb pa_nil hs) hbase hfew hline hs hplain) fun σ H Q ⟨env, M, Ed, Qd, p, q, k⟩ => ⟨env, M, Ed, _, p, q, fun d1 M1 v1 H1 q1 r1 R1 T1 => by
    obtain ⟨l, xs, vs, e1, e2, _, h1, _, q1⟩ := lstAt_of (c := cn X CA) r1 R1 q1
    subst e1 e2
    refine ⟨.inl ⟨rfl, _, SqL.of h1⟩, env, M1, Ed, _, p.to T1 R1, q1, fun d2 M2 v2 H2 q2 r2 R2 T2 => ?_⟩
    obtain ⟨l', ys, ws, e3, e4, hM, h2, rr, hz, q2⟩ := lstAt_of (c := cn X CA) (.ref l) R2 q2
    cases e3
    obtain ⟨x, y⟩ := wr_lst R2 hM h2 (rr.append (.cons r2 .nil))
    exact ⟨l, ws, v2, rfl, rfl, h2, by rw [rr.length]; exact hz, k _ _ _ _ q2 .non x (T1.trans (T2.trans y))⟩⟩
theorem d_extend (ha : SE X CA XE a f) (hb : SE X CA XE b g) (hbase : attributeBase a "extend" X.env (eval a X.env) = eval a X.env := by rfl)
    (hfew : ((backTo cpos (starEach [b] X.env)).all (fun x => !x.1) && (backToKw cpos (keywordEach [] X.env)).all (fun x => x.1.isSome) && decide ([b].length + ([] : List Keyword).length + (if ([] : List Keyword).isEmpty then 0 else 1) < 30)) = true := by rfl)
    (hline : (apos.endLine == cpos.line) = true := by rfl) (hs : starEach [b] X.env = (false, eval b X.env) :: starEach [] X.env := by rfl) (hplain : (backTo cpos (starEach [] X.env)).any (·.1) = false := by rfl) :
    SE X CA XE (.Call (.Attribute a "extend" apos) [b] [] cpos) (eExtend f g) :=
  PE_weak (pe_bm PySem.F.plainAttrs_list PySem.F.slot_list_extend PySem.F.type_list_extend mt_extend ha (pa_cons hb pa_nil hs) hbase hfew hline hs hplain) fun σ H Q ⟨env, M, Ed, Qd, p, q, k⟩ => ⟨env, M, Ed, _, p, q, fun d1 M1 v1 H1 q1 r1 R1 T1 => by
    obtain ⟨l, xs, vs, e1, e2, _, h1, _, q1⟩ := lstAt_of (c := cn X CA) r1 R1 q1
    subst e1 e2
    refine ⟨.inl ⟨rfl, _, SqL.of h1⟩, env, M1, Ed, _, p.to T1 R1, q1, fun d2 M2 v2 H2 q2 r2 R2 T2 => ?_⟩
    obtain ⟨l', ys, ws, e3, e4, hM, h2, rr, q2⟩ := lstAt_of (c := cn X CA) (.ref l) R2 q2
    cases e3
    obtain ⟨b', zs, us, e5, e6, hM3, h3, rr3, hz, q3⟩ := lstAt_of (c := cn X CA) r2 R2 q2
    subst e5
    obtain ⟨x, y⟩ := wr_lst R2 hM h2 (rr.append rr3)
    exact ⟨l, b', ws, us, rfl, rfl, h2, h3, by rw [rr.length, rr3.length]; exact hz, k _ _ _ _ q3 .non x (T1.trans (T2.trans y))⟩⟩
theorem last_get {α : Type} (xs : List α) : xs.getLast? = xs[xs.length - 1]? := List.getLast?_eq_getElem?
theorem d_pop (ha : SE X CA XE a f) (hbase : attributeBase a "pop" X.env (eval a X.env) = eval a X.env := by rfl) (hline : (apos.endLine == cpos.line) = true := by rfl) :
    SE X CA XE (.Call (.Attribute a "pop" apos) [] [] cpos) (ePop f) :=
  PE_weak (pe_bm0 PySem.F.plainAttrs_list PySem.F.slot_list_pop PySem.F.type_list_pop mt_pop ha hbase hline) fun σ H Q ⟨env, M, Ed, Qd, p, q, k⟩ => ⟨env, M, Ed, _, p, q, fun d1 M1 v1 H1 q1 r1 R1 T1 => by
    obtain ⟨l, xs, vs, e1, e2, hM, h1, rr, q2⟩ := lstAt_of (c := cn X CA) r1 R1 q1
    clear q1
    subst e1 e2
    split at q2
    · rename_i d e
      obtain ⟨v, ev, rv⟩ := rr.get (i := vs.length - 1) (by rw [rr.length, ← last_get]; exact e)
      obtain ⟨x, y⟩ := wr_lst R1 hM h1 rr.dropLast
      exact ⟨.inl ⟨rfl, _, SqL.of h1⟩, l, vs, v, rfl, rfl, h1, ev, k _ _ _ _ q2 (rv.m y) x (T1.trans y)⟩
    · exact q2.elim⟩
/-! ## dict(pairs) -/
theorem pairsK_at {pins : List (Addr × Obj)} {σ : L2.St} {H : Hp} {s : Shared} (I : Inv X pins σ H s) : ∀ {vs : List V} {us : List Value} {ds : List D} {kvs : List (Key × D)}, Reps X.K H vs ds → Vals vs us → pairsK ds = some kvs →
    ∃ (Ts : List Addr) (prs : List (Value × Value)) (vk : List (Key × Value)) (vkv : List (L2.Key × V)), us = Ts.map Value.ref ∧ Ts.length = prs.length ∧ prs.length = kvs.length ∧ vk.length = kvs.length ∧ KV vkv vk ∧ PKV X.K H vkv kvs ∧
      (∀ (j : Nat) (k v : Value), prs[j]? = some (k, v) → ∃ T : Addr, Ts[j]? = some T ∧ PairAt s.heap T k v) ∧ (∀ (j : Nat) (k v : Value), prs[j]? = some (k, v) → ∃ κ : L2.Key, vk[j]? = some (κ, v) ∧ keyIs κ k = true)
  | _, _, _, _, .nil, .nil, h => by
    simp [pairsK] at h; subst h
    exact ⟨[], [], [], [], rfl, rfl, rfl, rfl, .nil, .nil, fun j k v e => by simp at e, fun j k v e => by simp at e⟩
  | _, _, _, kvs, .cons (d := d) r t, .cons rv tv, h => by
    unfold pairsK at h
    split at h
    · rename_i e
      cases e
    · rename_i k v r' e
      cases e
      split at h
      · rename_i κ s' ek es
        cases h
        obtain ⟨Ts, prs, vk, vkv, e1, e2, e3, e4, e5, e6, e7, e8⟩ := pairsK_at I t tv es
        cases r with
        | @tup a vs _ s1 p1 =>
          cases rv
          obtain ⟨its, rr, ht, hz⟩ := I.tuple s1.s
          cases p1 with
          | @cons v1 _ _ _ q1 p2 =>
            cases p2 with
            | @cons v2 _ _ _ q2 p3 =>
              cases p3
              obtain ⟨u1, u2, rfl, w1, w2⟩ := vals2 rr
              refine ⟨a :: Ts, (u1, u2) :: prs, (κ, u2) :: vk, (κ, v2) :: vkv, by rw [e1]; rfl, by simp [e2], by simp [e3], by simp [e4], .cons ⟨rfl, w2⟩ e5, .cons ⟨rfl, q2⟩ e6, ?_, ?_⟩
              · intro j k' v' e
                cases j with
                | zero =>
                  simp at e
                  obtain ⟨rfl, rfl⟩ := e
                  exact ⟨a, rfl, .inl ht⟩
                | succ j => exact e7 j k' v' (by simpa using e)
              · intro j k' v' e
                cases j with
                | zero =>
                  simp at e
                  obtain ⟨rfl, rfl⟩ := e
                  refine ⟨κ, rfl, ?_⟩
                  have := q1.key ek
                  subst this
                  exact kV_is (P := X.prog) (w := X.w) w1
                | succ j => exact e8 j k' v' (by simpa using e)
      · cases h
    · cases h
theorem merge_ins {K : PySem.W.Frag} {H : Hp} : ∀ {vs : List (L2.Key × V)} {kvs : List (Key × D)} {as : List (L2.Key × V)} {bs : List (Key × D)}, PKV K H vs kvs → PKV K H as bs → PKV K H (mergeK as vs) (insAll bs kvs)
  | _, _, _, _, .nil, h => h
  | _, _, _, _, .cons (a := p) (b := q) r t, h => by
    unfold mergeK insAll
    rw [List.foldl_cons, List.foldl_cons, r.1]
    exact merge_ins t (put_ins r.2 h)
def rDictA (K : PySem.W.Frag) : List V → Hp → VK → Prop := fun xs H Q => ∃ a vs ds kvs, xs = [.ref a] ∧ (SqD K H a vs ∨ H a = some (.lst vs)) ∧ Reps K H vs ds ∧ pairsK ds = some kvs ∧ ∀ p vkv, H p = none → PKV K H vkv kvs → Q (.ref p) (upd H p (.dK (mergeK [] vkv)))
theorem call_dictA (hcalm : X.calm = true) : CallR X (.type "dict") (rDictA X.K) := by
  intro pins s σ H xs us Q I r q
  obtain ⟨a, vs, ds, kvs, rfl, hs, rp, hp, q⟩ := q
  obtain ⟨u, rfl, rx⟩ := vals1 r
  cases rx
  have fin : ∀ (T : String) (its : List Value), (T = "tuple" ∨ T = "list") → Vals vs its → vs.length ≤ sizeLine → (∃ o n, s.heap.get? a = some o ∧ o.cls = .type T ∧ o.dict = none ∧ o.data = .seq its.toArray n) →
      wpAny (model X.prog X.w) X.A (call (.type "dict") [.ref a]) (EP X pins σ Q) X.xe s := by
    intro T its hT rv hz hpl
    obtain ⟨Ts, prs, vk, vkv, e1, e2, e3, e4, e5, e6, e7, e8⟩ := pairsK_at I rp rv hp
    have hlen : its.length = prs.length := by rw [e1, List.length_map, e2]
    have ok : PlainSeq T s.heap a its.toArray ∧ PairItems s.heap its.toArray (fun j => Ts.getD j 0) prs := by
      refine ⟨hpl, by rw [List.size_toArray]; exact hlen, fun j k v e => ?_⟩
      obtain ⟨T', h1, h2⟩ := e7 j k v e
      have h3 : Ts.getD j 0 = T' := by rw [List.getD_eq_getElem?_getD, h1]; rfl
      refine ⟨?_, by show PairAt s.heap (Ts.getD j 0) k v; rw [h3]; exact h2⟩
      show its.toArray[j]? = some (Value.ref (Ts.getD j 0))
      rw [List.getElem?_toArray, e1, List.getElem?_map, h1, h3]
      rfl
    have hv : PairsHave (mixKind X.prog X.w) prs.length (PairRel prs) vk := ⟨by rw [e4, e3], fun j k v e => e8 j k v e⟩
    have hz' : prs.length ≤ sizeLine := by rw [← hlen, ← rv.length]; exact hz
    have last : ∀ (h' : Heap) (tk : Nat), h'.DictOf (mixKind X.prog X.w) s.heap.objs.size (merged [] vk) → (∀ (b : Addr) (o : Obj), ¬b ∈ ([] : List Addr) → s.heap.get? b = some o → h'.get? b = some o) → EP X pins σ Q (.ref s.heap.objs.size) { s with heap := h', toks := tk } := by
      intro h' tk hd' k
      have hm : (s.heap.objs.size == sysModules) = false := beq_eq_false_iff_ne.mpr (Nat.ne_of_gt I.big)
      have hl2 : (mergeK [] vkv).length ≤ sizeLine := by
        refine Nat.le_trans (length_mergeK vkv []) ?_
        rw [List.length_nil, Nat.zero_add, Paired.length e6, ← e3]
        exact hz'
      exact ⟨.ref s.heap.objs.size, upd H s.heap.objs.size (.dK (mergeK [] vkv)), I.laid (t' := tk) (fun b o e => k b o (by simp) e) (Nat.le_refl _) (show ObjOk X.prog X.w _ _ _ (.dK (mergeK [] vkv)) from ⟨hl2, hm, merged [] vk, KV.merge e5 .nil, hd'⟩), rfl, q _ _ (I.hok.fresh (Nat.le_refl _)) e6⟩
    rcases hT with rfl | rfl
    · exact PySem.call_dict_pairs (PairArg.tuple a its.toArray (fun j => Ts.getD j 0) prs) (I.ok.hd hcalm) ok hv hz' last
    · exact PySem.call_dict_pairs (PairArg.list a its.toArray (fun j => Ts.getD j 0) prs) (I.ok.hd hcalm) ok hv hz' last
  rcases hs with (⟨its, h1⟩ | ⟨o, its, n, h1, h2, h3, h4, h5, h6⟩) | h1
  · obtain ⟨e, z, its', rv, o', e', c, n, d⟩ := (show ObjOk X.prog X.w H s.heap a (.frz (TupO its) (.tup vs)) from I.hok a _ h1)
    rw [e] at e'
    cases e'
    have ee : its = its' := by
      have d' : Data.seq its.toArray _ = Data.seq its'.toArray n := d
      injection d' with d1 _
      simpa using congrArg Array.toList d1
    subst ee
    exact fin "tuple" its (.inl rfl) rv z ⟨_, _, e, rfl, rfl, rfl⟩
  · have el := h6.length
    exact fin "tuple" its.toList (.inl rfl) h6 (by rw [el, Array.length_toList]; exact h5) ⟨o, n, I.kIn a o h1, h2, h3, by rw [h4, Array.toArray_toList]⟩
  · obtain ⟨z, its, n, rv, e⟩ := (show ObjOk X.prog X.w H s.heap a (.lst vs) from I.hok a _ h1)
    exact fin "list" its (.inr rfl) rv z ⟨_, n, e, rfl, rfl, rfl⟩
theorem d_dict (hc : X.calm = true) (hm : X.mg "dict" = none) (ha : SE X CA XE a f) (hg : Gl X "dict" := by rfl) (he : starEach [a] X.env = (false, eval a X.env) :: starEach [] X.env := by rfl) (hpl : (backTo pos (starEach [] X.env)).any (·.1) = false := by rfl) : SE X CA XE (.Call (.Name "dict" p) [a] [] pos) (eDict f) :=
  d_ty1 (G := fun d M Q => itemsD d M fun xs => match pairsK xs with
    | some kvs => ∀ p, M p = none → Q (.ref p) (M.set p (.dk (insAll [] kvs)))
    | none => False) (call_dictA hc) (fun v d M H Qd Q r1 hR h k => by
    unfold itemsD at h
    split at h
    · split at h
      · cases r1 with
        | tup s q =>
          refine ⟨_, _, _, _, rfl, .inl s, q, by assumption, fun p vkv hp hv => ?_⟩
          exact k _ _ _ _ (h p (hR.fresh hp)) (.ref p) (hR.at (Tups.new hp) ⟨_, upd_same, paired_mono (merge_ins hv .nil) fun _ _ z => ⟨z.1, z.2.m (Tups.new hp)⟩⟩) (Tups.new hp)
      · exact h.elim
    · cases r1
      split at h
      · split at h
        · obtain ⟨vs, h1, q⟩ := hR _ _ (by assumption)
          refine ⟨_, _, _, _, rfl, .inr h1, q, by assumption, fun p vkv hp hv => ?_⟩
          exact k _ _ _ _ (h p (hR.fresh hp)) (.ref p) (hR.at (Tups.new hp) ⟨_, upd_same, paired_mono (merge_ins hv .nil) fun _ _ z => ⟨z.1, z.2.m (Tups.new hp)⟩⟩) (Tups.new hp)
        · exact h.elim
      · exact h.elim
    · exact h.elim) hg hm (by decide +kernel) ha (he := he) (hpl := hpl)
end
end DL

set_option Elab.async false
set_option linter.all false
set_option maxRecDepth 100000
set_option maxHeartbeats 4000000
/-! DSt: statements, targets, loops, comprehensions, defs -/
namespace DL
open PySem PySem.Spec PyProof.Rows L2
structure KE (c : Cn) (H : Hp) (Dd : DL.Ends) (D : L2.Ends) : Prop where
  nx : ∀ env' M' σ' H', Dd.nx env' M' → RelEnv c.K H' σ' env' → R c M' H' → Tups c.K H H' → D.nx σ' H'
  rt : KQ c H Dd.rt D.rt
  bk : ∀ env' M' σ' H', Dd.bk env' M' → RelEnv c.K H' σ' env' → R c M' H' → Tups c.K H H' → D.bk σ' H'
  ct : ∀ env' M' σ' H', Dd.ct env' M' → RelEnv c.K H' σ' env' → R c M' H' → Tups c.K H H' → D.ct σ' H'
theorem KE.mono {c : Cn} {H H' : Hp} {Dd : DL.Ends} {D : L2.Ends} (k : KE c H Dd D) (t : Tups c.K H H') : KE c H' Dd D :=
  ⟨fun e m σ h q r a b => k.nx e m σ h q r a (t.trans b), k.rt.mono t, fun e m σ h q r a b => k.bk e m σ h q r a (t.trans b), fun e m σ h q r a b => k.ct e m σ h q r a (t.trans b)⟩
def tOfS (c : Cn) (XE : XK) (g : WS) : TS := fun D σ H => ∃ env M Ed Dd, Pre c XE σ H env M Ed ∧ g Ed Dd env M ∧ KE c H Dd D
def SS (X : Cx) (CA : String → Addr) (XE : XK) (st : Stmt) (g : WS) : Prop := PS X st (tOfS (cn X CA) XE g)
def SSs (X : Cx) (CA : String → Addr) (XE : XK) (st : List Stmt) (g : WS) : Prop := PSs X st (tOfS (cn X CA) XE g)
def OwnW (vs : List Nat) (σ σ1 : L2.St) : Prop := σ1.length = σ.length ∧ ∀ j, j ∉ vs → σ1[j]? = σ[j]?
theorem OwnW.refl {vs : List Nat} {σ : L2.St} : OwnW vs σ σ := ⟨rfl, fun _ _ => rfl⟩
theorem OwnW.trans {vs : List Nat} {σ σ1 σ2 : L2.St} (a : OwnW vs σ σ1) (b : OwnW vs σ1 σ2) : OwnW vs σ σ2 := ⟨b.1.trans a.1, fun j h => (b.2 j h).trans (a.2 j h)⟩
theorem wipe_get {σ : L2.St} {i : Nat} : ∀ {vs : List Nat}, i ∈ vs → i < σ.length → (L2.wipe σ vs)[i]? = some none
  | v :: vs, h, hl => by
    unfold L2.wipe
    by_cases e : i = v
    · subst e
      rw [List.getElem?_set_self (by rw [wipe_length]; exact hl)]
    · rw [List.getElem?_set_ne (Ne.symm e)]
      exact wipe_get ((List.mem_cons.mp h).resolve_left e) hl
theorem OwnW.wipe {vs : List Nat} {σ σ1 : L2.St} (a : OwnW vs (L2.wipe σ vs) σ1) : L2.wipe σ1 vs = L2.wipe σ vs := by
  have hl : σ1.length = σ.length := by rw [a.1, wipe_length]
  apply List.ext_getElem?
  intro i
  by_cases hi : i ∈ vs
  · by_cases hlt : i < σ.length
    · rw [wipe_get hi (by rw [hl]; exact hlt), wipe_get hi hlt]
    · rw [List.getElem?_eq_none (by rw [wipe_length, hl]; omega), List.getElem?_eq_none (by rw [wipe_length]; omega)]
  · rw [L2.wipe_out hi, a.2 i hi]
theorem RelEnv.wipe {K : PySem.W.Frag} {H : Hp} {σ : L2.St} {env : Ev} (r : RelEnv K H σ env) : ∀ vs : List Nat, RelEnv K H (L2.wipe σ vs) (DL.wipe env vs)
  | [] => r
  | v :: vs => by unfold L2.wipe DL.wipe; exact (RelEnv.wipe r vs).clear v
/-- a yielded pair may be a tuple that is no more than read -/
inductive RepY (K : PySem.W.Frag) (H : Hp) : V → D → Prop
  | rep {v : V} {d : D} : Rep K H v d → RepY K H v d
  | pair {a : Addr} {vs : List V} {ds : List D} : SqT K H a vs → Reps K H vs ds → RepY K H (.ref a) (.tup ds)
def RepB (y : Bool) (K : PySem.W.Frag) (H : Hp) (v : V) (d : D) : Prop := if y = true then RepY K H v d else Rep K H v d
theorem RepB.y {y : Bool} {K : PySem.W.Frag} {H : Hp} {v : V} {d : D} (r : RepB y K H v d) : RepY K H v d := by
  cases y with
  | true => exact r
  | false => exact .rep r
theorem Rep.b {y : Bool} {K : PySem.W.Frag} {H : Hp} {v : V} {d : D} (r : Rep K H v d) : RepB y K H v d := by
  cases y with
  | true => exact RepY.rep r
  | false => exact r
def tOfG (y : Bool) (c : Cn) (XE : XK) (vs : List Nat) (g : WG) : TG := fun v σ H Q => ∃ d env M Ed Qd, RepB y c.K H v d ∧ Pre c XE σ H env M Ed ∧ g d Ed env M Qd ∧
  ∀ env1 M1 σ1 H1, Qd env1 M1 → RelEnv c.K H1 σ1 env1 → R c M1 H1 → Tups c.K H H1 → OwnW vs σ σ1 → Q σ1 H1
def SG (y : Bool) (X : Cx) (CA : String → Addr) (XE : XK) (vs : List Nat) (tg : Expr) (g : WG) : Prop := PG X tg (tOfG y (cn X CA) XE vs g)
def tOfGs (c : Cn) (XE : XK) (vs : List Nat) (gs : List WG) : TGs := fun ws σ H Q => ∃ ds env M Ed Qd, Reps c.K H ws ds ∧ Pre c XE σ H env M Ed ∧ gAll gs ds Ed env M Qd ∧
  ∀ env1 M1 σ1 H1, Qd env1 M1 → RelEnv c.K H1 σ1 env1 → R c M1 H1 → Tups c.K H H1 → OwnW vs σ σ1 → Q σ1 H1
def SGs (X : Cx) (CA : String → Addr) (XE : XK) (vs : List Nat) (ts : List Expr) (gs : List WG) : Prop := PGs X ts (tOfGs (cn X CA) XE vs gs)
structure ItR (c : Cn) (y : Bool) (H1 : Hp) (J : It) (chk : Sto → Prop) (xs : List D) : Prop where
  go : ∀ i H M, Tups c.K H1 H → R c M H → chk M → i < xs.length → J.go i H
  stop : ∀ H M, Tups c.K H1 H → R c M H → chk M → J.stop xs.length H
  yld : ∀ i H x H' M, Tups c.K H1 H → R c M H → chk M → J.yld i H x H' → ∀ d, xs[i]? = some d → RepB y c.K H' x d ∧ R c M H' ∧ Tups c.K H H'
def tOfI (y : Bool) (c : Cn) (XE : XK) (src : WI) : TI := fun σ H Rk => ∃ env M Ed kd, Pre c XE σ H env M Ed ∧ src Ed env M kd ∧ ∀ chk xs M1 H1 J, kd chk xs M1 → R c M1 H1 → Tups c.K H H1 → ItR c y H1 J chk xs → Rk J H1
def SI (y : Bool) (X : Cx) (CA : String → Addr) (XE : XK) (tg iter : Expr) (src : WI) : Prop := PI X tg iter (tOfI y (cn X CA) XE src)
section
variable {X : Cx} {st : Stmt} {sts : List Stmt} {tg iter : Expr} {ts : List Expr}
theorem PS_weak {t t' : TS} (h : PS X st t) (w : ∀ D σ H, t' D σ H → t D σ H) : PS X st t' := ⟨fun pins s σ H D I q => h.run pins s σ H D I (w D σ H q)⟩
theorem PSs_weak {t t' : TS} (h : PSs X sts t) (w : ∀ D σ H, t' D σ H → t D σ H) : PSs X sts t' := ⟨fun pins s σ H D I q => h.run pins s σ H D I (w D σ H q)⟩
theorem PG_weak {t t' : TG} (h : PG X tg t) (w : ∀ v σ H Q, t' v σ H Q → t v σ H Q) : PG X tg t' := ⟨fun pins s σ H v u Q I r q => h.run pins s σ H v u Q I r (w v σ H Q q)⟩
theorem PGs_weak {t t' : TGs} (h : PGs X ts t) (w : ∀ v σ H Q, t' v σ H Q → t v σ H Q) : PGs X ts t' := ⟨fun pins s σ H v u Q I r q => h.run pins s σ H v u Q I r (w v σ H Q q)⟩
theorem PI_weak {t t' : TI} (h : PI X tg iter t) (w : ∀ σ H Q, t' σ H Q → t σ H Q) : PI X tg iter t' := ⟨fun pins s σ H Q I q => h.run pins s σ H Q I (w σ H Q q)⟩
end
section
variable {X : Cx} {CA : String → Addr} {XE : XK} {a b e o : Expr} {es : List Expr} {f g h : WE} {gt gs' : WG} {fs : List WE} {pos : Pos} {t u : WT} {x m : Str} {st : Stmt} {sts sts' : List Stmt} {s s' : WS} {y : Bool} {vs : List Nat} {tg iter : Expr} {ts : List Expr} {gs : List WG} {src : WI}
/-! ## targets -/
theorem g_name (i : Nat) {x : Str} (hN : X.N.Nodup) (hv : i ∈ vs) (hi : X.N[i]? = some x := by rfl) (hx : Loc X.env.scope x := by first | exact Or.inl rfl | exact Or.inr rfl) (hf : X.fn x = true ∨ X.env.scope.names.lookup x = some .local := by first | exact .inl rfl | exact .inr rfl | assumption) : SG false X CA XE vs (.Name x pos) (gName i) :=
  PG_weak (pg_name hN hi hx hf) fun v σ H Q ⟨d, env, M, Ed, Qd, r, p, q, k⟩ => k _ _ _ _ q (p.e.put r i) p.r .refl ⟨List.length_set, fun j hj => List.getElem?_set_ne (fun z => hj (by rw [← z]; exact hv))⟩
theorem gs_nil : SGs X CA XE vs [] [] := PGs_weak pgs_nil fun v σ H Q ⟨ds, env, M, Ed, Qd, r, p, q, k⟩ => by
  cases r with
  | nil => exact ⟨rfl, k _ _ _ _ q p.e p.r .refl .refl⟩
  | cons _ _ => exact q.elim
theorem gs_cons (h1 : SG false X CA XE vs e gt) (h2 : SGs X CA XE vs es gs) (hs : (assignEach (e :: es) X.env).map (·.2) = assign e X.env :: (assignEach es X.env).map (·.2) := by rfl) : SGs X CA XE vs (e :: es) (gt :: gs) :=
  PGs_weak (pgs_cons h1 h2 hs) fun v σ H Q ⟨ds, env, M, Ed, Qd, r, p, q, k⟩ => by
    cases r with
    | nil => exact q.elim
    | @cons v d vs' ds' r1 r2 =>
      exact ⟨v, vs', rfl, d, env, M, Ed, _, r1, p, q, fun env1 M1 σ1 H1 q1 e1 R1 T1 O1 => ⟨ds', env1, M1, Ed, Qd, r2.m T1, ⟨e1, R1, p.x.mono T1⟩, q1, fun env2 M2 σ2 H2 q2 e2 R2 T2 O2 => k _ _ _ _ q2 e2 R2 (T1.trans T2) (O1.trans O2)⟩⟩
theorem g_tup {k n : Nat} (hc : X.calm = true) (h : SGs X CA XE vs es gs) (hl : gs.length = n := by rfl)
    (hn : (assignEach es X.env).length = n := by rfl) (hst : (assignEach es X.env).findIdx? (·.1) = none := by rfl) : SG y X CA XE vs (.Tuple es k pos) (gTup gs) :=
  PG_weak (pg_tup hc h hn hst) fun v σ H Q ⟨d, env, M, Ed, Qd, r, p, q, k⟩ => by
    have r := r.y
    unfold DL.gTup at q
    split at q
    · obtain ⟨hd, q⟩ := q
      cases r with
      | rep r =>
        cases r with
        | tup s r1 => exact ⟨_, _, rfl, s.s, by rw [r1.length, hd, hl], _, env, M, Ed, Qd, r1, p, q, k⟩
      | pair s r1 => exact ⟨_, _, rfl, s, by rw [r1.length, hd, hl], _, env, M, Ed, Qd, r1, p, q, k⟩
    · exact q.elim
theorem g_sub {k : Nat} (hr : Room k X.A) (ha : SE X CA XE a f) (hb : SE X CA XE b g)
    (hq : ∀ v, assign (.Subscript a b pos) X.env v = (do
      let ov ← holding [v] (eval a X.env)
      let iv ← holding [v, ov] (eval b X.env)
      standAt pos
      holding [v, ov, iv] (setItem ov iv v)
      release [v, ov, iv] []) := by intro _; rfl) : SG false X CA XE vs (.Subscript a b pos) (gSub f g) :=
  PG_weak (pg_sub ha hb (set_A (CA := CA) hr) hq) fun v σ H Q ⟨d, env, M, Ed, Qd, r, p, q, k⟩ => by
    refine ⟨env, M, Ed, _, p, q, fun d1 M1 v1 H1 q1 r1 R1 T1 => ⟨env, M1, Ed, _, p.to T1 R1, q1, fun d2 M2 v2 H2 q2 r2 R2 T2 => ?_⟩⟩
    have r0 : Rep (cn X CA).K H2 v d := Rep.m r (T1.trans T2)
    have r1 := r1.m T2
    have T := T1.trans T2
    unfold setD at q2
    split at q2
    · cases r1
      split at q2
      · split at q2
        · split at q2
          · rename_i j ej
            cases r2
            obtain ⟨ws, h1, rr⟩ := R2 _ _ (by assumption)
            have T3 : Tups (cn X CA).K H2 (upd H2 _ (.lst (ws.set j v))) := Tups.wr h1 (ne_frz trivial)
            exact .inl ⟨_, ws, _, j, rfl, rfl, h1, by rw [rr.length]; exact ej, k _ _ _ _ q2 (p.e.mono (T.trans T3)) (R2.at T3 ⟨_, upd_same, (rr.set r0 j).m T3⟩) (T.trans T3) .refl⟩
          · exact q2.elim
        · exact q2.elim
      · split at q2
        · rename_i κ ek
          obtain ⟨ws, h1, rr⟩ := R2 _ _ (by assumption)
          have T3 : Tups (cn X CA).K H2 (upd H2 _ (.dK (putK ws κ v))) := Tups.wr h1 (ne_frz trivial)
          exact .inr (.inl ⟨_, ws, κ, rfl, r2.key ek, h1, by rw [Paired.length rr]; exact q2.1, k _ _ _ _ q2.2 (p.e.mono (T.trans T3)) (R2.at T3 ⟨_, upd_same, paired_mono (put_ins r0 rr) fun _ _ z => ⟨z.1, z.2.m T3⟩⟩) (T.trans T3) .refl⟩)
        · exact q2.elim
      · rename_i aa _ kvs eM
        obtain ⟨ws, h1, rr⟩ := R2 _ _ eM
        obtain ⟨hk, hz, q2⟩ := q2
        obtain ⟨xs, n, rfl, _, _⟩ := nkOk_nest hk
        cases r2 with
        | @tup bb _ _ s1 p1 =>
          have T3 : Tups (cn X CA).K H2 (upd H2 aa (NDict (cn X CA) aa (putN ws (nkD (.tup xs)) bb v))) := Tups.wr h1 (ne_frz trivial)
          exact .inr (.inr ⟨_, bb, ws, _, .tup xs, rfl, rfl, h1, rr, .tup s1 p1, hk, by rw [Paired.length rr]; exact hz, k _ _ _ _ q2 (p.e.mono (T.trans T3)) (R2.at T3 ⟨_, upd_same, paired_mono (putN_d hk (.tup s1 p1) r0 rr) fun _ _ z => ⟨z.1, z.2.1, z.2.2.1.m T3, z.2.2.2.m T3⟩⟩) (T.trans T3) .refl⟩)
      · exact q2.elim
    · exact q2.elim
/-! ## statements -/
theorem ss_nil : SSs X CA XE [] sNil := PSs_weak pss_nil fun D σ H ⟨env, M, Ed, Dd, p, q, k⟩ => k.nx _ _ _ _ q p.e p.r .refl
theorem ss_cons (h1 : SS X CA XE st s) (h2 : SSs X CA XE sts s') : SSs X CA XE (st :: sts) (sSeq s s') :=
  PSs_weak (pss_cons h1 h2) fun D σ H ⟨env, M, Ed, Dd, p, q, k⟩ => ⟨env, M, Ed, _, p, q, ⟨fun e' M' σ' H' q' r' R' T' => ⟨e', M', Ed, Dd, ⟨r', R', p.x.mono T'⟩, q', k.mono T'⟩, k.rt, k.bk, k.ct⟩⟩
theorem ss_one (h1 : SS X CA XE st s) : SSs X CA XE [st] s := pss_one h1
theorem s_asg (ha : SE X CA XE a f) (hg : SG false X CA XE vs tg gt) (hs : swapsWithSole [tg] a pos.line X.env = pure false := by rfl) (hw : swappedStores [tg] a X.env = pure none := by rfl)
    (h1 : (assignEach [tg] X.env).map (·.2) = [assign tg X.env] := by rfl) : SS X CA XE (.Assign [tg] a pos) (sAsg f gt) :=
  PS_weak (ps_asg ha hg hs hw h1) fun D σ H ⟨env, M, Ed, Dd, p, q, k⟩ => ⟨env, M, Ed, _, p, q, fun d M1 v H1 q1 r1 R1 T1 => ⟨d, env, M1, Ed, _, r1, p.to T1 R1, q1, fun e' M' σ' H' q' r' R' T' _ => k.nx _ _ _ _ q' r' R' (T1.trans T')⟩⟩
theorem s_set (i : Nat) {x : Str} {pos' : Pos} (hN : X.N.Nodup) (ha : SE X CA XE a f) (hi : X.N[i]? = some x := by rfl) (hx : Loc X.env.scope x := by first | exact Or.inl rfl | exact Or.inr rfl) (hs : swapsWith a (some (.Name x pos')) pos.line X.env = pure false := by rfl)
    (hf : X.fn x = true ∨ X.env.scope.names.lookup x = some .local := by first | exact .inl rfl | exact .inr rfl | assumption) : SS X CA XE (.Assign [.Name x pos'] a pos) (sAsg f (gName i)) :=
  PS_weak (ps_set hN hi hx ha hs hf) fun D σ H ⟨env, M, Ed, Dd, p, q, k⟩ => ⟨env, M, Ed, _, p, q, fun d M1 v H1 q1 r1 R1 T1 => k.nx _ _ _ _ q1 ((p.e.mono T1).put r1 i) R1 T1⟩
/-- a, b = x, y of local names -/
theorem s_par (i j : Nat) {x y : Str} {px py pt : Pos} {kt k2 pt2} (hc : X.calm = true) (hN : X.N.Nodup) (hij : i ≠ j) (ha : SE X CA XE a f) (hb : SE X CA XE b g)
    (hw : swappedStores [.Tuple [.Name x px, .Name y py] kt pt] (.Tuple [a, b] k2 pt2) X.env = pure (some [x, y])) (hi : X.N[i]? = some x := by rfl) (hj : X.N[j]? = some y := by rfl)
    (hx : X.env.scope.names.lookup x = some .local := by rfl) (hy : X.env.scope.names.lookup y = some .local := by rfl) (he : starEach [a, b] X.env = (false, eval a X.env) :: starEach [b] X.env := by rfl) (he2 : starEach [b] X.env = (false, eval b X.env) :: starEach [] X.env := by rfl)
    (hs : swapsWithSole [.Tuple [.Name x px, .Name y py] kt pt] (.Tuple [a, b] k2 pt2) pos.line X.env = pure false := by rfl) :
    SS X CA XE (.Assign [.Tuple [.Name x px, .Name y py] kt pt] (.Tuple [a, b] k2 pt2) pos) (sAsg (eTup [f, g]) (gTup [gName i, gName j])) :=
  PS_weak (ps_par hc hN hi hj hij hx hy (pa_cons ha (pa_cons hb pa_nil he2) he) hw hs) fun D σ H ⟨env, M, Ed, Dd, p, q, k⟩ => ⟨env, M, Ed, _, p, q, fun d1 M1 v1 H1 q1 r1 R1 T1 => ⟨env, M1, Ed, _, p.to T1 R1, q1, fun d2 M2 v2 H2 q2 r2 R2 T2 =>
    ⟨v1, v2, rfl, k.nx _ _ _ _ q2.2 ((((p.e.mono (T1.trans T2)).put (r1.m T2) i)).put r2 j) R2 (T1.trans T2)⟩⟩⟩
theorem s_par3 (i j l : Nat) {c : Expr} {x y z : Str} {px py pz pt : Pos} {kt k2 pt2} (hc : X.calm = true) (hN : X.N.Nodup) (hij : i ≠ j) (hil : i ≠ l) (hjl : j ≠ l) (ha : SE X CA XE a f) (hb : SE X CA XE b g) (hcc : SE X CA XE c h)
    (hw : swappedStores [.Tuple [.Name x px, .Name y py, .Name z pz] kt pt] (.Tuple [a, b, c] k2 pt2) X.env = pure (some [x, y, z])) (hi : X.N[i]? = some x := by rfl) (hj : X.N[j]? = some y := by rfl) (hl : X.N[l]? = some z := by rfl)
    (hx : X.env.scope.names.lookup x = some .local := by rfl) (hy : X.env.scope.names.lookup y = some .local := by rfl) (hz : X.env.scope.names.lookup z = some .local := by rfl) (he : starEach [a, b, c] X.env = (false, eval a X.env) :: starEach [b, c] X.env := by rfl) (he2 : starEach [b, c] X.env = (false, eval b X.env) :: starEach [c] X.env := by rfl) (he3 : starEach [c] X.env = (false, eval c X.env) :: starEach [] X.env := by rfl)
    (hs : swapsWithSole [.Tuple [.Name x px, .Name y py, .Name z pz] kt pt] (.Tuple [a, b, c] k2 pt2) pos.line X.env = pure false := by rfl) :
    SS X CA XE (.Assign [.Tuple [.Name x px, .Name y py, .Name z pz] kt pt] (.Tuple [a, b, c] k2 pt2) pos) (sAsg (eTup [f, g, h]) (gTup [gName i, gName j, gName l])) :=
  PS_weak (ps_par3 hc hN hi hj hl hij hil hjl hx hy hz (pa_cons ha (pa_cons hb (pa_cons hcc pa_nil he3) he2) he) hw hs) fun D σ H ⟨env, M, Ed, Dd, p, q, k⟩ => ⟨env, M, Ed, _, p, q, fun d1 M1 v1 H1 q1 r1 R1 T1 => ⟨env, M1, Ed, _, p.to T1 R1, q1, fun d2 M2 v2 H2 q2 r2 R2 T2 =>
    ⟨env, M2, Ed, _, p.to (T1.trans T2) R2, q2, fun d3 M3 v3 H3 q3 r3 R3 T3 => ⟨v1, v2, v3, rfl, k.nx _ _ _ _ q3.2 (((((p.e.mono (T1.trans (T2.trans T3))).put (r1.m (T2.trans T3)) i)).put (r2.m T3) j).put r3 l) R3 (T1.trans (T2.trans T3))⟩⟩⟩⟩
theorem s_expr (ha : SE X CA XE a f) (hs : swapsWith a none pos.line X.env = pure false := by rfl) : SS X CA XE (.Expr a pos) (sExpr f) :=
  PS_weak (ps_expr ha hs) fun D σ H ⟨env, M, Ed, Dd, p, q, k⟩ => ⟨env, M, Ed, _, p, q, fun d M1 v H1 q1 r1 R1 T1 => k.nx _ _ _ _ q1 (p.e.mono T1) R1 T1⟩
theorem s_ret (ha : SE X CA XE a f) : SS X CA XE (.Return (some a) pos) (sRet f) :=
  PS_weak (ps_ret ha) fun D σ H ⟨env, M, Ed, Dd, p, q, k⟩ => ⟨env, M, Ed, _, p, q, k.rt⟩
theorem s_retN : SS X CA XE (.Return none pos) sRetN := PS_weak ps_retN fun D σ H ⟨env, M, Ed, Dd, p, q, k⟩ => k.rt _ _ _ _ q .non p.r .refl
theorem s_pass : SS X CA XE (.Pass pos) sNil := PS_weak ps_pass fun D σ H ⟨env, M, Ed, Dd, p, q, k⟩ => k.nx _ _ _ _ q p.e p.r .refl
theorem s_break : SS X CA XE (.Break pos) sBreak := PS_weak ps_break fun D σ H ⟨env, M, Ed, Dd, p, q, k⟩ => k.bk _ _ _ _ q p.e p.r .refl
theorem s_cont : SS X CA XE (.Continue pos) sCont := PS_weak ps_continue fun D σ H ⟨env, M, Ed, Dd, p, q, k⟩ => k.ct _ _ _ _ q p.e p.r .refl
theorem s_never : SS X CA XE st sNever := PS_weak ps_never fun D σ H ⟨env, M, Ed, Dd, p, q, k⟩ => q
theorem s_if {c : Expr} (hc : ST X CA XE c t) (ha : SSs X CA XE sts s) (hb : SSs X CA XE sts' s') : SS X CA XE (.If c sts sts' pos) (sIf t s s') :=
  PS_weak (ps_if hc ha hb) fun D σ H ⟨env, M, Ed, Dd, p, q, k⟩ => ⟨env, M, Ed, _, p, q, fun c M1 H1 q1 R1 T1 => by
    cases c with
    | true => exact ⟨env, M1, Ed, Dd, p.to T1 R1, q1, k.mono T1⟩
    | false => exact ⟨env, M1, Ed, Dd, p.to T1 R1, q1, k.mono T1⟩⟩
theorem s_aug (i : Nat) {x : Str} {op : Operator} {b2 : B2} {ti : TIp} {pos' : Pos} (hN : X.N.Nodup) (ho : PIp X op ti) (hs : ∀ v1 v2 d1 d2 M H Qd Q, Rep X.K H v1 d1 → Rep X.K H v2 d2 → R (cn X CA) M H → b2 d1 d2 M Qd → KQ (cn X CA) H Qd Q → ti v1 v2 H Q) (ha : SE X CA XE a f)
    (hi : X.N[i]? = some x := by rfl) (hx : Loc X.env.scope x := by first | exact Or.inl rfl | exact Or.inr rfl) (hf : X.fn x = true ∨ X.env.scope.names.lookup x = some .local := by first | exact .inl rfl | exact .inr rfl | assumption) :
    SS X CA XE (.AugAssign (.Name x pos') op a pos) (sAug i b2 f) :=
  PS_weak (ps_aug hN hi hx ha ho hf) fun D σ H ⟨env, M, Ed, Dd, p, q, k⟩ => by
    unfold sAug at q
    split at q
    · rename_i d e
      obtain ⟨v, e1, r1⟩ := p.e.get e
      exact ⟨v, e1, env, M, Ed, _, p, q, fun d2 M1 v2 H1 q1 r2 R1 T1 => hs _ _ _ _ _ _ _ _ (r1.m T1) r2 R1 q1 fun d3 M2 v3 H2 q2 r3 R2 T2 => k.nx _ _ _ _ q2 ((p.e.mono (T1.trans T2)).put r3 i) R2 (T1.trans T2)⟩
    · exact q.elim
theorem s_augAdd (i : Nat) {x : Str} {pos' : Pos} (hN : X.N.Nodup) (ha : SE X CA XE a f)
    (hi : X.N[i]? = some x := by rfl) (hx : Loc X.env.scope x := by first | exact Or.inl rfl | exact Or.inr rfl) (hf : X.fn x = true ∨ X.env.scope.names.lookup x = some .local := by first | exact .inl rfl | exact .inr rfl | assumption) :
    SS X CA XE (.AugAssign (.Name x pos') .Add a pos) (sAug i ipAdd f) :=
  s_aug i hN ip_add (fun v1 v2 d1 d2 M H Qd Q r1 r2 hR h k => by
    unfold ipAdd at h
    split at h
    · cases r1; cases r2; exact ⟨_, _, rfl, rfl, k _ _ _ _ h (.int _) hR .refl⟩
    · exact h.elim) ha hi hx hf
theorem s_augSub (i : Nat) {x : Str} {pos' : Pos} (hN : X.N.Nodup) (ha : SE X CA XE a f)
    (hi : X.N[i]? = some x := by rfl) (hx : Loc X.env.scope x := by first | exact Or.inl rfl | exact Or.inr rfl) (hf : X.fn x = true ∨ X.env.scope.names.lookup x = some .local := by first | exact .inl rfl | exact .inr rfl | assumption) :
    SS X CA XE (.AugAssign (.Name x pos') .Sub a pos) (sAug i opSub f) :=
  s_aug i hN ip_sub (fun v1 v2 d1 d2 M H Qd Q r1 r2 hR h k => by
    unfold opSub at h
    split at h
    · cases r1; cases r2; exact ⟨_, _, rfl, rfl, k _ _ _ _ h (.int _) hR .refl⟩
    · exact h.elim) ha hi hx hf
/-! ## loops -/
section
variable {pins : List (Addr × Obj)} {σ : L2.St} {H : Hp} {s1 : Shared} {l : Addr} {xs : List V} {Rk : It → Hp → Prop}
theorem it_list (I1 : Inv X pins σ H s1) (hq : SqL X.K H l xs) (q : Rk (Itl X.K l) H) : wpAny (model X.prog X.w) X.A (pyIter (.ref l)) (PIE X pins σ tg Rk) X.xe s1 := by
  obtain ⟨its, rv, p, hz⟩ := I1.list hq
  refine wpAny_pyIter_list p.isList ?_
  refine ⟨s1.heap.objs.size, [s1.heap.objs.size], _, _, H, rfl, I1.kept (t' := s1.toks) fun b o e => Heap.get?_push_of_some _ e, turn_list l _, ⟨_, Heap.get?_push_size _ rfl, rfl, rfl⟩, fun b hb => ?_, q⟩
  have e : b = s1.heap.objs.size := by simpa using hb
  subst e
  exact I1.fpOk (Nat.le_refl _) (I1.hok.fresh (Nat.le_refl _))
theorem it_tup (I1 : Inv X pins σ H s1) (hq : SqT X.K H l xs) (q : Rk (Itt X.K l) H) : wpAny (model X.prog X.w) X.A (pyIter (.ref l)) (PIE X pins σ tg Rk) X.xe s1 := by
  obtain ⟨its, rv, p, hz⟩ := I1.tuple hq
  refine wpAny_pyIter_tuple (show s1.heap.IsTuple l its.toArray from p) ?_
  refine ⟨s1.heap.objs.size, [s1.heap.objs.size], _, _, H, rfl, I1.kept (t' := s1.toks) fun b o e => Heap.get?_push_of_some _ e, turn_tuple l _, ⟨_, Heap.get?_push_size _ rfl, rfl, rfl⟩, fun b hb => ?_, q⟩
  have e : b = s1.heap.objs.size := by simpa using hb
  subst e
  exact I1.fpOk (Nat.le_refl _) (I1.hok.fresh (Nat.le_refl _))
end
theorem itR_tup {c : Cn} {H1 : Hp} {l : Addr} {ws : List V} {ds : List D} (s : SqD c.K H1 l ws) (r : Reps c.K H1 ws ds) : ItR c false H1 (Itt c.K l) (fun _ => True) ds where
  go := fun i H M T R _ hi => ⟨ws, _, (T.t _ _ s).s, List.getElem?_eq_getElem (by rw [r.length]; exact hi)⟩
  stop := fun H M T R _ => ⟨ws, (T.t _ _ s).s, by rw [r.length]; exact Nat.le_refl _⟩
  yld := fun i H x H' M T R _ h d e => by
    obtain ⟨rfl, h⟩ := h
    obtain ⟨v, e1, rv⟩ := r.get e
    have := h ws (T.t _ _ s).s
    rw [e1] at this
    cases this
    exact ⟨Rep.m rv T, R, .refl⟩
theorem itR_lro {c : Cn} {H1 : Hp} {l : Addr} {ws : List V} {ds : List D} (s : SqF c.K H1 l ws) (r : Reps c.K H1 ws ds) : ItR c false H1 (Itl c.K l) (fun _ => True) ds where
  go := fun i H M T R _ hi => ⟨ws, _, (T.f _ _ s).l, List.getElem?_eq_getElem (by rw [r.length]; exact hi)⟩
  stop := fun H M T R _ => ⟨ws, (T.f _ _ s).l, by rw [r.length]; exact Nat.le_refl _⟩
  yld := fun i H x H' M T R _ h d e => by
    obtain ⟨rfl, h⟩ := h
    obtain ⟨v, e1, rv⟩ := r.get e
    have := h ws (T.f _ _ s).l
    rw [e1] at this
    cases this
    exact ⟨Rep.m rv T, R, .refl⟩
theorem itR_lst {c : Cn} {H1 : Hp} {l : Addr} {ds : List D} : ItR c false H1 (Itl c.K l) (fun M => M l = some (.lst ds)) ds where
  go := fun i H M T hR e hi => by
    obtain ⟨ws, h1, r⟩ := hR _ _ e
    exact ⟨ws, _, SqL.of h1, List.getElem?_eq_getElem (by rw [r.length]; exact hi)⟩
  stop := fun H M T hR e => by
    obtain ⟨ws, h1, r⟩ := hR _ _ e
    exact ⟨ws, SqL.of h1, by rw [r.length]; exact Nat.le_refl _⟩
  yld := fun i H x H' M T hR em h d e => by
    obtain ⟨rfl, h⟩ := h
    obtain ⟨ws, h1, r⟩ := hR _ _ em
    obtain ⟨v, e1, rv⟩ := r.get e
    have := h ws (SqL.of h1)
    rw [e1] at this
    cases this
    exact ⟨rv, hR, .refl⟩
theorem i_val (ha : SE X CA XE a f) : SI false X CA XE tg a (iVal f) := by
  refine ⟨fun pins s σ H Rk I ⟨env, M, Ed, kd, p, q, k⟩ => ?_⟩
  refine thn (ha.run pins s σ H (fun v H1 => ∃ d M1, (match d with
    | .tup xs => kd (fun _ => True) xs M1
    | .lro xs => kd (fun _ => True) xs M1
    | .ref a => match M1 a with
      | some (.lst xs) => kd (fun M' => M' a = some (.lst xs)) xs M1
      | _ => False
    | _ => False) ∧ Rep X.K H1 v d ∧ R (cn X CA) M1 H1 ∧ Tups X.K H H1) I ⟨env, M, Ed, _, p, q, fun d M1 v H1 q1 r1 R1 T1 => ⟨d, M1, q1, r1, R1, T1⟩⟩) fun v s1 ⟨x, H1, I1, rx, d, M1, q1, r1, R1, T1⟩ => ?_
  split at q1
  · cases r1 with
    | tup s1 p1 =>
      cases rx
      exact it_tup I1 s1.s (k _ _ _ _ _ q1 R1 T1 (itR_tup s1 p1))
  · cases r1 with
    | lro s1 p1 =>
      cases rx
      exact it_list I1 s1.l (k _ _ _ _ _ q1 R1 T1 (itR_lro s1 p1))
  · cases r1
    cases rx
    split at q1
    · obtain ⟨ws, h1, r⟩ := R1 _ _ (by assumption)
      exact it_list I1 (SqL.of h1) (k _ _ _ _ _ q1 R1 T1 itR_lst)
    · exact q1.elim
  · exact q1.elim
theorem rangeL_get {lo hi : Int} {i : Nat} {d : D} (h : (rangeL lo hi)[i]? = some d) : d = .int (lo + i) ∧ i < (hi - lo).toNat := by
  unfold rangeL at h
  rw [List.getElem?_map] at h
  by_cases hi' : i < (hi - lo).toNat
  · rw [List.getElem?_range hi'] at h
    cases h
    exact ⟨rfl, hi'⟩
  · rw [List.getElem?_eq_none (by rw [List.length_range]; omega)] at h
    cases h
theorem rangeL_length (lo hi : Int) : (rangeL lo hi).length = (hi - lo).toNat := by unfold rangeL; rw [List.length_map, List.length_range]
theorem itR_range {c : Cn} {H1 : Hp} {lo hi : Int} : ItR c false H1 (Itr lo (hi - lo).toNat) (fun _ => True) (rangeL lo hi) where
  go := fun i H M T hR e h => by rw [rangeL_length] at h; exact h
  stop := fun H M T hR e => by rw [rangeL_length]; exact Nat.le_refl _
  yld := fun i H x H' M T hR em h d e => by
    obtain ⟨rfl, rfl⟩ := h
    obtain ⟨rfl, _⟩ := rangeL_get e
    exact ⟨.int _, hR, .refl⟩
theorem i_range1 {p : Pos} (hm : X.mg "range" = none) (ha : SE X CA XE a f) (hg : Gl X "range" := by rfl) (he : starEach [a] X.env = (false, eval a X.env) :: starEach [] X.env := by rfl) (hs : starEach [a] X.env = [(false, eval a X.env)] := by rfl) : SI false X CA XE tg (.Call (.Name "range" p) [a] [] pos) (iRange1 f) :=
  PI_weak (pi_range1 hg hm (pa_cons ha pa_nil he) hs) fun σ H Rk ⟨env, M, Ed, kd, p, q, k⟩ => ⟨env, M, Ed, _, p, q, fun d M1 v H1 q1 r1 R1 T1 => by
    split at q1
    · rename_i j
      cases r1
      refine ⟨_, rfl, q1.1, q1.2.1, ?_⟩
      have := k _ _ _ _ _ q1.2.2 R1 T1 (itR_range (lo := 0) (hi := j))
      rw [Int.sub_zero] at this
      exact this
    · exact q1.elim⟩
theorem i_range2 {p : Pos} (hm : X.mg "range" = none) (ha : SE X CA XE a f) (hb : SE X CA XE b g) (hg : Gl X "range" := by rfl) (he : starEach [a, b] X.env = (false, eval a X.env) :: starEach [b] X.env := by rfl) (he2 : starEach [b] X.env = (false, eval b X.env) :: starEach [] X.env := by rfl) (hs : starEach [a, b] X.env = [(false, eval a X.env), (false, eval b X.env)] := by rfl) (hs2 : starEach [b] X.env = [(false, eval b X.env)] := by rfl) : SI false X CA XE tg (.Call (.Name "range" p) [a, b] [] pos) (iRange2 f g) :=
  PI_weak (pi_range2 hg hm (pa_cons ha (pa_cons hb pa_nil he2) he) hs hs2) fun σ H Rk ⟨env, M, Ed, kd, p, q, k⟩ => ⟨env, M, Ed, _, p, q, fun d M1 v H1 q1 r1 R1 T1 => ⟨env, M1, Ed, _, p.to T1 R1, q1, fun d2 M2 v2 H2 q2 r2 R2 T2 => by
    split at q2
    · cases r1; cases r2
      exact ⟨_, _, rfl, q2.1, k _ _ _ _ _ q2.2 R2 (T1.trans T2) itR_range⟩
    · exact q2.elim⟩⟩
theorem drop_get {α : Type} {xs : List α} {i : Nat} (h : i < xs.length) : xs.drop i = xs[i] :: xs.drop (i + 1) := List.drop_eq_getElem_cons h
theorem s_for (hp : PassesOwn (model X.prog X.w) X.A X.env X.xe) (hc : X.calm = true) (hi : SI y X CA XE tg iter src) (hg : SG y X CA XE vs tg gt) (hb : SSs X CA XE sts s) (hs : ∀ x, foldedSetIterable iter X.env x = pure x := by intro _; rfl) : SS X CA XE (.For tg iter sts [] pos) (sFor src gt s) :=
  PS_weak (ps_for hp hc hi hg hb hs) fun D σ H ⟨env, M, Ed, Dd, p, q, k⟩ => by
    refine ⟨env, M, Ed, _, p, q, fun chk xs M1 H1 J q1 R1 T1 it => ?_⟩
    refine ⟨fun i m σ' H' => m = xs.length - i ∧ i ≤ xs.length ∧ ∃ env' M', RelEnv X.K H' σ' env' ∧ R (cn X CA) M' H' ∧ Tups X.K H1 H' ∧ forL gt s chk (xs.drop i) Ed Dd env' M', ⟨xs.length, by simp, Nat.zero_le _, env, M1, p.e.mono T1, R1, .refl, by rw [List.drop_zero]; exact q1⟩, ?_⟩
    rintro i m σ' H' ⟨rfl, hi, env', M', e', R', T', q'⟩
    by_cases hlt : i < xs.length
    · rw [drop_get hlt] at q'
      obtain ⟨hck, q'⟩ := q'
      refine .inr ⟨it.go i H' M' T' R' hck hlt, fun σ2 H2 => (xs.length - (i + 1)) = xs.length - (i + 1) ∧ i + 1 ≤ xs.length ∧ ∃ env' M', RelEnv X.K H2 σ2 env' ∧ R (cn X CA) M' H2 ∧ Tups X.K H1 H2 ∧ forL gt s chk (xs.drop (i + 1)) Ed Dd env' M', fun σ2 H2 h2 => ⟨xs.length - (i + 1), by omega, h2⟩, fun x H2 yl => ?_⟩
      obtain ⟨rx, R2, T2⟩ := it.yld i H' x H2 M' T' R' hck yl xs[i] (List.getElem?_eq_getElem hlt)
      refine ⟨xs[i], env', M', Ed, _, rx, ⟨e'.mono T2, R2, p.x.mono (T1.trans (T'.trans T2))⟩, q', fun env3 M3 σ3 H3 q3 e3 R3 T3 _ => ?_⟩
      have T4 : Tups X.K H1 H3 := T'.trans (T2.trans T3)
      refine ⟨env3, M3, Ed, _, ⟨e3, R3, p.x.mono (T1.trans T4)⟩, q3, ⟨?_, k.rt.mono (T1.trans T4), (k.mono (T1.trans T4)).nx, ?_⟩⟩
      · exact fun e5 M5 σ5 H5 q5 r5 R5 T5 => ⟨rfl, hlt, e5, M5, r5, R5, T4.trans T5, q5⟩
      · exact fun e5 M5 σ5 H5 q5 r5 R5 T5 => ⟨rfl, hlt, e5, M5, r5, R5, T4.trans T5, q5⟩
    · have e : i = xs.length := by omega
      subst e
      rw [List.drop_length] at q'
      exact .inl ⟨it.stop H' M' T' R' q'.1, k.nx _ _ _ _ q'.2 e' R' (T1.trans T')⟩
theorem s_while {c : Expr} (hp : PassesOwn (model X.prog X.w) X.A X.env X.xe) (hc : ST X CA XE c t) (hb : SSs X CA XE sts s) : SS X CA XE (.While c sts [] pos) (sWhile t s) :=
  PS_weak (ps_while hp hc hb) fun D σ H ⟨env, M, Ed, Dd, p, q, k⟩ => by
    obtain ⟨W, ⟨m0, w0⟩, turn⟩ := q
    refine ⟨fun m σ' H' => ∃ env' M', RelEnv X.K H' σ' env' ∧ R (cn X CA) M' H' ∧ Tups X.K H H' ∧ W m env' M', ⟨m0, env, M, p.e, p.r, .refl, w0⟩, ?_⟩
    rintro m σ' H' ⟨env', M', e', R', T', w'⟩
    refine ⟨env', M', Ed, _, ⟨e', R', p.x.mono T'⟩, turn m env' M' w', fun b M2 H2 q2 R2 T2 => ?_⟩
    cases b with
    | true =>
      refine ⟨fun σ3 H3 => ∃ m', m' < m ∧ ∃ env' M', RelEnv X.K H3 σ3 env' ∧ R (cn X CA) M' H3 ∧ Tups X.K H H3 ∧ W m' env' M', fun σ3 H3 h => h, ?_⟩
      have T4 : Tups X.K H H2 := T'.trans T2
      refine ⟨env', M2, Ed, _, ⟨e'.mono T2, R2, p.x.mono T4⟩, q2, ⟨?_, k.rt.mono T4, (k.mono T4).nx, ?_⟩⟩
      · exact fun e5 M5 σ5 H5 ⟨m', hm, q5⟩ r5 R5 T5 => ⟨m', hm, e5, M5, r5, R5, T4.trans T5, q5⟩
      · exact fun e5 M5 σ5 H5 ⟨m', hm, q5⟩ r5 R5 T5 => ⟨m', hm, e5, M5, r5, R5, T4.trans T5, q5⟩
    | false => exact k.nx _ _ _ _ q2 (e'.mono T2) R2 (T'.trans T2)
/-! ## comprehensions -/
def STs (X : Cx) (CA : String → Addr) (XE : XK) (es : List Expr) (t : WT) : Prop := PTs X es (tOfT (cn X CA) XE t)
theorem PTs_weak {t t' : TT} (h : PTs X es t) (w : ∀ σ H Q, t' σ H Q → t σ H Q) : PTs X es t' := ⟨fun pins s σ H Q I q => h.run pins s σ H Q I (w σ H Q q)⟩
theorem ts_nil : STs X CA XE [] tYes := PTs_weak pts_nil fun σ H Q ⟨env, M, Ed, Qd, p, q, k⟩ => k _ _ _ q p.r .refl
theorem ts_one {c : Expr} (h : ST X CA XE c t) : STs X CA XE [c] t := pts_one h
theorem comp_of {own : List Nat} {t : WT} {f : WE} {src : WI} {gt : WG} {σ : L2.St} {H : Hp} {Q : VK} {env : Ev} {M : Sto} {Ed : XW} {Qd : KD} (p : Pre (cn X CA) XE σ H env M Ed) (q : eComp src own gt t f Ed env M Qd) (k : KQ (cn X CA) H Qd Q) :
    tLc (tOfI y (cn X CA) XE src) (tOfG y (cn X CA) E0 own gt) (tOfT (cn X CA) E0 t) (tOf (cn X CA) E0 f) own σ H Q := by
  refine ⟨env, M, Ed, _, p, q, fun chk xs M1 H1 J q1 R1 T1 it => fun D hD => ?_⟩
  obtain ⟨Rl, Tl⟩ := lay_lst (c := cn X CA) hD .nil R1
  have q1 := q1 D (R1.fresh hD)
  refine ⟨fun i m H' => m = xs.length - i ∧ i ≤ xs.length ∧ ∃ M', R (cn X CA) M' H' ∧ Tups X.K H1 H' ∧ compL D own gt t f env chk (xs.drop i) M' fun M2 => Qd (.ref D) M2, ⟨xs.length, by simp, Nat.zero_le _, _, Rl, Tl, by rw [List.drop_zero]; exact q1⟩, ?_⟩
  rintro i m H' ⟨rfl, hi, M', R', T', q'⟩
  by_cases hlt : i < xs.length
  · rw [drop_get hlt] at q'
    obtain ⟨hck, q'⟩ := q'
    refine .inr ⟨it.go i H' M' T' R' hck hlt, fun H2 => (xs.length - (i + 1)) = xs.length - (i + 1) ∧ i + 1 ≤ xs.length ∧ ∃ M', R (cn X CA) M' H2 ∧ Tups X.K H1 H2 ∧ compL D own gt t f env chk (xs.drop (i + 1)) M' fun M2 => Qd (.ref D) M2, fun H2 h2 => ⟨xs.length - (i + 1), by omega, h2⟩, fun x H2 yl => ?_⟩
    obtain ⟨rx, R2, T2⟩ := it.yld i H' x H2 M' T' R' hck yl xs[i] (List.getElem?_eq_getElem hlt)
    refine ⟨xs[i], DL.wipe env own, M', X0, _, rx, ⟨(p.e.wipe own).mono (T1.trans (T'.trans T2)), R2, KX.no⟩, q', fun env3 M3 σ3 H3 q3 e3 R3 T3 O3 => ⟨O3.wipe, ?_⟩⟩
    refine ⟨env3, M3, X0, _, ⟨e3, R3, KX.no⟩, q3, fun b M4 H4 q4 R4 T4 => ?_⟩
    have T5 : Tups X.K H1 H4 := T'.trans (T2.trans (T3.trans T4))
    cases b with
    | false => exact ⟨rfl, hlt, M4, R4, T5, q4⟩
    | true =>
      refine ⟨env3, M4, X0, _, ⟨e3.mono T4, R4, KX.no⟩, q4, fun d M6 v H6 q6 r6 R6 T6 => ?_⟩
      split at q6
      · obtain ⟨ws, h1, rr⟩ := R6 _ _ (by assumption)
        obtain ⟨a1, a2⟩ := wr_lst (c := cn X CA) R6 (by assumption) h1 (rr.append (.cons r6 .nil))
        exact ⟨ws, h1, by rw [rr.length]; exact q6.1, rfl, hlt, _, a1, T5.trans (T6.trans a2), q6.2⟩
      · exact q6.elim
  · have e : i = xs.length := by omega
    subst e
    rw [List.drop_length] at q'
    exact .inl ⟨it.stop H' M' T' R' q'.1, k _ _ _ _ q'.2 (.ref D) R' (T1.trans T')⟩
theorem d_comp {elt : Expr} {ifs : List Expr} {scope : Scope} {own : List (Str × Nat)} (hc : X.calm = true) (hN : X.N.Nodup) (hi : SI y X CA XE tg iter src) (ok : BlkOk X.N X.env.scope scope own)
    (hg : ∀ (s : Shared) (H : Hp) (C : Addr) (cl : List (Str × Addr)) (fp : List Addr), SG y (X.blk s H scope (compEnvC scope cl C X.env) fp) CA E0 (own.map (·.2)) tg gt)
    (ht : ∀ (s : Shared) (H : Hp) (C : Addr) (cl : List (Str × Addr)) (fp : List Addr), STs (X.blk s H scope (compEnvC scope cl C X.env) fp) CA E0 ifs t)
    (he : ∀ (s : Shared) (H : Hp) (C : Addr) (cl : List (Str × Addr)) (fp : List Addr), SE (X.blk s H scope (compEnvC scope cl C X.env) fp) CA E0 elt f) (hs : ∀ x, foldedSetIterable iter X.env x = pure x := by intro _; rfl) :
    SE X CA XE (.ListComp elt [⟨tg, iter, ifs, 0⟩] scope pos) (eComp src (own.map (·.2)) gt t f) :=
  PE_weak (pe_lc (g := tOfG y (cn X CA) E0 (own.map fun z : Str × Nat => z.2) gt) (tt := tOfT (cn X CA) E0 t) (te := tOf (cn X CA) E0 f) hc hN hi ok hg ht he hs) fun σ H Q ⟨env, M, Ed, Qd, p, q, k⟩ => comp_of p q k
theorem s_setComp (i : Nat) {v : Str} {py : Pos} {elt : Expr} {ifs : List Expr} {scope : Scope} {own : List (Str × Nat)} {lpos : Pos} (hc : X.calm = true) (hN : X.N.Nodup) (hsw : swapsWith (.ListComp elt [⟨tg, iter, ifs, 0⟩] scope lpos) (some (.Name v py)) pos.line X.env = pure true) (hi : SI y X CA XE tg iter src) (ok : BlkOk X.N X.env.scope scope own)
    (hg : ∀ (s : Shared) (H : Hp) (C : Addr) (cl : List (Str × Addr)) (fp : List Addr), SG y (X.blk s H scope (compEnvC scope cl C X.env) fp) CA E0 (own.map (·.2)) tg gt)
    (ht : ∀ (s : Shared) (H : Hp) (C : Addr) (cl : List (Str × Addr)) (fp : List Addr), STs (X.blk s H scope (compEnvC scope cl C X.env) fp) CA E0 ifs t)
    (he : ∀ (s : Shared) (H : Hp) (C : Addr) (cl : List (Str × Addr)) (fp : List Addr), SE (X.blk s H scope (compEnvC scope cl C X.env) fp) CA E0 elt f)
    (hy : X.N[i]? = some v := by rfl) (hyl : X.env.scope.names.lookup v = some .local := by rfl) (hs : ∀ x, foldedSetIterable iter X.env x = pure x := by intro _; rfl) :
    SS X CA XE (.Assign [.Name v py] (.ListComp elt [⟨tg, iter, ifs, 0⟩] scope lpos) pos) (sAsg (eComp src (own.map (·.2)) gt t f) (gName i)) :=
  PS_weak (ps_setLc (g := tOfG y (cn X CA) E0 (own.map fun z : Str × Nat => z.2) gt) (tt := tOfT (cn X CA) E0 t) (te := tOf (cn X CA) E0 f) hc hN hy hyl hsw hi ok hg ht he hs) fun D σ H ⟨env, M, Ed, Dd, p, q, k⟩ =>
    comp_of (Q := fun x H1 => L2.gName i x σ H1 D.nx) p q fun d M1 v H1 q1 r1 R1 T1 => k.nx _ _ _ _ q1 ((p.e.mono T1).put r1 i) R1 T1
end
end DL

set_option Elab.async false
set_option linter.all false
set_option maxRecDepth 100000
set_option maxHeartbeats 4000000
/-! DU: more rules: texts that are walked, is True -/
namespace DL
open PySem PySem.Spec PyProof.Rows L2
section
variable {X : Cx} {CA : String → Addr} {XE : XK} {a : Expr} {tg : Expr} {f : WE}
theorem itR_str {c : Cn} {H1 : Hp} {x : Str} : ItR c false H1 (Its x) (fun _ => True) (charsOf x) where
  go := fun i H M T hR e h => by show i < x.cps.size; simpa [charsOf] using h
  stop := fun H M T hR e => by show x.cps.size ≤ _; simp [charsOf]
  yld := fun i H v H' M T hR em h d e => by
    obtain ⟨rfl, c, hc, rfl⟩ := h
    have : d = .str ⟨#[c]⟩ := by
      unfold charsOf at e
      rw [List.getElem?_map, Array.getElem?_toList, hc] at e
      exact (Option.some.inj e).symm
    subst this
    exact ⟨.str _, hR, .refl⟩
theorem i_str (ha : SE X CA XE a f) : SI false X CA XE tg a (iChars f) :=
  PI_weak (pi_str ha) fun σ H Rk ⟨env, M, Ed, kd, p, q, k⟩ => ⟨env, M, Ed, _, p, q, fun d M1 v H1 q1 r1 R1 T1 => by
    split at q1
    · cases r1
      exact ⟨_, rfl, k _ _ _ _ _ q1 R1 T1 itR_str⟩
    · exact q1.elim⟩
theorem op_isB : OpR X (compareOp .Is) (fun x y H Q => ∃ a b, x = .bl a ∧ y = .bl b ∧ Q (.bl (a == b)) H) := by
  intro pins s σ H x y v u Q I rx ry h
  obtain ⟨a, b, rfl, rfl, q⟩ := h
  cases rx; cases ry
  show wpAny _ _ ((isSame (Value.bool a) (Value.bool b)) >>= fun z => pure (Value.bool z)) _ _ s
  exact wpAny_bind (wpAny_isSame_plain rfl (wpAny_pure (fin_bl I q (by cases a <;> cases b <;> rfl))))
theorem op_notB : OpR X (compareOp .IsNot) (fun x y H Q => ∃ a b, x = .bl a ∧ y = .bl b ∧ Q (.bl (!(a == b))) H) := by
  intro pins s σ H x y v u Q I rx ry h
  obtain ⟨a, b, rfl, rfl, q⟩ := h
  cases rx; cases ry
  show wpAny _ _ ((isSame (Value.bool a) (Value.bool b)) >>= fun z => pure (Value.bool (!z))) _ _ s
  exact wpAny_bind (wpAny_isSame_plain rfl (wpAny_pure (fin_bl I q (by cases a <;> cases b <;> rfl))))
theorem isBS {c : Cn} : CmpS c cIsB (fun x y H Q => ∃ a b, x = .bl a ∧ y = .bl b ∧ Q (.bl (a == b)) H) := by
  intro v1 v2 d1 d2 M H kd Q r1 r2 hR h k
  unfold cIsB at h
  split at h
  · cases r1; cases r2
    exact ⟨_, _, rfl, rfl, k _ h⟩
  · exact h.elim
theorem notBS {c : Cn} : CmpS c cNotB (fun x y H Q => ∃ a b, x = .bl a ∧ y = .bl b ∧ Q (.bl (!(a == b))) H) := by
  intro v1 v2 d1 d2 M H kd Q r1 r2 hR h k
  unfold cNotB at h
  split at h
  · cases r1; cases r2
    exact ⟨_, _, rfl, rfl, k _ h⟩
  · exact h.elim
end
end DL

set_option Elab.async false
set_option linter.all false
set_option maxRecDepth 100000
/-! DX: what proofs over the clean level lean on -/
namespace DL
open PySem
/-- of a smaller store: what lies in it lies in the other, too -/
def Le (M M' : Sto) : Prop := ∀ x o, M x = some o → M' x = some o
/-- what a def leaves behind beside what was asked may be forgotten -/
def endsL (Q : KD) : Ends := endsOf fun d M' => ∃ M0, Le M0 M' ∧ Q d M0
/-! ## the steps, one at a time -/
/-- what comes after a statement: simp stops here -/
def K (f : Ev → Sto → Prop) : Ev → Sto → Prop := f
theorem go {f : Ev → Sto → Prop} {e : Ev} {m : Sto} (h : f e m) : K f e m := h
def onS (x : Option D) (k : D → Prop) : Prop := match x with
  | some d => k d
  | none => False
@[simp] theorem onS_some {d : D} {k : D → Prop} : onS (some d) k = k d := id rfl
@[simp] theorem onS_none {k : D → Prop} : onS none k = False := id rfl
def subO (o : Option O) (y : D) (k : D → Prop) : Prop := match o with
  | some (.lst xs) => match y with
    | .int i => at' xs i k
    | _ => False
  | some o => dLk o y fun r => match r with
      | some d => k d
      | none => False
  | none => False
def lenO (o : Option O) (k : Nat → Prop) : Prop := match o with
  | some (.lst xs) => k xs.length
  | _ => False
def truO (o : Option O) (k : Bool → Prop) : Prop := match o with
  | some (.lst xs) => k (!xs.isEmpty)
  | some (.dk kvs) => k (!kvs.isEmpty)
  | _ => False
def lstO (o : Option O) (k : List D → Prop) : Prop := match o with
  | some (.lst xs) => k xs
  | _ => False
@[simp] theorem lstO_lst {xs : List D} {k : List D → Prop} : lstO (some (.lst xs)) k = k xs := id rfl
@[simp] theorem lenO_lst {xs : List D} {k : Nat → Prop} : lenO (some (.lst xs)) k = k xs.length := id rfl
@[simp] theorem truO_lst {xs : List D} {k : Bool → Prop} : truO (some (.lst xs)) k = k (!xs.isEmpty) := id rfl
@[simp] theorem truO_dk {xs : List (Key × D)} {k : Bool → Prop} : truO (some (.dk xs)) k = k (!xs.isEmpty) := id rfl
section
variable {E : XW} {env : Ev} {M : Sto} {Q : KD} {f g h : WE} {fs : List WE} {d e : D} {ds : List D} {D' : Ends} {s t : WS} {i j : Int} {n : Nat} {a b : Addr} {k : D → Prop} {xs ys : List D} {u v : WT} {T : Bool → Sto → Prop} {G H : WG} {B : Bool → Prop}
@[simp] theorem eVar_s : eVar n E env M Q = onS (gt env n) fun d => Q d M := id rfl
@[simp] theorem eC_s : eC d E env M Q = Q d M := id rfl
@[simp] theorem argsW_nil {Q : List D → Sto → Prop} : argsW [] E env M Q = Q [] M := id rfl
@[simp] theorem argsW_cons {Q : List D → Sto → Prop} : argsW (f :: fs) E env M Q = f E env M fun d M1 => argsW fs E env M1 fun ds M2 => Q (d :: ds) M2 := id rfl
@[simp] theorem eTup_s : eTup fs E env M Q = argsW fs E env M fun ds M1 => Q (.tup ds) M1 := id rfl
@[simp] theorem eLst_s : eLst fs E env M Q = argsW fs E env M fun ds M1 => ∀ p, M1 p = none → Q (.ref p) (M1.set p (.lst ds)) := id rfl
@[simp] theorem eBin_s {op : B2} : eBin op f g E env M Q = f E env M fun x M1 => g E env M1 fun y M2 => op x y M2 Q := id rfl
def negD (x : D) (k : Int → Prop) : Prop := match x with
  | .int i => k (-i)
  | _ => False
@[simp] theorem negD_int {k : Int → Prop} : negD (.int i) k = k (-i) := id rfl
@[simp] theorem eNeg_s : eNeg f E env M Q = f E env M fun x M1 => negD x fun i => Q (.int i) M1 := id rfl
@[simp] theorem eCmp_s {c : C2} : eCmp c f g E env M Q = f E env M fun x M1 => g E env M1 fun y M2 => c x y M2 fun b => Q (.bl b) M2 := id rfl
@[simp] theorem tCmp_s {c : C2} : tCmp c f g E env M T = f E env M fun x M1 => g E env M1 fun y M2 => c x y M2 fun b => T b M2 := id rfl
@[simp] theorem tChain_s {c c' : C2} : tChain c c' f g h E env M T = f E env M fun x M1 => g E env M1 fun y M2 => c x y M2 fun b =>
  if b = true then h E env M2 fun z M3 => c' y z M3 fun b' => T b' M3 else T false M2 := id rfl
@[simp] theorem tTru_s : tTru f E env M T = f E env M fun x M1 => truD x M1 fun b => T b M1 := id rfl
@[simp] theorem tAnd_s : tAnd u v E env M T = u E env M fun b M1 => if b = true then v E env M1 T else T false M1 := id rfl
@[simp] theorem tOr_s : tOr u v E env M T = u E env M fun b M1 => if b = true then T true M1 else v E env M1 T := id rfl
@[simp] theorem tNot_s : tNot u E env M T = u E env M fun b M1 => T (!b) M1 := id rfl
@[simp] theorem tYes_s : tYes E env M T = T true M := id rfl
def blD (x : D) (k : Bool → Prop) : Prop := match x with
  | .bl b => k b
  | _ => False
@[simp] theorem blD_bl {b : Bool} : blD (.bl b) B = B b := id rfl
@[simp] theorem eAnd_s : eAnd f g E env M Q = f E env M fun x M1 => blD x fun b => if b = true then g E env M1 Q else Q (.bl false) M1 := id rfl
@[simp] theorem eOr_s : eOr f g E env M Q = f E env M fun x M1 => blD x fun b => if b = true then Q (.bl true) M1 else g E env M1 Q := id rfl
@[simp] theorem eNotB_s : eNotB f E env M Q = f E env M fun x M1 => blD x fun b => Q (.bl (!b)) M1 := id rfl
@[simp] theorem eIf_s : eIf u f g E env M Q = u E env M fun b M1 => if b = true then f E env M1 Q else g E env M1 Q := id rfl
@[simp] theorem eSub_s : eSub f g E env M Q = f E env M fun x M1 => g E env M1 fun y M2 => subD x y M2 fun d => Q d M2 := id rfl
@[simp] theorem optW_none {Q : Option Int → Sto → Prop} : optW none E env M Q = Q none M := id rfl
def intD (x : D) (k : Int → Prop) : Prop := match x with
  | .int i => k i
  | _ => False
@[simp] theorem intD_int {k : Int → Prop} : intD (.int i) k = k i := id rfl
@[simp] theorem optW_some {Q : Option Int → Sto → Prop} : optW (some f) E env M Q = f E env M fun x M1 => intD x fun i => Q (some i) M1 := id rfl
@[simp] theorem eSl_s {lo hi : Option WE} : eSl f lo hi E env M Q = f E env M fun x M1 => optW lo E env M1 fun l M2 => optW hi E env M2 fun h M3 => slD x l h M3 Q := id rfl
@[simp] theorem eRev_s : eRev f E env M Q = f E env M fun x M1 => revD x M1 Q := id rfl
@[simp] theorem eCall_s {S : FD} : eCall S fs E env M Q = argsW fs E env M fun ds M1 => S E ds M1 Q := id rfl
@[simp] theorem eLen_s : eLen f E env M Q = f E env M fun x M1 => lenD x M1 fun n => Q (.int n) M1 := id rfl
@[simp] theorem eAbs_s : eAbs f E env M Q = f E env M fun x M1 => intD x fun i => Q (.int (if i < 0 then -i else i)) M1 := id rfl
def int1D (x : D) (k : Int → Prop) : Prop := match x with
  | .int i => k i
  | .bl b => k (if b then 1 else 0)
  | _ => False
@[simp] theorem int1D_int {k : Int → Prop} : int1D (.int i) k = k i := id rfl
@[simp] theorem int1D_bl {b : Bool} {k : Int → Prop} : int1D (.bl b) k = k (if b then 1 else 0) := id rfl
@[simp] theorem eInt_s : eInt f E env M Q = f E env M fun x M1 => int1D x fun i => Q (.int i) M1 := by
  unfold eInt int1D
  first | rfl | (congr 1; done) | (congr 1; funext x M1; cases x <;> rfl)
def itD (x : D) (M : Sto) (k : List D → Prop) : Prop := match x with
  | .tup xs => k xs
  | .ref a => lstO (M a) k
  | _ => False
@[simp] theorem itD_tup {k : List D → Prop} : itD (.tup xs) M k = k xs := id rfl
@[simp] theorem itD_ref {k : List D → Prop} : itD (.ref a) M k = lstO (M a) k := id rfl
@[simp] theorem eTupOf_s : eTupOf f E env M Q = f E env M fun x M1 => itD x M1 fun xs => Q (.tup xs) M1 := by
  unfold eTupOf itD lstO
  first | rfl | (congr 1; done) | (congr 1; funext x M1; cases x <;> rfl)
@[simp] theorem subD_tup : subD (.tup xs) (.int i) M k = at' xs i k := id rfl
@[simp] theorem subD_lro : subD (.lro xs) (.int i) M k = at' xs i k := id rfl
@[simp] theorem subD_ref : subD (.ref a) d M k = subO (M a) d k := id rfl
@[simp] theorem subO_lst : subO (some (.lst xs)) (.int i) k = at' xs i k := id rfl
@[simp] theorem subO_dkS {kvs : List (Key × D)} {z : Str} : subO (some (.dk kvs)) (.str z) k = onS (lk kvs (.inr z)) k := id rfl
@[simp] theorem subO_dkI {kvs : List (Key × D)} {z : Int} : subO (some (.dk kvs)) (.int z) k = onS (lk kvs (.inl z)) k := id rfl
@[simp] theorem at_s : at' xs i k = onS (L2.atI xs i) k := id rfl
@[simp] theorem lenD_tup {k : Nat → Prop} : lenD (.tup xs) M k = k xs.length := id rfl
@[simp] theorem lenD_lro {k : Nat → Prop} : lenD (.lro xs) M k = k xs.length := id rfl
@[simp] theorem lenD_str {z : Str} {k : Nat → Prop} : lenD (.str z) M k = (z.length ≤ sizeLine ∧ k z.length) := id rfl
@[simp] theorem lenD_ref {k : Nat → Prop} : lenD (.ref a) M k = lenO (M a) k := id rfl
@[simp] theorem truD_non : truD .non M B = B false := id rfl
@[simp] theorem truD_bl {b : Bool} : truD (.bl b) M B = B b := id rfl
@[simp] theorem truD_int : truD (.int i) M B = B (i != 0) := id rfl
@[simp] theorem truD_tup : truD (.tup xs) M B = B (!xs.isEmpty) := id rfl
@[simp] theorem truD_ref : truD (.ref a) M B = truO (M a) B := id rfl
@[simp] theorem opAdd_int : opAdd (.int i) (.int j) M Q = Q (.int (i + j)) M := id rfl
@[simp] theorem opAdd_str {a b : Str} : opAdd (.str a) (.str b) M Q = (a.length + b.length ≤ sizeLine ∧ Q (.str (a ++ b)) M) := id rfl
@[simp] theorem opAdd_tup : opAdd (.tup xs) (.tup ys) M Q = (xs.length + ys.length ≤ sizeLine ∧ Q (.tup (xs ++ ys)) M) := id rfl
@[simp] theorem opAdd_ref : opAdd (.ref a) (.ref b) M Q = (lstO (M a) fun xs => lstO (M b) fun ys => xs.length + ys.length ≤ sizeLine ∧ ∀ p, M p = none → Q (.ref p) (M.set p (.lst (xs ++ ys)))) := by
  unfold opAdd lstO
  dsimp only
  generalize M a = x
  generalize M b = y
  rcases x with _ | o <;> rcases y with _ | o' <;> first | rfl | (cases o <;> first | rfl | (cases o' <;> rfl))
@[simp] theorem ipAdd_int : ipAdd (.int i) (.int j) M Q = Q (.int (i + j)) M := id rfl
@[simp] theorem opSub_int : opSub (.int i) (.int j) M Q = Q (.int (i - j)) M := id rfl
@[simp] theorem opMul_int : opMul (.int i) (.int j) M Q = (IntMulOk i j ∧ Q (.int (i * j)) M) := id rfl
@[simp] theorem opDiv_int : opDiv (.int i) (.int j) M Q = (j ≠ 0 ∧ Builtin.divisionGoesByPylong i j = false ∧ Q (.int (i.fdiv j)) M) := id rfl
@[simp] theorem opMod_int : opMod (.int i) (.int j) M Q = (j ≠ 0 ∧ Q (.int (i.fmod j)) M) := id rfl
@[simp] theorem opPow_int : opPow (.int i) (.int j) M Q = (0 ≤ j ∧ j ≤ 1000000 ∧ i.natAbs < 2 ^ 64 ∧ Q (.int (i ^ j.toNat)) M) := id rfl
@[simp] theorem cEq_int : cEq (.int i) (.int j) M B = B (decide (i = j)) := id rfl
@[simp] theorem cEq_str {a b : Str} : cEq (.str a) (.str b) M B = B (decide (a = b)) := id rfl
@[simp] theorem cEq_bl {a b : Bool} : cEq (.bl a) (.bl b) M B = B (a == b) := id rfl
@[simp] theorem cNe_s : cNe d e M B = cEq d e M fun b => B (!b) := id rfl
@[simp] theorem cLt_int : cLt (.int i) (.int j) M B = B (decide (i < j)) := id rfl
@[simp] theorem cLe_int : cLe (.int i) (.int j) M B = B (decide (i ≤ j)) := id rfl
@[simp] theorem cGt_int : cGt (.int i) (.int j) M B = B (decide (j < i)) := id rfl
@[simp] theorem cGe_int : cGe (.int i) (.int j) M B = B (decide (j ≤ i)) := id rfl
@[simp] theorem cIsN_s : cIsN d .non M B = B (decide (d = .non)) := id rfl
@[simp] theorem cNotN_s : cNotN d .non M B = B (!decide (d = .non)) := id rfl
@[simp] theorem cNotIn_s : cNotIn d e M B = cIn d e M fun b => B (!b) := id rfl
@[simp] theorem slD_tup {lo hi : Option Int} : slD (.tup xs) lo hi M Q = Q (.tup (cut xs lo hi)) M := id rfl
@[simp] theorem slD_lro {lo hi : Option Int} : slD (.lro xs) lo hi M Q = ∀ p, M p = none → Q (.ref p) (M.set p (.lst (cut xs lo hi))) := id rfl
@[simp] theorem slD_ref {lo hi : Option Int} : slD (.ref a) lo hi M Q = lstO (M a) fun xs => ∀ p, M p = none → Q (.ref p) (M.set p (.lst (cut xs lo hi))) := id rfl
@[simp] theorem lstAt_s {k : Addr → List D → Prop} : lstAt (.ref a) M k = lstO (M a) fun xs => k a xs := id rfl
@[simp] theorem eAppend_s : eAppend f g E env M Q = f E env M fun x M1 => lstAt x M1 fun _ _ => g E env M1 fun y M2 => lstAt x M2 fun a xs => xs.length < sizeLine ∧ Q .non (M2.set a (.lst (xs ++ [y]))) := id rfl
@[simp] theorem ePop_s : ePop f E env M Q = f E env M fun x M1 => lstAt x M1 fun a xs => onS xs.getLast? fun y => Q y (M1.set a (.lst xs.dropLast)) := id rfl
@[simp] theorem eExtend_s : eExtend f g E env M Q = f E env M fun x M1 => lstAt x M1 fun _ _ => g E env M1 fun y M2 => lstAt x M2 fun a xs => lstAt y M2 fun _ ys => xs.length + ys.length ≤ sizeLine ∧ Q .non (M2.set a (.lst (xs ++ ys))) := id rfl
/-! what is walked -/
@[simp] theorem iRange1_s {k : (Sto → Prop) → List D → Sto → Prop} : iRange1 f E env M k = f E env M fun x M1 => intD x fun j => -(2 ^ 62) ≤ j ∧ j < 2 ^ 62 ∧ k (fun _ => True) (rangeL 0 j) M1 := id rfl
def valI (x : D) (M : Sto) (k : (Sto → Prop) → List D → Sto → Prop) : Prop := match x with
  | .tup xs => k (fun _ => True) xs M
  | .lro xs => k (fun _ => True) xs M
  | .ref a => lstO (M a) fun xs => k (fun M' => M' a = some (.lst xs)) xs M
  | _ => False
@[simp] theorem valI_tup {k : (Sto → Prop) → List D → Sto → Prop} : valI (.tup xs) M k = k (fun _ => True) xs M := id rfl
@[simp] theorem valI_lro {k : (Sto → Prop) → List D → Sto → Prop} : valI (.lro xs) M k = k (fun _ => True) xs M := id rfl
@[simp] theorem valI_ref {k : (Sto → Prop) → List D → Sto → Prop} : valI (.ref a) M k = lstO (M a) fun xs => k (fun M' => M' a = some (.lst xs)) xs M := id rfl
@[simp] theorem iVal_s {k : (Sto → Prop) → List D → Sto → Prop} : iVal f E env M k = f E env M fun x M1 => valI x M1 k := by
  unfold iVal valI lstO
  first | rfl | (congr 1; done) | (congr 1; funext x M1; cases x <;> rfl)
/-! targets, statements -/
@[simp] theorem gName_s {P : Ev → Sto → Prop} : gName n d E env M P = P (put env n d) M := id rfl
@[simp] theorem gAll_nil {P : Ev → Sto → Prop} : gAll [] [] E env M P = P env M := id rfl
@[simp] theorem gAll_cons {P : Ev → Sto → Prop} {gs : List WG} : gAll (G :: gs) (d :: ds) E env M P = G d E env M fun env1 M1 => gAll gs ds E env1 M1 P := id rfl
@[simp] theorem gTup_s {P : Ev → Sto → Prop} {gs : List WG} : gTup gs (.tup ds) E env M P = (ds.length = gs.length ∧ gAll gs ds E env M P) := id rfl
@[simp] theorem gSub_s {P : Ev → Sto → Prop} : gSub f g d E env M P = f E env M fun o M1 => g E env M1 fun i M2 => setD o i d M2 fun M3 => P env M3 := id rfl
def onN (x : Option Nat) (k : Nat → Prop) : Prop := match x with
  | some d => k d
  | none => False
@[simp] theorem onN_some {k : Nat → Prop} : onN (some n) k = k n := id rfl
def setO (o : Option O) (i d : D) (Q : O → Prop) : Prop := match o with
    | some (.lst xs) => match i with
      | .int k => onN (L2.ixN xs.length k) fun j => Q (.lst (xs.set j d))
      | _ => False
    | some (.dk kvs) => match keyD i with
      | some κ => kvs.length < sizeLine ∧ Q (.dk (ins kvs κ d))
      | none => False
    | some (.dn kvs) => nkOk i = true ∧ kvs.length < sizeLine ∧ Q (.dn (ins kvs i d))
    | _ => False
@[simp] theorem setD_ref {P : Sto → Prop} {y : D} : setD (.ref a) y d M P = setO (M a) y d fun o => P (M.set a o) := by
  unfold setD setO
  dsimp only
  generalize M a = x
  rcases x with _ | o
  · rfl
  · cases o with
    | lst xs => cases y <;> first | rfl | (dsimp only; split <;> simp_all [onN])
    | dk _ => first | (dsimp only; done) | (dsimp only; cases keyD y <;> rfl)
    | dn _ => rfl
    | ins _ _ => rfl
    | dkF _ => rfl
    | dnF _ => rfl
    | fn _ => rfl
    | lam _ _ => rfl
    | code _ => rfl
    | tab _ => rfl
@[simp] theorem setO_lst {P : O → Prop} : setO (some (.lst xs)) (.int i) d P = onN (L2.ixN xs.length i) fun j => P (.lst (xs.set j d)) := id rfl
@[simp] theorem setO_dkS {P : O → Prop} {kvs : List (Key × D)} {z : Str} : setO (some (.dk kvs)) (.str z) d P = (kvs.length < sizeLine ∧ P (.dk (ins kvs (.inr z) d))) := id rfl
@[simp] theorem setO_dkI {P : O → Prop} {kvs : List (Key × D)} {z : Int} : setO (some (.dk kvs)) (.int z) d P = (kvs.length < sizeLine ∧ P (.dk (ins kvs (.inl z) d))) := id rfl
@[simp] theorem setO_dn {P : O → Prop} {kvs : List (D × D)} : setO (some (.dn kvs)) e d P = (nkOk e = true ∧ kvs.length < sizeLine ∧ P (.dn (ins kvs e d))) := by
  cases e <;> rfl
@[simp] theorem sNil_s : sNil E D' env M = D'.nx env M := id rfl
@[simp] theorem sSeq_s : sSeq s t E D' env M = s E { D' with nx := K (t E D') } env M := id rfl
@[simp] theorem sAsg_s : sAsg f G E D' env M = f E env M fun d M1 => G d E env M1 D'.nx := id rfl
@[simp] theorem sAug_s {op : B2} : sAug n op f E D' env M = onS (gt env n) fun x => f E env M fun y M1 => op x y M1 fun z M2 => D'.nx (put env n z) M2 := id rfl
@[simp] theorem sExpr_s : sExpr f E D' env M = f E env M fun _ M1 => D'.nx env M1 := id rfl
@[simp] theorem sRet_s : sRet f E D' env M = f E env M D'.rt := id rfl
@[simp] theorem sRetN_s : sRetN E D' env M = D'.rt .non M := id rfl
@[simp] theorem sIf_s : sIf u s t E D' env M = u E env M fun c M1 => if c = true then s E D' env M1 else t E D' env M1 := id rfl
@[simp] theorem sBreak_s : sBreak E D' env M = D'.bk env M := id rfl
@[simp] theorem sCont_s : sCont E D' env M = D'.ct env M := id rfl
@[simp] theorem sFor_s {src : WI} : sFor src G s E D' env M = src E env M fun chk xs M1 => forL G s chk xs E D' env M1 := id rfl
@[simp] theorem eComp_s {src : WI} {vs : List Nat} : eComp src vs G u f E env M Q = src E env M fun chk xs M1 => ∀ p, M1 p = none →
  compL p vs G u f env chk xs (M1.set p (.lst [])) fun M2 => Q (.ref p) M2 := id rfl
/-! loops -/
theorem forL_nil {chk : Sto → Prop} : forL G s chk [] E D' env M = (chk M ∧ D'.nx env M) := id rfl
theorem forL_cons {chk : Sto → Prop} {x : D} : forL G s chk (x :: xs) E D' env M = (chk M ∧ G x E env M fun env1 M1 => s E { D' with nx := K (forL G s chk xs E D'), ct := K (forL G s chk xs E D'), bk := D'.nx } env1 M1) := id rfl
theorem compL_nil {p : Addr} {vs : List Nat} {chk : Sto → Prop} {P : Sto → Prop} : compL p vs G u f env chk [] M P = (chk M ∧ P M) := id rfl
theorem compL_cons {p : Addr} {vs : List Nat} {chk : Sto → Prop} {P : Sto → Prop} {x : D} : compL p vs G u f env chk (x :: xs) M P = (chk M ∧ G x X0 (wipe env vs) M fun env1 M1 => u X0 env1 M1 fun b M2 =>
    if b = true then f X0 env1 M2 fun d M3 => lstO (M3 p) fun acc => acc.length < sizeLine ∧ compL p vs G u f env chk xs (M3.set p (.lst (acc ++ [d]))) P
    else compL p vs G u f env chk xs M2 P) := id rfl
end
theorem Le.refl {M : Sto} : Le M M := fun _ _ h => h
theorem Le.trans {M M' M'' : Sto} (h : Le M M') (h' : Le M' M'') : Le M M'' := fun x o e => h' x o (h x o e)
theorem Le.fresh {M M' : Sto} {p : Addr} {o : O} (h : Le M M') (hp : M p = none) : Le M (M'.set p o) := fun x u e => by
  have : x ≠ p := fun he => by subst he; rw [hp] at e; cases e
  rw [set_ne this]; exact h x u e
theorem Le.set {M M' : Sto} {p : Addr} {o : O} (h : Le M M') : Le (M.set p o) (M'.set p o) := fun x u e => by
  by_cases hx : x = p
  · subst hx; rw [set_same] at e ⊢; exact e
  · rw [set_ne hx] at e ⊢; exact h x u e
/-- beside one place -/
def LeX (a : Addr) (M M' : Sto) : Prop := ∀ x o, x ≠ a → M x = some o → M' x = some o
theorem LeX.refl {a : Addr} {M : Sto} : LeX a M M := fun _ _ _ h => h
theorem LeX.fresh {a : Addr} {M M' : Sto} {p : Addr} {o : O} (h : LeX a M M') (hp : M p = none) : LeX a M (M'.set p o) := fun x u n e => by
  have : x ≠ p := fun he => by subst he; rw [hp] at e; cases e
  rw [set_ne this]; exact h x u n e
theorem LeX.at {a : Addr} {M M' : Sto} {o : O} (h : LeX a M M') : LeX a M (M'.set a o) := fun x u n e => by
  rw [set_ne n]; exact h x u n e
theorem LeX.trans {a : Addr} {M M' M'' : Sto} (h : LeX a M M') (h' : LeX a M' M'') : LeX a M M'' := fun x o n e => h' x o n (h x o n e)
theorem LeX.le {a : Addr} {M M' : Sto} {o : O} (h : LeX a M M') (e : M' a = some o) : Le (M.set a o) M' := fun x u ex => by
  by_cases hx : x = a
  · subst hx; rw [set_same] at ex; rw [e]; exact ex
  · rw [set_ne hx] at ex; exact h x u hx ex
theorem set_none {M : Sto} {a p : Addr} {o : O} : M.set a o p = none ↔ p ≠ a ∧ M p = none := by
  by_cases h : p = a
  · subst h; rw [set_same]; simp
  · rw [set_ne h]; simp [h]
theorem fdiv_pos {a b : Int} (h : 0 < b) : a.fdiv b = a / b := Int.fdiv_eq_ediv_of_nonneg a (Int.le_of_lt h)
theorem fmod_pos {a b : Int} (h : 0 < b) : a.fmod b = a % b := Int.fmod_eq_emod_of_nonneg a (Int.le_of_lt h)
theorem mulOk_small {a b : Int} (h : b.natAbs < 2 ^ 63) : IntMulOk a b := IntMulOk.of_right (intBits_le_64 (by omega) (by omega))
theorem mulOk_small' {a b : Int} (h : a.natAbs < 2 ^ 63) : IntMulOk a b := IntMulOk.of_left (intBits_le_64 (by omega) (by omega))
theorem getElem_map {α : Type} {xs : List α} {f : α → D} {i : Nat} : (xs.map f)[i]? = xs[i]?.map f := by simp
@[simp] theorem atI_s {α : Type} (xs : List α) (i : Int) : L2.atI xs i = (L2.ixN xs.length i).bind fun j => xs[j]? := id rfl
@[simp] theorem ixN_s (n : Nat) (i : Int) : L2.ixN n i = if 0 ≤ i then (if i < n then some i.toNat else none) else if -(n : Int) ≤ i then some (i + n).toNat else none := id rfl
/-! ## how big a number is -/
structure Sm (m : Nat) (x : Int) : Prop where
  h : x.natAbs < 2 ^ m
theorem Sm.bits {m : Nat} {x : Int} (h : Sm m x) : Builtin.Int.intBits x ≤ m := intBits_le_iff.mpr h.h
theorem Sm.of_bits {m : Nat} {x : Int} (h : Builtin.Int.intBits x ≤ m) : Sm m x := ⟨intBits_le_iff.mp h⟩
theorem Sm.mono {m n : Nat} {x : Int} (h : Sm m x) (hl : m ≤ n) : Sm n x := ⟨Nat.lt_of_lt_of_le h.h (Nat.pow_le_pow_right (by decide) hl)⟩
theorem Sm.mul {m n : Nat} {x y : Int} (hx : Sm m x) (hy : Sm n y) : Sm (m + n) (x * y) := .of_bits (intBits_mul_le hx.bits hy.bits)
theorem Sm.add {m n : Nat} {x y : Int} (hx : Sm m x) (hy : Sm n y) : Sm (max m n + 1) (x + y) := .of_bits (intBits_add_le hx.bits hy.bits)
theorem Sm.of_le {m : Nat} {x y : Int} (h : x.natAbs ≤ y.natAbs) (hy : Sm m y) : Sm m x := ⟨Nat.lt_of_le_of_lt h hy.h⟩
theorem Sm.neg {m : Nat} {x : Int} (hx : Sm m x) : Sm m (-x) := hx.of_le (by omega)
theorem Sm.lit {m : Nat} {x : Int} (h : x.natAbs < 2 ^ 60) (hm : 60 ≤ m) : Sm m x := Sm.mono (m := 60) ⟨h⟩ hm
theorem Sm.mulOk {m n : Nat} {x y : Int} (hx : Sm m x) (hy : Sm n y) (h : m + n ≤ 134217728) : IntMulOk x y := IntMulOk.of_le hx.bits hy.bits h
theorem Sm.np {m : Nat} {x y : Int} (h : Sm m y) (hm : m < 9000) : Builtin.divisionGoesByPylong x y = false := by
  refine PyProof.noPylong_of_log2 ?_
  by_cases h0 : y.natAbs = 0
  · rw [h0, Nat.log2_zero]; omega
  · exact Nat.lt_of_lt_of_le ((Nat.log2_lt h0).mpr h.h) (Nat.le_of_lt hm)
theorem np_small {x y : Int} (h : y.natAbs < 1073741824) : Builtin.divisionGoesByPylong x y = false := PyProof.noPylong_small h
theorem fn1_e {g : D → XW → Sto → KD → Prop} {E : XW} {ds : List D} {M : Sto} {Q : KD} (h : fn1 g E ds M Q) : ∃ x, ds = [x] ∧ g x E M Q := by
  unfold fn1 at h; split at h
  · exact ⟨_, rfl, h⟩
  · exact h.elim
theorem fn2_e {g : D → D → XW → Sto → KD → Prop} {E : XW} {ds : List D} {M : Sto} {Q : KD} (h : fn2 g E ds M Q) : ∃ x y, ds = [x, y] ∧ g x y E M Q := by
  unfold fn2 at h; split at h
  · exact ⟨_, _, rfl, h⟩
  · exact h.elim
theorem fn3_e {g : D → D → D → XW → Sto → KD → Prop} {E : XW} {ds : List D} {M : Sto} {Q : KD} (h : fn3 g E ds M Q) : ∃ x y z, ds = [x, y, z] ∧ g x y z E M Q := by
  unfold fn3 at h; split at h
  · exact ⟨_, _, _, rfl, h⟩
  · exact h.elim
theorem fn4_e {g : D → D → D → D → XW → Sto → KD → Prop} {E : XW} {ds : List D} {M : Sto} {Q : KD} (h : fn4 g E ds M Q) : ∃ x y z u, ds = [x, y, z, u] ∧ g x y z u E M Q := by
  unfold fn4 at h; split at h
  · exact ⟨_, _, _, _, rfl, h⟩
  · exact h.elim
theorem fn5_e {g : D → D → D → D → D → XW → Sto → KD → Prop} {E : XW} {ds : List D} {M : Sto} {Q : KD} (h : fn5 g E ds M Q) : ∃ x y z u v, ds = [x, y, z, u, v] ∧ g x y z u v E M Q := by
  unfold fn5 at h; split at h
  · exact ⟨_, _, _, _, _, rfl, h⟩
  · exact h.elim
theorem rt_endsL {Q : KD} {d : D} {M0 M : Sto} (l : Le M0 M) (q : Q d M0) : (endsL Q).rt d M := ⟨M0, l, q⟩
@[simp] theorem endsL_rt {Q : KD} {d : D} {M : Sto} : (endsL Q).rt d M ↔ ∃ M0, Le M0 M ∧ Q d M0 := Iff.rfl
@[simp] theorem endsL_nx {Q : KD} {e : Ev} {M : Sto} : (endsL Q).nx e M ↔ ∃ M0, Le M0 M ∧ Q .non M0 := Iff.rfl
/-! ## loops and comprehensions by what stays -/
section
variable {E : XW} {env : Ev} {M : Sto} {f : WE} {D' : Ends} {s : WS} {G : WG} {p : Addr} {vs : List Nat} {chk : Sto → Prop} {P : Sto → Prop}
theorem for_ind (I : List D → Ev → Sto → Prop)
    (step : ∀ x xs e m, I (x :: xs) e m → chk m ∧ ∀ N : Ev → Sto → Prop, (∀ e' m', I xs e' m' → N e' m') → G x E e m fun e1 m1 => s E { D' with nx := N, ct := N, bk := D'.nx } e1 m1)
    (last : ∀ e m, I [] e m → chk m ∧ D'.nx e m) : ∀ xs e m, I xs e m → forL G s chk xs E D' e m
  | [], e, m, h => by rw [forL_nil]; exact last e m h
  | x :: xs, e, m, h => by
    rw [forL_cons]
    have h' := step x xs e m h
    exact ⟨h'.1, h'.2 _ fun e' m' hi => for_ind I step last xs e' m' hi⟩
theorem comp_ind (I : List D → List D → Sto → Prop)
    (step : ∀ x xs acc m, I acc (x :: xs) m → chk m ∧ acc.length < sizeLine ∧ ∀ T : KD, (∀ d m', m' p = some (.lst acc) → I (acc ++ [d]) xs (m'.set p (.lst (acc ++ [d]))) → T d m') →
      G x X0 (wipe env vs) m fun e1 m1 => f X0 e1 m1 T)
    (last : ∀ acc m, I acc [] m → chk m ∧ P m) : ∀ xs acc m, I acc xs m → compL p vs G tYes f env chk xs m P
  | [], acc, m, h => by rw [compL_nil]; exact last acc m h
  | x :: xs, acc, m, h => by
    rw [compL_cons]
    have h' := step x xs acc m h
    refine ⟨h'.1, ?_⟩
    simp only [tYes_s, if_pos]
    exact h'.2.2 _ fun d m' e hi => by
      rw [e, lstO_lst]; exact ⟨h'.2.1, comp_ind I step last xs _ _ hi⟩
theorem comp_map (val : D → D) (R : Sto → Prop) (hR : ∀ m o, R m → R (m.set p o)) (hc : ∀ m, R m → chk m) : ∀ (xs acc : List D) (M : Sto),
    (∀ x ∈ xs, ∀ m (T : KD), R m → T (val x) m → G x X0 (wipe env vs) m fun e1 m1 => f X0 e1 m1 T) → acc.length + xs.length ≤ sizeLine → M p = some (.lst acc) → R M → P (M.set p (.lst (acc ++ xs.map val))) →
    compL p vs G tYes f env chk xs M P
  | [], acc, M, _, _, e, r, h => by
    rw [compL_nil]; refine ⟨hc M r, ?_⟩
    simp only [List.map_nil, List.append_nil] at h
    rw [set_self e] at h; exact h
  | x :: xs, acc, M, hb, hl, e, r, h => by
    rw [compL_cons]; refine ⟨hc M r, ?_⟩
    simp only [tYes_s, if_pos]
    refine hb x (.head _) M _ r ?_
    rw [e, lstO_lst]
    simp only [List.length_cons] at hl
    refine ⟨by omega, comp_map val R hR hc xs _ _ (fun y hy => hb y (.tail _ hy)) (by simp; omega) set_same (hR _ _ r) ?_⟩
    rw [set_set]
    simpa using h
end
theorem sizeLine_ge : 100000 ≤ sizeLine := by decide
@[simp] theorem ofString_inj {a b : String} : Str.ofString a = Str.ofString b ↔ a = b := by
  refine ⟨fun h => ?_, fun h => by rw [h]⟩
  rw [Str.ofString_eq_toList, Str.ofString_eq_toList] at h
  injection h with h
  have h := Array.toList_inj.mpr h
  simp only at h
  have h2 := (List.map_inj_right (fun x y e => Char.toNat_inj.mp e)).mp h
  exact String.toList_inj.mp h2
def chrI (x : D) (M : Sto) (k : (Sto → Prop) → List D → Sto → Prop) : Prop := match x with
  | .str s => k (fun _ => True) (charsOf s) M
  | _ => False
@[simp] theorem chrI_str {s : Str} {M : Sto} {k : (Sto → Prop) → List D → Sto → Prop} : chrI (.str s) M k = k (fun _ => True) (charsOf s) M := id rfl
@[simp] theorem iChars_s {f : WE} {E : XW} {env : Ev} {M : Sto} {k : (Sto → Prop) → List D → Sto → Prop} : iChars f E env M k = f E env M fun x M1 => chrI x M1 k := id rfl
@[simp] theorem cIsB_bl {a b : Bool} {M : Sto} {k : Bool → Prop} : cIsB (.bl a) (.bl b) M k = k (a == b) := id rfl
@[simp] theorem cNotB_bl {a b : Bool} {M : Sto} {k : Bool → Prop} : cNotB (.bl a) (.bl b) M k = k (!(a == b)) := id rfl
/-! in -/
def inO (o : Option O) (x : D) (k : Bool → Prop) : Prop := match o with
    | some (.lst xs) => flat x = true ∧ xs.all flat = true ∧ k (xs.any fun z => eqF z x)
    | some o => dLk o x fun r => k r.isSome
    | none => False
@[simp] theorem cIn_str {s t : Str} {M : Sto} {k : Bool → Prop} : cIn (.str t) (.str s) M k = k (!(Builtin.Str.occurrences s t 0 s.length 1).isEmpty) := id rfl
@[simp] theorem cIn_tup {x : D} {xs : List D} {M : Sto} {k : Bool → Prop} : cIn x (.tup xs) M k = (flat x = true ∧ xs.all flat = true ∧ k (xs.any fun z => eqF z x)) := id rfl
@[simp] theorem cIn_ref {x : D} {a : Addr} {M : Sto} {k : Bool → Prop} : cIn x (.ref a) M k = inO (M a) x k := id rfl
@[simp] theorem inO_lst {x : D} {xs : List D} {k : Bool → Prop} : inO (some (.lst xs)) x k = (flat x = true ∧ xs.all flat = true ∧ k (xs.any fun z => eqF z x)) := id rfl
@[simp] theorem inO_dkS {z : Str} {kvs : List (Key × D)} {k : Bool → Prop} : inO (some (.dk kvs)) (.str z) k = k (lk kvs (.inr z)).isSome := id rfl
@[simp] theorem inO_dn {z : D} {kvs : List (D × D)} {k : Bool → Prop} : inO (some (.dn kvs)) z k = (nkOk z = true ∧ k (lk kvs z).isSome) := by
  cases z <;> exact rfl
@[simp] theorem revD_tup {xs : List D} {M : Sto} {Q : KD} : revD (.tup xs) M Q = Q (.tup xs.reverse) M := id rfl
@[simp] theorem revD_ref {a : Addr} {M : Sto} {Q : KD} : revD (.ref a) M Q = lstO (M a) fun xs => ∀ p, M p = none → Q (.ref p) (M.set p (.lst xs.reverse)) := id rfl
@[simp] theorem subD_str {s : Str} {i : Int} {M : Sto} {k : D → Prop} : subD (.str s) (.int i) M k = (s.length ≤ sizeLine ∧ onN (L2.atI s.cps.toList i) fun c => k (.str ⟨#[c]⟩)) := id rfl
@[simp] theorem lockO_dk {kvs : List (Key × D)} {k : O → O → Prop} : lockO (some (.dk kvs)) k = k (.dk kvs) (.dkF kvs) := id rfl
@[simp] theorem lockO_dn {kvs : List (D × D)} {k : O → O → Prop} : lockO (some (.dn kvs)) k = k (.dn kvs) (.dnF kvs) := id rfl
@[simp] theorem lockD_ref {a : Addr} {M : Sto} {k : Addr → O → O → Prop} : lockD (some (.ref a)) M k = lockO (M a) (k a) := id rfl
@[simp] theorem eLock_s {i : Nat} {f : WE} {E : XW} {env : Ev} {M : Sto} {Q : KD} : eLock i f E env M Q = lockD (gt env i) M fun a o o' => f X0 env (M.set a o') fun d M' => M' a = some o' ∧ Q d (M'.set a o) := id rfl
@[simp] theorem keysO_dkF {kvs : List (Key × D)} {k : O → List D → Prop} : keysO (some (.dkF kvs)) k = k (.dkF kvs) (kvs.map fun kv => dKey kv.1) := id rfl
@[simp] theorem keysO_dnF {kvs : List (D × D)} {k : O → List D → Prop} : keysO (some (.dnF kvs)) k = k (.dnF kvs) (kvs.map Prod.fst) := id rfl
def keysD (x : D) (M : Sto) (k : (Sto → Prop) → List D → Sto → Prop) : Prop := match x with
  | .ref a => keysO (M a) fun o xs => k (fun M' => M' a = some o) xs M
  | _ => False
@[simp] theorem keysD_ref {a : Addr} {M : Sto} {k : (Sto → Prop) → List D → Sto → Prop} : keysD (.ref a) M k = keysO (M a) fun o xs => k (fun M' => M' a = some o) xs M := id rfl
@[simp] theorem iKeysD_s {f : WE} {E : XW} {env : Ev} {M : Sto} {k : (Sto → Prop) → List D → Sto → Prop} : iKeysD f E env M k = f E env M fun x M1 => keysD x M1 k := id rfl
@[simp] theorem subO_dkFS {kvs : List (Key × D)} {z : Str} {k : D → Prop} : subO (some (.dkF kvs)) (.str z) k = onS (lk kvs (.inr z)) k := id rfl
@[simp] theorem subO_dkFI {kvs : List (Key × D)} {z : Int} {k : D → Prop} : subO (some (.dkF kvs)) (.int z) k = onS (lk kvs (.inl z)) k := id rfl
theorem subO_dn {kvs : List (D × D)} {z : D} {k : D → Prop} : subO (some (.dn kvs)) z k = (nkOk z = true ∧ onS (lk kvs z) k) := by cases z <;> exact rfl
theorem subO_dnF {kvs : List (D × D)} {z : D} {k : D → Prop} : subO (some (.dnF kvs)) z k = (nkOk z = true ∧ onS (lk kvs z) k) := by cases z <;> exact rfl
/-! more steps -/
section
variable {E : XW} {env : Ev} {M : Sto} {Q : KD} {f g h : WE} {d : D} {a : Addr} {xs : List D} {i : Int}
def tyO (o : Option O) (k : String → Prop) : Prop := match o with
    | some (.lst _) => k "list"
    | some (.dk _) => k "dict"
    | _ => False
@[simp] theorem eIsi_s {cs : List String} : eIsi f cs E env M Q = f E env M fun x M1 => tyD x M1 fun t => Q (.bl (cs.any (isTy t))) M1 := id rfl
@[simp] theorem tyD_int {k : String → Prop} : tyD (.int i) M k = k "int" := id rfl
@[simp] theorem tyD_bl {b : Bool} {k : String → Prop} : tyD (.bl b) M k = k "bool" := id rfl
@[simp] theorem tyD_str {b : Str} {k : String → Prop} : tyD (.str b) M k = k "str" := id rfl
@[simp] theorem tyD_tup {k : String → Prop} : tyD (.tup xs) M k = k "tuple" := id rfl
@[simp] theorem tyD_lro {k : String → Prop} : tyD (.lro xs) M k = k "list" := id rfl
@[simp] theorem tyD_non {k : String → Prop} : tyD .non M k = k "NoneType" := id rfl
@[simp] theorem tyD_ref {k : String → Prop} : tyD (.ref a) M k = tyO (M a) k := id rfl
@[simp] theorem tyO_lst {k : String → Prop} : tyO (some (.lst xs)) k = k "list" := id rfl
@[simp] theorem tyO_dk {kvs : List (Key × D)} {k : String → Prop} : tyO (some (.dk kvs)) k = k "dict" := id rfl
def onBs (x : Option (List Bool)) (k : List Bool → Prop) : Prop := match x with
  | some d => k d
  | none => False
@[simp] theorem onBs_some {bs : List Bool} {k : List Bool → Prop} : onBs (some bs) k = k bs := id rfl
def onIs (x : Option (List Int)) (k : List Int → Prop) : Prop := match x with
  | some d => k d
  | none => False
@[simp] theorem onIs_some {bs : List Int} {k : List Int → Prop} : onIs (some bs) k = k bs := id rfl
def lstD (x : D) (M : Sto) (k : List D → Prop) : Prop := match x with
  | .ref a => lstO (M a) k
  | _ => False
@[simp] theorem lstD_ref {k : List D → Prop} : lstD (.ref a) M k = lstO (M a) k := id rfl
@[simp] theorem eAll_s : eAll f E env M Q = f E env M fun x M1 => lstD x M1 fun xs => onBs (asBools xs) fun bs => Q (.bl (bs.all id)) M1 := by
  unfold eAll lstD lstO onBs
  first | rfl | (congr 1; done) | (congr 1; funext x M1; cases x <;> rfl)
@[simp] theorem eAny_s : eAny f E env M Q = f E env M fun x M1 => lstD x M1 fun xs => onBs (asBools xs) fun bs => Q (.bl (bs.any id)) M1 := by
  unfold eAny lstD lstO onBs
  first | rfl | (congr 1; done) | (congr 1; funext x M1; cases x <;> rfl)
@[simp] theorem eSum_s : eSum f E env M Q = f E env M fun x M1 => lstD x M1 fun xs => onIs (asInts xs) fun bs => Q (.int bs.sum) M1 := by
  unfold eSum lstD lstO onIs
  first | rfl | (congr 1; done) | (congr 1; funext x M1; cases x <;> rfl)
def lstOfO (o : Option O) (k : List D → Prop) : Prop := match o with
    | some (.lst xs) => k xs
    | some (.dk kvs) => k (kvs.map fun kv => dKey kv.1)
    | _ => False
def lstOfD (x : D) (M : Sto) (k : List D → Prop) : Prop := match x with
  | .tup xs => k xs
  | .ref a => lstOfO (M a) k
  | _ => False
@[simp] theorem lstOfD_tup {k : List D → Prop} : lstOfD (.tup xs) M k = k xs := id rfl
@[simp] theorem lstOfD_ref {k : List D → Prop} : lstOfD (.ref a) M k = lstOfO (M a) k := id rfl
@[simp] theorem lstOfO_lst {k : List D → Prop} : lstOfO (some (.lst xs)) k = k xs := id rfl
@[simp] theorem lstOfO_dk {kvs : List (Key × D)} {k : List D → Prop} : lstOfO (some (.dk kvs)) k = k (kvs.map fun kv => dKey kv.1) := id rfl
@[simp] theorem eLstOf_s : eLstOf f E env M Q = f E env M fun x M1 => lstOfD x M1 fun xs => ∀ p, M1 p = none → Q (.ref p) (M1.set p (.lst xs)) := by
  unfold eLstOf lstOfD lstOfO
  first | rfl | (congr 1; done) | (congr 1; funext x M1; cases x <;> rfl)
def onK (x : Option (List (Key × D))) (k : List (Key × D) → Prop) : Prop := match x with
  | some d => k d
  | none => False
@[simp] theorem onK_some {d : List (Key × D)} {k : List (Key × D) → Prop} : onK (some d) k = k d := id rfl
@[simp] theorem eDict_s : eDict f E env M Q = f E env M fun x M1 => itD x M1 fun xs => onK (pairsK xs) fun kvs => ∀ p, M1 p = none → Q (.ref p) (M1.set p (.dk (insAll [] kvs))) := by
  unfold eDict itemsD itD lstO onK
  first | rfl | (congr 1; done) | (congr 1; funext x M1; cases x <;> rfl)
@[simp] theorem eDk_s : eDk E env M Q = ∀ p, M p = none → Q (.ref p) (M.set p (.dk [])) := id rfl
@[simp] theorem eDn_s : eDn E env M Q = ∀ p, M p = none → Q (.ref p) (M.set p (.dn [])) := id rfl
end
theorem mem_rangeL {i j : Int} {x : D} (h : x ∈ rangeL i j) : ∃ k : Int, i ≤ k ∧ k < j ∧ x = .int k := by
  unfold rangeL at h
  obtain ⟨k, hk, rfl⟩ := List.mem_map.mp h
  exact ⟨i + k, by omega, by have := List.mem_range.mp hk; omega, rfl⟩
theorem asBools_map {α : Type} (xs : List α) (f : α → Bool) : asBools (xs.map fun x => .bl (f x)) = some (xs.map f) := by
  induction xs with
  | nil => rfl
  | cons x xs ih => show (asBools (xs.map _)).map _ = _; rw [ih]; rfl
theorem asInts_map {α : Type} (xs : List α) (f : α → Int) : asInts (xs.map fun x => .int (f x)) = some (xs.map f) := by
  induction xs with
  | nil => rfl
  | cons x xs ih => show (asInts (xs.map _)).map _ = _; rw [ih]; rfl
/-! dict(pairs) of keys all different -/
theorem ins_new {κ : Type} [DecidableEq κ] (kvs : List (κ × D)) (k : κ) (v : D) (h : k ∉ kvs.map Prod.fst) : ins kvs k v = kvs ++ [(k, v)] := by
  unfold ins
  rw [if_neg]
  simp only [List.any_eq_true, decide_eq_true_eq, not_exists, not_and]
  rintro ⟨a, b⟩ hm rfl
  exact h (List.mem_map.mpr ⟨_, hm, rfl⟩)
theorem insAll_nodup : ∀ (more kvs : List (Key × D)), ((kvs ++ more).map Prod.fst).Nodup → insAll kvs more = kvs ++ more
  | [], kvs, _ => by simp [insAll]
  | p :: more, kvs, h => by
    show insAll (ins kvs p.1 p.2) more = _
    rw [ins_new kvs p.1 p.2 ?_]
    · rw [insAll_nodup more _ (by simpa using h)]; simp
    · intro hm
      rw [List.map_append, List.nodup_append] at h
      exact h.2.2 _ hm _ (by simp) rfl
theorem pairsK_map {α : Type} (xs : List α) (k : α → Str) (v : α → D) : pairsK (xs.map fun x => .tup [.str (k x), v x]) = some (xs.map fun x => (.inr (k x), v x)) := by
  induction xs with
  | nil => rfl
  | cons x xs ih => simp only [List.map_cons, pairsK, ih, keyD]
theorem lk_mem {κ : Type} [DecidableEq κ] {kvs : List (κ × D)} {k : κ} (h : k ∈ kvs.map Prod.fst) : ∃ d, lk kvs k = some d ∧ (k, d) ∈ kvs := by
  induction kvs with
  | nil => simp at h
  | cons p r ih =>
    unfold lk
    split
    · rename_i e; exact ⟨p.2, rfl, by rw [← e]; exact .head _⟩
    · rename_i e
      have : k ∈ r.map Prod.fst := by
        rcases List.mem_cons.mp h with h | h
        · exact absurd h.symm e
        · exact h
      obtain ⟨d, h1, h2⟩ := ih this
      exact ⟨d, h1, .tail _ h2⟩
/-- what a law promises -/
def lawS : FD := fn1 fun x _ _ Q => (∃ ns : List Int, x = .lro (ns.map D.int) ∧ ns.length ≤ 63 ∧ ∀ z ∈ ns, Builtin.Int.intBits z ≤ 1048576) ∧ ∀ M', Q (.bl true) M'
end DL

set_option Elab.async false
set_option linter.all false
set_option maxRecDepth 100000
set_option maxHeartbeats 4000000
/-! DF: defs, calls, the law's end -/
namespace DL
open PySem PySem.Spec PyProof.Rows L2
def spOf (c : Cn) (g : FD) : Sp := fun vs H Q E => ∃ ds M Ed Qd, Reps c.K H vs ds ∧ R c M H ∧ g Ed ds M Qd ∧ KX c H Ed E ∧ KQ c H Qd Q
/-- a def of the text, by what it asks -/
structure FnD (c : Cn) (mg : Str → Option Value) (base : Heap) (CX : CXT) (k : Nat) (x : Str) (g : FD) : Prop where
  h : ∃ f fd ps, FnOk c.P c.w c.K mg base CX k f fd ps (spOf c g) ∧ mg x = some (.ref f) ∧ PySem.W.keepIn c.K (.ref f) = true ∧ Binds c.K fd ps []
section
variable {X : Cx} {CA : String → Addr} {XE : XK} {a b e o : Expr} {es : List Expr} {f g h : WE} {fs : List WE} {pos p : Pos} {x : Str} {G : FD} {CX : CXT} {k j : Nat}
theorem d_call (F : FnD (cn X CA) X.mg X.base CX k x G) (hr : Room j X.A) (hk : k ≤ j) (hx : Passes CX X XE) (ha : SAs X CA XE (e :: es) fs) (hg : Gl X x := by rfl) (hdb : (x == ("__debug__" : Str)) = false := by decide)
    (he : starEach (e :: es) X.env = (false, eval e X.env) :: starEach es X.env := by rfl) (hpl : (backTo pos (starEach es X.env)).any (·.1) = false := by rfl) : SE X CA XE (.Call (.Name x p) (e :: es) [] pos) (eCall G fs) := by
  obtain ⟨f, fd, ps, F, hm, hkp, hb⟩ := F.h
  exact PE_weak (pe_call F (hr.mono hk) hg hm hkp hb .nil hx ha.pa hdb he hpl) fun σ H Q ⟨env, M, Ed, Qd, p, q, kq⟩ => ⟨env, M, Ed, _, p, q, fun ds M1 vs H1 q1 r1 R1 T1 _ => by
    show spOf (cn X CA) G (vs ++ []) H1 Q XE
    rw [List.append_nil]
    exact ⟨ds, M1, Ed, Qd, r1, R1, q1, p.x.mono T1, kq.mono T1⟩⟩
theorem d_call0 (F : FnD (cn X CA) X.mg X.base CX k x G) (hr : Room j X.A) (hk : k ≤ j) (hx : Passes CX X XE) (hg : Gl X x := by rfl) (hdb : (x == ("__debug__" : Str)) = false := by decide) : SE X CA XE (.Call (.Name x p) [] [] pos) (eCall G []) := by
  obtain ⟨f, fd, ps, F, hm, hkp, hb⟩ := F.h
  exact PE_weak (pe_call0 F (hr.mono hk) hg hm hkp hb .nil hx hdb) fun σ H Q ⟨env, M, Ed, Qd, p, q, kq⟩ => ⟨[], M, Ed, Qd, .nil, p.r, q, p.x, kq⟩
end
theorem blk_by {N N' : List Str} {sc sc' scope : Scope} {own : List (Str × Nat)} (hN : N' = N) (hs : sc' = sc) (h : blkC N sc scope own = true) : BlkOk N' sc' scope own := by
  subst hN; subst hs; exact blkOk_by h
theorem passN {X : Cx} {E : XK} : Passes CX0 X E := fun _ _ _ _ _ _ _ h => h.elim
section
variable {P : Program} {w : World} {K : PySem.W.Frag} {mg : Str → Option Value} {base : Heap} {CA : String → Addr}
theorem fn_d {x qual : Str} {st : Stmt} {f : Addr} {fd : FuncData} {N ps : List Str} {k : Nat} {g : FD} {gb : WS} (F : Fun K x qual st f fd) (S : FnScope N ps (defScope st)) (hl : ∀ E ds M Q, g E ds M Q → ds.length = ps.length)
    (body : ∀ (cdv : Value) (A : Around) (outer : List Env) (s : Shared) (H : Hp) (E : XK), Room k (A.deeper (envOfC qual (defScope st) s.heap.objs.size f cdv)) →
      SSs (cxOf CX0 P w K mg base N qual (defScope st) f cdv A outer s H E).nox CA E (defBody st) gb)
    (ob : ∀ E ds M Q, g E ds M Q → gb E (endsOf Q) (DL.start N.length ds) M) : FnOk P w K mg base CX0 (k + 1) f fd ps (spOf ⟨P, w, K, CA⟩ g) := by
  refine F.ok S (fun vs H Q E ⟨ds, M, Ed, Qd, r, hR, hg, kx, kq⟩ => ?_) fun cdv A outer s H vs Q E hr ⟨ds, M, Ed, Qd, r, hR, hg, kx, kq⟩ => ?_
  · rw [Reps.length r]; exact hl _ _ _ _ hg
  · refine ⟨_, body cdv A outer s H E hr, DL.start N.length ds, M, Ed, endsOf Qd, ⟨RelEnv.start r, hR, kx⟩, ob _ _ _ _ hg, ⟨fun _ M' _ H' q _ r' t => kq _ _ _ _ q .non r' t, kq, fun _ _ _ _ q => q.elim, fun _ _ _ _ q => q.elim⟩⟩
theorem fn_l {x qual : Str} {st : Stmt} {f : Addr} {fd : FuncData} {N ps : List Str} {k : Nat} {g : FD} {gb : WS} (F : Fun K x qual st f fd) (S : FnScope N ps (defScope st)) (hl : ∀ E ds M Q, g E ds M Q → ds.length = ps.length)
    (body : ∀ (cdv : Value) (A : Around) (outer : List Env) (s : Shared) (H : Hp) (E : XK), Room k (A.deeper (envOfC qual (defScope st) s.heap.objs.size f cdv)) →
      SSs (cxOf CX0 P w K mg base N qual (defScope st) f cdv A outer s H E).nox CA E (defBody st) gb)
    (ob : ∀ E ds M Q, g E ds M Q → gb E (endsL Q) (DL.start N.length ds) M) : FnOk P w K mg base CX0 (k + 1) f fd ps (spOf ⟨P, w, K, CA⟩ g) := by
  refine F.ok S (fun vs H Q E ⟨ds, M, Ed, Qd, r, hR, hg, kx, kq⟩ => ?_) fun cdv A outer s H vs Q E hr ⟨ds, M, Ed, Qd, r, hR, hg, kx, kq⟩ => ?_
  · rw [Reps.length r]; exact hl _ _ _ _ hg
  · have kq' : KQ ⟨P, w, K, CA⟩ H (fun d M' => ∃ M0, Le M0 M' ∧ Qd d M0) Q := fun _ M' v H' ⟨M0, l, q⟩ r' hR' t => kq _ M0 _ _ q r' (fun a o e => hR' a o (l a o e)) t
    refine ⟨_, body cdv A outer s H E hr, DL.start N.length ds, M, Ed, endsL Qd, ⟨RelEnv.start r, hR, kx⟩, ob _ _ _ _ hg, ⟨fun _ M' _ H' q _ r' t => kq' _ _ _ _ q .non r' t, kq', fun _ _ _ _ q => q.elim, fun _ _ _ _ q => q.elim⟩⟩
theorem fn_none {f : Addr} {fd : FuncData} {ps : List Str} {k : Nat} {g : FD} (h : ∀ E ds M Q, ¬ g E ds M Q) : FnOk P w K mg base CX0 k f fd ps (spOf ⟨P, w, K, CA⟩ g) :=
  ⟨fun vs H Q E ⟨ds, M, Ed, Qd, _, _, hg, _⟩ => (h _ _ _ _ hg).elim, fun A outer s H args us vs Q E _ _ _ _ ⟨ds, M, Ed, Qd, _, _, hg, _⟩ => (h _ _ _ _ hg).elim⟩
theorem FnOk.d {x : Str} {f : Addr} {fd : FuncData} {ps : List Str} {k : Nat} {CX : CXT} {g : FD} (F : FnOk P w K mg base CX k f fd ps (spOf ⟨P, w, K, CA⟩ g)) (hm : mg x = some (.ref f)) (hk : PySem.W.keepIn K (.ref f) = true) (hb : Binds K fd ps []) : FnD ⟨P, w, K, CA⟩ mg base CX k x g :=
  ⟨f, fd, ps, F, hm, hk, hb⟩
end
theorem len1 {g : D → XW → Sto → KD → Prop} : ∀ E ds M Q, fn1 g E ds M Q → ds.length = 1 := fun E ds M Q h => by unfold fn1 at h; split at h; rfl; exact h.elim
theorem len2 {g : D → D → XW → Sto → KD → Prop} : ∀ E ds M Q, fn2 g E ds M Q → ds.length = 2 := fun E ds M Q h => by unfold fn2 at h; split at h; rfl; exact h.elim
theorem len3 {g : D → D → D → XW → Sto → KD → Prop} : ∀ E ds M Q, fn3 g E ds M Q → ds.length = 3 := fun E ds M Q h => by unfold fn3 at h; split at h; rfl; exact h.elim
theorem len4 {g : D → D → D → D → XW → Sto → KD → Prop} : ∀ E ds M Q, fn4 g E ds M Q → ds.length = 4 := fun E ds M Q h => by unfold fn4 at h; split at h; rfl; exact h.elim
theorem len5 {g : D → D → D → D → D → XW → Sto → KD → Prop} : ∀ E ds M Q, fn5 g E ds M Q → ds.length = 5 := fun E ds M Q h => by unfold fn5 at h; split at h; rfl; exact h.elim
/-! ## constants of the module -/
theorem reps_ints {K : PySem.W.Frag} {H : Hp} : ∀ ns : List Int, Reps K H (ns.map V.int) (ns.map D.int)
  | [] => .nil
  | n :: ns => .cons (.int n) (reps_ints ns)
theorem reps_strs {K : PySem.W.Frag} {H : Hp} : ∀ ns : List Str, Reps K H (ns.map V.str) (ns.map D.str)
  | [] => .nil
  | n :: ns => .cons (.str n) (reps_strs ns)
theorem grep_int {K : PySem.W.Frag} {mg : Str → Option Value} {x : Str} {i : Int} {t : Tok} (h : mg x = some (.int i t)) : GRep K mg x (.int i) := ⟨_, .int i, h, ⟨t, rfl⟩, fun _ => .int i⟩
theorem grep_str {K : PySem.W.Frag} {mg : Str → Option Value} {x : Str} {i : Str} {t : Tok} (h : mg x = some (.str i t)) : GRep K mg x (.str i) := ⟨_, .str i, h, ⟨t, rfl⟩, fun _ => .str i⟩
theorem grep_2 {K : PySem.W.Frag} {mg : Str → Option Value} {x : Str} {a : Addr} {i j : Int} {t u : Tok} {n : Nat} {sl : Array (Option Value)} (h : mg x = some (.ref a)) (l : K.lookup a = some ⟨.type "tuple", none, .seq #[.int i t, .int j u] n, sl⟩) : GRep K mg x (.tup [.int i, .int j]) :=
  ⟨_, .ref a, h, rfl, fun _ => .tup (vs := [.int i, .int j]) (.inr ⟨_, _, _, l, rfl, rfl, rfl, by show 2 ≤ sizeLine; decide, .cons ⟨t, rfl⟩ (.cons ⟨u, rfl⟩ .nil)⟩) (.cons (.int i) (.cons (.int j) .nil))⟩
/-! ## the law -/
theorem law_walk {l : PySem.W.OpenLaw} {k : Nat} {q : Program} {loose : List Str} {XP : (Str → Option Value) → Heap → Prop} {YP : World → Heap → Prop} {d : DefRec} {K : Params → PySem.W.Frag} (CAw : World → String → Addr)
    (hn : l.most = some 63) (hdf : d.params.defaults = []) (hr : Room k callerA)
    (hY : ∀ (w : World) (h : Heap), YP w h → (K w.params).In h)
    (F : ∀ (w : World) (mg : Str → Option Value) (fa : Addr) (h : Heap), (K w.params).In h → h.Ns mainGlobals mg → mg d.name = some (.ref fa) →
      ∃ fd : FuncData, (∀ (s : Shared) (u : Value), BindsTo s fd ⟨[u], []⟩ [("script", u)]) ∧ ∀ base : Heap, (K w.params).In base → base.Ns mainGlobals mg → FnOk l.prog w (K w.params) mg base CX0 k fa fd ["script"] (spOf ⟨l.prog, w, K w.params, CAw w⟩ lawS)) :
    PySem.W.WalkO q loose XP YP l.row.toRowW d [] (fun f vs => PySem.call f vs) :=
  L2.walk_ofB (n := 63) (k := k) (x := "script") (CX := fun _ => CX0) (sp := fun w => spOf ⟨l.prog, w, K w.params, CAw w⟩ lawS) hn (by decide) hdf hr hY F (fun w H a ns hl hb hO hS => by
    refine ⟨[.lro (ns.map D.int)], fun _ => none, X0, fun d _ => d = .bl true, .cons (.lro ?_ (reps_ints ns)) .nil, fun _ _ e => (nomatch e), ⟨⟨ns, rfl, hl, hb⟩, fun _ => rfl⟩, KX.no, fun d M' v H' e r _ _ => by subst e; cases r; rfl⟩
    rcases hS with (hS | hS) | hS
    · rcases hO a with z | ⟨o, xs, z⟩
      · rw [z] at hS; cases hS
      · rw [z] at hS; cases hS
    · exact .inl hS
    · exact .inr hS) fun _ _ _ _ _ z => z
end DL

set_option Elab.async false
set_option linter.all false
set_option maxRecDepth 100000
set_option maxHeartbeats 4000000
/-! DK: dicts that are walked -/
namespace DL
open PySem PySem.Spec PyProof.Rows L2
section
variable {X : Cx} {CA : String → Addr} {XE : XK} {e : Expr} {f : WE}
theorem tups_lock {K : PySem.W.Frag} {H H' : Hp} {a : Addr} {u u' : HO} {od : Obj} (h : H a = some u) (nf : ∀ o xs, u ≠ .frz o xs) (t : Tups K (upd H a (.frz od u')) H') : Tups K H (upd H' a u) := by
  have ne : ∀ b o w, H b = some (.frz o w) → b ≠ a := fun b o w e z => by subst z; rw [h] at e; exact nf _ _ (Option.some.inj e)
  have go : ∀ b o w, H b = some (.frz o w) → upd H' a u b = some (.frz o w) := fun b o w e => by
    rw [upd_ne (ne b o w e)]
    exact t.z b o w (by rw [upd_ne (ne b o w e)]; exact e)
  exact ⟨⟨fun b vs s => s.elim (fun ⟨w, q⟩ => .inl ⟨w, go _ _ _ q⟩) .inr, fun b vs s => s.elim (fun ⟨w, q⟩ => .inl ⟨w, go _ _ _ q⟩) .inr⟩, go⟩
theorem d_lock (i : Nat) (h : SE X CA XE e f) : SE X CA XE e (eLock i f) :=
  PE_weak (pe_lock h) fun σ H Q ⟨env, M, Ed, Qd, p, q, k⟩ => by
    unfold eLock lockD at q
    split at q
    · rename_i a _
      unfold lockO at q
      split at q
      · rename_i kvs e
        obtain ⟨vs, h1, h2⟩ := p.r _ _ e
        have nf : ∀ o xs, (HO.dK vs) ≠ .frz o xs := ne_frz trivial
        refine ⟨a, .dK vs, h1, ?_, fun od => ?_⟩
        · trivial
        have T : Tups X.K H (upd H a (.frz od (.dK vs))) := Tups.wr h1 nf
        refine ⟨env, M.set a (.dkF kvs), X0, _, ⟨p.e.mono T, p.r.at T ⟨od, vs, upd_same, paired_mono h2 fun _ _ z => ⟨z.1, z.2.m T⟩⟩, KX.no⟩, q, ?_⟩
        rintro d M' v H' ⟨e1, q1⟩ r' R' T'
        have e2 : H' a = some (.frz od (.dK vs)) := T'.z _ _ _ upd_same
        refine ⟨e2, ?_⟩
        have tf : TF X.K H' (upd H' a (.dK vs)) := tf_un e2 trivial
        refine k d _ v _ q1 (r'.m0 tf) (fun b u eb => ?_) (tups_lock h1 nf T')
        by_cases hb : b = a
        · subst hb
          rw [set_same] at eb; cases eb
          obtain ⟨od', vs', g1, g2⟩ := R' _ _ e1
          rw [e2] at g1; cases g1
          exact ⟨vs, upd_same, paired_mono g2 fun _ _ z => ⟨z.1, z.2.m0 tf⟩⟩
        · rw [set_ne hb] at eb
          exact (R' b u eb).mono0 tf (upd_ne hb)
      · rename_i kvs e
        obtain ⟨es, h1, h2⟩ := p.r _ _ e
        have nf : ∀ o xs, (NDict (cn X CA) a es) ≠ .frz o xs := ne_frz trivial
        refine ⟨a, NDict (cn X CA) a es, h1, ?_, fun od => ?_⟩
        · trivial
        have T : Tups X.K H (upd H a (.frz od (NDict (cn X CA) a es))) := Tups.wr h1 nf
        refine ⟨env, M.set a (.dnF kvs), X0, _, ⟨p.e.mono T, p.r.at T ⟨od, es, upd_same, paired_mono h2 fun _ _ z => ⟨z.1, z.2.1, z.2.2.1.m T, z.2.2.2.m T⟩⟩, KX.no⟩, q, ?_⟩
        rintro d M' v H' ⟨e1, q1⟩ r' R' T'
        have e2 : H' a = some (.frz od (NDict (cn X CA) a es)) := T'.z _ _ _ upd_same
        refine ⟨e2, ?_⟩
        have tf : TF X.K H' (upd H' a (NDict (cn X CA) a es)) := tf_un e2 trivial
        refine k d _ v _ q1 (r'.m0 tf) (fun b u eb => ?_) (tups_lock h1 nf T')
        by_cases hb : b = a
        · subst hb
          rw [set_same] at eb; cases eb
          obtain ⟨od', es', g1, g2⟩ := R' _ _ e1
          rw [e2] at g1
          have ee : NDict (cn X CA) b es' = NDict (cn X CA) b es := by
            have := Option.some.inj g1
            injection this with h3 h4
            exact h4.symm
          exact ⟨es', by rw [upd_same, ee], paired_mono g2 fun _ _ z => ⟨z.1, z.2.1, z.2.2.1.m0 tf, z.2.2.2.m0 tf⟩⟩
        · rw [set_ne hb] at eb
          exact (R' b u eb).mono0 tf (upd_ne hb)
      · exact q.elim
    · exact q.elim
/-! ### the keys -/
def Itn (c : Cn) (d : Addr) (o : Obj) (es : List Ent) : It :=
  ⟨fun i H => H d = some (.frz o (NDict c d es)) ∧ i < es.length, fun i H x H' => H' = H ∧ ∃ (k : NestedKey) (q : Addr) (v : V), es[i]? = some (k, q, v) ∧ x = .ref q, fun i H => H d = some (.frz o (NDict c d es)) ∧ es.length ≤ i⟩
theorem frzN {X : Cx} {CA : String → Addr} {pins : List (Addr × Obj)} {σ : L2.St} {H : Hp} {s : Shared} {d : Addr} {o : Obj} {es : List Ent} (I : Inv X pins σ H s) (h : H d = some (.frz o (NDict (cn X CA) d es))) :
    (d == sysModules) = false ∧ s.heap.get? d = some o ∧ o.ExactDict ∧ ∃ (ds : Array DictEntry) (ep : Nat), o.data = .dict ds ep ∧ ds.size = es.length ∧
      ∀ (i : Nat) (k : NestedKey) (q : Addr) (v : V), es[i]? = some (k, q, v) → ∃ en : DictEntry, ds[i]? = some en ∧ en.key = .ref q := by
  obtain ⟨hg, ⟨z, hd, xs, pr, ⟨o', ds, ep, ho, ex, hdat, hent⟩, nd⟩, _⟩ := I.hok d _ h
  rw [hg] at ho
  cases ho
  have hl : es.length = xs.length := Paired.length pr
  refine ⟨hd, hg, ex, ds, ep, hdat, ?_, fun i k q v e => ?_⟩
  · have := congrArg List.length hent
    simp at this; omega
  · obtain ⟨b, hb, e1, e2, _⟩ := paired_get pr e
    refine ⟨entryOfKey (nestedKind (cn X CA).P (cn X CA).w) b, ?_, ?_⟩
    · have : ds.toList[i]? = (xs.map (entryOfKey (nestedKind (cn X CA).P (cn X CA).w)))[i]? := by rw [hent]
      rw [List.getElem?_map, hb, Array.getElem?_toList] at this
      exact this
    · show Value.ref b.2.1 = _
      rw [← e2]
theorem turn_keysN {P : Program} {w : World} {K : PySem.W.Frag} {CA : String → Addr} {tg : Expr} {d : Addr} {o : Obj} {ds : Array DictEntry} {ep : Nat} {es : List Ent} (it : Addr) (hod : o.data = .dict ds ep) :
    Turn P w K tg (Itn ⟨P, w, K, CA⟩ d o es) [it] it (fun i h => h.IsKeyIter it d i es.length ep) where
  mem := by simp
  obj := fun i h st b hb => by
    have e : b = it := by simpa using hb
    subst e
    obtain ⟨oi, e, c, dd⟩ := st
    exact ⟨oi, e, fun v z => by rw [dd] at z; cases z⟩
  keep := fun i h h' st k => st.at fun oi e => k it (by simp) oi e
  item := by
    intro X hP hw hK hc i pins s σ H E I hf st hg
    subst hP hw hK
    obtain ⟨hd, hi⟩ := hg
    obtain ⟨f0, f1, f2, f3, f4, f5⟩ := hf it (by simp)
    obtain ⟨hs, hgd, hx, es', ep', hdt, hsz, ent⟩ := frzN (CA := CA) I hd
    obtain ⟨rfl, rfl⟩ := dict_ep hod hdt
    obtain ⟨⟨k, q, v⟩, hkv⟩ : ∃ p, es[i]? = some p := ⟨es[i], List.getElem?_eq_getElem hi⟩
    obtain ⟨en, hen, hkey⟩ := ent i k q v hkv
    refine next_key_item st hgd hdt hsz hen fun h' st' sb => ?_
    have I1 : Inv X pins σ H { s with heap := h' } := I.turned (t' := s.toks) (fun b ob hb e => (sb.2 b hb).trans e) f0 f1 f3 f4 f5
    obtain ⟨oi, e, c, dd⟩ := id st'
    exact ⟨en.key, rfl, go_of (s := { s with heap := h' }) e c dd (by decide) ⟨.ref q, H, I1, hkey, ⟨rfl, k, q, v, hkv, rfl⟩, st', fun b hb => (hf b hb).1⟩⟩
  done := by
    intro X hP hw hK hc i pins s σ H E I hf st hg
    subst hP hw hK
    obtain ⟨hd, hi⟩ := hg
    obtain ⟨f0, f1, f2, f3, f4, f5⟩ := hf it (by simp)
    obtain ⟨hs, hgd, hx, es', ep', hdt, hsz, ent⟩ := frzN (CA := CA) I hd
    obtain ⟨rfl, rfl⟩ := dict_ep hod hdt
    exact next_key_end (I.ok.hd hc) st hgd hdt hsz hi fun h' eb => ⟨rfl, I.turned (t' := s.toks) (fun b ob hb e => eb b ob hb e) f0 f1 f3 f4 f5⟩
  self := fun A i s Q E st h => by
    refine wpAny_pyIter_slot st.typeIs PySem.F.slot_dict_keyiterator_iter (wpAny_call_entry PySem.F.slot_dict_keyiterator_iter st.typeIs PySem.F.entry_dict_keyiterator_iter ?_ (PySem.F.args_dict_keyiterator_iter_1 _))
    show wpAny _ _ (ret (.ref it)) _ _ s
    exact wpAny_pure ⟨_, rfl, "dict_keyiterator", _, st.typeIs, PySem.F.slot_dict_keyiterator_next.lookup, h⟩
theorem itR_keysK {c : Cn} {H1 : Hp} {d : Addr} {o : Obj} {vs : List (L2.Key × V)} {kvs : List (Key × D)} (e1 : H1 d = some (.frz o (.dK vs))) (p1 : PKV c.K H1 vs kvs) :
    ItR c false H1 (Itk d o vs) (fun M => M d = some (.dkF kvs)) (kvs.map fun kv => dKey kv.1) where
  go := fun i H M T hR e h => ⟨T.z _ _ _ e1, by have : vs.length = kvs.length := Paired.length p1; simpa [this] using h⟩
  stop := fun H M T hR e => ⟨T.z _ _ _ e1, by have : vs.length = kvs.length := Paired.length p1; simp [this]⟩
  yld := fun i H x H' M T hR em h d' e => by
    obtain ⟨rfl, k, v, hk, rfl⟩ := h
    obtain ⟨b, hb, h1, h2⟩ := paired_get p1 hk
    rw [List.getElem?_map, hb] at e
    simp at e; subst e
    rw [← h1]
    refine ⟨?_, hR, .refl⟩
    show Rep c.K H' (kV k) (dKey k)
    cases k with
    | inl i => exact .int i
    | inr x => exact .str x
theorem itR_keysN {c : Cn} {H1 : Hp} {d : Addr} {o : Obj} {es : List Ent} {kvs : List (D × D)} (e1 : H1 d = some (.frz o (NDict c d es))) (p1 : PDn c H1 es kvs) :
    ItR c false H1 (Itn c d o es) (fun M => M d = some (.dnF kvs)) (kvs.map Prod.fst) where
  go := fun i H M T hR e h => ⟨T.z _ _ _ e1, by have : es.length = kvs.length := Paired.length p1; simpa [this] using h⟩
  stop := fun H M T hR e => ⟨T.z _ _ _ e1, by have : es.length = kvs.length := Paired.length p1; simp [this]⟩
  yld := fun i H x H' M T hR em h d' e => by
    obtain ⟨rfl, k, q, v, hk, rfl⟩ := h
    obtain ⟨b, hb, h1, h2, h3, h4⟩ := paired_get p1 hk
    rw [List.getElem?_map, hb] at e
    simp at e; subst e
    exact ⟨h3.m T, hR, .refl⟩
theorem i_keys {tg : Expr} (ha : SE X CA XE e f) : SI false X CA XE tg e (iKeysD f) := by
  refine ⟨fun pins s σ H Rk I ⟨env, M, Ed, kd, p, q, k⟩ => ?_⟩
  refine thn (ha.run pins s σ H (fun v H1 => ∃ d M1, (match d with
    | .ref a => keysO (M1 a) fun o xs => kd (fun M' => M' a = some o) xs M1
    | _ => False) ∧ Rep X.K H1 v d ∧ R (cn X CA) M1 H1 ∧ Tups X.K H H1) I ⟨env, M, Ed, _, p, q, fun d M1 v H1 q1 r1 R1 T1 => ⟨d, M1, q1, r1, R1, T1⟩⟩) fun v s1 ⟨x, H1, I1, rx, d, M1, q1, r1, R1, T1⟩ => ?_
  split at q1
  · rename_i a
    cases r1
    obtain rfl : v = Value.ref a := rx
    unfold keysO at q1
    split at q1
    · rename_i kvs em
      obtain ⟨od, vs, h1, p1⟩ := R1 _ _ em
      obtain ⟨hs, hgd, hx, es, ep, vs', hdt, hsz, kv, hm⟩ := I1.frzK h1
      refine iter_keys hs hgd hx hdt (pi_one (tk := s1.toks) I1 _ (turn_keys _ hdt) ⟨_, Heap.get?_push_size _ rfl, rfl, ?_⟩ (k _ _ _ _ _ q1 R1 T1 (itR_keysK h1 p1)))
      rw [hsz] <;> rfl
    · rename_i kvs em
      obtain ⟨od, es, h1, p1⟩ := R1 _ _ em
      obtain ⟨hs, hgd, hx, ds, ep, hdt, hsz, ent⟩ := frzN (CA := CA) I1 h1
      refine iter_keys hs hgd hx hdt (pi_one (tk := s1.toks) I1 _ (turn_keysN (CA := CA) _ hdt) ⟨_, Heap.get?_push_size _ rfl, rfl, ?_⟩ (k _ _ _ _ _ q1 R1 T1 (itR_keysN h1 p1)))
      rw [hsz] <;> rfl
    · exact q1.elim
  · exact q1.elim
end
end DL

set_option Elab.async false
set_option linter.all false
set_option maxRecDepth 100000
set_option maxHeartbeats 4000000
/-! DC2: comprehensions of two fors -/
namespace DL
open PySem PySem.Spec PyProof.Rows L2
def comp2L (p : Addr) (vs vs1 : List Nat) (g : WG) (t : WT) (src1 : WI) (g1 : WG) (t1 : WT) (f : WE) (env : Ev) (chk : Sto → Prop) : List D → Sto → (Sto → Prop) → Prop
  | [], M, Q => chk M ∧ Q M
  | x :: xs, M, Q => chk M ∧ g x X0 (DL.wipe env vs) M fun env1 M1 => t X0 env1 M1 fun b M2 =>
    if b = true then src1 X0 env1 M2 fun chk1 ys M3 => compL p vs1 g1 t1 f env1 chk1 ys M3 fun M4 => comp2L p vs vs1 g t src1 g1 t1 f env chk xs M4 Q
    else comp2L p vs vs1 g t src1 g1 t1 f env chk xs M2 Q
def eComp2 (src : WI) (vs vs1 : List Nat) (g : WG) (t : WT) (src1 : WI) (g1 : WG) (t1 : WT) (f : WE) : WE := fun E env M Q => src E env M fun chk xs M1 => ∀ p, M1 p = none →
  comp2L p vs vs1 g t src1 g1 t1 f env chk xs (M1.set p (.lst [])) fun M2 => Q (.ref p) M2
section
variable {X : Cx} {CA : String → Addr} {XE : XK} {tg iter tg1 iter1 : Expr} {y y1 : Bool} {pos : Pos}
theorem comp2_of {own vs1 : List Nat} {t t1 : WT} {f : WE} {src src1 : WI} {gt gt1 : WG} {σ : L2.St} {H : Hp} {Q : VK} {env : Ev} {M : Sto} {Ed : XW} {Qd : KD} (p : Pre (cn X CA) XE σ H env M Ed) (q : eComp2 src own vs1 gt t src1 gt1 t1 f Ed env M Qd) (k : KQ (cn X CA) H Qd Q) :
    tLc2 (tOfI y (cn X CA) XE src) (tOfG y (cn X CA) E0 own gt) (tOfT (cn X CA) E0 t) (tOfI y1 (cn X CA) E0 src1) (tOfG y1 (cn X CA) E0 vs1 gt1) (tOfT (cn X CA) E0 t1) (tOf (cn X CA) E0 f) own vs1 σ H Q := by
  refine ⟨env, M, Ed, _, p, q, fun chk xs M1 H1 J q1 R1 T1 it => fun D hD => ?_⟩
  obtain ⟨Rl, Tl⟩ := lay_lst (c := cn X CA) hD .nil R1
  have q1 := q1 D (R1.fresh hD)
  refine ⟨fun i m H' => m = xs.length - i ∧ i ≤ xs.length ∧ ∃ M', R (cn X CA) M' H' ∧ Tups X.K H1 H' ∧ comp2L D own vs1 gt t src1 gt1 t1 f env chk (xs.drop i) M' fun M2 => Qd (.ref D) M2, ⟨xs.length, by simp, Nat.zero_le _, _, Rl, Tl, by rw [List.drop_zero]; exact q1⟩, ?_⟩
  rintro i m H' ⟨rfl, hi, M', R', T', q'⟩
  by_cases hlt : i < xs.length
  · rw [drop_get hlt] at q'
    obtain ⟨hck, q'⟩ := q'
    refine .inr ⟨it.go i H' M' T' R' hck hlt, fun H2 => (xs.length - (i + 1)) = xs.length - (i + 1) ∧ i + 1 ≤ xs.length ∧ ∃ M', R (cn X CA) M' H2 ∧ Tups X.K H1 H2 ∧ comp2L D own vs1 gt t src1 gt1 t1 f env chk (xs.drop (i + 1)) M' fun M2 => Qd (.ref D) M2, fun H2 h2 => ⟨xs.length - (i + 1), by omega, h2⟩, fun x H2 yl => ?_⟩
    obtain ⟨rx, R2, T2⟩ := it.yld i H' x H2 M' T' R' hck yl xs[i] (List.getElem?_eq_getElem hlt)
    refine ⟨xs[i], DL.wipe env own, M', X0, _, rx, ⟨(p.e.wipe own).mono (T1.trans (T'.trans T2)), R2, KX.no⟩, q', fun env3 M3 σ3 H3 q3 e3 R3 T3 O3 => ⟨O3.wipe, ?_⟩⟩
    refine ⟨env3, M3, X0, _, ⟨e3, R3, KX.no⟩, q3, fun b M4 H4 q4 R4 T4 => ?_⟩
    have T5 : Tups X.K H1 H4 := T'.trans (T2.trans (T3.trans T4))
    cases b with
    | false => exact ⟨rfl, hlt, M4, R4, T5, q4⟩
    | true =>
      refine ⟨env3, M4, X0, _, ⟨e3.mono T4, R4, KX.no⟩, q4, fun chk1 ys M5 H5 J1 q5 R5 T6 it1 => ?_⟩
      have T7 : Tups X.K H1 H5 := T5.trans T6
      refine ⟨fun j k H' => k = ys.length - j ∧ j ≤ ys.length ∧ ∃ M', R (cn X CA) M' H' ∧ Tups X.K H5 H' ∧ compL D vs1 gt1 t1 f env3 chk1 (ys.drop j) M' fun M4 => comp2L D own vs1 gt t src1 gt1 t1 f env chk (xs.drop (i + 1)) M4 fun M2 => Qd (.ref D) M2, ⟨ys.length, by simp, Nat.zero_le _, _, R5, .refl, by rw [List.drop_zero]; exact q5⟩, ?_⟩
      rintro j k' H6 ⟨rfl, hj, M6, R6, T8, q6⟩
      by_cases hlt1 : j < ys.length
      · rw [drop_get hlt1] at q6
        obtain ⟨hck1, q6⟩ := q6
        refine .inr ⟨it1.go j H6 M6 T8 R6 hck1 hlt1, fun H2 => (ys.length - (j + 1)) = ys.length - (j + 1) ∧ j + 1 ≤ ys.length ∧ ∃ M', R (cn X CA) M' H2 ∧ Tups X.K H5 H2 ∧ compL D vs1 gt1 t1 f env3 chk1 (ys.drop (j + 1)) M' fun M4 => comp2L D own vs1 gt t src1 gt1 t1 f env chk (xs.drop (i + 1)) M4 fun M2 => Qd (.ref D) M2, fun H2 h2 => ⟨ys.length - (j + 1), by omega, h2⟩, fun x1 H7 yl1 => ?_⟩
        obtain ⟨rx1, R7, T9⟩ := it1.yld j H6 x1 H7 M6 T8 R6 hck1 yl1 ys[j] (List.getElem?_eq_getElem hlt1)
        refine ⟨ys[j], DL.wipe env3 vs1, M6, X0, _, rx1, ⟨(RelEnv.wipe (e3.mono (T4.trans (T6.trans (T8.trans T9)))) vs1), R7, KX.no⟩, q6, fun env8 M8 σ8 H8 q8 e8 R8 T10 O8 => ⟨O8.wipe, ?_⟩⟩
        refine ⟨env8, M8, X0, _, ⟨e8, R8, KX.no⟩, q8, fun b M9 H9 q9 R9 T11 => ?_⟩
        have T12 : Tups X.K H5 H9 := T8.trans (T9.trans (T10.trans T11))
        cases b with
        | false => exact ⟨rfl, hlt1, M9, R9, T12, q9⟩
        | true =>
          refine ⟨env8, M9, X0, _, ⟨e8.mono T11, R9, KX.no⟩, q9, fun d M10 v H10 q10 r10 R10 T13 => ?_⟩
          split at q10
          · obtain ⟨ws, h1, rr⟩ := R10 _ _ (by assumption)
            obtain ⟨a1, a2⟩ := wr_lst (c := cn X CA) R10 (by assumption) h1 (rr.append (.cons r10 .nil))
            exact ⟨ws, h1, by rw [rr.length]; exact q10.1, rfl, hlt1, _, a1, T12.trans (T13.trans a2), q10.2⟩
          · exact q10.elim
      · have e : j = ys.length := by omega
        subst e
        rw [List.drop_length] at q6
        exact .inl ⟨it1.stop H6 M6 T8 R6 q6.1, rfl, hlt, M6, R6, T7.trans T8, q6.2⟩
  · have e : i = xs.length := by omega
    subst e
    rw [List.drop_length] at q'
    exact .inl ⟨it.stop H' M' T' R' q'.1, k _ _ _ _ q'.2 (.ref D) R' (T1.trans T')⟩
theorem d_comp2 {elt : Expr} {ifs ifs1 : List Expr} {scope : Scope} {own : List (Str × Nat)} {t t1 : WT} {f : WE} {src src1 : WI} {gt gt1 : WG} (vs1 : List Nat) (hc : X.calm = true) (hN : X.N.Nodup) (hi : SI y X CA XE tg iter src) (ok : BlkOk X.N X.env.scope scope own)
    (hg : ∀ (s : Shared) (H : Hp) (C : Addr) (cl : List (Str × Addr)) (fp : List Addr), SG y (X.blk s H scope (compEnvC scope cl C X.env) fp) CA E0 (own.map (·.2)) tg gt)
    (ht : ∀ (s : Shared) (H : Hp) (C : Addr) (cl : List (Str × Addr)) (fp : List Addr), STs (X.blk s H scope (compEnvC scope cl C X.env) fp) CA E0 ifs t)
    (hi1 : ∀ (s : Shared) (H : Hp) (C : Addr) (cl : List (Str × Addr)) (fp : List Addr), SI y1 (X.blk s H scope (compEnvC scope cl C X.env) fp) CA E0 tg1 iter1 src1)
    (hg1 : ∀ (s : Shared) (H : Hp) (C : Addr) (cl : List (Str × Addr)) (fp : List Addr), SG y1 (X.blk s H scope (compEnvC scope cl C X.env) fp) CA E0 vs1 tg1 gt1)
    (ht1 : ∀ (s : Shared) (H : Hp) (C : Addr) (cl : List (Str × Addr)) (fp : List Addr), STs (X.blk s H scope (compEnvC scope cl C X.env) fp) CA E0 ifs1 t1)
    (he : ∀ (s : Shared) (H : Hp) (C : Addr) (cl : List (Str × Addr)) (fp : List Addr), SE (X.blk s H scope (compEnvC scope cl C X.env) fp) CA E0 elt f)
    (hv : ∀ i ∈ vs1, i ∈ own.map (·.2) := by decide) (hs : ∀ x, foldedSetIterable iter X.env x = pure x := by intro _; rfl) (hs1 : ∀ env x, foldedSetIterable iter1 env x = pure x := by intro _ _; rfl) :
    SE X CA XE (.ListComp elt [⟨tg, iter, ifs, 0⟩, ⟨tg1, iter1, ifs1, 0⟩] scope pos) (eComp2 src (own.map (·.2)) vs1 gt t src1 gt1 t1 f) :=
  PE_weak (pe_lc2 (g := tOfG y (cn X CA) E0 (own.map fun z : Str × Nat => z.2) gt) (tt := tOfT (cn X CA) E0 t) (wi1 := tOfI y1 (cn X CA) E0 src1) (g1 := tOfG y1 (cn X CA) E0 vs1 gt1) (tt1 := tOfT (cn X CA) E0 t1) (te := tOf (cn X CA) E0 f) hc hN hi ok hv hg ht hi1 hg1 ht1 he hs hs1) fun σ H Q ⟨env, M, Ed, Qd, p, q, k⟩ => comp2_of p q k
end
section
variable {E : XW} {env : Ev} {M : Sto} {Q : KD} {p : Addr} {vs vs1 : List Nat} {G G1 : WG} {u u1 : WT} {src src1 : WI} {f : WE} {chk : Sto → Prop} {P : Sto → Prop} {x : D} {xs : List D}
@[simp] theorem eComp2_s : eComp2 src vs vs1 G u src1 G1 u1 f E env M Q = src E env M fun chk xs M1 => ∀ p, M1 p = none →
  comp2L p vs vs1 G u src1 G1 u1 f env chk xs (M1.set p (.lst [])) fun M2 => Q (.ref p) M2 := id rfl
theorem comp2L_nil : comp2L p vs vs1 G u src1 G1 u1 f env chk [] M P = (chk M ∧ P M) := id rfl
theorem comp2L_cons : comp2L p vs vs1 G u src1 G1 u1 f env chk (x :: xs) M P = (chk M ∧ G x X0 (DL.wipe env vs) M fun env1 M1 => u X0 env1 M1 fun b M2 =>
    if b = true then src1 X0 env1 M2 fun chk1 ys M3 => compL p vs1 G1 u1 f env1 chk1 ys M3 fun M4 => comp2L p vs vs1 G u src1 G1 u1 f env chk xs M4 P
    else comp2L p vs vs1 G u src1 G1 u1 f env chk xs M2 P) := id rfl
end
/-! d.get -/
def isDO (o : Option O) (k : Prop) : Prop := match o with
  | some (.dk _) => k
  | some (.dn _) => k
  | _ => False
@[simp] theorem isDO_dk {kvs : List (Key × D)} {k : Prop} : isDO (some (.dk kvs)) k = k := id rfl
@[simp] theorem isDO_dn {kvs : List (D × D)} {k : Prop} : isDO (some (.dn kvs)) k = k := id rfl
@[simp] theorem isDct_ref {a : Addr} {M : Sto} {k : Prop} : isDct (.ref a) M k = isDO (M a) k := id rfl
def refO (o : Option O) (k : O → Prop) : Prop := match o with
  | some o => k o
  | none => False
@[simp] theorem refO_some {o : O} {k : O → Prop} : refO (some o) k = k o := id rfl
@[simp] theorem refD_ref {a : Addr} {M : Sto} {k : O → Prop} : refD (.ref a) M k = refO (M a) k := id rfl
@[simp] theorem eGet1_s {f g : WE} {E : XW} {env : Ev} {M : Sto} {Q : KD} : eGet1 f g E env M Q = f E env M fun x M1 => isDct x M1 <| g E env M1 fun y M2 => refD x M2 fun o => dLk o y fun r => Q (r.getD .non) M2 := id rfl
@[simp] theorem eGet2_s {f g h : WE} {E : XW} {env : Ev} {M : Sto} {Q : KD} : eGet2 f g h E env M Q = f E env M fun x M1 => isDct x M1 <| g E env M1 fun y M2 => h E env M2 fun z M3 => refD x M3 fun o => dLk o y fun r => Q (r.getD z) M3 := id rfl
@[simp] theorem dLk_dn {kvs : List (D × D)} {y : D} {k : Option D → Prop} : dLk (.dn kvs) y k = (nkOk y = true ∧ k (lk kvs y)) := id rfl
@[simp] theorem dLk_dkS {kvs : List (Key × D)} {s : Str} {k : Option D → Prop} : dLk (.dk kvs) (.str s) k = k (lk kvs (.inr s)) := id rfl
/-- a comprehension with a test -/
theorem comp_filter {p : Addr} {vs : List Nat} {G : WG} {u : WT} {f : WE} {env : Ev} {chk : Sto → Prop} {P : Sto → Prop} (val : D → D) (tst : D → Bool) (R : Sto → Prop) (hR : ∀ m o, R m → R (m.set p o)) (hc : ∀ m, R m → chk m) : ∀ (xs acc : List D) (M : Sto),
    (∀ x ∈ xs, ∀ m (T : KD) (N : Sto → Prop), R m → (if tst x = true then T (val x) m else N m) → G x X0 (DL.wipe env vs) m fun e1 m1 => u X0 e1 m1 fun b m2 => if b = true then f X0 e1 m2 T else N m2) →
    acc.length + xs.length ≤ sizeLine → M p = some (.lst acc) → R M → P (M.set p (.lst (acc ++ (xs.filter tst).map val))) → compL p vs G u f env chk xs M P
  | [], acc, M, _, _, e, r, h => by
    rw [compL_nil]; refine ⟨hc M r, ?_⟩
    simp only [List.filter_nil, List.map_nil, List.append_nil] at h
    rw [set_self e] at h; exact h
  | x :: xs, acc, M, hb, hl, e, r, h => by
    rw [compL_cons]; refine ⟨hc M r, ?_⟩
    simp only [List.length_cons] at hl
    refine hb x (.head _) M _ _ r ?_
    split
    · rename_i ht
      rw [e, lstO_lst]
      refine ⟨by omega, comp_filter val tst R hR hc xs _ _ (fun y hy => hb y (.tail _ hy)) (by simp; omega) set_same (hR _ _ r) ?_⟩
      rw [set_set]
      simpa [ht] using h
    · rename_i ht
      refine comp_filter val tst R hR hc xs _ _ (fun y hy => hb y (.tail _ hy)) (by omega) e r ?_
      simpa [ht] using h
end DL

set_option Elab.async false
set_option linter.all false
set_option maxRecDepth 100000
set_option maxHeartbeats 4000000
/-! DB: more of Python: list * int, zip of lists, dict comprehensions, locks round statements, what is never reached -/
namespace DL
open PySem PySem.Spec PyProof.Rows L2 RZ
/-! ## list * int -/
def opRep : B2 := fun x y M Q => match x, y with
  | .ref a, .int k => match M a with
    | some (.lst xs) => -(2 ^ 63) ≤ k ∧ k < 2 ^ 63 ∧ xs.length * k.toNat ≤ sizeLine ∧ ∀ p, M p = none → Q (.ref p) (M.set p (.lst (List.replicate k.toNat xs).flatten))
    | _ => False
  | _, _ => False
theorem Reps.rep {K : PySem.W.Frag} {H : Hp} {vs : List V} {ds : List D} (r : Reps K H vs ds) : ∀ n : Nat, Reps K H (List.replicate n vs).flatten (List.replicate n ds).flatten
  | 0 => .nil
  | n + 1 => by
    rw [List.replicate_succ, List.replicate_succ, List.flatten_cons, List.flatten_cons]
    exact r.append (Reps.rep r n)
theorem repS {c : Cn} : OpS c opRep rRep := by
  intro v1 v2 d1 d2 M H Qd Q r1 r2 hR h k
  unfold opRep at h
  split at h
  · cases r1; cases r2
    split at h
    · rename_i xs e
      obtain ⟨vs, h1, rr⟩ := hR _ _ e
      refine ⟨_, _, vs, rfl, rfl, h1, h.1, h.2.1, by rw [rr.length]; exact h.2.2.1, fun p hp => ?_⟩
      obtain ⟨x, y⟩ := lay_lst hp (Reps.rep rr _) hR
      exact k _ _ _ _ (h.2.2.2 p (hR.fresh hp)) (.ref p) x y
    · exact h.elim
  · exact h.elim
theorem d_rep {X : Cx} {CA : String → Addr} {XE : XK} {a b : Expr} {f g : WE} {pos : Pos} (ha : SE X CA XE a f) (hb : SE X CA XE b g) : SE X CA XE (.BinOp a .Mult b pos) (eBin opRep f g) := d_bin op_rep repS ha hb
def repO (o : Option O) (k : Int) (Q : List D → Prop) : Prop := match o with
  | some (.lst xs) => -(2 ^ 63) ≤ k ∧ k < 2 ^ 63 ∧ xs.length * k.toNat ≤ sizeLine ∧ Q (List.replicate k.toNat xs).flatten
  | _ => False
@[simp] theorem repO_lst {xs : List D} {k : Int} {Q : List D → Prop} : repO (some (.lst xs)) k Q = (-(2 ^ 63) ≤ k ∧ k < 2 ^ 63 ∧ xs.length * k.toNat ≤ sizeLine ∧ Q (List.replicate k.toNat xs).flatten) := id rfl
@[simp] theorem opRep_s {a : Addr} {k : Int} {M : Sto} {Q : KD} : opRep (.ref a) (.int k) M Q = repO (M a) k fun ys => ∀ p, M p = none → Q (.ref p) (M.set p (.lst ys)) := by
  unfold opRep repO
  rfl
/-! ## a lock round a statement -/
def sLock (i : Nat) (s : WS) : WS := fun E D env M => lockD (gt env i) M fun a o o' =>
  s X0 ⟨fun e m => m a = some o' ∧ D.nx e (m.set a o), fun _ _ => False, fun _ _ => False, fun _ _ => False⟩ env (M.set a o')
@[simp] theorem sLock_s {i : Nat} {s : WS} {E : XW} {D' : Ends} {env : Ev} {M : Sto} : sLock i s E D' env M = lockD (gt env i) M fun a o o' =>
  s X0 ⟨fun e m => m a = some o' ∧ D'.nx e (m.set a o), fun _ _ => False, fun _ _ => False, fun _ _ => False⟩ env (M.set a o') := id rfl
theorem s_lock {X : Cx} {CA : String → Addr} {XE : XK} {st : Stmt} {s : WS} (i : Nat) (h : SS X CA XE st s) : SS X CA XE st (sLock i s) :=
  PS_weak (ps_lock h) fun D σ H ⟨env, M, Ed, Dd, p, q, k⟩ => by
    unfold sLock lockD at q
    split at q
    · rename_i a _
      unfold lockO at q
      split at q
      · rename_i kvs e
        obtain ⟨vs, h1, h2⟩ := p.r _ _ e
        have nf : ∀ o xs, (HO.dK vs) ≠ .frz o xs := ne_frz trivial
        refine ⟨a, .dK vs, h1, ?_, fun od => ?_⟩
        · trivial
        have T : Tups X.K H (upd H a (.frz od (.dK vs))) := Tups.wr h1 nf
        refine ⟨env, M.set a (.dkF kvs), X0, _, ⟨p.e.mono T, p.r.at T ⟨od, vs, upd_same, paired_mono h2 fun _ _ z => ⟨z.1, z.2.m T⟩⟩, KX.no⟩, q, ⟨?_, fun _ _ _ _ z => z.elim, fun _ _ _ _ z => z.elim, fun _ _ _ _ z => z.elim⟩⟩
        rintro e' M' σ' H' ⟨e1, q1⟩ r' R' T'
        have e2 : H' a = some (.frz od (.dK vs)) := T'.z _ _ _ upd_same
        refine ⟨e2, ?_⟩
        have tf : TF X.K H' (upd H' a (.dK vs)) := tf_un e2 trivial
        refine k.nx _ _ _ _ q1 (r'.mono0 tf) (fun b u eb => ?_) (tups_lock h1 nf T')
        by_cases hb : b = a
        · subst hb
          rw [set_same] at eb; cases eb
          obtain ⟨od', vs', g1, g2⟩ := R' _ _ e1
          rw [e2] at g1; cases g1
          exact ⟨vs, upd_same, paired_mono g2 fun _ _ z => ⟨z.1, z.2.m0 tf⟩⟩
        · rw [set_ne hb] at eb
          exact (R' b u eb).mono0 tf (upd_ne hb)
      · rename_i kvs e
        obtain ⟨es, h1, h2⟩ := p.r _ _ e
        have nf : ∀ o xs, (NDict (cn X CA) a es) ≠ .frz o xs := ne_frz trivial
        refine ⟨a, NDict (cn X CA) a es, h1, ?_, fun od => ?_⟩
        · trivial
        have T : Tups X.K H (upd H a (.frz od (NDict (cn X CA) a es))) := Tups.wr h1 nf
        refine ⟨env, M.set a (.dnF kvs), X0, _, ⟨p.e.mono T, p.r.at T ⟨od, es, upd_same, paired_mono h2 fun _ _ z => ⟨z.1, z.2.1, z.2.2.1.m T, z.2.2.2.m T⟩⟩, KX.no⟩, q, ⟨?_, fun _ _ _ _ z => z.elim, fun _ _ _ _ z => z.elim, fun _ _ _ _ z => z.elim⟩⟩
        rintro e' M' σ' H' ⟨e1, q1⟩ r' R' T'
        have e2 : H' a = some (.frz od (NDict (cn X CA) a es)) := T'.z _ _ _ upd_same
        refine ⟨e2, ?_⟩
        have tf : TF X.K H' (upd H' a (NDict (cn X CA) a es)) := tf_un e2 trivial
        refine k.nx _ _ _ _ q1 (r'.mono0 tf) (fun b u eb => ?_) (tups_lock h1 nf T')
        by_cases hb : b = a
        · subst hb
          rw [set_same] at eb; cases eb
          obtain ⟨od', es', g1, g2⟩ := R' _ _ e1
          rw [e2] at g1
          have ee : NDict (cn X CA) b es' = NDict (cn X CA) b es := by
            have := Option.some.inj g1
            injection this with h3 h4
            exact h4.symm
          exact ⟨es', by rw [upd_same, ee], paired_mono g2 fun _ _ z => ⟨z.1, z.2.1, z.2.2.1.m0 tf, z.2.2.2.m0 tf⟩⟩
        · rw [set_ne hb] at eb
          exact (R' b u eb).mono0 tf (upd_ne hb)
      · exact q.elim
    · exact q.elim
/-! ## zip of two lists -/
def zipL (xs ys : List D) : List D := List.zipWith (fun x y => .tup [x, y]) xs ys
def zipO (o o' : Option O) (k : List D → List D → Prop) : Prop := match o with
  | some (.lst xs) => match o' with
    | some (.lst ys) => k xs ys
    | _ => False
  | _ => False
def zipD (x y : D) (M : Sto) (k : (Sto → Prop) → List D → Sto → Prop) : Prop := match x with
  | .ref a => match y with
    | .ref b => zipO (M a) (M b) fun xs ys => k (fun M' => M' a = some (.lst xs) ∧ M' b = some (.lst ys)) (zipL xs ys) M
    | _ => False
  | _ => False
def iZip (f g : WE) : WI := fun E env M k => f E env M fun x M1 => g E env M1 fun y M2 => zipD x y M2 k
@[simp] theorem iZip_s {f g : WE} {E : XW} {env : Ev} {M : Sto} {k : (Sto → Prop) → List D → Sto → Prop} : iZip f g E env M k = f E env M fun x M1 => g E env M1 fun y M2 => zipD x y M2 k := id rfl
@[simp] theorem zipD_s {a b : Addr} {M : Sto} {k : (Sto → Prop) → List D → Sto → Prop} : zipD (.ref a) (.ref b) M k = zipO (M a) (M b) fun xs ys => k (fun M' => M' a = some (.lst xs) ∧ M' b = some (.lst ys)) (zipL xs ys) M := id rfl
@[simp] theorem zipO_s {xs ys : List D} {k : List D → List D → Prop} : zipO (some (.lst xs)) (some (.lst ys)) k = k xs ys := id rfl
theorem itR_zip {c : Cn} {H1 : Hp} {a b : Addr} {xs ys : List D} (h1 : ∃ vs, H1 a = some (.lst vs) ∧ Reps c.K H1 vs xs) (h2 : ∃ vs, H1 b = some (.lst vs) ∧ Reps c.K H1 vs ys) :
    ItR c true H1 (Itz c.K a b) (fun M => M a = some (.lst xs) ∧ M b = some (.lst ys)) (zipL xs ys) where
  go := fun i H M T hR e h => by
    obtain ⟨vs, e1, r1⟩ := hR _ _ e.1
    obtain ⟨ws, e2, r2⟩ := hR _ _ e.2
    have hl : i < xs.length ∧ i < ys.length := by unfold zipL at h; rw [List.length_zipWith] at h; omega
    obtain ⟨v, ev, _⟩ := r1.get (i := i) (List.getElem?_eq_getElem hl.1)
    obtain ⟨w, ew, _⟩ := r2.get (i := i) (List.getElem?_eq_getElem hl.2)
    exact ⟨vs, ws, v, w, SqL.of e1, SqL.of e2, ev, ew⟩
  stop := fun H M T hR e => by
    obtain ⟨vs, e1, r1⟩ := hR _ _ e.1
    obtain ⟨ws, e2, r2⟩ := hR _ _ e.2
    refine ⟨vs, ws, SqL.of e1, SqL.of e2, ?_⟩
    rw [r1.length, r2.length]
    unfold zipL; rw [List.length_zipWith]; omega
  yld := fun i H x H' M T hR e h d hd => by
    obtain ⟨vs, e1, r1⟩ := hR _ _ e.1
    obtain ⟨ws, e2, r2⟩ := hR _ _ e.2
    obtain ⟨Tp, u, w, rfl, hn, rfl, hx, hy⟩ := h
    have hx := hx _ (SqL.of e1)
    have hy := hy _ (SqL.of e2)
    obtain ⟨dx, h3, r3⟩ := r1.getV hx
    obtain ⟨dy, h4, r4⟩ := r2.getV hy
    have hd' : d = .tup [dx, dy] := by
      unfold zipL at hd
      rw [List.getElem?_zipWith, h3, h4] at hd
      exact (Option.some.inj hd).symm
    subst hd'
    have T2 : Tups c.K H (upd H Tp (.tup [u, w])) := Tups.new hn
    exact ⟨RepY.pair (.inl (.inl upd_same)) (.cons (r3.m T2) (.cons (r4.m T2) .nil)), hR.keep hn, T2⟩
theorem i_zip {X : Cx} {CA : String → Addr} {XE : XK} {e e2 : Expr} {f g : WE} {p pos tpos : Pos} {elts : List Expr} {kk : Nat} (hm : X.mg "zip" = none) (ha : SE X CA XE e f) (hb : SE X CA XE e2 g) (hg : Gl X "zip" := by rfl)
    (hs : starEach [e, e2] X.env = (false, eval e X.env) :: starEach [e2] X.env := by rfl) (hs2 : starEach [e2] X.env = (false, eval e2 X.env) :: starEach [] X.env := by rfl) (hpl : (backTo pos (starEach [e2] X.env)).any (·.1) = false := by rfl) : SI true X CA XE (.Tuple elts kk tpos) (.Call (.Name "zip" p) [e, e2] [] pos) (iZip f g) :=
  PI_weak (pi_zip hg hm (pa_cons ha (pa_cons hb pa_nil hs2) hs) hs hpl) fun σ H Rk ⟨env, M, Ed, kd, p, q, k⟩ => ⟨env, M, Ed, _, p, q, fun d1 M1 v1 H1 q1 r1 R1 T1 => ⟨env, M1, Ed, _, p.to T1 R1, q1, fun d2 M2 v2 H2 q2 r2 R2 T2 => by
    have r1 := r1.m T2
    unfold zipD at q2
    split at q2
    · split at q2
      · cases r1; cases r2
        unfold zipO at q2
        split at q2
        · split at q2
          · rename_i xs e1 _ ys e2
            obtain ⟨vs, h1, p1⟩ := R2 _ _ e1
            obtain ⟨ws, h2, p2⟩ := R2 _ _ e2
            exact ⟨_, _, vs, ws, rfl, SqL.of h1, SqL.of h2, k _ _ _ _ _ q2 R2 (T1.trans T2) (itR_zip (c := cn X CA) ⟨vs, h1, p1⟩ ⟨ws, h2, p2⟩)⟩
          · exact q2.elim
        · exact q2.elim
      · exact q2.elim
    · exact q2.elim⟩⟩
end DL

set_option Elab.async false
set_option linter.all false
set_option maxRecDepth 100000
set_option maxHeartbeats 4000000
/-! DC3: dict comprehensions; keys ints or texts, or tuples -/
namespace DL
open PySem PySem.Spec PyProof.Rows L2
def insK (o : Option O) (k v : D) (Q : O → Prop) : Prop := match o with
  | some (.dk kvs) => match keyD k with
    | some κ => kvs.length < sizeLine ∧ Q (.dk (ins kvs κ v))
    | none => False
  | _ => False
def insN (o : Option O) (k v : D) (Q : O → Prop) : Prop := match o with
  | some (.dn kvs) => nkOk k = true ∧ kvs.length < sizeLine ∧ Q (.dn (ins kvs k v))
  | _ => False
@[simp] theorem insK_S {kvs : List (Key × D)} {s : Str} {v : D} {Q : O → Prop} : insK (some (.dk kvs)) (.str s) v Q = (kvs.length < sizeLine ∧ Q (.dk (ins kvs (.inr s) v))) := id rfl
theorem insN_s {kvs : List (D × D)} {k v : D} {Q : O → Prop} : insN (some (.dn kvs)) k v Q = (nkOk k = true ∧ kvs.length < sizeLine ∧ Q (.dn (ins kvs k v))) := id rfl
def dcompL (I : Option O → D → D → (O → Prop) → Prop) (p : Addr) (vs : List Nat) (g : WG) (t : WT) (kf vf : WE) (env : Ev) (chk : Sto → Prop) : List D → Sto → (Sto → Prop) → Prop
  | [], M, Q => chk M ∧ Q M
  | x :: xs, M, Q => chk M ∧ g x X0 (DL.wipe env vs) M fun env1 M1 => t X0 env1 M1 fun b M2 =>
    if b = true then kf X0 env1 M2 fun k M3 => vf X0 env1 M3 fun v M4 => I (M4 p) k v fun o => dcompL I p vs g t kf vf env chk xs (M4.set p o) Q
    else dcompL I p vs g t kf vf env chk xs M2 Q
def eDcK (src : WI) (vs : List Nat) (g : WG) (t : WT) (kf vf : WE) : WE := fun E env M Q => src E env M fun chk xs M1 => ∀ p, M1 p = none →
  dcompL insK p vs g t kf vf env chk xs (M1.set p (.dk [])) fun M2 => Q (.ref p) M2
def eDcN (src : WI) (vs : List Nat) (g : WG) (t : WT) (kf vf : WE) : WE := fun E env M Q => src E env M fun chk xs M1 => ∀ p, M1 p = none →
  dcompL insN p vs g t kf vf env chk xs (M1.set p (.dn [])) fun M2 => Q (.ref p) M2
section
variable {I : Option O → D → D → (O → Prop) → Prop} {E : XW} {env : Ev} {M : Sto} {Q : KD} {p : Addr} {vs : List Nat} {G : WG} {u : WT} {src : WI} {f g : WE} {chk : Sto → Prop} {P : Sto → Prop} {x : D} {xs : List D}
@[simp] theorem eDcK_s : eDcK src vs G u f g E env M Q = src E env M fun chk xs M1 => ∀ p, M1 p = none → dcompL insK p vs G u f g env chk xs (M1.set p (.dk [])) fun M2 => Q (.ref p) M2 := id rfl
@[simp] theorem eDcN_s : eDcN src vs G u f g E env M Q = src E env M fun chk xs M1 => ∀ p, M1 p = none → dcompL insN p vs G u f g env chk xs (M1.set p (.dn [])) fun M2 => Q (.ref p) M2 := id rfl
theorem dcompL_nil : dcompL I p vs G u f g env chk [] M P = (chk M ∧ P M) := id rfl
theorem dcompL_cons : dcompL I p vs G u f g env chk (x :: xs) M P = (chk M ∧ G x X0 (DL.wipe env vs) M fun env1 M1 => u X0 env1 M1 fun b M2 =>
    if b = true then f X0 env1 M2 fun k M3 => g X0 env1 M3 fun v M4 => I (M4 p) k v fun o => dcompL I p vs G u f g env chk xs (M4.set p o) P
    else dcompL I p vs G u f g env chk xs M2 P) := id rfl
/-- what stays -/
theorem dcomp_ind (J : List D → Sto → Prop)
    (step : ∀ x xs m, J (x :: xs) m → chk m ∧ ∀ T : D → D → Sto → Prop, (∀ k v m', (I (m' p) k v fun o => J xs (m'.set p o)) → T k v m') → G x X0 (DL.wipe env vs) m fun e1 m1 => f X0 e1 m1 fun k m2 => g X0 e1 m2 fun v m3 => T k v m3)
    (hI : ∀ o k v (A B : O → Prop), I o k v A → (∀ o, A o → B o) → I o k v B)
    (last : ∀ m, J [] m → chk m ∧ P m) : ∀ xs m, J xs m → dcompL I p vs G tYes f g env chk xs m P
  | [], m, h => by rw [dcompL_nil]; exact last m h
  | x :: xs, m, h => by
    rw [dcompL_cons]
    have h' := step x xs m h
    refine ⟨h'.1, ?_⟩
    simp only [tYes_s, if_pos]
    exact h'.2 _ fun k v m' hi => hI _ _ _ _ _ hi fun o ho => dcomp_ind J step hI last xs _ ho
end
theorem insK_mono : ∀ o k v (A B : O → Prop), insK o k v A → (∀ o, A o → B o) → insK o k v B := by
  intro o k v A B h hm
  unfold insK at *
  split at h
  · split at h
    · exact ⟨h.1, hm _ h.2⟩
    · exact h
  · exact h
theorem insN_mono : ∀ o k v (A B : O → Prop), insN o k v A → (∀ o, A o → B o) → insN o k v B := by
  intro o k v A B h hm
  unfold insN at *
  split at h
  · exact ⟨h.1, h.2.1, hm _ h.2.2⟩
  · exact h
/-! ## keys ints or texts -/
section
variable {X : Cx} {CA : String → Addr} {XE : XK} {tg iter : Expr} {y : Bool} {pos : Pos}
theorem dcomp_of {own : List Nat} {t : WT} {kf vf : WE} {src : WI} {gt : WG} {σ : L2.St} {H : Hp} {Q : VK} {env : Ev} {M : Sto} {Ed : XW} {Qd : KD} (p : Pre (cn X CA) XE σ H env M Ed) (q : eDcK src own gt t kf vf Ed env M Qd) (k : KQ (cn X CA) H Qd Q) :
    tDc (tOfI y (cn X CA) XE src) (tOfG y (cn X CA) E0 own gt) (tOfT (cn X CA) E0 t) (tOf (cn X CA) E0 kf) (tOf (cn X CA) E0 vf) own σ H Q := by
  refine ⟨env, M, Ed, _, p, q, fun chk xs M1 H1 J q1 R1 T1 it => fun D hD => ?_⟩
  have Tl : Tups X.K H1 (upd H1 D (.dK [])) := Tups.new hD
  have Rl : R (cn X CA) (M1.set D (.dk [])) (upd H1 D (.dK [])) := R1.at Tl ⟨[], upd_same, .nil⟩
  have q1 := q1 D (R1.fresh hD)
  refine ⟨fun i m H' => m = xs.length - i ∧ i ≤ xs.length ∧ ∃ M', R (cn X CA) M' H' ∧ Tups X.K H1 H' ∧ dcompL insK D own gt t kf vf env chk (xs.drop i) M' fun M2 => Qd (.ref D) M2, ⟨xs.length, by simp, Nat.zero_le _, _, Rl, Tl, by rw [List.drop_zero]; exact q1⟩, ?_⟩
  rintro i m H' ⟨rfl, hi, M', R', T', q'⟩
  by_cases hlt : i < xs.length
  · rw [drop_get hlt] at q'
    obtain ⟨hck, q'⟩ := q'
    refine .inr ⟨it.go i H' M' T' R' hck hlt, fun H2 => (xs.length - (i + 1)) = xs.length - (i + 1) ∧ i + 1 ≤ xs.length ∧ ∃ M', R (cn X CA) M' H2 ∧ Tups X.K H1 H2 ∧ dcompL insK D own gt t kf vf env chk (xs.drop (i + 1)) M' fun M2 => Qd (.ref D) M2, fun H2 h2 => ⟨xs.length - (i + 1), by omega, h2⟩, fun x H2 yl => ?_⟩
    obtain ⟨rx, R2, T2⟩ := it.yld i H' x H2 M' T' R' hck yl xs[i] (List.getElem?_eq_getElem hlt)
    refine ⟨xs[i], DL.wipe env own, M', X0, _, rx, ⟨(p.e.wipe own).mono (T1.trans (T'.trans T2)), R2, KX.no⟩, q', fun env3 M3 σ3 H3 q3 e3 R3 T3 O3 => ⟨O3.wipe, ?_⟩⟩
    refine ⟨env3, M3, X0, _, ⟨e3, R3, KX.no⟩, q3, fun b M4 H4 q4 R4 T4 => ?_⟩
    have T5 : Tups X.K H1 H4 := T'.trans (T2.trans (T3.trans T4))
    cases b with
    | false => exact ⟨rfl, hlt, M4, R4, T5, q4⟩
    | true =>
      refine ⟨env3, M4, X0, _, ⟨e3.mono T4, R4, KX.no⟩, q4, fun d M6 v H6 q6 r6 R6 T6 => ?_⟩
      refine ⟨env3, M6, X0, _, ⟨(e3.mono T4).mono T6, R6, KX.no⟩, q6, fun d2 M7 v2 H7 q7 r7 R7 T7 => ?_⟩
      unfold insK at q7
      split at q7
      · rename_i kvs em
        split at q7
        · rename_i κ ek
          obtain ⟨ws, h1, rr⟩ := R7 _ _ em
          have T3 : Tups (cn X CA).K H7 (upd H7 D (.dK (putK ws κ v2))) := Tups.wr h1 (ne_frz trivial)
          have R8 : R (cn X CA) (M7.set D (.dk (ins kvs κ d2))) (upd H7 D (.dK (putK ws κ v2))) := R7.at T3 ⟨_, upd_same, paired_mono (put_ins r7 rr) fun _ _ z => ⟨z.1, z.2.m T3⟩⟩
          exact ⟨ws, κ, (r6.m T7).key ek, h1, by rw [Paired.length rr]; exact q7.1, rfl, hlt, _, R8, T5.trans (T6.trans (T7.trans T3)), q7.2⟩
        · exact q7.elim
      · exact q7.elim
  · have e : i = xs.length := by omega
    subst e
    rw [List.drop_length] at q'
    exact .inl ⟨it.stop H' M' T' R' q'.1, k _ _ _ _ q'.2 (.ref D) R' (T1.trans T')⟩
theorem d_dcomp {kx vx : Expr} {ifs : List Expr} {scope : Scope} {own : List (Str × Nat)} {t : WT} {kf vf : WE} {src : WI} {gt : WG} (hc : X.calm = true) (hN : X.N.Nodup) (hi : SI y X CA XE tg iter src) (ok : BlkOk X.N X.env.scope scope own)
    (hg : ∀ (s : Shared) (H : Hp) (C : Addr) (cl : List (Str × Addr)) (fp : List Addr), SG y (X.blk s H scope (compEnvC scope cl C X.env) fp) CA E0 (own.map (·.2)) tg gt)
    (ht : ∀ (s : Shared) (H : Hp) (C : Addr) (cl : List (Str × Addr)) (fp : List Addr), STs (X.blk s H scope (compEnvC scope cl C X.env) fp) CA E0 ifs t)
    (hk : ∀ (s : Shared) (H : Hp) (C : Addr) (cl : List (Str × Addr)) (fp : List Addr), SE (X.blk s H scope (compEnvC scope cl C X.env) fp) CA E0 kx kf)
    (he : ∀ (s : Shared) (H : Hp) (C : Addr) (cl : List (Str × Addr)) (fp : List Addr), SE (X.blk s H scope (compEnvC scope cl C X.env) fp) CA E0 vx vf) (hs : ∀ x, foldedSetIterable iter X.env x = pure x := by intro _; rfl) :
    SE X CA XE (.DictComp kx vx [⟨tg, iter, ifs, 0⟩] scope pos) (eDcK src (own.map (·.2)) gt t kf vf) :=
  PE_weak (pe_dc (g := tOfG y (cn X CA) E0 (own.map fun z : Str × Nat => z.2) gt) (tt := tOfT (cn X CA) E0 t) (tk := tOf (cn X CA) E0 kf) (tv := tOf (cn X CA) E0 vf) hc hN hi ok hg ht hk he hs) fun σ H Q ⟨env, M, Ed, Qd, p, q, k⟩ => dcomp_of p q k
end
/-! ## keys tuples -/
section
variable {X : Cx} {CA : String → Addr} {XE : XK} {tg iter : Expr} {y : Bool} {pos : Pos}
/-- what such a comprehension asks, over the hand layer -/
def tDcN (c : Cn) (wi : TI) (g : TG) (tt : TT) (tk tv : TE) (vs : List Nat) : TE := fun σ H Q => wi σ H fun J H1 => ∀ D, H1 D = none → ∃ W : Nat → Nat → Hp → Prop, (∃ m, W 0 m (upd H1 D (NDict c D []))) ∧ ∀ i m H, W i m H →
  (J.stop i H ∧ Q (.ref D) H) ∨ (J.go i H ∧ ∃ Nx : Hp → Prop, (∀ H', Nx H' → ∃ m', m' < m ∧ W (i + 1) m' H') ∧ ∀ x H', J.yld i H x H' → g x (L2.wipe σ vs) H' fun σ2 H2 => L2.wipe σ2 vs = L2.wipe σ vs ∧ tt σ2 H2 fun b H3 =>
    if b = true then tk σ2 H3 fun y H4 => tv σ2 H4 fun z H5 => ∃ b es kvs k, y = .ref b ∧ H5 D = some (NDict c D es) ∧ PDn c H5 es kvs ∧ Rep c.K H5 (.ref b) k ∧ nkOk k = true ∧ es.length < sizeLine ∧ Nx (upd H5 D (NDict c D (putN es (nkD k) b z))) else Nx H3)
theorem nd_new {s : Shared} {a : Addr} {pins : List (Addr × Obj)} {σ : L2.St} {H : Hp} {tk : Nat} (I : Inv X pins σ H s) (ha : s.heap.objs.size = a) : Inv X pins σ (upd H a (NDict (cn X CA) a [])) { s with heap := s.heap.push { cls := .type "dict", data := .dict #[] }, toks := tk } := by
  subst ha
  exact I.laid (a := s.heap.objs.size) (o := NDict (cn X CA) s.heap.objs.size []) (t' := tk) (fun _ _ q => Heap.get?_push_of_some _ q) (Nat.le_refl _)
    ⟨⟨Nat.zero_le _, beq_eq_false_iff_ne.mpr (Ne.symm (Nat.ne_of_lt I.big)), [], .nil, ⟨_, #[], 0, Heap.get?_push_size _ rfl, ⟨rfl, rfl, rfl⟩, rfl, rfl⟩, List.nodup_nil⟩, ⟨_, Heap.get?_push_size _ rfl⟩,
      fun h1 h2 ⟨a, b, xs, c, ⟨o, es, ep, d, e⟩, f⟩ k => ⟨a, b, xs, c, ⟨o, es, ep, k _ d, e⟩, f⟩⟩
theorem nd_put {k : Nat} (hr : Room k X.A) {pins : List (Addr × Obj)} {σ : L2.St} {H : Hp} {s : Shared} {E : Value → Shared → Prop} {D b : Addr} {es : List Ent} {kvs : List (DL.D × DL.D)} {key : DL.D} {v : V} {u : Value} {Q : Unit → Shared → Prop} (I : Inv X pins σ H s)
    (hD : H D = some (NDict (cn X CA) D es)) (p : PDn (cn X CA) H es kvs) (r : Rep X.K H (.ref b) key) (hk : nkOk key = true) (hz : es.length < sizeLine) (rv : RelV v u) (h : ∀ s', Inv X pins σ (upd H D (NDict (cn X CA) D (putN es (nkD key) b v))) s' → Q () s') :
    wpAny (model X.prog X.w) X.A (dictSet D (.ref b) u) Q E s := by
  obtain ⟨z, hd, xs, pr, dd⟩ := nd_of I (.inl hD) p
  have hl : es.length = xs.length := Paired.length pr
  refine wpAny_dictSet_heap (knd := nestedKind X.prog X.w) (show X.A.units + 8 < cLine by have := hr.units; omega) (nk_at I r hk) dd (fun h' hm' hs => h _ ?_) (hsz := by rw [← hl]; exact z)
  obtain ⟨o', es', ep, h1, h2, h3, h4, _, h6⟩ := hm'
  refine d_write I (by rw [hD]; exact trivial) hs ⟨o', h1⟩ ?_
  exact ⟨⟨Nat.le_trans (putN_len _ _ _ _) hz, hd, _, putN_x rv pr, ⟨o', es', ep, h1, h2, h3, h4⟩, h6⟩, ⟨o', h1⟩, fun h1 h2 ⟨a, b, xs, c, ⟨o, es, ep, d, e⟩, f⟩ k => ⟨a, b, xs, c, ⟨o, es, ep, k _ d, e⟩, f⟩⟩
/-- the loop (the hand layer's way for keys that are ints or texts, turned to tuples) -/
theorem dn_core {k0 : Nat} (hr : Room k0 X.A) {pins : List (Addr × Obj)} {s : Shared} {σ : L2.St} {H : Hp} {Q : VK} {kx vx : Expr} {ifs : List Expr} {scope : Scope} {own : List (Str × Nat)} {wi : TI} {g : TG} {tt : TT} {tk tv : TE} {pos' : Pos} {use : Option (Value → Sem Unit)} {Qf : Value → Shared → Prop}
    (hc : X.calm = true) (hN : X.N.Nodup) (I : Inv X pins σ H s) (hi : PI X tg iter wi) (ok : BlkOk X.N X.env.scope scope own)
    (hg : ∀ (s : Shared) (H : Hp) (C : Addr) (cl : List (Str × Addr)) (fp : List Addr), PG (X.blk s H scope (compEnvC scope cl C X.env) fp) tg g) (ht : ∀ (s : Shared) (H : Hp) (C : Addr) (cl : List (Str × Addr)) (fp : List Addr), PTs (X.blk s H scope (compEnvC scope cl C X.env) fp) ifs tt)
    (hk : ∀ (s : Shared) (H : Hp) (C : Addr) (cl : List (Str × Addr)) (fp : List Addr), PE (X.blk s H scope (compEnvC scope cl C X.env) fp) kx tk)
    (he : ∀ (s : Shared) (H : Hp) (C : Addr) (cl : List (Str × Addr)) (fp : List Addr), PE (X.blk s H scope (compEnvC scope cl C X.env) fp) vx tv) (hs : ∀ x, foldedSetIterable iter X.env x = pure x)
    (h : tDcN (cn X CA) wi g tt tk tv (own.map (·.2)) σ H Q)
    (hRR : ∀ D C s' m H', Inv X pins σ H' s' → Q (.ref D) H' → s'.heap.Ns C m → FpOk X pins H' C → compPost (model X.prog X.w) X.A X.xe use Qf (.ref D) C (.ok .next) s') :
    wpAny (model X.prog X.w) X.A (comprehension (.DictComp kx vx [⟨tg, iter, ifs, 0⟩] scope pos) scope X.env pos' newDict false (eval iter X.env) use) Qf X.xe s := by
  have hfree : ∀ y ∈ scope.names, y.2 = .free → ∃ c, X.env.cells.lookup y.1 = some c := fun y hy e => (ok.free y hy e).elim (fun z => I.ok.has _ (.inl z)) fun z => I.ok.has _ (.inr z)
  refine wpAny_comprehension_free (use := use) rfl hs (closure_ok hfree) ok.kind (fun y hy e => by rw [ok.uniq y hy, e]) (thn (hi.run pins s σ H _ I h) fun xv s1 hx => thn hx fun itv s2 h2 => ?_)
  obtain ⟨it, fp, tn, J, H2, e, I2, T, st2, f2, q⟩ := h2
  subst e
  refine wpAny_newObj_type (newEnv_comp ?_)
  generalize hD : s2.heap.objs.size = D
  have hDn : H2 D = none := I2.hok.fresh (Nat.le_of_eq hD)
  obtain ⟨W, ⟨m0, w0⟩, turn⟩ := q D hDn
  have I3 := nd_new (CA := CA) (tk := s2.toks) I2 hD
  generalize hs3 : ({ s2 with heap := s2.heap.push { cls := .type "dict", data := .dict #[] }, toks := s2.toks } : Shared) = s3 at I3
  have h3 : s3.heap = s2.heap.push { cls := .type "dict", data := .dict #[] } := by rw [← hs3]
  have f3 : ∀ b ∈ fp, FpOk X pins (upd H2 D (NDict (cn X CA) D [])) b ∧ b < s3.heap.objs.size := fun b hb => by
    obtain ⟨o, e, _⟩ := T.obj _ _ st2 b hb
    have hlt := Heap.lt_size e
    refine ⟨⟨?_, (f2 b hb).2⟩, by rw [h3, Heap.size_push]; exact Nat.lt_succ_of_lt hlt⟩
    rw [upd_ne (by rw [← hD]; exact Nat.ne_of_lt hlt)]
    exact (f2 b hb).1
  have st3 : tn 0 s3.heap := T.keep _ _ _ st2 fun b _ o e => by rw [h3]; exact Heap.get?_push_of_some _ e
  have I4 := block_start I3 ok hN f3
  generalize hH3 : upd H2 D (NDict (cn X CA) D []) = H3 at I3 I4 w0 f3
  have pg := hg s3 H3 s3.heap.objs.size (cellsFrom (s3.heap.objs.size + 1) scope.names (cloFrom X.env.cells scope.names [])) fp
  have pt := ht s3 H3 s3.heap.objs.size (cellsFrom (s3.heap.objs.size + 1) scope.names (cloFrom X.env.cells scope.names [])) fp
  have pk := hk s3 H3 s3.heap.objs.size (cellsFrom (s3.heap.objs.size + 1) scope.names (cloFrom X.env.cells scope.names [])) fp
  have pe := he s3 H3 s3.heap.objs.size (cellsFrom (s3.heap.objs.size + 1) scope.names (cloFrom X.env.cells scope.names [])) fp
  show codeAny _ _ (.compStart (.DictComp kx vx [⟨tg, iter, ifs, 0⟩] scope pos) 0 (.ref it) (.ref D) (compEnvC scope (cellsFrom (s3.heap.objs.size + 1) scope.names (cloFrom X.env.cells scope.names [])) s3.heap.objs.size X.env)) (compPost (model X.prog X.w) X.A X.xe use Qf (.ref D) s3.heap.objs.size) { s3 with heap := pushCells (s3.heap.push { cls := .type "dict", data := .dict #[] }) scope.names }
  generalize hce : compEnvC scope (cellsFrom (s3.heap.objs.size + 1) scope.names (cloFrom X.env.cells scope.names [])) s3.heap.objs.size X.env = ce at I4 pg pt pk pe ⊢
  have cL : ce.locals = s3.heap.objs.size := by subst hce; rfl
  generalize hs4 : ({ s3 with heap := pushCells (s3.heap.push { cls := .type "dict", data := .dict #[] }) scope.names } : Shared) = s4 at I4 ⊢
  have st4 : tn 0 s4.heap := T.keep _ _ _ st3 fun b _ o e => by rw [← hs4]; exact pushCells_keeps _ _ _ _ (Heap.get?_push_of_some _ e)
  have stat : ∀ {σ' : L2.St} {H' : Hp} {s' : Shared}, Inv (X.blk s3 H3 scope ce fp) [] σ' H' s' → (∀ b ∈ fp, H' b = none) → ∀ b ∈ fp, FpOk (X.blk s3 H3 scope ce fp) [] H' b := fun {σ' H' s'} I' hn b hb =>
    ⟨hn b hb, (I'.ok.exf b hb).1, I'.ok.exfs b hb, .inl hb, fun x c e => (I'.ok.exf b hb).2 x c e, fun p hp => absurd (show p ∈ ([] : List (Addr × Obj)) ++ [] from hp) (by simp)⟩
  refine codeAny_compStart_dict ?_ (T.self X.A 0 _ _ _ st4 ?_)
  all_goals
    refine compLoop_anyD (fun n s' => ∃ i H', Inv (X.blk s3 H3 scope ce fp) [] (L2.wipe σ (own.map (·.2))) H' s' ∧ tn i s'.heap ∧ (∀ b ∈ fp, H' b = none) ∧ W i n H') ?_ m0 ⟨0, H3, I4, st4, fun b hb => (f3 b hb).1.1, w0⟩
    rintro n s5 ⟨i, H5, I5, st5, n5, w5⟩
    rcases turn i n H5 w5 with ⟨stop, qq⟩ | ⟨go, Nx, hNx, step⟩
    · refine thnF (T.done (X.blk s3 H3 scope ce fp) rfl rfl rfl hc i [] s5 _ H5 (fun _ _ => False) I5 (stat I5 n5) st5 stop) fun r s6 ⟨hr, I6⟩ => ?_
      subst hr
      have I7 : Inv X pins σ H5 s6 := I3.call' (ch := fp) I6.os I6.base I6.hok I6.bare fun b hb => ⟨(f3 b hb).1.2.2.2.1, (f3 b hb).1.2.1, (f3 b hb).1.2.2.2.2.1, (f3 b hb).1.2.2.2.2.2⟩
      have nC : H5 s3.heap.objs.size = none := by
        have z : H5 ce.locals = none := I6.free
        rw [cL] at z; exact z
      obtain ⟨m, hn, _⟩ := I6.loc
      have hn : s6.heap.Ns ce.locals m := hn
      rw [cL] at hn
      exact hRR D s3.heap.objs.size s6 m H5 I7 qq hn (I3.fpOk (Nat.le_refl _) nC)
    · refine thnF (T.item (X.blk s3 H3 scope ce fp) rfl rfl rfl hc i [] s5 _ H5 (fun _ _ => False) I5 (stat I5 n5) st5 go) fun r s6 ⟨u, hr, h6⟩ => ?_
      subst hr
      refine thnF h6 fun _ s7 ⟨x, H7, I7, r7, y7, st7, n7⟩ => ?_
      have I7' := I7.pinned (stat I7 n7) (T.obj _ _ st7)
      refine thnF (pg.run _ s7 _ H7 x u _ I7' r7 (step x H7 y7)) fun _ s8 ⟨σ8, H8, I8, hw8, q8⟩ => ?_
      refine thnF (pt.run _ s8 σ8 H8 _ I8 q8) fun b s9 ⟨H9, I9, q9⟩ => ?_
      have fin : ∀ {s' : Shared} {H' : Hp}, Inv (X.blk s3 H3 scope ce fp) ([] ++ pinsAt fp s7.heap) σ8 H' s' → Nx H' → ∃ m, m < n ∧ ∃ i H', Inv (X.blk s3 H3 scope ce fp) [] (L2.wipe σ (own.map (·.2))) H' s' ∧ tn i s'.heap ∧ (∀ b ∈ fp, H' b = none) ∧ W i m H' := fun {s' H'} I' nx => by
        obtain ⟨m', hm, w'⟩ := hNx H' nx
        have pin' : ∀ b ∈ fp, ∀ o, s7.heap.get? b = some o → s'.heap.get? b = some o ∧ H' b = none := fun b hb o e =>
          let z := I'.pin (b, o) (List.mem_append_right _ (List.mem_append_right _ (mem_pinsAt hb e)))
          ⟨z.1, z.2.1⟩
        refine ⟨m', hm, i + 1, H', (I'.unpinned (pins := [])).weak (by rw [← hw8, wipe_length]) (fun j v e => by rw [← hw8] at e; exact (wipe_some e).1), T.keep _ _ _ st7 fun b hb o e => (pin' b hb o e).1, fun b hb => ?_, w'⟩
        obtain ⟨o, e, _⟩ := T.obj _ _ st7 b hb
        exact (pin' b hb o e).2
      cases b with
      | false =>
        simp only [Bool.false_eq_true, if_false] at q9 ⊢
        exact fin I9 q9
      | true =>
        simp only [if_true] at q9 ⊢
        refine thnF (pk.run _ s9 σ8 H9 _ I9 q9) fun z s10 ⟨yk, H10, I10, r10, q10⟩ => ?_
        refine thnF (pe.run _ s10 σ8 H10 _ I10 q10) fun z2 s11 ⟨yv, H11, I11, r11, b, es, kvs, key, ek, hD11, p11, rk, hk11, hz11, nx⟩ => ?_
        subst ek
        obtain rfl : z = Value.ref b := r10
        exact nd_put (X := X.blk s3 H3 scope ce fp) (CA := CA) (k := k0) hr I11 hD11 p11 rk hk11 hz11 r11 fun s12 I12 => fin I12 nx
theorem ncomp_of {own : List Nat} {t : WT} {kf vf : WE} {src : WI} {gt : WG} {σ : L2.St} {H : Hp} {Q : VK} {env : Ev} {M : Sto} {Ed : XW} {Qd : KD} (p : Pre (cn X CA) XE σ H env M Ed) (q : eDcN src own gt t kf vf Ed env M Qd) (k : KQ (cn X CA) H Qd Q) :
    tDcN (cn X CA) (tOfI y (cn X CA) XE src) (tOfG y (cn X CA) E0 own gt) (tOfT (cn X CA) E0 t) (tOf (cn X CA) E0 kf) (tOf (cn X CA) E0 vf) own σ H Q := by
  refine ⟨env, M, Ed, _, p, q, fun chk xs M1 H1 J q1 R1 T1 it => fun D hD => ?_⟩
  have Tl : Tups X.K H1 (upd H1 D (NDict (cn X CA) D [])) := Tups.new hD
  have Rl : R (cn X CA) (M1.set D (.dn [])) (upd H1 D (NDict (cn X CA) D [])) := R1.at Tl ⟨[], upd_same, .nil⟩
  have q1 := q1 D (R1.fresh hD)
  refine ⟨fun i m H' => m = xs.length - i ∧ i ≤ xs.length ∧ ∃ M', R (cn X CA) M' H' ∧ Tups X.K H1 H' ∧ dcompL insN D own gt t kf vf env chk (xs.drop i) M' fun M2 => Qd (.ref D) M2, ⟨xs.length, by simp, Nat.zero_le _, _, Rl, Tl, by rw [List.drop_zero]; exact q1⟩, ?_⟩
  rintro i m H' ⟨rfl, hi, M', R', T', q'⟩
  by_cases hlt : i < xs.length
  · rw [drop_get hlt] at q'
    obtain ⟨hck, q'⟩ := q'
    refine .inr ⟨it.go i H' M' T' R' hck hlt, fun H2 => (xs.length - (i + 1)) = xs.length - (i + 1) ∧ i + 1 ≤ xs.length ∧ ∃ M', R (cn X CA) M' H2 ∧ Tups X.K H1 H2 ∧ dcompL insN D own gt t kf vf env chk (xs.drop (i + 1)) M' fun M2 => Qd (.ref D) M2, fun H2 h2 => ⟨xs.length - (i + 1), by omega, h2⟩, fun x H2 yl => ?_⟩
    obtain ⟨rx, R2, T2⟩ := it.yld i H' x H2 M' T' R' hck yl xs[i] (List.getElem?_eq_getElem hlt)
    refine ⟨xs[i], DL.wipe env own, M', X0, _, rx, ⟨(p.e.wipe own).mono (T1.trans (T'.trans T2)), R2, KX.no⟩, q', fun env3 M3 σ3 H3 q3 e3 R3 T3 O3 => ⟨O3.wipe, ?_⟩⟩
    refine ⟨env3, M3, X0, _, ⟨e3, R3, KX.no⟩, q3, fun b M4 H4 q4 R4 T4 => ?_⟩
    have T5 : Tups X.K H1 H4 := T'.trans (T2.trans (T3.trans T4))
    cases b with
    | false => exact ⟨rfl, hlt, M4, R4, T5, q4⟩
    | true =>
      refine ⟨env3, M4, X0, _, ⟨e3.mono T4, R4, KX.no⟩, q4, fun d M6 v H6 q6 r6 R6 T6 => ?_⟩
      refine ⟨env3, M6, X0, _, ⟨(e3.mono T4).mono T6, R6, KX.no⟩, q6, fun d2 M7 v2 H7 q7 r7 R7 T7 => ?_⟩
      have r6 := r6.m T7
      unfold insN at q7
      split at q7
      · rename_i kvs em
        obtain ⟨hk, hz, q7⟩ := q7
        obtain ⟨ws, h1, rr⟩ := R7 _ _ em
        obtain ⟨xs', n, rfl, _, _⟩ := nkOk_nest hk
        cases r6 with
        | @tup bb _ _ s1 p1 =>
          have rk : Rep (cn X CA).K H7 (.ref bb) (.tup xs') := .tup s1 p1
          have T3 : Tups (cn X CA).K H7 (upd H7 D (NDict (cn X CA) D (putN ws (nkD (.tup xs')) bb v2))) := Tups.wr h1 (ne_frz trivial)
          have R8 : R (cn X CA) (M7.set D (.dn (ins kvs (.tup xs') d2))) (upd H7 D (NDict (cn X CA) D (putN ws (nkD (.tup xs')) bb v2))) :=
            R7.at T3 ⟨_, upd_same, paired_mono (putN_d (c := cn X CA) hk rk r7 rr) fun _ _ z => ⟨z.1, z.2.1, z.2.2.1.m T3, z.2.2.2.m T3⟩⟩
          exact ⟨bb, ws, kvs, .tup xs', rfl, h1, rr, rk, hk, by rw [Paired.length rr]; exact hz, rfl, hlt, _, R8, T5.trans (T6.trans (T7.trans T3)), q7⟩
      · exact q7.elim
  · have e : i = xs.length := by omega
    subst e
    rw [List.drop_length] at q'
    exact .inl ⟨it.stop H' M' T' R' q'.1, k _ _ _ _ q'.2 (.ref D) R' (T1.trans T')⟩
theorem d_ncomp {k0 : Nat} (hr : Room k0 X.A) {kx vx : Expr} {ifs : List Expr} {scope : Scope} {own : List (Str × Nat)} {t : WT} {kf vf : WE} {src : WI} {gt : WG} (hc : X.calm = true) (hN : X.N.Nodup) (hi : SI y X CA XE tg iter src) (ok : BlkOk X.N X.env.scope scope own)
    (hg : ∀ (s : Shared) (H : Hp) (C : Addr) (cl : List (Str × Addr)) (fp : List Addr), SG y (X.blk s H scope (compEnvC scope cl C X.env) fp) CA E0 (own.map (·.2)) tg gt)
    (ht : ∀ (s : Shared) (H : Hp) (C : Addr) (cl : List (Str × Addr)) (fp : List Addr), STs (X.blk s H scope (compEnvC scope cl C X.env) fp) CA E0 ifs t)
    (hk : ∀ (s : Shared) (H : Hp) (C : Addr) (cl : List (Str × Addr)) (fp : List Addr), SE (X.blk s H scope (compEnvC scope cl C X.env) fp) CA E0 kx kf)
    (he : ∀ (s : Shared) (H : Hp) (C : Addr) (cl : List (Str × Addr)) (fp : List Addr), SE (X.blk s H scope (compEnvC scope cl C X.env) fp) CA E0 vx vf) (hs : ∀ x, foldedSetIterable iter X.env x = pure x := by intro _; rfl) :
    SE X CA XE (.DictComp kx vx [⟨tg, iter, ifs, 0⟩] scope pos) (eDcN src (own.map (·.2)) gt t kf vf) :=
  ⟨fun pins s σ H Q I ⟨env, M, Ed, Qd, p, q, k⟩ => by
    rw [arm_eval_DictComp]
    refine dn_core (CA := CA) hr (g := tOfG y (cn X CA) E0 (own.map fun z : Str × Nat => z.2) gt) (tt := tOfT (cn X CA) E0 t) (tk := tOf (cn X CA) E0 kf) (tv := tOf (cn X CA) E0 vf) hc hN I hi ok hg ht hk he hs (ncomp_of p q k) fun D C s' m H' I' q hn f => ⟨m, hn, fun h'' sb => ?_⟩
    obtain ⟨f0, f1, f2, f3, f4, f5⟩ := f
    exact ⟨.ref D, H', I'.turned (t' := s'.toks) (fun b o hb e => (sb.2 b hb).trans e) f0 f1 f3 f4 f5, rfl, q⟩⟩
/-! ## name = {..} on one line, the name a local -/
theorem sw_trueD {kx vx : Expr} {gs : List Comprehension} {scope : Scope} {pos py : Pos} {y : Str} {l : Nat} {env : Env} (hk : env.scope.kind = .function) (hy : env.scope.names.lookup y = some .local) (hl : (py.line == pos.line) = true)
    (ha : (scope.names.any fun (n, k) => n == y && (k == .local || k == .cell)) = false) : swapsWith (.DictComp kx vx gs scope pos) (some (.Name y py)) l env = pure true := by
  have ky : env.kindOf y = some .local := hy
  have hb : env.blockKind = .function := by unfold Env.blockKind; rw [hk]; rfl
  unfold swapsWith
  simp only [hb, ky, ha, Expr.pos, hl]
  rfl
theorem set_tail {pins : List (Addr × Obj)} {σ : L2.St} {D : L2.Ends} {i : Nat} {v : Str} {py : Pos} {Q : VK} (hN : X.N.Nodup) (hy : X.N[i]? = some v) (hyl : X.env.scope.names.lookup v = some .local) (hq : ∀ L H, Q (.ref L) H → L2.gName i (.ref L) σ H D.nx)
    (L C : Addr) (s' : Shared) (m : Str → Option Value) (H' : Hp) (I' : Inv X pins σ H' s') (q : Q (.ref L) H') (hn : s'.heap.Ns C m) (f : FpOk X pins H' C) :
    compPost (model X.prog X.w) X.A X.xe (some (assign (.Name v py) X.env)) (fun _ s' => SP X pins D .next s') (.ref L) C (.ok .next) s' := by
  show wpAny _ _ (assign (.Name v py) X.env (.ref L)) _ _ _
  refine wpAny_assign_Name (store_ok2 (v := V.ref L) I' hN hy (.inl hyl) rfl (fun s2 I2 ⟨a, sb, ha⟩ => ?_) (.inr hyl))
  obtain ⟨f0, f1, f2, f3, f4, f5⟩ := f
  have haC : C ≠ a := by
    rcases ha with z | z
    · rw [z]; exact f1
    · exact fun e => f4 v a z e.symm
  refine ⟨m, hn.sameBut sb haC, fun h3 sb3 => ?_⟩
  exact ⟨_, H', I2.turned (t' := s2.toks) (fun b o hb e => (sb3.2 b hb).trans e) f0 f1 f3 f4 f5, hq L H' q⟩
theorem s_setDc (i : Nat) {v : Str} {py : Pos} {kx vx : Expr} {ifs : List Expr} {scope : Scope} {own : List (Str × Nat)} {lpos : Pos} {t : WT} {kf vf : WE} {src : WI} {gt : WG} (hc : X.calm = true) (hN : X.N.Nodup) (hsw : swapsWith (.DictComp kx vx [⟨tg, iter, ifs, 0⟩] scope lpos) (some (.Name v py)) pos.line X.env = pure true) (hi : SI y X CA XE tg iter src) (ok : BlkOk X.N X.env.scope scope own)
    (hg : ∀ (s : Shared) (H : Hp) (C : Addr) (cl : List (Str × Addr)) (fp : List Addr), SG y (X.blk s H scope (compEnvC scope cl C X.env) fp) CA E0 (own.map (·.2)) tg gt)
    (ht : ∀ (s : Shared) (H : Hp) (C : Addr) (cl : List (Str × Addr)) (fp : List Addr), STs (X.blk s H scope (compEnvC scope cl C X.env) fp) CA E0 ifs t)
    (hk : ∀ (s : Shared) (H : Hp) (C : Addr) (cl : List (Str × Addr)) (fp : List Addr), SE (X.blk s H scope (compEnvC scope cl C X.env) fp) CA E0 kx kf)
    (he : ∀ (s : Shared) (H : Hp) (C : Addr) (cl : List (Str × Addr)) (fp : List Addr), SE (X.blk s H scope (compEnvC scope cl C X.env) fp) CA E0 vx vf)
    (hy : X.N[i]? = some v := by rfl) (hyl : X.env.scope.names.lookup v = some .local := by rfl) (hs : ∀ x, foldedSetIterable iter X.env x = pure x := by intro _; rfl) :
    SS X CA XE (.Assign [.Name v py] (.DictComp kx vx [⟨tg, iter, ifs, 0⟩] scope lpos) pos) (sAsg (eDcK src (own.map (·.2)) gt t kf vf) (gName i)) :=
  ⟨fun pins s σ H D I ⟨env, M, Ed, Dd, p, q, k⟩ => by
    rw [exec_Assign_Name_used _ _ _ _ hsw]
    refine wpAny_bind (wpAny_standAt (wpAny_bind ?_))
    show wpAny _ X.A (do let _ ← comprehension (.DictComp kx vx [⟨tg, iter, ifs, 0⟩] scope lpos) scope X.env (firstIterPos [⟨tg, iter, ifs, 0⟩] lpos) newDict false (eval iter X.env) (some (assign (.Name v py) X.env))) _ _ s
    have h := dcomp_of (X := X) (CA := CA) (y := y) (Q := fun x H1 => L2.gName i x σ H1 D.nx) p q fun d M1 v H1 q1 r1 R1 T1 => k.nx _ _ _ _ q1 ((p.e.mono T1).put r1 i) R1 T1
    refine wpAny_bind (thn (dc_core (g := tOfG y (cn X CA) E0 (own.map fun z : Str × Nat => z.2) gt) (tt := tOfT (cn X CA) E0 t) (tk := tOf (cn X CA) E0 kf) (tv := tOf (cn X CA) E0 vf) (Qf := fun _ s' => SP X pins D .next s') hc hN I hi ok hg ht hk he hs h fun L C s' m H' I' q hn f => set_tail (Q := fun x H1 => L2.gName i x σ H1 D.nx) hN hy hyl (fun _ _ z => z) L C s' m H' I' q hn f) fun _ s' hq => wpAny_pure (wpAny_pure hq))⟩
theorem s_setDn {k0 : Nat} (hr : Room k0 X.A) (i : Nat) {v : Str} {py : Pos} {kx vx : Expr} {ifs : List Expr} {scope : Scope} {own : List (Str × Nat)} {lpos : Pos} {t : WT} {kf vf : WE} {src : WI} {gt : WG} (hc : X.calm = true) (hN : X.N.Nodup) (hsw : swapsWith (.DictComp kx vx [⟨tg, iter, ifs, 0⟩] scope lpos) (some (.Name v py)) pos.line X.env = pure true) (hi : SI y X CA XE tg iter src) (ok : BlkOk X.N X.env.scope scope own)
    (hg : ∀ (s : Shared) (H : Hp) (C : Addr) (cl : List (Str × Addr)) (fp : List Addr), SG y (X.blk s H scope (compEnvC scope cl C X.env) fp) CA E0 (own.map (·.2)) tg gt)
    (ht : ∀ (s : Shared) (H : Hp) (C : Addr) (cl : List (Str × Addr)) (fp : List Addr), STs (X.blk s H scope (compEnvC scope cl C X.env) fp) CA E0 ifs t)
    (hk : ∀ (s : Shared) (H : Hp) (C : Addr) (cl : List (Str × Addr)) (fp : List Addr), SE (X.blk s H scope (compEnvC scope cl C X.env) fp) CA E0 kx kf)
    (he : ∀ (s : Shared) (H : Hp) (C : Addr) (cl : List (Str × Addr)) (fp : List Addr), SE (X.blk s H scope (compEnvC scope cl C X.env) fp) CA E0 vx vf)
    (hy : X.N[i]? = some v := by rfl) (hyl : X.env.scope.names.lookup v = some .local := by rfl) (hs : ∀ x, foldedSetIterable iter X.env x = pure x := by intro _; rfl) :
    SS X CA XE (.Assign [.Name v py] (.DictComp kx vx [⟨tg, iter, ifs, 0⟩] scope lpos) pos) (sAsg (eDcN src (own.map (·.2)) gt t kf vf) (gName i)) :=
  ⟨fun pins s σ H D I ⟨env, M, Ed, Dd, p, q, k⟩ => by
    rw [exec_Assign_Name_used _ _ _ _ hsw]
    refine wpAny_bind (wpAny_standAt (wpAny_bind ?_))
    show wpAny _ X.A (do let _ ← comprehension (.DictComp kx vx [⟨tg, iter, ifs, 0⟩] scope lpos) scope X.env (firstIterPos [⟨tg, iter, ifs, 0⟩] lpos) newDict false (eval iter X.env) (some (assign (.Name v py) X.env))) _ _ s
    have h := ncomp_of (X := X) (CA := CA) (y := y) (Q := fun x H1 => L2.gName i x σ H1 D.nx) p q fun d M1 v H1 q1 r1 R1 T1 => k.nx _ _ _ _ q1 ((p.e.mono T1).put r1 i) R1 T1
    refine wpAny_bind (thn (dn_core (CA := CA) (g := tOfG y (cn X CA) E0 (own.map fun z : Str × Nat => z.2) gt) (tt := tOfT (cn X CA) E0 t) (tk := tOf (cn X CA) E0 kf) (tv := tOf (cn X CA) E0 vf) (Qf := fun _ s' => SP X pins D .next s') hr hc hN I hi ok hg ht hk he hs h fun L C s' m H' I' q hn f => set_tail (Q := fun x H1 => L2.gName i x σ H1 D.nx) hN hy hyl (fun _ _ z => z) L C s' m H' I' q hn f) fun _ s' hq => wpAny_pure (wpAny_pure hq))⟩
end
end DL

set_option Elab.async false
set_option linter.all false
set_option maxRecDepth 100000
set_option maxHeartbeats 4000000
/-! DB2: sorted(tuple of texts), list(dict with tuples as keys), sorted(list of tuples, key=len) -/
namespace DL
open PySem PySem.Spec PyProof.Rows L2
/-! ## list(d) -/
section
variable {prog : Program} {w : World} {A : Around}
theorem walks_keys (hh : A.handled = none) (it d : Addr) (hne : d ≠ it) {od : Obj} {es : Array DictEntry} {ep : Nat} (hdat : od.data = .dict es ep) :
    Walks prog w A it [it, d] [it] es.size (fun i v => ∃ en, es[i]? = some en ∧ v = en.key) (fun i h => h.IsKeyIter it d i es.size ep ∧ h.get? d = some od) where
  sub := by simp
  frame := fun i h h' st k => ⟨st.1.at fun o e => k it (by simp) o e, k d (by simp) od st.2⟩
  item := fun i s Q E hi st hQ => by
    obtain ⟨en, hen⟩ : ∃ en, es[i]? = some en := ⟨es[i], Array.getElem?_eq_getElem hi⟩
    refine next_key_item st.1 st.2 hdat rfl hen fun h' st' sb => ?_
    exact hQ _ h' _ ⟨en, hen, rfl⟩ ⟨st', (sb.2 d hne).trans st.2⟩ fun b o hb e => (sb.2 b (by simpa using hb)).trans e
  done := fun s Q E st hQ => next_key_end hh st.1 st.2 hdat rfl (Nat.le_refl _) fun h' eb => hQ h' _ fun b o hb e => eb b o (by simpa using hb) e
  self := fun i s Q E st h => by
    refine wpAny_pyIter_slot st.1.typeIs PySem.F.slot_dict_keyiterator_iter (wpAny_call_entry PySem.F.slot_dict_keyiterator_iter st.1.typeIs PySem.F.entry_dict_keyiterator_iter ?_ (PySem.F.args_dict_keyiterator_iter_1 _))
    show wpAny _ _ (ret (.ref it)) _ _ s
    exact wpAny_pure ⟨_, rfl, "dict_keyiterator", _, st.1.typeIs, PySem.F.slot_dict_keyiterator_next.lookup, h⟩
theorem src_keys {d : Addr} {od : Obj} {es : Array DictEntry} {ep : Nat} (lo : (d == sysModules) = false) (hx : od.ExactDict) (hdat : od.data = .dict es ep) :
    PySem.W.KdlSrc prog w "dict" d d es.size (fun i v => ∃ en, es[i]? = some en ∧ v = en.key) (fun h => h.get? d = some od) where
  type := fun s hm => ⟨od, hm, hx.1⟩
  there := fun h hm => ⟨Heap.lt_size hm, Heap.lt_size hm⟩
  keep := fun h h' hm hk => hk d (.inl rfl) od hm
  notList := by decide
  notTuple := by decide
  hint := fun A E s Q hm hq => PySem.W.kdl_hint_dict ⟨od, hm, hx.1⟩ hq
  iter := fun A s hh hm => ⟨_, _, (fun _ _ hq => iter_keys lo hm hx hdat hq), walks_keys hh s.heap.objs.size d (Nat.ne_of_lt (Heap.lt_size hm)) hdat, ⟨⟨_, Heap.get?_push_size _ rfl, rfl, rfl⟩, Heap.get?_push_of_some _ hm⟩⟩
end
/-- the dict in hand: its entries' keys -/
theorem ndE {X : Cx} {CA : String → Addr} {pins : List (Addr × Obj)} {σ : L2.St} {H : Hp} {s : Shared} {d : Addr} {es : List Ent} (I : Inv X pins σ H s) (h : H d = some (NDict (cn X CA) d es)) :
    (d == sysModules) = false ∧ es.length ≤ sizeLine ∧ ∃ (o : Obj) (ds : Array DictEntry) (ep : Nat), s.heap.get? d = some o ∧ o.ExactDict ∧ o.data = .dict ds ep ∧ ds.size = es.length ∧
      ∀ (i : Nat) (k : NestedKey) (q : Addr) (v : V), es[i]? = some (k, q, v) → ∃ en : DictEntry, ds[i]? = some en ∧ en.key = .ref q := by
  obtain ⟨⟨z, hd, xs, pr, ⟨o, ds, ep, ho, ex, hdat, hent⟩, nd⟩, _⟩ := I.hok d _ h
  have hl : es.length = xs.length := Paired.length pr
  refine ⟨hd, z, o, ds, ep, ho, ex, hdat, ?_, fun i k q v e => ?_⟩
  · have := congrArg List.length hent
    simp at this; omega
  · obtain ⟨b, hb, e1, e2, _⟩ := paired_get pr e
    refine ⟨entryOfKey (nestedKind (cn X CA).P (cn X CA).w) b, ?_, ?_⟩
    · have : ds.toList[i]? = (xs.map (entryOfKey (nestedKind (cn X CA).P (cn X CA).w)))[i]? := by rw [hent]
      rw [List.getElem?_map, hb, Array.getElem?_toList] at this
      exact this
    · show Value.ref b.2.1 = _
      rw [← e2]
def rListN (c : Cn) : List V → Hp → VK → Prop := fun xs H Q => ∃ d es, xs = [.ref d] ∧ H d = some (NDict c d es) ∧ ∀ l, H l = none → Q (.ref l) (upd H l (.lst (es.map fun e => V.ref e.2.1)))
theorem call_listN {X : Cx} {CA : String → Addr} (hc : X.calm = true) : CallR X (.type "list") (rListN (cn X CA)) := by
  intro pins s σ H xs us Q I r h
  obtain ⟨d, es, e, hk, q⟩ := h
  subst e
  obtain ⟨u, eu, rx⟩ := vals1 r
  subst eu
  obtain rfl : u = Value.ref d := rx
  obtain ⟨lo, z, o, ds, ep, ho, hx, hdat, hsz, hen⟩ := ndE I hk
  refine PySem.W.kdl_call (src_keys lo hx hdat) (I.ok.hd hc) ho (by rw [hsz]; exact z) fun h' tk acc' c' hkeep hS hacc => ?_
  refine ⟨.ref s.heap.objs.size, upd H s.heap.objs.size (.lst (es.map fun e => V.ref e.2.1)), I.laid hkeep (Nat.le_refl _) (show ObjOk X.prog X.w _ _ _ (.lst (es.map fun e => V.ref e.2.1)) from ⟨?_, acc'.toList, c', ?_, ?_⟩), rfl, q _ (I.hok.fresh (Nat.le_refl _))⟩
  · rw [List.length_map]; exact z
  · have el : acc'.toList.length = acc'.size := by simp
    refine vals_of_at (by rw [List.length_map, el, hacc.1, hsz]) fun j x w h1 h2 => ?_
    obtain ⟨en, e1, rfl⟩ := hacc.2 j w (by rw [← Array.getElem?_toList]; exact h2)
    rw [List.getElem?_map] at h1
    cases ej : es[j]? with
    | none => rw [ej] at h1; cases h1
    | some p =>
      obtain ⟨k, qa, v⟩ := p
      rw [ej] at h1
      cases h1
      obtain ⟨en', e2, e3⟩ := hen j k qa v ej
      rw [e1] at e2; cases e2
      exact e3
  · rw [Array.toArray_toList]; exact hS
def lstNO (o : Option O) (k : List D → Prop) : Prop := match o with
  | some (.dn kvs) => k (kvs.map Prod.fst)
  | _ => False
def lstND (x : D) (M : Sto) (k : List D → Prop) : Prop := match x with
  | .ref a => lstNO (M a) k
  | _ => False
def eLstN (f : WE) : WE := fun E env M Q => f E env M fun x M1 => lstND x M1 fun xs => ∀ p, M1 p = none → Q (.ref p) (M1.set p (.lst xs))
@[simp] theorem eLstN_s {f : WE} {E : XW} {env : Ev} {M : Sto} {Q : KD} : eLstN f E env M Q = f E env M fun x M1 => lstND x M1 fun xs => ∀ p, M1 p = none → Q (.ref p) (M1.set p (.lst xs)) := id rfl
@[simp] theorem lstND_ref {a : Addr} {M : Sto} {k : List D → Prop} : lstND (.ref a) M k = lstNO (M a) k := id rfl
@[simp] theorem lstNO_dn {kvs : List (D × D)} {k : List D → Prop} : lstNO (some (.dn kvs)) k = k (kvs.map Prod.fst) := id rfl
section
variable {X : Cx} {CA : String → Addr} {XE : XK} {a : Expr} {f : WE} {pos p kpos : Pos}
theorem keys_repsN {c : Cn} {H : Hp} : ∀ {es : List Ent} {kvs : List (D × D)}, PDn c H es kvs → Reps c.K H (es.map fun e => V.ref e.2.1) (kvs.map Prod.fst)
  | _, _, .nil => .nil
  | _, _, .cons r t => .cons r.2.2.1 (keys_repsN t)
theorem d_lstN (hc : X.calm = true) (hm : X.mg "list" = none) (ha : SE X CA XE a f) (hg : Gl X "list" := by rfl) (he : starEach [a] X.env = (false, eval a X.env) :: starEach [] X.env := by rfl) (hpl : (backTo pos (starEach [] X.env)).any (·.1) = false := by rfl) : SE X CA XE (.Call (.Name "list" p) [a] [] pos) (eLstN f) :=
  d_ty1 (G := fun d M Q => lstND d M fun xs => ∀ p, M p = none → Q (.ref p) (M.set p (.lst xs))) (call_listN (CA := CA) hc) (fun v d M H Qd Q r1 hR h k => by
    unfold lstND at h
    split at h
    · cases r1
      unfold lstNO at h
      split at h
      · rename_i kvs e
        obtain ⟨es, h1, q⟩ := hR _ _ e
        refine ⟨_, es, rfl, h1, fun l hl => ?_⟩
        obtain ⟨x, y⟩ := lay_lst hl (keys_repsN q) hR
        exact k _ _ _ _ (h l (hR.fresh hl)) (.ref l) x y
      · exact h.elim
    · exact h.elim) hg hm (by decide +kernel) ha (he := he) (hpl := hpl)
end
/-! ## sorted(t), t a tuple of texts -/
def strsOf : List D → Option (List Str)
  | [] => some []
  | .str s :: r => (strsOf r).map (s :: ·)
  | _ => none
def srtD (x : D) (k : List Str → Prop) : Prop := match x with
  | .tup xs => match strsOf xs with
    | some ss => k ss
    | none => False
  | _ => False
def eSrtT (f : WE) : WE := fun E env M Q => f E env M fun x M1 => srtD x fun ss => ss.length < 64 ∧ ∀ ys p, ys.Perm ss → sortedS ys = true → M1 p = none → Q (.ref p) (M1.set p (.lst (ys.map .str)))
@[simp] theorem eSrtT_s {f : WE} {E : XW} {env : Ev} {M : Sto} {Q : KD} : eSrtT f E env M Q = f E env M fun x M1 => srtD x fun ss => ss.length < 64 ∧ ∀ ys p, ys.Perm ss → sortedS ys = true → M1 p = none → Q (.ref p) (M1.set p (.lst (ys.map .str))) := id rfl
theorem strsOf_map : ∀ xs : List Str, strsOf (xs.map .str) = some xs
  | [] => rfl
  | x :: xs => by simp [strsOf, strsOf_map xs]
theorem srtD_map {xs : List Str} {k : List Str → Prop} (h : k xs) : srtD (.tup (xs.map .str)) k := by
  unfold srtD; dsimp only; rw [strsOf_map]; exact h
theorem strsOf_some : ∀ {ds : List D} {ss : List Str}, strsOf ds = some ss → ds = ss.map .str
  | [], ss, h => by simp [strsOf] at h; subst h; rfl
  | d :: ds, ss, h => by
    cases d with
    | str s =>
      simp only [strsOf, Option.map_eq_some_iff] at h
      obtain ⟨r, e, rfl⟩ := h
      rw [strsOf_some e]; rfl
    | _ => simp [strsOf] at h
theorem reps_strs_inv {K : PySem.W.Frag} {H : Hp} : ∀ {ss : List Str} {vs : List V}, Reps K H vs (ss.map .str) → vs = ss.map V.str
  | [], _, .nil => rfl
  | s :: ss, _, .cons r t => by cases r; rw [reps_strs_inv t]; rfl
def rSrtT (K : PySem.W.Frag) : List V → Hp → VK → Prop := fun vs H Q => ∃ (a : Addr) (ks : List Str), vs = [V.ref a] ∧ SqT K H a (ks.map V.str) ∧ ks.length < 64 ∧
  ∀ (ys : List Str) (p : Addr), ys.Perm ks → sortedS ys = true → H p = none → Q (.ref p) (upd H p (.lst (ys.map V.str)))
theorem cr_srtT {X : Cx} : CallR X (.builtin "sorted") (rSrtT X.K) := by
  intro pins s σ H xs us Q I r q
  obtain ⟨a, ks, ex, hs, h64, q⟩ := q
  subst ex
  obtain ⟨u, eu, rx⟩ := vals1 r
  subst eu
  cases rx
  obtain ⟨its, rv, ⟨o, ho, hcl, n, hd⟩, hz⟩ := I.tuple hs
  have hl : its.length = ks.length := by rw [← rv.length, List.length_map]
  have h16 : its.length ≤ sizeLine := by rw [hl, sizeLine_eq]; omega
  have hS : StrsAre its ks := rv.strs
  refine Calls.call_function_entry PyProof.Rows.kind_sorted PyProof.Rows.plain_sorted PyProof.Rows.entry_sorted (PyProof.Rows.args_sorted1 _) ?_
  unfold Builtin.«sorted»
  refine wpAny_bind (m := checkCount "sorted" 1 1 _) (wpAny_pure ?_)
  refine wpAny_bind (wpAny_collect_seq a (.inr rfl) ho hcl hd (fun h' hk => ?_) (by rw [List.size_toArray]; exact h16))
  have I1 : Inv X pins σ H { s with heap := h' } := I.kept (t' := s.toks) hk
  refine wpAny_bind (wpAny_newList ?_ (by rw [hl, sizeLine_eq]; omega))
  have hoL : (h'.push (seqObj "list" its.toArray 0)).get? h'.objs.size = some (seqObj "list" its.toArray 0) := Heap.get?_push_size _ rfl
  show wpAny _ _ _ _ _ { s with heap := h'.push (seqObj "list" its.toArray 0) }
  refine wpAny_bind (wpAny_holding (wpAny_call_entry PyProof.Rows.slot_list_sort ⟨_, hoL, rfl⟩ PyProof.Rows.entry_list_sort
    (list_sort_treeK strKind_oneLt (s := { s with heap := h'.push (seqObj "list" its.toArray 0) }) hoL hS.keysOf (fun v₁ v₂ rest e => keyKind_strs (by rw [← e]; exact hS)) (by rw [hl]; exact h64) fun st' hp hs => ⟨_, rfl, ?_⟩)
    (PyProof.Rows.args_list_sort _)))
  obtain ⟨ys, g1, g2, g3⟩ := sorted_out_str hS hp hs
  obtain ⟨e', he'⟩ := PyProof.Rows.sortedHeap_at (vs := its) (out := (arrOf st').map (·.2)) hoL
  have hlen : (ys.map V.str).length ≤ sizeLine := by
    rw [List.length_map, g2.length_eq]
    exact Nat.le_trans (Nat.le_of_lt h64) (by decide)
  refine wpAny_pure ⟨_, rfl, .ref h'.objs.size, upd H h'.objs.size (.lst (ys.map V.str)), I1.laid (t' := s.toks) (fun b u e => ?_) (Nat.le_refl _)
    (show ObjOk X.prog X.w _ _ _ (.lst (ys.map V.str)) from ⟨hlen, ((arrOf st').map (·.2)).toList, e', vals_of_strs g1, by rw [Array.toArray_toList]; exact he'⟩), rfl, q ys _ g2 g3 (I1.hok.fresh (Nat.le_refl _))⟩
  have hb : b < h'.objs.size := Heap.lt_size e
  rw [PyProof.Rows.sortedHeap_old (Nat.ne_of_lt hb) (by rw [size_push']; exact Nat.lt_succ_of_lt hb)]
  exact Heap.get?_push_of_some _ e
section
variable {X : Cx} {CA : String → Addr} {XE : XK} {a : Expr} {f : WE} {pos p : Pos}
theorem d_srtT (hm : X.mg "sorted" = none) (ha : SE X CA XE a f) (hg : Gl X "sorted" := by rfl) (he : starEach [a] X.env = (false, eval a X.env) :: starEach [] X.env := by rfl) (hpl : (backTo pos (starEach [] X.env)).any (·.1) = false := by rfl) : SE X CA XE (.Call (.Name "sorted" p) [a] [] pos) (eSrtT f) :=
  d_b1 (G := fun d M Q => srtD d fun ss => ss.length < 64 ∧ ∀ ys p, ys.Perm ss → sortedS ys = true → M p = none → Q (.ref p) (M.set p (.lst (ys.map .str)))) cr_srtT (fun v d M H Qd Q r1 hR h k => by
    unfold srtD at h
    split at h
    · split at h
      · rename_i ss e
        obtain rfl := strsOf_some e
        cases r1 with
        | tup s1 q1 =>
          obtain rfl := reps_strs_inv q1
          refine ⟨_, ss, rfl, s1.s, h.1, fun ys l hp hs hl => ?_⟩
          obtain ⟨x, y⟩ := lay_lst (c := cn X CA) hl (reps_strs ys) hR
          exact k _ _ _ _ (h.2 ys l hp hs (hR.fresh hl)) (.ref l) x y
      · exact h.elim
    · exact h.elim) hg hm (by decide +kernel) ha (he := he) (hpl := hpl)
end
/-! ## sorted(xs, key=len), xs a list of tuples -/
def lenT : D → Nat
  | .tup xs => xs.length
  | _ => 0
def isT : D → Bool
  | .tup _ => true
  | _ => false
def srtLO (o : Option O) (k : List D → Prop) : Prop := match o with
  | some (.lst xs) => xs.all isT = true ∧ k xs
  | _ => False
def srtLD (x : D) (M : Sto) (k : List D → Prop) : Prop := match x with
  | .ref a => srtLO (M a) k
  | _ => False
def eSrtLen (f : WE) : WE := fun E env M Q => f E env M fun x M1 => srtLD x M1 fun xs => ∀ ys p, ys.Perm xs → ys.Pairwise (fun a b => lenT a ≤ lenT b) → M1 p = none → Q (.ref p) (M1.set p (.lst ys))
@[simp] theorem eSrtLen_s {f : WE} {E : XW} {env : Ev} {M : Sto} {Q : KD} : eSrtLen f E env M Q = f E env M fun x M1 => srtLD x M1 fun xs => ∀ ys p, ys.Perm xs → ys.Pairwise (fun a b => lenT a ≤ lenT b) → M1 p = none → Q (.ref p) (M1.set p (.lst ys)) := id rfl
@[simp] theorem srtLD_ref {a : Addr} {M : Sto} {k : List D → Prop} : srtLD (.ref a) M k = srtLO (M a) k := id rfl
@[simp] theorem srtLO_lst {xs : List D} {k : List D → Prop} : srtLO (some (.lst xs)) k = (xs.all isT = true ∧ k xs) := id rfl
section
variable {X : Cx} {CA : String → Addr} {XE : XK} {a : Expr} {f : WE} {pos p pl kpos : Pos}
/-- what stands for what, when tuples are sorted by their lengths -/
def RLen (X : Cx) (H : Hp) (s : Shared) : Value → V × D → Prop := fun u b => RelV b.1 u ∧ Rep X.K H b.1 b.2 ∧ ∃ t items, u = .ref t ∧ s.heap.IsTuple t items ∧ items.size = lenT b.2 ∧ items.size ≤ sizeLine
open PySem.W in
theorem each_len {pins : List (Addr × Obj)} {σ : L2.St} {H : Hp} {s : Shared} (I : Inv X pins σ H s) : ∀ {xs : List D} {vs : List V} {us : List Value}, Reps X.K H vs xs → Vals vs us → xs.all isT = true → EachIs (RLen X H s) us (vs.zip xs)
  | [], _, _, r, rv, _ => by
    cases r; cases rv; exact .nil
  | d :: xs, _, _, r, rv, ht => by
    cases r with
    | cons rd t =>
      cases rv with
      | cons r1 r2 =>
        rw [List.all_cons, Bool.and_eq_true] at ht
        rw [List.zip_cons_cons]
        refine .cons ⟨r1, rd, ?_⟩ (each_len I t r2 ht.2)
        cases rd with
        | tup s1 q1 =>
          obtain ⟨its', rv', pl, hz'⟩ := I.tuple s1.s
          obtain rfl : _ = Value.ref _ := r1
          have h1 := rv'.length
          have h2 := q1.length
          exact ⟨_, _, rfl, pl, by show its'.toArray.size = _; rw [List.size_toArray, ← h1, h2]; rfl, by rw [List.size_toArray, ← h1]; exact hz'⟩
        | _ => simp [isT] at ht
open PySem.W in
theorem sorted_len {pins : List (Addr × Obj)} {σ : L2.St} {H : Hp} {s : Shared} {Q : VK} {l : Addr} {vs : List V} {xs : List D} {k : Nat} (hr : Room k X.A) (I : Inv X pins σ H s) (hl : H l = some (.lst vs)) (r : Reps X.K H vs xs) (ht : xs.all isT = true)
    (q : ∀ (ws : List V) (ys : List D) (p : Addr), Reps X.K H ws ys → ys.Perm xs → ys.Pairwise (fun a b => lenT a ≤ lenT b) → H p = none → Q (.ref p) (upd H p (.lst ws))) :
    wpAny (model X.prog X.w) X.A (call (.builtin "sorted") [.ref l] [(Str.ofString "key", .builtin "len")]) (EP X pins σ Q) X.xe s := by
  obtain ⟨hz, its, n, rv, ho⟩ := I.hok l _ hl
  have hlen := r.length
  have hil := rv.length
  have hu := hr.units
  let R : Value → V × D → Prop := RLen X H s
  have key : ∀ {xs : List D} {vs : List V} {us : List Value}, Reps X.K H vs xs → Vals vs us → xs.all isT = true → EachIs R us (vs.zip xs) := each_len I
  have E0 := key r rv ht
  have hbl : (vs.zip xs).length = vs.length := by rw [List.length_zip, hlen, Nat.min_self]
  refine sorted_key_data (b := false) (f := .builtin "len") (β := V × D) (R := R) (bs := vs.zip xs) (vs := its) (fun b => .int (lenT b.2)) ⟨_, ho, rfl, _, rfl⟩ E0 (AllAlike.of fun _ _ => by simp [alike]) (Sortable.others fun _ => ⟨by simp, by simp⟩) (by rw [hbl]; exact hz) (fun b _ => by show X.A.units + 2 + PyData.depth (.int _) < cLine; simp [PyData.depth]; omega)
    (ksk_s1 _ _) (fun _ => ksk_l1 _ _) (fun _ => ksk_t4 _ _) ?_ ?_
  · rintro v x ⟨_, _, t, items, rfl, hp, hs, hb⟩ hx h tk kp
    have hp' : h.IsTuple t items := by
      obtain ⟨o, ho, hc, n, hd⟩ := hp
      exact ⟨o, kp _ _ ho, hc, n, hd⟩
    have hsl := sizeLine_eq
    have hn := line63
    refine len_tuple (s := { s with heap := h, toks := tk }) hp' (by omega) ⟨h, _, rfl, fun b o e => e, ?_⟩
    rw [hs]
    exact Reads.int _ _
  · intro out c h' tk kp hn hD hol eo
    rw [dataLe_int] at eo
    generalize hcs : (vs.zip xs).mergeSort (fun a b => decide ((lenT a.2 : Int) ≤ lenT b.2)) = cs at eo
    have pm : cs.Perm (vs.zip xs) := by rw [← hcs]; exact List.mergeSort_perm _ _
    have srt : cs.Pairwise (fun a b => decide ((lenT a.2 : Int) ≤ lenT b.2) = true) := by
      rw [← hcs]
      exact List.pairwise_mergeSort (fun a b c h1 h2 => by simp at h1 h2 ⊢; omega) (fun a b => by simp; omega) _
    have sp : ∀ {us : List Value} {cs : List (V × D)}, EachIs R us cs → Vals (cs.map Prod.fst) us ∧ Reps X.K H (cs.map Prod.fst) (cs.map Prod.snd) := by
      intro us cs e
      induction e with
      | nil => exact ⟨.nil, .nil⟩
      | cons h1 _ ih => exact ⟨.cons h1.1 ih.1, .cons h1.2.1 ih.2⟩
    obtain ⟨w1, w2⟩ := sp eo
    have hzl : (cs.map Prod.fst).length ≤ sizeLine := by rw [List.length_map, pm.length_eq, hbl]; exact hz
    have hfr : H (s.heap.objs.size + 1) = none := I.hok.fresh (Nat.le_succ _)
    refine ⟨.ref (s.heap.objs.size + 1), upd H (s.heap.objs.size + 1) (.lst (cs.map Prod.fst)), I.laid (t' := tk) kp (Nat.le_succ _) (show ObjOk X.prog X.w _ _ _ (.lst (cs.map Prod.fst)) from ⟨hzl, out, c, w1, hD⟩), rfl, q _ (cs.map Prod.snd) _ w2 ?_ ?_ hfr⟩
    · have h2 : (vs.zip xs).map Prod.snd = xs := by rw [List.map_snd_zip]; omega
      rw [← h2]; exact pm.map _
    · rw [List.pairwise_map]
      exact srt.imp fun h => by simp at h; omega
theorem d_srtLen {k : Nat} (hr : Room k X.A) (hm : X.mg "sorted" = none) (hml : X.mg "len" = none) (ha : SE X CA XE a f) (hg : Gl X "sorted" := by rfl) (hgl : Gl X "len" := by rfl) (he2 : starEach [a] X.env = (false, eval a X.env) :: starEach [] X.env := by rfl)
    (he : backTo pos (starEach [a] X.env) = (false, eval a X.env) :: backTo pos (starEach [] X.env) := by rfl) (hpl : (backTo pos (starEach [a] X.env)).any (·.1) = false := by rfl)
    (hall : (backToKw pos (keywordEach [⟨some "key", .Name "len" pl, kpos⟩] X.env)).all (·.1.isSome) = true := by rfl) (hnone : (backToKw pos (keywordEach [⟨some "key", .Name "len" pl, kpos⟩] X.env)).any (·.1.isNone) = false := by rfl)
    (hks : (backToKw pos (keywordEach [⟨some "key", .Name "len" pl, kpos⟩] X.env)).filterMap (·.1) = [Str.ofString "key"] := by rfl) :
    SE X CA XE (.Call (.Name "sorted" p) [a] [⟨some "key", .Name "len" pl, kpos⟩] pos) (eSrtLen f) := by
  refine ⟨fun pins s σ H Q I ⟨env, M, Ed, Qd, p, q, k⟩ => ?_⟩
  refine wpAny_Call_Name_kw (ld_blt (u := .builtin "sorted") I hg hm (by decide +kernel) ?_)
  have pa : PA X [a] _ := pa_cons ha pa_nil he2
  refine PyProof.Rows.callWith_kw (thn (pa.run pos pins s σ H (fun vs H1 => ∃ d v M1, vs = [v] ∧ (srtLD d M1 fun xs => ∀ ys p, ys.Perm xs → ys.Pairwise (fun a b => lenT a ≤ lenT b) → M1 p = none → Qd (.ref p) (M1.set p (.lst ys))) ∧ Rep X.K H1 v d ∧ R (cn X CA) M1 H1 ∧ Tups X.K H H1) I
    ⟨env, M, Ed, _, p, q, fun d M1 v H1 q1 r1 R1 T1 => ⟨d, v, M1, rfl, q1, r1, R1, T1⟩⟩) fun us s1 ⟨vs, H1, I1, r1, d, v, M1, ev, q1, rv, R1, T1⟩ => ?_) he hpl hall hnone
  subst ev
  show wpAny _ _ (evalAll ((do let v ← eval (.Name "len" pl) X.env; standAt pos; pure v) :: [])) _ _ s1
  refine wpAny_evalAll_cons (wpAny_bind (ld_blt (u := .builtin "len") I1 hgl hml (by decide +kernel) (wpAny_bind (wpAny_standAt (wpAny_pure (wpAny_evalAll_nil ?_))))))
  rw [hks]
  obtain ⟨u, rfl, ru⟩ := vals1 r1
  unfold srtLD at q1
  split at q1
  · cases rv
    obtain rfl : u = Value.ref _ := ru
    unfold srtLO at q1
    split at q1
    · rename_i xs e
      obtain ⟨ws, h1, rr⟩ := R1 _ _ e
      show wpAny _ _ (call (.builtin "sorted") [.ref _] [(Str.ofString "key", .builtin "len")]) _ _ s1
      refine sorted_len hr I1 h1 rr q1.1 fun ws' ys l rw' pm pw hl => ?_
      obtain ⟨x, y⟩ := lay_lst (c := cn X CA) hl rw' R1
      exact k _ _ _ _ (q1.2 ys l pm pw (R1.fresh hl)) (.ref l) x (T1.trans y)
    · exact q1.elim
  · exact q1.elim
end
end DL

set_option Elab.async false
set_option linter.all false
set_option maxRecDepth 100000
set_option maxHeartbeats 4000000
/-! DB3: max and min of two ints, str(int), list.pop(k), list.index -/
namespace DL
open PySem PySem.Spec PyProof.Rows L2
section
variable {X : Cx} {CA : String → Addr} {XE : XK} {a b : Expr} {f g : WE} {pos p apos cpos : Pos}
def int2D (x y : D) (k : Int → Int → Prop) : Prop := match x with
  | .int i => match y with
    | .int j => k i j
    | _ => False
  | _ => False
@[simp] theorem int2D_int {i j : Int} {k : Int → Int → Prop} : int2D (.int i) (.int j) k = k i j := id rfl
def eMax2 (f g : WE) : WE := fun E env M Q => f E env M fun x M1 => g E env M1 fun y M2 => int2D x y fun i j => Q (.int (if j > i then j else i)) M2
def eMin2 (f g : WE) : WE := fun E env M Q => f E env M fun x M1 => g E env M1 fun y M2 => int2D x y fun i j => Q (.int (if j < i then j else i)) M2
@[simp] theorem eMax2_s {E : XW} {env : Ev} {M : Sto} {Q : KD} : eMax2 f g E env M Q = f E env M fun x M1 => g E env M1 fun y M2 => int2D x y fun i j => Q (.int (if j > i then j else i)) M2 := id rfl
@[simp] theorem eMin2_s {E : XW} {env : Ev} {M : Sto} {Q : KD} : eMin2 f g E env M Q = f E env M fun x M1 => g E env M1 fun y M2 => int2D x y fun i j => Q (.int (if j < i then j else i)) M2 := id rfl
theorem int2D_e {x y : D} {k : Int → Int → Prop} (h : int2D x y k) : ∃ i j, x = .int i ∧ y = .int j ∧ k i j := by
  unfold int2D at h
  split at h
  · split at h
    · exact ⟨_, _, rfl, rfl, h⟩
    · exact h.elim
  · exact h.elim
theorem d_max2 (hc : X.calm = true) (hm : X.mg "max" = none) (ha : SE X CA XE a f) (hb : SE X CA XE b g) (hg : Gl X "max" := by rfl) (hs : starEach [a, b] X.env = (false, eval a X.env) :: starEach [b] X.env := by rfl) (hs2 : starEach [b] X.env = (false, eval b X.env) :: starEach [] X.env := by rfl)
    (hpl : (backTo pos (starEach [b] X.env)).any (·.1) = false := by rfl) : SE X CA XE (.Call (.Name "max" p) [a, b] [] pos) (eMax2 f g) :=
  PE_weak (pe_callB (call_max2 hc) hg hm (by decide +kernel) (pa_cons ha (pa_cons hb pa_nil hs2) hs) (he := hs) (hpl := hpl)) fun σ H Q ⟨env, M, Ed, Qd, p, q, k⟩ => ⟨env, M, Ed, _, p, q, fun d1 M1 v1 H1 q1 r1 R1 T1 => ⟨env, M1, Ed, _, p.to T1 R1, q1, fun d2 M2 v2 H2 q2 r2 R2 T2 => by
    obtain ⟨i, j, rfl, rfl, q3⟩ := int2D_e q2
    cases r1; cases r2
    exact ⟨i, j, rfl, k _ _ _ _ q3 (.int _) R2 (T1.trans T2)⟩⟩⟩
theorem d_min2 (hc : X.calm = true) (hm : X.mg "min" = none) (ha : SE X CA XE a f) (hb : SE X CA XE b g) (hg : Gl X "min" := by rfl) (hs : starEach [a, b] X.env = (false, eval a X.env) :: starEach [b] X.env := by rfl) (hs2 : starEach [b] X.env = (false, eval b X.env) :: starEach [] X.env := by rfl)
    (hpl : (backTo pos (starEach [b] X.env)).any (·.1) = false := by rfl) : SE X CA XE (.Call (.Name "min" p) [a, b] [] pos) (eMin2 f g) :=
  PE_weak (pe_callB (call_min2 hc) hg hm (by decide +kernel) (pa_cons ha (pa_cons hb pa_nil hs2) hs) (he := hs) (hpl := hpl)) fun σ H Q ⟨env, M, Ed, Qd, p, q, k⟩ => ⟨env, M, Ed, _, p, q, fun d1 M1 v1 H1 q1 r1 R1 T1 => ⟨env, M1, Ed, _, p.to T1 R1, q1, fun d2 M2 v2 H2 q2 r2 R2 T2 => by
    obtain ⟨i, j, rfl, rfl, q3⟩ := int2D_e q2
    cases r1; cases r2
    exact ⟨i, j, rfl, k _ _ _ _ q3 (.int _) R2 (T1.trans T2)⟩⟩⟩
/-! str(int) -/
def strD (x : D) (k : Str → Prop) : Prop := match x with
  | .int i => i.natAbs.log2 < 1920 ∧ k (toString i)
  | _ => False
@[simp] theorem strD_int {i : Int} {k : Str → Prop} : strD (.int i) k = (i.natAbs.log2 < 1920 ∧ k (toString i)) := id rfl
def eStrI (f : WE) : WE := fun E env M Q => f E env M fun x M1 => strD x fun s => Q (.str s) M1
@[simp] theorem eStrI_s {E : XW} {env : Ev} {M : Sto} {Q : KD} : eStrI f E env M Q = f E env M fun x M1 => strD x fun s => Q (.str s) M1 := id rfl
theorem d_strI (hm : X.mg "str" = none) (ha : SE X CA XE a f) (hg : Gl X "str" := by rfl) (he : starEach [a] X.env = (false, eval a X.env) :: starEach [] X.env := by rfl) (hpl : (backTo pos (starEach [] X.env)).any (·.1) = false := by rfl) : SE X CA XE (.Call (.Name "str" p) [a] [] pos) (eStrI f) :=
  d_ty1 (G := fun d M Q => strD d fun s => Q (.str s) M) call_str_int (fun v d M H Qd Q r1 hR h k => by
    unfold strD at h
    split at h
    · cases r1; exact ⟨_, rfl, h.1, k _ _ _ _ h.2 (.str _) hR .refl⟩
    · exact h.elim) hg hm (by decide +kernel) ha (he := he) (hpl := hpl)
/-! list.pop(k) -/
def popAtD (y : D) (xs : List D) (k : Nat → D → Prop) : Prop := match y with
  | .int i => -(2 ^ 63) ≤ i ∧ i < 2 ^ 63 ∧ match seqIndex? i xs.length with
    | some j => match xs[j]? with
      | some d => k j d
      | none => False
    | none => False
  | _ => False
def ePopAt (f g : WE) : WE := fun E env M Q => f E env M fun x M1 => lstAt x M1 fun _ _ => g E env M1 fun y M2 => lstAt x M2 fun a xs => popAtD y xs fun j d => Q d (M2.set a (.lst (xs.eraseIdx j)))
@[simp] theorem ePopAt_s {E : XW} {env : Ev} {M : Sto} {Q : KD} : ePopAt f g E env M Q = f E env M fun x M1 => lstAt x M1 fun _ _ => g E env M1 fun y M2 => lstAt x M2 fun a xs => popAtD y xs fun j d => Q d (M2.set a (.lst (xs.eraseIdx j))) := id rfl
theorem popAtD_i {i : Int} {xs : List D} {k : Nat → D → Prop} (h0 : 0 ≤ i) (h1 : i < xs.length) (h2 : xs.length < 2 ^ 62) (h : ∀ d, xs[i.toNat]? = some d → k i.toNat d) : popAtD (.int i) xs k := by
  refine ⟨by omega, by omega, ?_⟩
  have e : seqIndex? i xs.length = some i.toNat := by
    unfold seqIndex?
    simp [h0, h1, show ¬ i < 0 by omega]
  rw [e]
  have hlt : i.toNat < xs.length := by omega
  simp only [List.getElem?_eq_getElem hlt]
  exact h _ (List.getElem?_eq_getElem hlt)
theorem Reps.erase {K : PySem.W.Frag} {H : Hp} : ∀ {vs : List V} {ds : List D} (r : Reps K H vs ds) (i : Nat), Reps K H (vs.eraseIdx i) (ds.eraseIdx i)
  | _, _, .nil, _ => .nil
  | _, _, .cons h t, 0 => t
  | _, _, .cons h t, i + 1 => .cons h (Reps.erase t i)
theorem d_popAt (ha : SE X CA XE a f) (hb : SE X CA XE b g) (hbase : attributeBase a "pop" X.env (eval a X.env) = eval a X.env := by rfl)
    (hfew : ((backTo cpos (starEach [b] X.env)).all (fun x => !x.1) && (backToKw cpos (keywordEach [] X.env)).all (fun x => x.1.isSome) && decide ([b].length + ([] : List Keyword).length + (if ([] : List Keyword).isEmpty then 0 else 1) < 30)) = true := by rfl)
    (hline : (apos.endLine == cpos.line) = true := by rfl) (hs : starEach [b] X.env = (false, eval b X.env) :: starEach [] X.env := by rfl) (hplain : (backTo cpos (starEach [] X.env)).any (·.1) = false := by rfl) :
    SE X CA XE (.Call (.Attribute a "pop" apos) [b] [] cpos) (ePopAt f g) :=
  PE_weak (pe_bm PySem.F.plainAttrs_list PySem.F.slot_list_pop PySem.F.type_list_pop mt_popAt ha (pa_cons hb pa_nil hs) hbase hfew hline hs hplain) fun σ H Q ⟨env, M, Ed, Qd, p, q, k⟩ => ⟨env, M, Ed, _, p, q, fun d1 M1 v1 H1 q1 r1 R1 T1 => by
    obtain ⟨l, xs, vs, e1, e2, _, h1, _, q1⟩ := lstAt_of (c := cn X CA) r1 R1 q1
    subst e1 e2
    refine ⟨.inl ⟨rfl, _, SqL.of h1⟩, env, M1, Ed, _, p.to T1 R1, q1, fun d2 M2 v2 H2 q2 r2 R2 T2 => ?_⟩
    obtain ⟨l', ys, ws, e3, e4, hM, h2, rr, q2⟩ := lstAt_of (c := cn X CA) (.ref l) R2 q2
    cases e3
    unfold popAtD at q2
    split at q2
    · cases r2
      obtain ⟨z1, z2, q2⟩ := q2
      split at q2
      · rename_i j hj
        split at q2
        · rename_i d hd
          obtain ⟨v, ev, rv⟩ := rr.get hd
          obtain ⟨x, y⟩ := wr_lst R2 hM h2 (Reps.erase rr j)
          exact ⟨l, ws, _, j, v, rfl, rfl, h2, z1, z2, by rw [rr.length]; exact hj, ev, k _ _ _ _ q2 (rv.m y) x (T1.trans (T2.trans y))⟩
        · exact q2.elim
      · exact q2.elim
    · exact q2.elim⟩
end
end DL

set_option Elab.async false
set_option linter.all false
set_option maxRecDepth 100000
set_option maxHeartbeats 4000000
/-! DZ: zip of a tuple with a list or a tuple (the hand layer's zips, turned) -/
namespace RZ
open PySem PySem.Spec PyProof.Rows L2
open PySem.Sem (wp)
section
variable {prog : Program} {w : World} {A : Around} {E : Value → Shared → Prop} {s : Shared}
theorem zipU_next_item {z TI TO i1 i2 l1 l2 : Addr} {k1 k2 : Nat} {xs ys : Array Value} {x y a b : Value} {Q : Value → Shared → Prop} (D : ZipApart z TI TO i1 i2 l1 l2)
    (hz : IsZip s.heap z TI TO .none) (hTI : IsPair s.heap TI (.ref i1) (.ref i2)) (hTO : IsPair s.heap TO a b)
    (h1 : s.heap.IsTupleIter i1 l1 k1) (h2 : s.heap.IsListIter i2 l2 k2) (hl1 : s.heap.IsTuple l1 xs) (hl2 : s.heap.IsList l2 ys) (hx : xs[k1]? = some x) (hy : ys[k2]? = some y)
    (hQ : ∀ h', IsZip h' z TI TO (rawInt s.heap.objs.size) → IsPair h' TO x y → h'.IsTupleIter i1 l1 (k1 + 1) → h'.IsListIter i2 l2 (k2 + 1) → IsPair h' s.heap.objs.size x y → h'.objs.size = s.heap.objs.size + 1 →
      (∀ c o, c ≠ z → c ≠ TO → c ≠ i1 → c ≠ i2 → s.heap.get? c = some o → h'.get? c = some o) → Q (.ref s.heap.objs.size) { s with heap := h' }) :
    wpAny (model prog w) A (Builtin.«zip.__next__» ⟨[.ref z], []⟩) (fun fin s' => ∃ v, fin = .done (.ret v) ∧ Q v s') E s := by
  show wpAny _ _ (field (.ref z) 2 >>= _) _ _ _
  refine wpAny_bind (wpAny_field hz rfl (x := .bool false) rfl ?_)
  show wpAny _ _ (field (.ref z) 3 >>= _) _ _ _
  refine wpAny_bind (wpAny_field hz rfl (x := .ref TI) rfl ?_)
  refine wpAny_bind (wpAny_seqItems hTI rfl ?_)
  show wpAny _ _ (Builtin.SmallTypes.ownedTupleIsFree (.ref z) >>= _) _ _ _
  refine wpAny_bind ?_
  unfold Builtin.SmallTypes.ownedTupleIsFree
  refine wpAny_bind (wpAny_field hz rfl (x := .none) rfl (wpAny_pure ?_))
  simp only [if_true]
  refine wpAny_bind (wpAny_rule ?_)
  refine wpAny_bind (wpAny_field hz rfl (x := .ref TO) rfl ?_)
  refine wpAny_bind (wpAny_setField_rec hz (by simp) fun h₁ hz₁ hs₁ => ?_)
  replace hz₁ : IsZip h₁ z TI TO .ellipsis := hz₁
  refine wpAny_bind ?_
  simp only [List.zipIdx_cons, List.zipIdx_nil, List.forIn_cons, List.forIn_nil]

  refine wpAny_bind (wpAny_bind (wpAny_onRaise ?_))
  show wpAny _ _ (Builtin.SmallTypes.nextOf (.ref i1) >>= _) _ _ _
  refine wpAny_bind (nextOf_tuple_item (h1.extBut hs₁.extBut D.i1z) (hl1.extBut hs₁.extBut D.l1z) hx fun h₂ h1₂ hs₂ => wpAny_pure ?_)
  have hTO₂ : IsPair h₂ TO a b := hs₂.extBut _ _ D.TOi1 (hs₁.extBut _ _ D.TOz hTO)
  refine wpAny_bind (wpAny_seqItems hTO₂ rfl ?_)
  refine wpAny_bind (wpAny_updateSeq_pair hTO₂ fun h₃ hTO₃ hs₃ => ?_)
  replace hTO₃ : IsPair h₃ TO x b := hTO₃
  refine wpAny_bind (wpAny_letGo (wpAny_pure ?_))

  refine wpAny_bind (wpAny_bind (wpAny_onRaise ?_))
  show wpAny _ _ (Builtin.SmallTypes.nextOf (.ref i2) >>= _) _ _ _
  refine wpAny_bind (wpAny_nextOf_list_item (((h2.extBut hs₁.extBut D.i2z).extBut hs₂.extBut D.i12.symm).extBut hs₃.extBut D.TOi2.symm)
    (((hl2.extBut hs₁.extBut D.l2z).extBut hs₂.extBut D.l2i1).extBut hs₃.extBut D.l2TO) hy fun h₄ h2₄ hs₄ => wpAny_pure ?_)
  have hTO₄ : IsPair h₄ TO x b := hs₄.extBut _ _ D.TOi2 hTO₃
  refine wpAny_bind (wpAny_seqItems hTO₄ rfl ?_)
  refine wpAny_bind (wpAny_updateSeq_pair hTO₄ fun h₅ hTO₅ hs₅ => ?_)
  replace hTO₅ : IsPair h₅ TO x y := hTO₅
  refine wpAny_bind (wpAny_letGo (wpAny_pure (wpAny_pure ?_)))

  refine wpAny_bind (wpAny_seqItems hTO₅ rfl ?_)
  refine wpAny_bind (wpAny_newTuple ?_)
  have hsz : h₅.objs.size = s.heap.objs.size := by rw [hs₅.1, hs₄.1, hs₃.1, hs₂.1, hs₁.1]
  have hz₅ : IsZip h₅ z TI TO .ellipsis := hs₅.extBut _ _ D.TOz.symm (hs₄.extBut _ _ D.i2z.symm (hs₃.extBut _ _ D.TOz.symm (hs₂.extBut _ _ D.i1z.symm hz₁)))
  have hk₅ : ∀ c o, c ≠ z → c ≠ TO → c ≠ i1 → c ≠ i2 → s.heap.get? c = some o → h₅.get? c = some o := fun c o c1 c2 c3 c4 e =>
    hs₅.extBut _ _ c2 (hs₄.extBut _ _ c4 (hs₃.extBut _ _ c2 (hs₂.extBut _ _ c3 (hs₁.extBut _ _ c1 e))))
  have h1₅ : h₅.IsTupleIter i1 l1 (k1 + 1) := ((h1₂.extBut hs₃.extBut D.TOi1.symm).extBut hs₄.extBut D.i12).extBut hs₅.extBut D.TOi1.symm
  have h2₅ : h₅.IsListIter i2 l2 (k2 + 1) := h2₄.extBut hs₅.extBut D.TOi2.symm
  have hzlt : z < h₅.objs.size := Heap.lt_size hz₅
  have hTOlt : TO < h₅.objs.size := Heap.lt_size hTO₅
  have hi1lt : i1 < h₅.objs.size := by obtain ⟨_, e, _⟩ := h1₅; exact Heap.lt_size e
  have hi2lt : i2 < h₅.objs.size := by obtain ⟨_, e, _⟩ := h2₅; exact Heap.lt_size e
  show wpAny _ _ (Builtin.SmallTypes.ownedTupleHandOut (.ref z) (.ref h₅.objs.size) >>= _) _ _ _
  refine wpAny_bind ?_
  unfold Builtin.SmallTypes.ownedTupleHandOut
  have hz₆ : IsZip (h₅.push { cls := .type "tuple", data := .seq #[x, y] }) z TI TO .ellipsis := Heap.get?_push_of_some _ hz₅
  refine wpAny_bind (wpAny_setField_rec hz₆ (by simp) fun h₇ hz₇ hs₇ => ?_)
  replace hz₇ : IsZip h₇ z TI TO (rawInt h₅.objs.size) := hz₇
  refine wpAny_setField_rec hz₇ (by simp) fun h₈ hz₈ hs₈ => ?_
  replace hz₈ : IsZip h₈ z TI TO (rawInt h₅.objs.size) := hz₈
  have up : ∀ c o, c ≠ z → h₅.get? c = some o → h₈.get? c = some o := fun c o c1 e => hs₈.extBut _ _ c1 (hs₇.extBut _ _ c1 (Heap.get?_push_of_some _ e))
  have hT₈ : IsPair h₈ h₅.objs.size x y := hs₈.extBut _ _ (Nat.ne_of_gt hzlt) (hs₇.extBut _ _ (Nat.ne_of_gt hzlt) (Heap.get?_push_size _ rfl))
  have hz8 : h₈.objs.size = h₅.objs.size + 1 := by rw [hs₈.1, hs₇.1, Heap.size_push]
  rw [hsz] at hz₈ hT₈ hz8
  refine wpAny_pure ⟨_, rfl, ?_⟩
  show Q (.ref h₅.objs.size) _
  rw [hsz]
  exact hQ h₈ hz₈ (up _ _ D.TOz hTO₅) (h1₅.at fun o e => up _ o D.i1z e) (h2₅.at fun o e => up _ o D.i2z e) hT₈ hz8 fun c o c1 c2 c3 c4 e => up c o c1 (hk₅ c o c1 c2 c3 c4 e)

theorem zipU_next_end {z TI TO i1 i2 l1 l2 : Addr} {k1 k2 : Nat} {xs ys : Array Value} {a b : Value} {Q : Fin → Shared → Prop} (hh : A.handled = none) (D : ZipApart z TI TO i1 i2 l1 l2)
    (hz : IsZip s.heap z TI TO .none) (hTI : IsPair s.heap TI (.ref i1) (.ref i2)) (hTO : IsPair s.heap TO a b)
    (h1 : s.heap.IsTupleIter i1 l1 k1) (h2 : s.heap.IsListIter i2 l2 k2) (hl1 : s.heap.IsTuple l1 xs) (hl2 : s.heap.IsList l2 ys) (hend : xs[k1]? = none ∨ ys[k2]? = none)
    (hE : ∀ h' e, (∀ c o, c ≠ z → c ≠ TO → c ≠ i1 → c ≠ i2 → s.heap.get? c = some o → h'.get? c = some o) → (∃ o, h'.get? e = some o ∧ o.cls = .type "StopIteration") → E (.ref e) { s with heap := h' }) :
    wpAny (model prog w) A (Builtin.«zip.__next__» ⟨[.ref z], []⟩) Q E s := by
  show wpAny _ _ (field (.ref z) 2 >>= _) _ _ _
  refine wpAny_bind (wpAny_field hz rfl (x := .bool false) rfl ?_)
  show wpAny _ _ (field (.ref z) 3 >>= _) _ _ _
  refine wpAny_bind (wpAny_field hz rfl (x := .ref TI) rfl ?_)
  refine wpAny_bind (wpAny_seqItems hTI rfl ?_)
  show wpAny _ _ (Builtin.SmallTypes.ownedTupleIsFree (.ref z) >>= _) _ _ _
  refine wpAny_bind ?_
  unfold Builtin.SmallTypes.ownedTupleIsFree
  refine wpAny_bind (wpAny_field hz rfl (x := .none) rfl (wpAny_pure ?_))
  simp only [if_true]
  refine wpAny_bind (wpAny_rule ?_)
  refine wpAny_bind (wpAny_field hz rfl (x := .ref TO) rfl ?_)
  refine wpAny_bind (wpAny_setField_rec hz (by simp) fun h₁ hz₁ hs₁ => ?_)
  replace hz₁ : IsZip h₁ z TI TO .ellipsis := hz₁
  refine wpAny_bind ?_
  simp only [List.zipIdx_cons, List.zipIdx_nil, List.forIn_cons, List.forIn_nil]
  refine wpAny_bind (wpAny_bind (wpAny_onRaise ?_))
  show wpAny _ _ (Builtin.SmallTypes.nextOf (.ref i1) >>= _) _ _ _
  cases hx : xs[k1]? with
  | none =>
    refine wpAny_bind (nextOf_tuple_end hh (h1.extBut hs₁.extBut D.i1z) (hl1.extBut hs₁.extBut D.l1z) hx fun h₂ e hs₂ he => ?_)
    obtain ⟨oe, hoe, hce⟩ := he
    have hz₂ : IsZip h₂ z TI TO .ellipsis := hs₂ _ _ D.i1z.symm hz₁
    have hez : e ≠ z := fun x => by subst x; rw [hz₂] at hoe; cases hoe; simp at hce
    refine wpAny_setField_rec hz₂ (by simp) fun h₃ _ hs₃ => hE h₃ e (fun c o c1 _ c3 _ x => hs₃.extBut _ _ c1 (hs₂ _ _ c3 (hs₁.extBut _ _ c1 x))) ⟨oe, hs₃.extBut _ _ hez hoe, hce⟩
  | some x =>
    have hy : ys[k2]? = none := by rcases hend with h | h; rw [hx] at h; cases h; exact h
    refine wpAny_bind (nextOf_tuple_item (h1.extBut hs₁.extBut D.i1z) (hl1.extBut hs₁.extBut D.l1z) hx fun h₂ h1₂ hs₂ => wpAny_pure ?_)
    have hTO₂ : IsPair h₂ TO a b := hs₂.extBut _ _ D.TOi1 (hs₁.extBut _ _ D.TOz hTO)
    refine wpAny_bind (wpAny_seqItems hTO₂ rfl ?_)
    refine wpAny_bind (wpAny_updateSeq_pair hTO₂ fun h₃ hTO₃ hs₃ => ?_)
    refine wpAny_bind (wpAny_letGo (wpAny_pure ?_))
    refine wpAny_bind (wpAny_bind (wpAny_onRaise ?_))
    show wpAny _ _ (Builtin.SmallTypes.nextOf (.ref i2) >>= _) _ _ _
    refine wpAny_bind (wpAny_nextOf_list_end hh (((h2.extBut hs₁.extBut D.i2z).extBut hs₂.extBut D.i12.symm).extBut hs₃.extBut D.TOi2.symm)
      (((hl2.extBut hs₁.extBut D.l2z).extBut hs₂.extBut D.l2i1).extBut hs₃.extBut D.l2TO) hy fun h₄ e hs₄ he => ?_)
    obtain ⟨oe, hoe, hce⟩ := he
    have hz₄ : IsZip h₄ z TI TO .ellipsis := hs₄ _ _ D.i2z.symm (hs₃.extBut _ _ D.TOz.symm (hs₂.extBut _ _ D.i1z.symm hz₁))
    have hez : e ≠ z := fun x => by subst x; rw [hz₄] at hoe; cases hoe; simp at hce
    refine wpAny_setField_rec hz₄ (by simp) fun h₅ _ hs₅ => hE h₅ e (fun c o c1 c2 c3 c4 x => hs₅.extBut _ _ c1 (hs₄ _ _ c4 (hs₃.extBut _ _ c2 (hs₂.extBut _ _ c3 (hs₁.extBut _ _ c1 x))))) ⟨oe, hs₅.extBut _ _ hez hoe, hce⟩

theorem pyNext_zipU_item {z TI TO i1 i2 l1 l2 : Addr} {k1 k2 : Nat} {xs ys : Array Value} {x y a b : Value} {Q : Option Value → Shared → Prop} (D : ZipApart z TI TO i1 i2 l1 l2)
    (hz : IsZip s.heap z TI TO .none) (hTI : IsPair s.heap TI (.ref i1) (.ref i2)) (hTO : IsPair s.heap TO a b)
    (h1 : s.heap.IsTupleIter i1 l1 k1) (h2 : s.heap.IsListIter i2 l2 k2) (hl1 : s.heap.IsTuple l1 xs) (hl2 : s.heap.IsList l2 ys) (hx : xs[k1]? = some x) (hy : ys[k2]? = some y)
    (hQ : ∀ h', IsZip h' z TI TO (rawInt s.heap.objs.size) → IsPair h' TO x y → h'.IsTupleIter i1 l1 (k1 + 1) → h'.IsListIter i2 l2 (k2 + 1) → IsPair h' s.heap.objs.size x y → h'.objs.size = s.heap.objs.size + 1 →
      (∀ c o, c ≠ z → c ≠ TO → c ≠ i1 → c ≠ i2 → s.heap.get? c = some o → h'.get? c = some o) → Q (some (.ref s.heap.objs.size)) { s with heap := h' }) :
    wpAny (model prog w) A (pyNext (.ref z)) Q E s := by
  have hT : s.TypeIs (.ref z) "zip" := ⟨_, hz, rfl⟩
  unfold pyNext
  exact wpAny_bind (wpAny_attempt (wpAny_callSpecial?_slot (name := Str.ofString "__next__") hT F.slot_zip_next
    (wpAny_call_entry F.slot_zip_next hT F.entry_zip_next
      (zipU_next_item D hz hTI hTO h1 h2 hl1 hl2 hx hy fun h' a1 a2 a3 a4 a5 a6 a7 => wpAny_pure (hQ h' a1 a2 a3 a4 a5 a6 a7)) (F.args_zip_next_1 _))))

theorem pyNext_zipU_end {z TI TO i1 i2 l1 l2 : Addr} {k1 k2 : Nat} {xs ys : Array Value} {a b : Value} {Q : Option Value → Shared → Prop} (hh : A.handled = none) (D : ZipApart z TI TO i1 i2 l1 l2)
    (hz : IsZip s.heap z TI TO .none) (hTI : IsPair s.heap TI (.ref i1) (.ref i2)) (hTO : IsPair s.heap TO a b)
    (h1 : s.heap.IsTupleIter i1 l1 k1) (h2 : s.heap.IsListIter i2 l2 k2) (hl1 : s.heap.IsTuple l1 xs) (hl2 : s.heap.IsList l2 ys) (hend : xs[k1]? = none ∨ ys[k2]? = none)
    (hQ : ∀ h', (∀ c o, c ≠ z → c ≠ TO → c ≠ i1 → c ≠ i2 → s.heap.get? c = some o → h'.get? c = some o) → Q none { s with heap := h' }) : wpAny (model prog w) A (pyNext (.ref z)) Q E s := by
  have hT : s.TypeIs (.ref z) "zip" := ⟨_, hz, rfl⟩
  unfold pyNext
  refine wpAny_bind (wpAny_attempt (wpAny_callSpecial?_slot (name := Str.ofString "__next__") hT F.slot_zip_next
    (wpAny_call_entry F.slot_zip_next hT F.entry_zip_next (zipU_next_end hh D hz hTI hTO h1 h2 hl1 hl2 hend fun h' e hk he => ?_) (F.args_zip_next_1 _))))
  obtain ⟨o, ho, hc⟩ := he
  refine wpAny_bind (wpAny_isInstance (T := "StopIteration") (b := true) ⟨o, ho, hc⟩ isSubtype_stop ?_)
  exact wpAny_pure (hQ _ hk)
end

abbrev zipUH1 (h : Heap) (l1 : Addr) : Heap := h.push { cls := .type "tuple_iterator", data := .fields #[.ref l1, .int 0 0] }
abbrev zipUH2 (h : Heap) (l1 l2 : Addr) : Heap := (zipUH1 h l1).push { cls := .type "list_iterator", data := .fields #[.ref l2, .int 0 0] }
abbrev zipUH3 (h : Heap) (l1 l2 : Addr) : Heap := (zipUH2 h l1 l2).push { cls := .type "tuple", data := .seq #[.ref h.objs.size, .ref (zipUH1 h l1).objs.size] }
abbrev zipUH4 (h : Heap) (l1 l2 : Addr) : Heap := (zipUH3 h l1 l2).push { cls := .type "tuple", data := .seq #[.none, .none] }
abbrev zipUH5 (h : Heap) (l1 l2 : Addr) : Heap := (zipUH4 h l1 l2).push { cls := .type "zip", data := .fields #[.none, .bool false, .bool false, .ref (zipUH2 h l1 l2).objs.size, .ref (zipUH3 h l1 l2).objs.size] }

theorem meets_zipU_new (l1 l2 : Addr) (xs ys : Array Value) :
    Meets (Builtin.«zip.__new__» ⟨[.type "zip", .ref l1, .ref l2], []⟩) (fun _ R s => s.heap.IsTuple l1 xs ∧ s.heap.IsList l2 ys ∧
      R (.ok (.ret (.ref (zipUH4 s.heap l1 l2).objs.size))) { s with heap := zipUH5 s.heap l1 l2 }) :=
  .of_wp fun prog w A R s h => by
    obtain ⟨hp, g, d, tk, os⟩ := s; obtain ⟨hl1, hl2, h⟩ := h
    have hsub := sub_zip
    have hL1 : Heap.IsTuple (Shared.heap ⟨hp, g, d, tk, os⟩) l1 xs := hl1
    have hL2 : Heap.IsList (Shared.heap ⟨hp.push { cls := .type "tuple_iterator", data := .fields #[.ref l1, .int 0 0] }, g, d, tk, os⟩) l2 ys := Heap.IsList.push hl2 _
    wp_walk using wpAny_pyIter_tuple hL1, wpAny_pyIter_list hL2
    exact ⟨_, rfl, h⟩

section
variable {prog : Program} {w : World} {A : Around} {E : Value → Shared → Prop} {s : Shared}

theorem call_zipU {l1 l2 : Addr} {xs ys : Array Value} {Q : Value → Shared → Prop} (hl1 : s.heap.IsTuple l1 xs) (hl2 : s.heap.IsList l2 ys)
    (h : ∀ h', IsZip h' (s.heap.objs.size + 4) (s.heap.objs.size + 2) (s.heap.objs.size + 3) .none → IsPair h' (s.heap.objs.size + 2) (.ref s.heap.objs.size) (.ref (s.heap.objs.size + 1)) →
      IsPair h' (s.heap.objs.size + 3) .none .none → h'.IsTupleIter s.heap.objs.size l1 0 → h'.IsListIter (s.heap.objs.size + 1) l2 0 → h'.objs.size = s.heap.objs.size + 5 →
      (∀ c o, s.heap.get? c = some o → h'.get? c = some o) → Q (.ref (s.heap.objs.size + 4)) { s with heap := h' }) :
    wpAny (model prog w) A (call (.type "zip") [.ref l1, .ref l2]) Q E s := by
  refine callType_new F.called_zip (by decide) (F.typeCall_zip_2 _ _) (F.newCall_zip_2 _ _) (fun obj => F.args_object_init_3 obj _ _) F.entry_zip_new
    (meets_zipU_new l1 l2 xs ys) ⟨hl1, hl2, ?_⟩
  have z1 : (zipUH1 s.heap l1).objs.size = s.heap.objs.size + 1 := Heap.size_push ..
  have z2 : (zipUH2 s.heap l1 l2).objs.size = s.heap.objs.size + 2 := by rw [Heap.size_push, z1]
  have z3 : (zipUH3 s.heap l1 l2).objs.size = s.heap.objs.size + 3 := by rw [Heap.size_push, z2]
  have z4 : (zipUH4 s.heap l1 l2).objs.size = s.heap.objs.size + 4 := by rw [Heap.size_push, z3]
  have z5 : (zipUH5 s.heap l1 l2).objs.size = s.heap.objs.size + 5 := by rw [Heap.size_push, z4]
  have g5 : (zipUH5 s.heap l1 l2).get? (zipUH4 s.heap l1 l2).objs.size = some _ := Heap.get?_push_size _ rfl
  have g4 : (zipUH5 s.heap l1 l2).get? (zipUH3 s.heap l1 l2).objs.size = some _ := Heap.get?_push_of_some _ (Heap.get?_push_size _ rfl)
  have g3 : (zipUH5 s.heap l1 l2).get? (zipUH2 s.heap l1 l2).objs.size = some _ := Heap.get?_push_of_some _ (Heap.get?_push_of_some _ (Heap.get?_push_size _ rfl))
  have g2 : (zipUH5 s.heap l1 l2).get? (zipUH1 s.heap l1).objs.size = some _ := Heap.get?_push_of_some _ (Heap.get?_push_of_some _ (Heap.get?_push_of_some _ (Heap.get?_push_size _ rfl)))
  have g1 : (zipUH5 s.heap l1 l2).get? s.heap.objs.size = some _ := Heap.get?_push_of_some _ (Heap.get?_push_of_some _ (Heap.get?_push_of_some _ (Heap.get?_push_of_some _ (Heap.get?_push_size _ rfl))))
  show _ ∧ _
  rw [z2, z3, z4] at g5
  rw [z1, z2] at g3
  rw [z3] at g4
  rw [z1] at g2
  rw [z4]
  exact ⟨⟨_, g5, rfl⟩, h _ g5 g3 g4 ⟨_, g1, rfl, rfl⟩ ⟨_, g2, rfl, rfl⟩ z5 fun c o x =>
    Heap.get?_push_of_some _ (Heap.get?_push_of_some _ (Heap.get?_push_of_some _ (Heap.get?_push_of_some _ (Heap.get?_push_of_some _ x))))⟩
end
/-- the tuples at a and b as they stand at each turn, the items in new pairs -/
def ItzU (K : PySem.W.Frag) (a b : Addr) : It :=
  ⟨fun i H => ∃ (xs ys : List V) (x y : V), SqT K H a xs ∧ SqL K H b ys ∧ xs[i]? = some x ∧ ys[i]? = some y,
    fun i H v H' => ∃ T x y, v = .ref T ∧ H T = none ∧ H' = upd H T (.tup [x, y]) ∧ (∀ xs, SqT K H a xs → xs[i]? = some x) ∧ ∀ ys, SqL K H b ys → ys[i]? = some y,
    fun i H => ∃ xs ys : List V, SqT K H a xs ∧ SqL K H b ys ∧ (xs.length ≤ i ∨ ys.length ≤ i)⟩
theorem turn_zipU {P : Program} {w : World} {K : PySem.W.Frag} {elts : List Expr} {kk : Nat} {tpos : Pos} {a b z TI TO i1 i2 : Addr} (D : ZipApart z TI TO i1 i2 a b) :
    Turn P w K (.Tuple elts kk tpos) (ItzU K a b) [z, TI, TO, i1, i2] z (fun i h => IsZip h z TI TO .none ∧ IsPair h TI (.ref i1) (.ref i2) ∧ (∃ x y, IsPair h TO x y) ∧ h.IsTupleIter i1 a i ∧ h.IsListIter i2 b i) where
  mem := by simp
  obj := fun i h st c hc => by
    obtain ⟨hz, hTI, ⟨x, y, hTO⟩, ⟨o1, e1, _, d1⟩, ⟨o2, e2, _, d2⟩⟩ := st
    have e' : c = z ∨ c = TI ∨ c = TO ∨ c = i1 ∨ c = i2 := by simpa using hc
    rcases e' with q | q | q | q | q
    · rw [q]; exact ⟨_, hz, fun v q => nomatch q⟩
    · rw [q]; exact ⟨_, hTI, fun v q => nomatch q⟩
    · rw [q]; exact ⟨_, hTO, fun v q => nomatch q⟩
    · rw [q]; exact ⟨o1, e1, fun v q => by rw [d1] at q; cases q⟩
    · rw [q]; exact ⟨o2, e2, fun v q => by rw [d2] at q; cases q⟩
  keep := fun i h h' st k => by
    obtain ⟨hz, hTI, ⟨x, y, hTO⟩, h1, h2⟩ := st
    exact ⟨k z (by simp) _ hz, k TI (by simp) _ hTI, ⟨x, y, k TO (by simp) _ hTO⟩, h1.at fun o q => k i1 (by simp) o q, h2.at fun o q => k i2 (by simp) o q⟩
  item := by
    intro X hP hw hK hc i pins s σ H E I hf st hg
    subst hP hw hK
    obtain ⟨hz, hTI, ⟨x0, y0, hTO⟩, h1, h2⟩ := st
    obtain ⟨xs, ys, x, y, hqx, hqy, hx, hy⟩ := hg
    obtain ⟨its, rv, p, _⟩ := I.tuple hqx
    obtain ⟨its2, rv2, p2, _⟩ := I.list hqy
    obtain ⟨u, hu, ru⟩ := rv.get hx
    obtain ⟨u2, hu2, ru2⟩ := rv2.get hy
    have hzl : z < s.heap.objs.size := Heap.lt_size hz
    refine pyNext_zipU_item D hz hTI hTO h1 h2 p p2.isList (x := u) (y := u2) (by simpa using hu) (by simpa using hu2) fun h' z' TO' h1' h2' hT hsz hk => ?_
    refine ⟨_, rfl, wpAny_letOwnedTupleGo_zip (s := { s with heap := h' }) z' fun h'' z'' sb => ?_⟩
    have hT2 : h''.get? s.heap.objs.size = some { cls := .type "tuple", data := .seq #[u, u2] } := (sb.2 _ (Nat.ne_of_gt hzl)).trans hT
    have new : ObjOk X.prog X.w (upd H s.heap.objs.size (.tup [x, y])) h'' s.heap.objs.size (.tup [x, y]) :=
      ⟨by show 2 ≤ sizeLine; decide, [u, u2], .cons ru (.cons ru2 .nil), ⟨_, hT2, rfl, _, rfl⟩⟩
    have I1 : Inv X pins σ (upd H s.heap.objs.size (.tup [x, y])) { s with heap := h'' } :=
      I.turnedNew (t' := s.toks) (ch := [z, TI, TO, i1, i2]) (fun c o hb q => (sb.2 c (fun q' => hb (by simp [q']))).trans (hk c o (fun q' => hb (by simp [q'])) (fun q' => hb (by simp [q'])) (fun q' => hb (by simp [q'])) (fun q' => hb (by simp [q'])) q)) hf (Nat.le_refl _) new
    refine ⟨.ref s.heap.objs.size, _, I1, rfl, ⟨_, x, y, rfl, I.hok.fresh (Nat.le_refl _), rfl, fun l hl => by rw [I.tuple_inj hl hqx]; exact hx, fun l hl => by rw [I.list_inj hl hqy]; exact hy⟩, ⟨z'', ?_, ⟨u, u2, ?_⟩, ?_, ?_⟩, fun c hcm => ?_⟩
    · exact (sb.2 _ D.TIz).trans (hk _ _ D.TIz D.TITO D.TIi1 D.TIi2 hTI)
    · exact (sb.2 _ D.TOz).trans TO'
    · exact h1'.at fun o q => (sb.2 _ D.i1z).trans q
    · exact h2'.at fun o q => (sb.2 _ D.i2z).trans q
    · have hlt : c < s.heap.objs.size := by
        have e' : c = z ∨ c = TI ∨ c = TO ∨ c = i1 ∨ c = i2 := by simpa using hcm
        rcases e' with q | q | q | q | q
        · rw [q]; exact hzl
        · rw [q]; exact Heap.lt_size hTI
        · rw [q]; exact Heap.lt_size hTO
        · rw [q]; obtain ⟨_, e1, _⟩ := h1; exact Heap.lt_size e1
        · rw [q]; obtain ⟨_, e2, _⟩ := h2; exact Heap.lt_size e2
      rw [upd_ne (Nat.ne_of_lt hlt)]
      exact (hf c hcm).1
  done := by
    intro X hP hw hK hc i pins s σ H E I hf st hg
    subst hP hw hK
    obtain ⟨hz, hTI, ⟨x0, y0, hTO⟩, h1, h2⟩ := st
    obtain ⟨xs, ys, hqx, hqy, hend⟩ := hg
    obtain ⟨its, rv, p, _⟩ := I.tuple hqx
    obtain ⟨its2, rv2, p2, _⟩ := I.list hqy
    have l1 := rv.length
    have l2 := rv2.length
    have he : its.toArray[i]? = none ∨ its2.toArray[i]? = none := by
      rcases hend with q | q
      · exact .inl (by simp; omega)
      · exact .inr (by simp; omega)
    exact pyNext_zipU_end (I.ok.hd hc) D hz hTI hTO h1 h2 p p2.isList he fun h' hk => ⟨rfl, I.turnedL (t' := s.toks) (ch := [z, TI, TO, i1, i2]) (fun c o hb q =>
      hk c o (fun q' => hb (by simp [q'])) (fun q' => hb (by simp [q'])) (fun q' => hb (by simp [q'])) (fun q' => hb (by simp [q'])) q) hf⟩
  self := fun A i s Q E st h => wpAny_pyIter_zip st.1 h

def iZipU (K : PySem.W.Frag) (ta : TA) : TI := fun σ H R => ta σ H fun vs H1 => ∃ a b xs ys, vs = [.ref a, .ref b] ∧ SqT K H1 a xs ∧ SqL K H1 b ys ∧ R (ItzU K a b) H1
theorem pi_zipU {X : Cx} {e e2 : Expr} {ta : TA} {p pos tpos : Pos} {elts : List Expr} {kk : Nat} (hg : Gl X "zip") (hm : X.mg "zip" = none) (ha : PA X [e, e2] ta)
    (hs : starEach [e, e2] X.env = (false, eval e X.env) :: starEach [e2] X.env := by rfl) (hpl : (backTo pos (starEach [e2] X.env)).any (·.1) = false := by rfl) :
    PI X (.Tuple elts kk tpos) (.Call (.Name "zip" p) [e, e2] [] pos) (iZipU X.K ta) := by
  refine ⟨fun pins s σ H R I h => ?_⟩
  refine Call_ (ld_blt I hg hm PyProof.Rows.boot_zip (PyProof.Rows.callWith_type1 (thn (ha.run pos pins s σ H _ I h) fun us s1 ⟨vs, H1, I1, r1, q1⟩ => ?_) hs hpl))
  obtain ⟨a, b, xs, ys, ex, hqx, hqy, q⟩ := q1
  subst ex
  cases r1 with
  | cons r rr =>
    cases rr with
    | cons r' rr =>
      cases rr
      cases r
      cases r'
      have fresh5 : ∀ c, c ∈ [s1.heap.objs.size + 4, s1.heap.objs.size + 2, s1.heap.objs.size + 3, s1.heap.objs.size, s1.heap.objs.size + 1] → FpOk X pins H1 c := fun c hcm => by
        have e' : c = s1.heap.objs.size + 4 ∨ c = s1.heap.objs.size + 2 ∨ c = s1.heap.objs.size + 3 ∨ c = s1.heap.objs.size ∨ c = s1.heap.objs.size + 1 := by simpa using hcm
        have hle : s1.heap.objs.size ≤ c := by
          rcases e' with z | z | z | z | z
          · rw [z]; exact Nat.le_add_right _ _
          · rw [z]; exact Nat.le_add_right _ _
          · rw [z]; exact Nat.le_add_right _ _
          · rw [z]; exact Nat.le_refl _
          · rw [z]; exact Nat.le_add_right _ _
        exact I1.fpOk hle (I1.hok.fresh hle)
      obtain ⟨its, rv, p1, _⟩ := I1.tuple hqx
      obtain ⟨its2, rv2, p2, _⟩ := I1.list hqy
      obtain ⟨o1, ho1, _⟩ := id p1
      refine call_zipU (show s1.heap.IsTuple a its.toArray from p1) p2.isList fun h' hz hTI hTO h1 h2 hsz hk => wpAny_pyIter_zip hz ?_
      have I2 : Inv X pins σ H1 { s1 with heap := h' } := I1.kept (t' := s1.toks) hk
      exact ⟨s1.heap.objs.size + 4, [s1.heap.objs.size + 4, s1.heap.objs.size + 2, s1.heap.objs.size + 3, s1.heap.objs.size, s1.heap.objs.size + 1], _, _, H1, rfl, I2, turn_zipU (PySem.W.ktu_apart s1.heap.objs.size a b (Heap.lt_size ho1) p2.lt), ⟨hz, hTI, ⟨_, _, hTO⟩, h1, h2⟩, fresh5, q⟩
end RZ

namespace DL
open PySem PySem.Spec PyProof.Rows L2
/-- zip of a tuple with a list -/
def zipTD (x y : D) (M : Sto) (k : (Sto → Prop) → List D → Sto → Prop) : Prop := match x with
  | .tup xs => match y with
    | .ref b => match M b with
      | some (.lst ys) => k (fun M' => M' b = some (.lst ys)) (zipL xs ys) M
      | _ => False
    | _ => False
  | _ => False
def iZipT (f g : WE) : WI := fun E env M k => f E env M fun x M1 => g E env M1 fun y M2 => zipTD x y M2 k
@[simp] theorem iZipT_s {f g : WE} {E : XW} {env : Ev} {M : Sto} {k : (Sto → Prop) → List D → Sto → Prop} : iZipT f g E env M k = f E env M fun x M1 => g E env M1 fun y M2 => zipTD x y M2 k := id rfl
theorem zipTD_s {xs ys : List D} {b : Addr} {M : Sto} {k : (Sto → Prop) → List D → Sto → Prop} (h : M b = some (.lst ys)) (q : k (fun M' => M' b = some (.lst ys)) (zipL xs ys) M) : zipTD (.tup xs) (.ref b) M k := by
  unfold zipTD
  simp only [h]
  exact q
theorem itR_zipU {c : Cn} {H1 : Hp} {a b : Addr} {vs : List V} {xs ys : List D} (h0 : SqD c.K H1 a vs) (r0 : Reps c.K H1 vs xs) (h2 : ∃ vs, H1 b = some (.lst vs) ∧ Reps c.K H1 vs ys) :
    ItR c true H1 (RZ.ItzU c.K a b) (fun M => M b = some (.lst ys)) (zipL xs ys) where
  go := fun i H M T hR e h => by
    have r1 := r0.m T
    have e1 := (T.t _ _ h0).s
    obtain ⟨ws, e2, r2⟩ := hR _ _ e
    have hl : i < xs.length ∧ i < ys.length := by unfold zipL at h; rw [List.length_zipWith] at h; omega
    obtain ⟨v, ev, _⟩ := r1.get (i := i) (List.getElem?_eq_getElem hl.1)
    obtain ⟨w, ew, _⟩ := r2.get (i := i) (List.getElem?_eq_getElem hl.2)
    exact ⟨vs, ws, v, w, e1, SqL.of e2, ev, ew⟩
  stop := fun H M T hR e => by
    have r1 := r0.m T
    have e1 := (T.t _ _ h0).s
    obtain ⟨ws, e2, r2⟩ := hR _ _ e
    refine ⟨vs, ws, e1, SqL.of e2, ?_⟩
    rw [r1.length, r2.length]
    unfold zipL; rw [List.length_zipWith]; omega
  yld := fun i H x H' M T hR e h d hd => by
    have r1 := r0.m T
    have e1 := (T.t _ _ h0).s
    obtain ⟨ws, e2, r2⟩ := hR _ _ e
    obtain ⟨Tp, u, w, rfl, hn, rfl, hx, hy⟩ := h
    have hx := hx _ e1
    have hy := hy _ (SqL.of e2)
    obtain ⟨dx, h3, r3⟩ := r1.getV hx
    obtain ⟨dy, h4, r4⟩ := r2.getV hy
    have hd' : d = .tup [dx, dy] := by
      unfold zipL at hd
      rw [List.getElem?_zipWith, h3, h4] at hd
      exact (Option.some.inj hd).symm
    subst hd'
    have T2 : Tups c.K H (upd H Tp (.tup [u, w])) := Tups.new hn
    exact ⟨RepY.pair (.inl (.inl upd_same)) (.cons (r3.m T2) (.cons (r4.m T2) .nil)), hR.keep hn, T2⟩
theorem i_zipT {X : Cx} {CA : String → Addr} {XE : XK} {e e2 : Expr} {f g : WE} {p pos tpos : Pos} {elts : List Expr} {kk : Nat} (hm : X.mg "zip" = none) (ha : SE X CA XE e f) (hb : SE X CA XE e2 g) (hg : Gl X "zip" := by rfl)
    (hs : starEach [e, e2] X.env = (false, eval e X.env) :: starEach [e2] X.env := by rfl) (hs2 : starEach [e2] X.env = (false, eval e2 X.env) :: starEach [] X.env := by rfl) (hpl : (backTo pos (starEach [e2] X.env)).any (·.1) = false := by rfl) : SI true X CA XE (.Tuple elts kk tpos) (.Call (.Name "zip" p) [e, e2] [] pos) (iZipT f g) :=
  PI_weak (RZ.pi_zipU hg hm (pa_cons ha (pa_cons hb pa_nil hs2) hs) hs hpl) fun σ H Rk ⟨env, M, Ed, kd, p, q, k⟩ => ⟨env, M, Ed, _, p, q, fun d1 M1 v1 H1 q1 r1 R1 T1 => ⟨env, M1, Ed, _, p.to T1 R1, q1, fun d2 M2 v2 H2 q2 r2 R2 T2 => by
    have r1 := r1.m T2
    unfold zipTD at q2
    split at q2
    · split at q2
      · cases r1 with
        | tup s1 p1 =>
        cases r2
        split at q2
        · obtain ⟨ws, h2, p2⟩ := R2 _ _ (by assumption)
          exact ⟨_, _, _, ws, rfl, s1.s, SqL.of h2, k _ _ _ _ _ q2 R2 (T1.trans T2) (itR_zipU (c := cn X CA) s1 p1 ⟨ws, h2, p2⟩)⟩
        · exact q2.elim
      · exact q2.elim
    · exact q2.elim⟩⟩
/-- zip of two tuples -/
def zipTT (x y : D) (M : Sto) (k : (Sto → Prop) → List D → Sto → Prop) : Prop := match x with
  | .tup xs => match y with
    | .tup ys => k (fun _ => True) (zipL xs ys) M
    | _ => False
  | _ => False
def iZip2 (f g : WE) : WI := fun E env M k => f E env M fun x M1 => g E env M1 fun y M2 => zipTT x y M2 k
@[simp] theorem iZip2_s {f g : WE} {E : XW} {env : Ev} {M : Sto} {k : (Sto → Prop) → List D → Sto → Prop} : iZip2 f g E env M k = f E env M fun x M1 => g E env M1 fun y M2 => zipTT x y M2 k := id rfl
@[simp] theorem zipTT_s {xs ys : List D} {M : Sto} {k : (Sto → Prop) → List D → Sto → Prop} : zipTT (.tup xs) (.tup ys) M k = k (fun _ => True) (zipL xs ys) M := id rfl
theorem itR_zip2 {c : Cn} {H1 : Hp} {a b : Addr} {vs ws : List V} {xs ys : List D} (h0 : SqD c.K H1 a vs) (r0 : Reps c.K H1 vs xs) (h2 : SqD c.K H1 b ws) (r2 : Reps c.K H1 ws ys) :
    ItR c true H1 (RZ.ItzT c.K a b) (fun _ => True) (zipL xs ys) where
  go := fun i H M T hR e h => by
    have r1 := r0.m T
    have r2 := r2.m T
    have hl : i < xs.length ∧ i < ys.length := by unfold zipL at h; rw [List.length_zipWith] at h; omega
    obtain ⟨v, ev, _⟩ := r1.get (i := i) (List.getElem?_eq_getElem hl.1)
    obtain ⟨w, ew, _⟩ := r2.get (i := i) (List.getElem?_eq_getElem hl.2)
    exact ⟨vs, ws, v, w, (T.t _ _ h0).s, (T.t _ _ h2).s, ev, ew⟩
  stop := fun H M T hR e => by
    have r1 := r0.m T
    have r2 := r2.m T
    refine ⟨vs, ws, (T.t _ _ h0).s, (T.t _ _ h2).s, ?_⟩
    rw [r1.length, r2.length]
    unfold zipL; rw [List.length_zipWith]; omega
  yld := fun i H x H' M T hR e h d hd => by
    have r1 := r0.m T
    have r2 := r2.m T
    obtain ⟨Tp, u, w, rfl, hn, rfl, hx, hy⟩ := h
    have hx := hx _ (T.t _ _ h0).s
    have hy := hy _ (T.t _ _ h2).s
    obtain ⟨dx, h3, r3⟩ := r1.getV hx
    obtain ⟨dy, h4, r4⟩ := r2.getV hy
    have hd' : d = .tup [dx, dy] := by
      unfold zipL at hd
      rw [List.getElem?_zipWith, h3, h4] at hd
      exact (Option.some.inj hd).symm
    subst hd'
    have T2 : Tups c.K H (upd H Tp (.tup [u, w])) := Tups.new hn
    exact ⟨RepY.pair (.inl (.inl upd_same)) (.cons (r3.m T2) (.cons (r4.m T2) .nil)), hR.keep hn, T2⟩
theorem i_zip2 {X : Cx} {CA : String → Addr} {XE : XK} {e e2 : Expr} {f g : WE} {p pos tpos : Pos} {elts : List Expr} {kk : Nat} (hm : X.mg "zip" = none) (ha : SE X CA XE e f) (hb : SE X CA XE e2 g) (hg : Gl X "zip" := by rfl)
    (hs : starEach [e, e2] X.env = (false, eval e X.env) :: starEach [e2] X.env := by rfl) (hs2 : starEach [e2] X.env = (false, eval e2 X.env) :: starEach [] X.env := by rfl) (hpl : (backTo pos (starEach [e2] X.env)).any (·.1) = false := by rfl) : SI true X CA XE (.Tuple elts kk tpos) (.Call (.Name "zip" p) [e, e2] [] pos) (iZip2 f g) :=
  PI_weak (RZ.pi_zipA hg hm (pa_cons ha (pa_cons hb pa_nil hs2) hs) hs hpl) fun σ H Rk ⟨env, M, Ed, kd, p, q, k⟩ => ⟨env, M, Ed, _, p, q, fun d1 M1 v1 H1 q1 r1 R1 T1 => ⟨env, M1, Ed, _, p.to T1 R1, q1, fun d2 M2 v2 H2 q2 r2 R2 T2 => by
    have r1 := r1.m T2
    unfold zipTT at q2
    split at q2
    · split at q2
      · cases r1 with
        | tup s1 p1 =>
        cases r2 with
        | tup s2 p2 => exact ⟨_, _, _, _, rfl, .inr ⟨s1.s, s2.s, k _ _ _ _ _ q2 R2 (T1.trans T2) (itR_zip2 (c := cn X CA) s1 p1 s2 p2)⟩⟩
      · exact q2.elim
    · exact q2.elim⟩⟩
end DL

set_option Elab.async false
set_option linter.all false
set_option maxRecDepth 100000
set_option maxHeartbeats 4000000
/-! DB4: list.index -/
namespace DL
open PySem PySem.Spec PyProof.Rows L2
def idxD (y : D) (xs : List D) (k : Int → Prop) : Prop := flat y = true ∧ xs.all flat = true ∧ ∃ j : Nat, (∃ z, xs[j]? = some z ∧ eqF z y = true) ∧ (∀ (m : Nat) (z : D), m < j → xs[m]? = some z → eqF z y = false) ∧ k j
def eIndex (f g : WE) : WE := fun E env M Q => f E env M fun x M1 => lstAt x M1 fun _ _ => g E env M1 fun y M2 => lstAt x M2 fun _ xs => idxD y xs fun j => Q (.int j) M2
@[simp] theorem eIndex_s {f g : WE} {E : XW} {env : Ev} {M : Sto} {Q : KD} : eIndex f g E env M Q = f E env M fun x M1 => lstAt x M1 fun _ _ => g E env M1 fun y M2 => lstAt x M2 fun _ xs => idxD y xs fun j => Q (.int j) M2 := id rfl
theorem idx_not {s : Str} : ∀ {ls : List Str} {m : Nat} {t : Str}, m < ls.idxOf s → ls[m]? = some t → t ≠ s
  | [], _, _, _, h => by simp at h
  | a :: ls, 0, t, h, e => by
    intro et
    subst et
    cases e
    simp at h
  | a :: ls, m + 1, t, h, e => by
    rw [List.idxOf_cons] at h
    cases hb : (a == s) <;> rw [hb] at h <;> simp only [cond_true, cond_false] at h
    · exact idx_not (ls := ls) (m := m) (by omega) (by simpa using e)
    · omega
theorem idxD_strs {s : Str} {ls : List Str} {k : Int → Prop} (h : s ∈ ls) (q : k (ls.idxOf s : Nat)) : idxD (.str s) (ls.map .str) k := by
  refine ⟨rfl, by rw [List.all_eq_true]; intro z hz; obtain ⟨t, _, rfl⟩ := List.mem_map.mp hz; rfl, ls.idxOf s, ⟨.str s, ?_, by simp [eqF]⟩, fun m z hm hz => ?_, q⟩
  · rw [List.getElem?_map, List.getElem?_eq_getElem (List.idxOf_lt_length_of_mem h)]
    simp
  · rw [List.getElem?_map] at hz
    cases e : ls[m]? with
    | none => rw [e] at hz; cases hz
    | some t =>
      rw [e] at hz
      cases hz
      have hne : t ≠ s := idx_not hm e
      simp [eqF, hne]
section
variable {X : Cx} {CA : String → Addr} {XE : XK} {a b : Expr} {f g : WE} {apos cpos : Pos}
theorem d_index (ha : SE X CA XE a f) (hb : SE X CA XE b g) (hbase : attributeBase a "index" X.env (eval a X.env) = eval a X.env := by rfl)
    (hfew : ((backTo cpos (starEach [b] X.env)).all (fun x => !x.1) && (backToKw cpos (keywordEach [] X.env)).all (fun x => x.1.isSome) && decide ([b].length + ([] : List Keyword).length + (if ([] : List Keyword).isEmpty then 0 else 1) < 30)) = true := by rfl)
    (hline : (apos.endLine == cpos.line) = true := by rfl) (hs : starEach [b] X.env = (false, eval b X.env) :: starEach [] X.env := by rfl) (hplain : (backTo cpos (starEach [] X.env)).any (·.1) = false := by rfl) :
    SE X CA XE (.Call (.Attribute a "index" apos) [b] [] cpos) (eIndex f g) :=
  PE_weak (pe_bm PySem.F.plainAttrs_list PySem.F.slot_list_index PySem.F.type_list_index mt_index ha (pa_cons hb pa_nil hs) hbase hfew hline hs hplain) fun σ H Q ⟨env, M, Ed, Qd, p, q, k⟩ => ⟨env, M, Ed, _, p, q, fun d1 M1 v1 H1 q1 r1 R1 T1 => by
    obtain ⟨l, xs, vs, e1, e2, _, h1, _, q1⟩ := lstAt_of (c := cn X CA) r1 R1 q1
    subst e1 e2
    refine ⟨.inl ⟨rfl, _, SqL.of h1⟩, env, M1, Ed, _, p.to T1 R1, q1, fun d2 M2 v2 H2 q2 r2 R2 T2 => ?_⟩
    obtain ⟨l', ys, ws, e3, e4, hM, h2, rr, f1, f2, j, ⟨z, hz, hzj⟩, hno, q2⟩ := lstAt_of (c := cn X CA) (.ref l) R2 q2
    cases e3
    obtain ⟨v, ev, rv⟩ := rr.get hz
    refine ⟨l, ws, v2, j, v, rfl, rfl, SqL.of h2, r2.flat f1, rr.flat f2, ev, ?_, fun m z' hm hz' => ?_, k _ _ _ _ q2 (.int _) R2 (T1.trans T2)⟩
    · rw [rv.eqF r2 (List.all_eq_true.mp f2 _ (List.mem_of_getElem? hz)) f1]; exact hzj
    · obtain ⟨d', hd', rd'⟩ := rr.getV hz'
      rw [rd'.eqF r2 (List.all_eq_true.mp f2 _ (List.mem_of_getElem? hd')) f1]
      exact hno m d' hm hd'⟩
end
/-! ## list(range(n)) -/
def lrgD (x : D) (k : Nat → Prop) : Prop := match x with
  | .int n => 0 ≤ n ∧ n ≤ 16777216 ∧ k n.toNat
  | _ => False
def eLstRg (f : WE) : WE := fun E env M Q => f E env M fun x M1 => lrgD x fun n => ∀ p, M1 p = none → Q (.ref p) (M1.set p (.lst ((List.range n).map fun i : Nat => .int i)))
@[simp] theorem eLstRg_s {f : WE} {E : XW} {env : Ev} {M : Sto} {Q : KD} : eLstRg f E env M Q = f E env M fun x M1 => lrgD x fun n => ∀ p, M1 p = none → Q (.ref p) (M1.set p (.lst ((List.range n).map fun i : Nat => .int i))) := id rfl
@[simp] theorem lrgD_n {n : Nat} {k : Nat → Prop} : lrgD (.int n) k = (0 ≤ (n : Int) ∧ (n : Int) ≤ 16777216 ∧ k n) := id rfl
theorem reps_rg {K : PySem.W.Frag} {H : Hp} (n : Int) : ∀ l : List Nat, Reps K H (l.map fun i => V.int (0 + (i : Nat))) (l.map fun i : Nat => D.int i)
  | [] => .nil
  | i :: l => .cons (by show Rep K H (V.int (0 + (i : Int))) (D.int i); rw [Int.zero_add]; exact .int _) (reps_rg n l)
section
variable {X : Cx} {CA : String → Addr} {XE : XK} {a : Expr} {f : WE} {p p2 pos pos2 : Pos}
theorem d_lstRg (hc : X.calm = true) (hm : X.mg "list" = none) (hmr : X.mg "range" = none) (ha : SE X CA XE a f) (hg : Gl X "list" := by rfl) (hgr : Gl X "range" := by rfl) (na : starEach [a] X.env = (false, eval a X.env) :: starEach [] X.env := by rfl)
    (he : starEach [.Call (.Name "range" p2) [a] [] pos2] X.env = (false, eval (.Call (.Name "range" p2) [a] [] pos2) X.env) :: starEach [] X.env := by rfl) :
    SE X CA XE (.Call (.Name "list" p) [.Call (.Name "range" p2) [a] [] pos2] [] pos) (eLstRg f) :=
  PE_weak (pe_listRg hc hg hm (prg_1 hgr hmr ha na) he) fun σ H Q ⟨env, M, Ed, Qd, p, q, k⟩ => ⟨env, M, Ed, _, p, q, fun d M1 v H1 q1 r1 R1 T1 => by
    unfold lrgD at q1
    split at q1
    · rename_i n
      cases r1
      obtain ⟨h0, h1, q1⟩ := q1
      refine ⟨n, rfl, RgOk.of_le (by omega) h1 (by omega) h0, fun l hl => ?_⟩
      have rr : Reps X.K H1 (rgV 0 n) ((List.range n.toNat).map fun i : Nat => D.int i) := by
        unfold rgV
        rw [Int.sub_zero]
        exact reps_rg n _
      obtain ⟨x, y⟩ := lay_lst (c := cn X CA) hl rr R1
      exact k _ _ _ _ (q1 l (R1.fresh hl)) (.ref l) x (T1.trans y)
    · exact q1.elim⟩
end
end DL

set_option Elab.async false
set_option linter.all false
set_option maxRecDepth 100000
/-! DQ: == of plain data (none, ints, texts, tuples) -/
namespace DL
open PySem
mutual
/-- plain data -/
def plB : D → Bool
  | .non => true
  | .int _ => true
  | .str s => PyData.strOk s
  | .tup xs => plsB xs
  | _ => false
def plsB : List D → Bool
  | [] => true
  | x :: xs => plB x && plsB xs
end
mutual
def dpt : D → Nat
  | .tup xs => dpts xs + 1
  | _ => 0
def dpts : List D → Nat
  | [] => 0
  | x :: xs => max (dpt x) (dpts xs)
end
mutual
theorem py_can : ∀ x : D, plB x = true → x.py.canLay0 = true
  | .non, _ => by simp [D.py, PyData.canLay0]
  | .int _, _ => by simp [D.py, PyData.canLay0]
  | .str s, h => by simp only [plB] at h; simp [D.py, PyData.canLay0, h]
  | .tup xs, h => by simp only [plB] at h; simp only [D.py, PyData.canLay0]; exact py_cans xs h
  | .bl _, h => by simp [plB] at h
  | .ref _, h => by simp [plB] at h
  | .ty _, h => by simp [plB] at h
  | .lro _, h => by simp [plB] at h
theorem py_cans : ∀ xs : List D, plsB xs = true → PyData.canLayAll0 (D.pys xs) = true
  | [], _ => by simp [D.pys, PyData.canLayAll0]
  | x :: xs, h => by
    simp only [plsB, Bool.and_eq_true] at h
    simp only [D.pys, PyData.canLayAll0, Bool.and_eq_true]
    exact ⟨py_can x h.1, py_cans xs h.2⟩
end
mutual
theorem py_dpt : ∀ x : D, plB x = true → x.py.depth = dpt x
  | .non, _ => by simp [D.py, PyData.depth, dpt]
  | .int _, _ => by simp [D.py, PyData.depth, dpt]
  | .str s, h => by simp [D.py, PyData.depth, dpt]
  | .tup xs, h => by simp only [plB] at h; simp only [D.py, PyData.depth, dpt]; rw [py_dpts xs h]
  | .bl _, h => by simp [plB] at h
  | .ref _, h => by simp [plB] at h
  | .ty _, h => by simp [plB] at h
  | .lro _, h => by simp [plB] at h
theorem py_dpts : ∀ xs : List D, plsB xs = true → PyData.depthAll (D.pys xs) = dpts xs
  | [], _ => by simp [D.pys, PyData.depthAll, dpts]
  | x :: xs, h => by
    simp only [plsB, Bool.and_eq_true] at h
    simp only [D.pys, PyData.depthAll, dpts]
    rw [py_dpt x h.1, py_dpts xs h.2]
end
mutual
theorem py_eqv : ∀ x y : D, plB x = true → plB y = true → PyData.eqv x.py y.py = decide (x = y)
  | .non, y, _, h => by cases y <;> first | (simp [plB] at h; done) | (simp [D.py, PyData.eqv]; done) | (simp [D.py, PyData.eqv]; rfl)
  | .int i, y, _, h => by cases y <;> first | (simp [plB] at h; done) | (simp [D.py, PyData.eqv]; done) | (simp [D.py, PyData.eqv]; rfl)
  | .str s, y, _, h => by
    cases y <;> first | (simp [plB] at h; done) | (simp [D.py, PyData.eqv]; done) | (simp [D.py, PyData.eqv]; rfl)
  | .tup xs, y, h, h' => by
    cases y with
    | tup ys =>
      simp only [plB] at h h'
      simp only [D.py, PyData.eqv]
      rw [py_eqvs xs ys h h']
      simp
    | _ => first | (simp [plB] at h'; done) | (simp [D.py, PyData.eqv]; done) | (simp [D.py, PyData.eqv]; rfl)
  | .bl _, _, h, _ => by simp [plB] at h
  | .ref _, _, h, _ => by simp [plB] at h
  | .ty _, _, h, _ => by simp [plB] at h
  | .lro _, _, h, _ => by simp [plB] at h
theorem py_eqvs : ∀ xs ys : List D, plsB xs = true → plsB ys = true → PyData.eqvAll (D.pys xs) (D.pys ys) = decide (xs = ys)
  | [], [], _, _ => by simp [D.pys, PyData.eqvAll]
  | [], y :: ys, _, _ => by simp [D.pys, PyData.eqvAll]
  | x :: xs, [], _, _ => by simp [D.pys, PyData.eqvAll]
  | x :: xs, y :: ys, h, h' => by
    simp only [plsB, Bool.and_eq_true] at h h'
    simp only [D.pys, PyData.eqvAll]
    rw [py_eqv x y h.1 h'.1, py_eqvs xs ys h.2 h'.2]
    simp
end
theorem cEq_pl {x y : D} {M : Sto} {k : Bool → Prop} (hx : plB x = true) (hy : plB y = true) (dx : dpt x ≤ 64) (dy : dpt y ≤ 64) (h : k (decide (x = y))) : cEq x y M k := by
  have gen : SeqAt.shaped x.py = true ∧ SeqAt.shaped y.py = true ∧ k (PyData.eqv x.py y.py) := by
    refine ⟨?_, ?_, by rw [py_eqv x y hx hy]; exact h⟩
    · unfold SeqAt.shaped; rw [py_can x hx, py_dpt x hx]; simpa using dx
    · unfold SeqAt.shaped; rw [py_can y hy, py_dpt y hy]; simpa using dy
  unfold cEq
  split
  · simpa using h
  · simpa using h
  · simp [plB] at hx
  · exact gen
end DL

set_option Elab.async false
set_option linter.all false
set_option maxRecDepth 100000
set_option maxHeartbeats 4000000
/-! DG: a law of which it is known that no text of an object is being made around it; repr -/
namespace DL
open PySem PySem.Spec PyProof.Rows L2
/-- as FnOk, at the law's own call alone -/
structure FnOkG (P : Program) (w : World) (K : PySem.W.Frag) (mg : Str → Option Value) (base : Heap) (f : Addr) (fd : FuncData) (ps : List Str) (sp : Sp) : Prop where
  len : ∀ vs H Q E, sp vs H Q E → vs.length = ps.length
  run : ∀ (s : Shared) (H : Hp) (args : Args) (us : List Value) (vs : List V) (Q : VK) (E : XK), Env0 P w K mg base callerA [] s H → BindsTo s fd args (ps.zip us) → Vals vs us → sp vs H Q E →
    codeAny (model P w) callerA (.call (.ref f) args) (CR CX0 [] P w H s Q E) s
theorem fn_ofG {P : Program} {w : World} {K : PySem.W.Frag} {mg : Str → Option Value} {base : Heap} {k : Nat} {f : Addr} {name qual : Str} {params : Arguments} {body : List Stmt} {scope : Scope} {dV kV doc pm cdv ct oc : Value} {an od : Option Addr}
    {osl : Array (Option Value)} {N ps : List Str} {sp : Sp} (lk : K.lookup f = some ⟨oc, od, .func (PySem.W.fnOf name qual params body scope dV kV doc pm an cdv ct), osl⟩) (hcd : PySem.W.codeIn K cdv qual = true) (S : FnScope N ps scope)
    (len : ∀ vs H Q E, sp vs H Q E → vs.length = ps.length) (hr : Room (k + 1) callerA)
    (hbody : ∀ (s : Shared) (H : Hp) (vs : List V) (Q : VK) (E : XK), Room k (callerA.deeper (envOfC qual scope s.heap.objs.size f cdv)) → sp vs H Q E →
      ∃ t, PSs (cxOf CX0 P w K mg base N qual scope f cdv callerA [] s H E) body t ∧ t { nx := fun _ H' => Q .non H', rt := Q } (L2.start N vs) H) :
    FnOkG P w K mg base f (PySem.W.fnOf name qual params body scope dV kV doc pm an cdv ct) ps sp := by
  refine ⟨len, fun s H args us vs Q E e0 hb r hsp => ?_⟩
  have hl := len _ _ _ _ hsp
  have kin : K.In s.heap := e0.mod.kin.keeps fun b o e => (e0.bs b o e).1
  have lim : s.heap.NoLimit := e0.mod.nolimit.keeps fun b o e => (e0.bs b o e).1
  have kind : ∀ y ∈ ps.zip us, scope.names.lookup y.1 = some .local ∨ (scope.names.lookup y.1 = some .cell ∧ ((cellsFrom (s.heap.objs.size + 1) scope.names []).lookup y.1).isSome = true) := fun y hy =>
    (S.par y.1 (List.of_mem_zip (show (y.1, y.2) ∈ _ from hy)).1).elim .inl fun q => .inr ⟨q, PySem.W.cellsFrom_some _ _ _ (.inl q)⟩
  refine codeAny_call_function hr.depth (kin _ _ lk) rfl S.co S.gen rfl (PySem.W.codeRec_of kin hcd) (hb _ _ _ _ (wpAny_newFunctionEnv_cells S.kind kind fun env he s1 x => ?_))
  subst he
  obtain ⟨t, ht, hq⟩ := hbody s H vs Q E (hr.deeper _) hsp
  have I : Inv (cxOf CX0 P w K mg base N qual scope f cdv callerA [] s H E) [] (L2.start N vs) H s1 := inv_start S hr.hd e0 hl r x
  refine ⟨lim.keeps x.toInCall.keep, codeAny_func (wpAny_mono (ht.run [] s1 (L2.start N vs) H _ I hq) (fun fl s' hs => ?_) fun e s' hs => hs)⟩
  have fin : ∀ {σ' : L2.St} {H' : Hp} {v : V} {u : Value}, Inv (cxOf CX0 P w K mg base N qual scope f cdv callerA [] s H E) [] σ' H' s' → RelV v u → Q v H' → CE [] P w H s Q u s' :=
    fun {σ' H' v u} J rv q => ⟨v, H', J.os, J.bare, J.base, J.hok, rv, q⟩
  match fl, hs with
  | .ret _, ⟨_, _, _, J, rv, q⟩ => exact fin J rv q
  | .next, ⟨_, _, J, q⟩ => exact fin (v := V.non) (u := Value.none) J rfl q
  | .brk, ⟨_, _, _, q⟩ => exact False.elim q
  | .cont, ⟨_, _, _, q⟩ => exact False.elim q
theorem fn_lG {P : Program} {w : World} {K : PySem.W.Frag} {mg : Str → Option Value} {base : Heap} {CA : String → Addr} {x qual : Str} {st : Stmt} {f : Addr} {fd : FuncData} {N ps : List Str} {k : Nat} {g : FD} {gb : WS} (F : Fun K x qual st f fd) (S : FnScope N ps (defScope st)) (hl : ∀ E ds M Q, g E ds M Q → ds.length = ps.length) (hr : Room (k + 1) callerA)
    (body : ∀ (cdv : Value) (A : Around) (outer : List Env) (s : Shared) (H : Hp) (E : XK), Room k (A.deeper (envOfC qual (defScope st) s.heap.objs.size f cdv)) → A.guards = some [] →
      SSs (cxOf CX0 P w K mg base N qual (defScope st) f cdv A outer s H E).nox CA E (defBody st) gb)
    (ob : ∀ E ds M Q, g E ds M Q → gb E (endsL Q) (DL.start N.length ds) M) : FnOkG P w K mg base f fd ps (spOf ⟨P, w, K, CA⟩ g) := by
  obtain ⟨oc, od, kV, doc, pm, an, cdv, ct, osl, rfl, lk, hcd⟩ := F.ex
  refine fn_ofG lk hcd S (fun vs H Q E ⟨ds, M, Ed, Qd, r, hR, hg, kx, kq⟩ => by rw [Reps.length r]; exact hl _ _ _ _ hg) hr fun s H vs Q E hr' ⟨ds, M, Ed, Qd, r, hR, hg, kx, kq⟩ => ?_
  have kq' : KQ ⟨P, w, K, CA⟩ H (fun d M' => ∃ M0, Le M0 M' ∧ Qd d M0) Q := fun _ M' v H' ⟨M0, l, q⟩ r' hR' t => kq _ M0 _ _ q r' (fun a o e => hR' a o (l a o e)) t
  exact ⟨_, PSs.nox (body cdv callerA [] s H E hr' rfl), DL.start N.length ds, M, Ed, endsL Qd, ⟨RelEnv.start r, hR, kx⟩, ob _ _ _ _ hg, ⟨fun _ M' _ H' q _ r' t => kq' _ _ _ _ q .non r' t, kq', fun _ _ _ _ q => q.elim, fun _ _ _ _ q => q.elim⟩⟩
/-- the law's call from an abstract heap that holds nothing but the script -/
theorem law_coreG {P : Program} {w : World} {K : PySem.W.Frag} {mg mb : Str → Option Value} {fa a : Addr} {fd : FuncData} {x : Str} {sp : Sp} {s1 : Shared} {items : Array Value} {n0 : Nat} {H : Hp}
    (kin : K.In s1.heap) (hns : s1.heap.Ns mainGlobals mg) (hb : s1.heap.Ns builtinsNs mb) (hbb : ∀ x : Str, x ≠ "__name__" → mb x = bootBuiltins x) (hlim : s1.heap.NoLimit) (hg : s1.gens = #[])
    (ha : s1.heap.get? a = some { cls := .type "list", data := .seq items n0 })
    (F : ∀ base : Heap, K.In base → base.Ns mainGlobals mg → FnOkG P w K mg base fa fd [x] sp) (hbind : ∀ (s : Shared) (u : Value), BindsTo s fd ⟨[u], []⟩ [(x, u)])
    (hsp : sp [.ref a] H (fun v _ => v = .bl true) fun _ _ _ => False) (hO : L2.Only H) (hok : HOk P w H s1.heap) (one : ∀ b, H b ≠ none → b = a) (hK : H a ≠ none → K.lookup a = none) :
    codeAny (model P w) callerA (.call (.ref fa) ⟨[.ref a], []⟩) (fun r s' => r = .ok (.ret (.bool true)) ∧ OldK s1.heap s'.heap ∧ s'.os = s1.os ∧ AllBare s'.gens) s1 := by
  have free : ∀ {b : Addr} {o : Obj} {es : Array DictEntry} {ep : Nat}, s1.heap.get? b = some o → o.data = .dict es ep → H b = none := fun {b o es ep} e d => by
    cases q : H b with
    | none => rfl
    | some u =>
      have eb := one b (by simp [q])
      subst eb
      rw [ha] at e
      cases e
      cases d
  have out : ∀ {b : Addr} {o : Obj}, s1.heap.get? b = some o → H b = none → (hidT s1.heap H).get? b = some o := fun e n => hidT_get e n
  have nsO : ∀ {b : Addr} {m : Str → Option Value}, s1.heap.Ns b m → (hidT s1.heap H).Ns b m := fun ⟨o, es, ep, e, d, r⟩ => ⟨o, es, ep, out e (free e d), d, r⟩
  have kinO : K.In (hidT s1.heap H) := fun b o e => out (kin b o e) (by
    cases q : H b with
    | none => rfl
    | some u =>
      have eb := one b (by simp [q])
      subst eb
      rw [hK (by simp [q])] at e
      cases e)
  have e0 : Env0 P w K mg (hidT s1.heap H) callerA [] s1 H := ⟨rfl, ⟨kinO, nsO hns, ⟨mb, nsO hb, hbb⟩, let ⟨mc, h1, h2⟩ := hlim; ⟨mc, nsO h1, h2⟩⟩, fun b o e => of_hidT e, Nat.le_of_eq (hidT_size _ _), trivial, fun b hb => absurd (show b ∈ ([] : List Addr) from hb) (by simp), hok, .of_eq hg⟩
  refine codeAny_mono ((F _ kinO (nsO hns)).run s1 H ⟨[.ref a], []⟩ [.ref a] [.ref a] _ _ e0 (hbind s1 (.ref a)) (.cons rfl .nil) hsp) fun r s' h => ?_
  match r, h with
  | .error e, h => exact False.elim h
  | .ok .next, h => exact False.elim h
  | .ok .brk, h => exact False.elim h
  | .ok .cont, h => exact False.elim h
  | .ok (.ret u), ⟨v, H', os, bare, un, hok', r', q⟩ =>
    obtain rfl : v = .bl true := q
    obtain rfl : u = Value.bool true := r'
    refine ⟨rfl, OldK.of_keep fun b o e => ?_, os, bare⟩
    cases q : H b with
    | none => exact un.keep b o e q (fun z => absurd (show b ∈ ([] : List Addr) from z) (by simp)) (by simp)
    | some u =>
      rcases hO b with z | ⟨ob, xs, z⟩
      · rw [q] at z; cases z
      · obtain ⟨e1, _⟩ := hok b _ z
        obtain ⟨e2, _⟩ := hok' b _ (un.frzs b ob _ z)
        rw [e] at e1; cases e1
        exact e2
theorem law_callG {P : Program} {w : World} {K : PySem.W.Frag} {mg mb : Str → Option Value} {fa a : Addr} {fd : FuncData} {x : Str} {sp : Sp} {s1 : Shared} {vs : List Value} {ns : List Int}
    (kin : K.In s1.heap) (hns : s1.heap.Ns mainGlobals mg) (hb : s1.heap.Ns builtinsNs mb) (hbb : ∀ x : Str, x ≠ "__name__" → mb x = bootBuiltins x) (hlim : s1.heap.NoLimit) (hg : s1.gens = #[])
    (ha : s1.heap.get? a = some { cls := .type "list", data := .seq vs.toArray }) (hi : IntsAre vs ns) (hl : ns.length ≤ sizeLine)
    (F : ∀ base : Heap, K.In base → base.Ns mainGlobals mg → FnOkG P w K mg base fa fd [x] sp) (hbind : ∀ (s : Shared) (u : Value), BindsTo s fd ⟨[u], []⟩ [(x, u)])
    (hsp : ∀ H : Hp, L2.Only H → SqL K H a (ns.map V.int) → sp [.ref a] H (fun v _ => v = .bl true) fun _ _ _ => False) :
    codeAny (model P w) callerA (.call (.ref fa) ⟨[.ref a], []⟩) (fun r s' => r = .ok (.ret (.bool true)) ∧ OldK s1.heap s'.heap ∧ s'.os = s1.os ∧ AllBare s'.gens) s1 := by
  have rv := vals_ints hi
  have lv := hi.length
  cases hk : K.lookup a with
  | some o =>
    have e := kin a o hk
    rw [ha] at e
    cases e
    have hS : SqL K (fun _ => none) a (ns.map V.int) := .inr ⟨_, vs.toArray, _, hk, rfl, rfl, rfl, by rw [List.size_toArray, lv]; exact hl, by simpa using rv⟩
    exact law_coreG kin hns hb hbb hlim hg ha F hbind (hsp _ (fun _ => .inl rfl) hS) (fun _ => .inl rfl) (fun b u z => nomatch (show (none : Option HO) = some u from z)) (fun b z => absurd rfl z) fun z => absurd rfl z
  | none =>
    let H : Hp := fun b => if b = a then some (.frz { cls := .type "list", data := .seq vs.toArray } (.lst (ns.map V.int))) else none
    have at_ : H a = some (.frz { cls := .type "list", data := .seq vs.toArray } (.lst (ns.map V.int))) := if_pos rfl
    have off : ∀ {b : Addr}, b ≠ a → H b = none := fun h => if_neg h
    have hO : L2.Only H := fun b => by
      by_cases e : b = a
      · subst e; exact .inr ⟨_, _, at_⟩
      · exact .inl (off e)
    refine law_coreG kin hns hb hbb hlim hg ha F hbind (hsp H hO (.inl (.inr ⟨_, at_⟩))) hO (fun b u z => ?_) (fun b z => ?_) fun _ => hk
    · by_cases e : b = a
      · subst e
        rw [at_] at z
        cases z
        exact ⟨ha, by rw [List.length_map]; exact hl, vs, _, rv, ha⟩
      · rw [off e] at z; cases z
    · by_cases e : b = a
      · exact e
      · exact absurd (off e) z
theorem law_walkG {l : PySem.W.OpenLaw} {q : Program} {loose : List Str} {XP : (Str → Option Value) → Heap → Prop} {YP : World → Heap → Prop} {d : DefRec} {K : Params → PySem.W.Frag} (CAw : World → String → Addr)
    (hn : l.most = some 63) (hdf : d.params.defaults = [])
    (hY : ∀ (w : World) (h : Heap), YP w h → (K w.params).In h)
    (F : ∀ (w : World) (mg : Str → Option Value) (fa : Addr) (h : Heap), (K w.params).In h → h.Ns mainGlobals mg → mg d.name = some (.ref fa) →
      ∃ fd : FuncData, (∀ (s : Shared) (u : Value), BindsTo s fd ⟨[u], []⟩ [("script", u)]) ∧ ∀ base : Heap, (K w.params).In base → base.Ns mainGlobals mg → FnOkG l.prog w (K w.params) mg base fa fd ["script"] (spOf ⟨l.prog, w, K w.params, CAw w⟩ lawS)) :
    PySem.W.WalkO q loose XP YP l.row.toRowW d [] (fun f vs => PySem.call f vs) := by
  refine Att.attach_callB hn hdf fun w s0 s1 mg mb fa o pm cd doc a vs ns G Y ho hd hcd hmg hobj hints hlen hbits hg => ?_
  have kin := hY w _ Y
  obtain ⟨fd, hbd, hF⟩ := F w mg fa _ kin G.T.g hmg
  refine law_callG kin G.T.g G.T.b G.T.builtins G.T.nolimit hg hobj hints (Nat.le_trans hlen (by decide)) hF hbd fun H hO hS => ?_
  refine ⟨[.lro (ns.map D.int)], fun _ => none, X0, fun d _ => d = .bl true, .cons (.lro ?_ (reps_ints ns)) .nil, fun _ _ e => (nomatch e), ⟨⟨ns, rfl, hlen, hbits⟩, fun _ => rfl⟩, KX.no, fun d M' v H' e r _ _ => by subst e; cases r; rfl⟩
  rcases hS with (hS | hS) | hS
  · rcases hO a with z | ⟨o, xs, z⟩
    · rw [z] at hS; cases hS
    · rw [z] at hS; cases hS
  · exact .inl hS
  · exact .inr hS
/-! ## repr of plain data -/
def repD (x : D) (k : Str → Prop) : Prop := SeqAt.shaped x.py = true ∧ x.py.showable = true ∧ x.py.shown.length ≤ sizeLine ∧ (∃ xs, x = .tup xs) ∧ k x.py.shown
def eRepr (f : WE) : WE := fun E env M Q => f E env M fun x M1 => repD x fun s => Q (.str s) M1
@[simp] theorem eRepr_s {f : WE} {E : XW} {env : Ev} {M : Sto} {Q : KD} : eRepr f E env M Q = f E env M fun x M1 => repD x fun s => Q (.str s) M1 := id rfl
section
variable {X : Cx} {CA : String → Addr} {XE : XK} {a : Expr} {f : WE} {pos p : Pos} {k : Nat}
theorem call_repr {x : D} (hg : X.A.guards = some []) (hr : Room k X.A) : ∀ {pins : List (Addr × Obj)} {s : Shared} {σ : L2.St} {H : Hp} {v : V} {u : Value} {Q : VK}, Inv X pins σ H s → Rep X.K H v x → RelV v u → SeqAt.shaped x.py = true → x.py.showable = true → x.py.shown.length ≤ sizeLine → (∃ xs, x = .tup xs) → Q (.str x.py.shown) H →
    wpAny (model X.prog X.w) X.A (call (.builtin "repr") [u]) (EP X pins σ Q) X.xe s := by
  intro pins s σ H v u Q I r rv hs hw hz ht q
  have hu := hr.un
  have hd := Rep.dp x r hs
  obtain ⟨as, rd⟩ := Dp.reads I x.py v u hd rv
  obtain ⟨xs, rfl⟩ := ht
  cases r with
  | tup s1 r1 =>
    obtain rfl : u = Value.ref _ := rv
    have hc : (D.tup xs).py.canLay0 = true := by unfold SeqAt.shaped at hs; simp only [Bool.and_eq_true] at hs; exact hs.1
    have hdp : (D.tup xs).py.depth ≤ 64 := by unfold SeqAt.shaped at hs; simp only [Bool.and_eq_true, decide_eq_true_eq] at hs; exact hs.2
    exact repr_of_reads' rd hw (PyData.noDict_hsm (PyData.hasDict_of_canLay _ hc)) hg (by omega) (fun b o e => e) (fun h' t tk kp => ⟨.str (D.tup xs).py.shown, H, I.kept kp, ⟨_, rfl⟩, q⟩) hz
theorem d_repr (hg : X.A.guards = some []) (hr : Room k X.A) (hm : X.mg "repr" = none) (ha : SE X CA XE a f) (hgl : Gl X "repr" := by rfl) (he : starEach [a] X.env = (false, eval a X.env) :: starEach [] X.env := by rfl) (hpl : (backTo pos (starEach [] X.env)).any (·.1) = false := by rfl) : SE X CA XE (.Call (.Name "repr" p) [a] [] pos) (eRepr f) := by
  refine ⟨fun pins s σ H Q I ⟨env, M, Ed, Qd, p, q, kq⟩ => ?_⟩
  refine wpAny_Call_Name_kw (ld_blt (u := .builtin "repr") I hgl hm (by decide +kernel) ?_)
  have pa : PA X [a] _ := pa_cons ha pa_nil he
  refine PyProof.Rows.callWith_builtin1 (thn (pa.run _ pins s σ H (fun vs H1 => ∃ d v M1, vs = [v] ∧ repD d (fun t => Qd (.str t) M1) ∧ Rep X.K H1 v d ∧ R (cn X CA) M1 H1 ∧ Tups X.K H H1) I
    ⟨env, M, Ed, _, p, q, fun d M1 v H1 q1 r1 R1 T1 => ⟨d, v, M1, rfl, q1, r1, R1, T1⟩⟩) fun us s1 ⟨vs, H1, I1, r1, d, v, M1, ev, ⟨q1, q2, q3, q4, q5⟩, rv, R1, T1⟩ => ?_) he hpl
  subst ev
  obtain ⟨u, rfl, ru⟩ := vals1 r1
  exact call_repr hg hr I1 rv ru q1 q2 q3 q4 (kq _ _ _ _ q5 (.str _) R1 T1)
end
end DL

set_option Elab.async false
set_option linter.all false
set_option maxRecDepth 100000
set_option maxHeartbeats 4000000
/-! DN1: a def within a def -/
namespace DL
open PySem PySem.Spec PyProof.Rows L2 NdefX LamX
/-- a heap with one object at a place -/
def heapAt (a : Addr) (o : Obj) : Heap := { objs := (Array.replicate a ({ cls := .none, data := .plain } : Obj)).push o }
theorem heapAt_get (a : Addr) (o : Obj) (h : o.data ≠ .freed) : (heapAt a o).get? a = some o := by
  have e : ((Array.replicate a ({ cls := .none, data := .plain } : Obj)).push o)[a]? = some o := by rw [Array.getElem?_push]; simp
  unfold heapAt Heap.get?
  simp only [e]
  obtain ⟨c, d, data, sl⟩ := o
  cases data <;> first | rfl | exact absurd rfl h
theorem code_ne_fn {a : Addr} {q : Str} {F : NF} : CodeO a q ≠ FnO a F := by
  intro e
  unfold CodeO FnO at e
  injection e with e
  have := congrFun e (heapAt a ⟨.type "function", none, .func (F.fd .none .none .none), #[]⟩)
  have h2 : ∃ (od : Option Addr) (sl : Array (Option Value)) (doc pm ctv : Value), (heapAt a ⟨.type "function", none, .func (F.fd .none .none .none), #[]⟩).get? a = some (⟨.type "function", od, .func (F.fd doc pm ctv), sl⟩ : Obj) := ⟨_, _, _, _, _, heapAt_get _ _ (by simp)⟩
  rw [← this] at h2
  obtain ⟨oc, vs, t, h3, h4, _⟩ := h2
  rw [heapAt_get _ _ (by simp)] at h3
  cases h3
  cases h4
theorem code_ne_dn {c : Cn} {a : Addr} {q : Str} {es : List Ent} : NDict c a es ≠ CodeO a q := by
  intro e
  unfold CodeO NDict at e
  injection e with e
  have := congrFun e (heapAt a ⟨.none, none, .fields #[.none, .str q 0], #[]⟩)
  have h2 : ∃ (oc : Obj) (vs : Array Value) (t : Tok), (heapAt a ⟨.none, none, .fields #[.none, .str q 0], #[]⟩).get? a = some oc ∧ oc.data = .fields vs ∧ vs[1]? = some (.str q t) := ⟨_, _, _, heapAt_get _ _ (by simp), rfl, rfl⟩
  rw [← this] at h2
  obtain ⟨_, _, xs, _, ⟨o, es', ep, h3, _, h5, _⟩, _⟩ := h2
  rw [heapAt_get _ _ (by simp)] at h3
  cases h3
  cases h5
/-- the store once the code object of a def within a def is there: found in the table, or new -/
inductive NewCode (M : Sto) (P : Addr) (cs : List Addr) (q : Str) (f c : Addr) : Sto → Prop
  | found : c ∈ cs → NewCode M P cs q f c M
  | new : M c = none → c ≠ f → NewCode M P cs q f c ((M.set P (.tab (c :: cs))).set c (.code q))
def sNdef (P : Addr) (i : Nat) (q : Str) (s : Addr → NF → WS) : WS := fun E D env M => ∃ cs, M P = some (.tab cs) ∧ (∀ c ∈ cs, M c = some (.code q)) ∧
  ∀ f F M1, M f = none → F.qual = q → NewCode M P cs q f F.c M1 → s f F E D (put env i (.ref f)) (M1.set f (.fn F))
section
variable {X : Cx} {CA : String → Addr} {XE : XK}
theorem ndef_at {pins : List (Addr × Obj)} {σ : L2.St} {H : Hp} {s : Shared} {c P : Addr} {cs : List Addr} {ps : Array Value} {name q : Str} {params : Arguments} {body : List Stmt} {scope : Scope} {pos : Pos} {E : Value → Shared → Prop} {Q : Value → Shared → Prop} (I : Inv X pins σ H s) (TB : TabB X.base X.mg c P) (hcode : X.env.code = .ref c)
    (hq : X.env.qual ++ name = q) (hP : H P = some (.tbl ps)) (ht : TriplesOk ps.toList) (ha : ∀ (pos : Pos) (cv : Value), codeAmong pos ps.toList = some cv → ∃ x ∈ cs, cv = .ref x) (hcs : ∀ x ∈ cs, H x = some (CodeO x q)) (hfree : ∀ y ∈ scope.names, y.2 = .free → ∃ c, X.env.cells.lookup y.1 = some c)
    (found : ∀ (f c' : Addr) (s' : Shared), c' ∈ cs → H f = none → Inv X pins σ (upd H f (FnO f ⟨name, q, params, body, scope, cloFrom X.env.cells scope.names [], c'⟩)) s' → Q (.ref f) s')
    (new : ∀ (f c' : Addr) (ps' : Array Value) (s' : Shared), H f = none → H c' = none → c' ≠ f → TriplesOk ps'.toList → (∀ (pos : Pos) (cv : Value), codeAmong pos ps'.toList = some cv → ∃ x ∈ c' :: cs, cv = .ref x) →
      Inv X pins σ (upd (upd (upd H P (.tbl ps')) c' (CodeO c' q)) f (FnO f ⟨name, q, params, body, scope, cloFrom X.env.cells scope.names [], c'⟩)) s' → Q (.ref f) s') :
    wpAny (model X.prog X.w) X.A (makeFunction name q params (.stmts body) scope X.env [] [] [] pos pos.line) Q E s := by
  have bP : s.heap.BuiltinsAt X.mg P := TB.bm.keeps I.bk
  have hP' : s.heap.get? P = some { cls := .none, data := .fields ps } := I.hok P _ hP
  have lay : ∀ {H1 : Hp} {h' : Heap} {tk : Nat} (c' : Addr) (ctv doc : Value) (I1 : Inv X pins σ H1 { s with heap := h', toks := tk }), Inv X pins σ (upd H1 h'.objs.size (FnO h'.objs.size ⟨name, q, params, body, scope, cloFrom X.env.cells scope.names [], c'⟩)) { s with heap := h'.push { cls := .type "function", data := .func (NF.fd ⟨name, q, params, body, scope, cloFrom X.env.cells scope.names [], c'⟩ doc ((X.mg "__name__").getD .none) ctv) }, toks := tk } :=
    fun {H1 h' tk} c' ctv doc I1 => inv_fn (F := ⟨name, q, params, body, scope, cloFrom X.env.cells scope.names [], c'⟩) (t' := tk) (doc := doc) (pm := (X.mg "__name__").getD .none) (ctv := ctv) I1 rfl
  cases hc : codeAmong pos ps.toList with
  | some cv =>
    obtain ⟨c', hm, rfl⟩ := ha pos cv hc
    refine PySem.W.makeFunction_hit (mg := X.mg) (c := c) (P := P) (ps := ps) (closure_ok hfree) I.ok.glob (I.mod.glob.keeps I.bk) hcode (TB.code.keeps I.bk) hP' ht hc bP fun ctv doc h' tk hx hsz => ?_
    have I1 : Inv X pins σ H { s with heap := h', toks := tk } := I.kept hx
    exact found h'.objs.size c' _ hm (I1.hok.fresh (Nat.le_refl _)) (lay c' ctv doc I1)
  | none =>
    refine PySem.W.makeFunction_K (mg := X.mg) (c := c) (P := P) (ps := ps) (closure_ok hfree) I.ok.glob (I.mod.glob.keeps I.bk) hcode (TB.code.keeps I.bk) hP' ht hc TB.gP bP fun c' ctv doc h' tk hx hge hlt hrec htb => ?_
    obtain ⟨c2, oc, vs, t, e2, hoc, hd, hv⟩ := hrec
    cases e2
    have nC : H c' = none := I.hok.fresh hge
    have I1 := inv_table (t' := tk) (q := q) (more := #[rawInt pos.line, rawInt pos.col, .ref c']) (h' := h') I hP (fun b o hb e => hx b o hb e) htb hge ⟨oc, vs, t, hoc, hd, hv⟩
    have eL : (ps ++ #[rawInt pos.line, rawInt pos.col, .ref c']).toList = ps.toList ++ [rawInt pos.line, rawInt pos.col, .ref c'] := by simp
    refine new h'.objs.size c' _ _ (I.hok.fresh (Nat.le_trans hge (Nat.le_of_lt hlt))) nC (Nat.ne_of_lt hlt) (by rw [eL]; exact PySem.TriplesOk_snoc _ _ _ _ ht) (fun p' cv hcv => ?_) (lay c' ctv doc I1)
    rw [eL] at hcv
    rcases among_app2 _ ht hcv with z | ⟨z, _, _⟩
    · obtain ⟨x, hx, e⟩ := ha p' cv z
      exact ⟨x, .tail _ hx, e⟩
    · exact ⟨c', .head _, z⟩
def tNd (P : Addr) (i : Nat) (q : Str) (mk : Addr → NF) : TS := fun D σ H => ∃ (cs : List Addr) (ps : Array Value), H P = some (.tbl ps) ∧ TriplesOk ps.toList ∧ (∀ (pos : Pos) (cv : Value), codeAmong pos ps.toList = some cv → ∃ x ∈ cs, cv = .ref x) ∧ (∀ x ∈ cs, H x = some (CodeO x q)) ∧
  (∀ f c', c' ∈ cs → H f = none → D.nx (σ.set i (some (.ref f))) (upd H f (FnO f (mk c')))) ∧
  ∀ (f c' : Addr) (ps' : Array Value), H f = none → H c' = none → c' ≠ f → TriplesOk ps'.toList → (∀ (pos : Pos) (cv : Value), codeAmong pos ps'.toList = some cv → ∃ x ∈ c' :: cs, cv = .ref x) →
    D.nx (σ.set i (some (.ref f))) (upd (upd (upd H P (.tbl ps')) c' (CodeO c' q)) f (FnO f (mk c')))
theorem ps_nd {st : Stmt} {c P : Addr} {name q : Str} {pos : Pos} {i : Nat} (hst : st = .FunctionDef name (C8.fnArgs st) (C8.fnBody st) [] none [] (C8.fnScope st) none name pos) (TB : TabB X.base X.mg c P) (hcode : X.env.code = .ref c) (hq : X.env.qual ++ name = q)
    (hfree : ∀ y ∈ (C8.fnScope st).names, y.2 = .free → X.env.scope.names.lookup y.1 = some .cell ∨ X.env.scope.names.lookup y.1 = some .free) (hd0 : (C8.fnArgs st).defaults = []) (hk0 : (C8.fnArgs st).kw_defaults = []) (han : annTrees (C8.fnArgs st) none X.env = [])
    (hN : X.N.Nodup) (hi : X.N[i]? = some name) (hx : Loc X.env.scope name) (hf : X.fn name = true ∨ X.env.scope.names.lookup name = some .local) :
    PS X st (tNd P i q (NF.of st name q (cloFrom X.env.cells (C8.fnScope st).names []))) := by
  generalize ea : C8.fnArgs st = params at *
  generalize eb : C8.fnBody st = body at *
  generalize es : C8.fnScope st = scope at *
  have emk : ∀ c', NF.of st name q (cloFrom X.env.cells scope.names []) c' = ⟨name, q, params, body, scope, cloFrom X.env.cells scope.names [], c'⟩ := fun c' => by unfold NF.of; rw [ea, eb, es]
  rw [hst]
  refine ⟨fun pins s σ H D I ⟨cs, ps, hP, ht, ha, hcs, found, new⟩ => ?_⟩
  have hqn : qualnameIn X.env name name = q := by
    have hk : X.env.kindOf name = some .local ∨ X.env.kindOf name = some .cell := hx
    rw [← hq]
    unfold qualnameIn
    rcases hk with k | k <;> rw [k] <;> first | rfl | exact if_neg (by decide)
  refine PySem.W.nestDef_K hd0 hk0 han ?_
  rw [hqn]
  have hfr : ∀ y ∈ scope.names, y.2 = .free → ∃ c, X.env.cells.lookup y.1 = some c := fun y hy e => (hfree y hy e).elim (fun z => I.ok.has _ (.inl z)) fun z => I.ok.has _ (.inr z)
  refine ndef_at I TB hcode hq hP ht ha hcs hfr (fun f c' s' hm f0 I1 => ?_) fun f c' ps' s' f0 c0 hcf ht' ha' I1 => ?_
  · have := found f c' hm f0
    exact store_ok I1 hN hi hx (v := .ref f) rfl (fun s'' J => ⟨_, _, J, this⟩) hf
  · have := new f c' ps' f0 c0 hcf ht' ha'
    exact store_ok I1 hN hi hx (v := .ref f) rfl (fun s'' J => ⟨_, _, J, this⟩) hf
theorem s_ndef {st : Stmt} {sts : List Stmt} {c P : Addr} {name q : Str} {pos : Pos} {s : Addr → NF → WS} (i : Nat) (hst : st = .FunctionDef name (C8.fnArgs st) (C8.fnBody st) [] none [] (C8.fnScope st) none name pos) (TB : TabB X.base X.mg c P) (hcode : X.env.code = .ref c) (hq : X.env.qual ++ name = q)
    (hfree : ∀ y ∈ (C8.fnScope st).names, y.2 = .free → X.env.scope.names.lookup y.1 = some .cell ∨ X.env.scope.names.lookup y.1 = some .free) (hd0 : (C8.fnArgs st).defaults = []) (hk0 : (C8.fnArgs st).kw_defaults = []) (han : annTrees (C8.fnArgs st) none X.env = [])
    (hN : X.N.Nodup) (hi : X.N[i]? = some name) (hx : Loc X.env.scope name) (hf : X.fn name = true ∨ X.env.scope.names.lookup name = some .local)
    (rest : ∀ f c', SSs X CA XE sts (s f (NF.of st name q (cloFrom X.env.cells (C8.fnScope st).names []) c'))) : SSs X CA XE (st :: sts) (sNdef P i q s) := by
  let mk := NF.of st name q (cloFrom X.env.cells (C8.fnScope st).names [])
  have h2 : PSs X sts (fun D σ H => ∃ f c', tOfS (cn X CA) XE (s f (mk c')) D σ H) := ⟨fun pins s σ H D I ⟨f, c', h⟩ => (rest f c').run pins s σ H D I h⟩
  refine PSs_weak (pss_cons (ps_nd (i := i) hst TB hcode hq hfree hd0 hk0 han hN hi hx hf) h2) fun D σ H ⟨env, M, Ed, Dd, p, ⟨cs, eP, ecs, q1⟩, k⟩ => ?_
  obtain ⟨ps, hP, ht, ha⟩ := p.r _ _ eP
  refine ⟨cs, ps, hP, ht, ha, fun x hx => p.r _ _ (ecs x hx), fun f c' hm f0 => ?_, fun f c' ps' f0 c0 hcf ht' ha' => ?_⟩
  · have T : Tups X.K H (upd H f (FnO f (mk c'))) := Tups.new f0
    have R1 : R (cn X CA) (M.set f (.fn (mk c'))) (upd H f (FnO f (mk c'))) := p.r.at T upd_same
    exact ⟨f, c', put env i (.ref f), _, Ed, Dd, ⟨(p.e.mono T).put (.ref f) i, R1, p.x.mono T⟩, q1 f (mk c') M (p.r.fresh f0) rfl (.found hm), k.mono T⟩
  · have hPc : P ≠ c' := fun e => by rw [e, c0] at hP; cases hP
    have hPf : P ≠ f := fun e => by rw [e, f0] at hP; cases hP
    have T1 : Tups X.K H (upd H P (.tbl ps')) := Tups.wr hP (ne_frz trivial)
    have R1 : R (cn X CA) (M.set P (.tab (c' :: cs))) (upd H P (.tbl ps')) := p.r.at T1 ⟨ps', upd_same, ht', ha'⟩
    have T2 : Tups X.K (upd H P (.tbl ps')) (upd (upd H P (.tbl ps')) c' (CodeO c' q)) := Tups.new (by rw [upd_ne hPc.symm]; exact c0)
    have R2 : R (cn X CA) ((M.set P (.tab (c' :: cs))).set c' (.code q)) (upd (upd H P (.tbl ps')) c' (CodeO c' q)) := R1.at T2 upd_same
    have T3 : Tups X.K (upd (upd H P (.tbl ps')) c' (CodeO c' q)) (upd (upd (upd H P (.tbl ps')) c' (CodeO c' q)) f (FnO f (mk c'))) := Tups.new (by rw [upd_ne hcf.symm, upd_ne hPf.symm]; exact f0)
    have R3 : R (cn X CA) (((M.set P (.tab (c' :: cs))).set c' (.code q)).set f (.fn (mk c'))) (upd (upd (upd H P (.tbl ps')) c' (CodeO c' q)) f (FnO f (mk c'))) := R2.at T3 upd_same
    have T := T1.trans (T2.trans T3)
    exact ⟨f, c', put env i (.ref f), _, Ed, Dd, ⟨(p.e.mono T).put (.ref f) i, R3, p.x.mono T⟩, q1 f (mk c') _ (p.r.fresh f0) rfl (.new (p.r.fresh c0) hcf), k.mono T⟩
end
end DL

set_option Elab.async false
set_option linter.all false
set_option maxRecDepth 100000
set_option maxHeartbeats 4000000
/-! DN2: functions made within a def, handed to a def that calls them -/
namespace DL
open PySem PySem.Spec PyProof.Rows L2 NdefX LamX
/-- a function made before this frame began; what its cells hold -/
structure Cap (X : Cx) (F : NF) (fr : List Str) (ws : List (Option V)) : Prop where
  c : CellsAt F.cl fr ws X.s_0.heap X.H_0
  nf : ∀ y c, F.cl.lookup y = some c → c ∉ X.fs
  nx : ∀ y c, F.cl.lookup y = some c → c ∉ X.ex
theorem Cap.at {X : Cx} {F : NF} {fr : List Str} {ws : List (Option V)} {pins : List (Addr × Obj)} {σ : L2.St} {H : Hp} {s : Shared} (C : Cap X F fr ws) (I : Inv X pins σ H s) : CellsAt F.cl fr ws s.heap H ∧ ∀ y c, F.cl.lookup y = some c → c ∉ frs X.stack := by
  refine ⟨C.c.later C.nf C.nx I, fun y c e hc => ?_⟩
  rcases List.mem_cons.mp (I.stkSub c hc) with h | h
  · obtain ⟨_, v, o, ho, _⟩ := C.c.all y c e
    have := Heap.lt_size ho
    have ha := I.ok.above
    rw [h] at this
    exact absurd (Nat.lt_of_lt_of_le this ha) (Nat.lt_irrefl _)
  · exact C.nf y c e h
/-- what such a function promises; C: by what its cells hold -/
def spOfC (c : Cn) (C : List (Option D) → FD) : List (Option V) → Sp := fun ws vs H Q E => ∃ wd ds M Ed Qd, RelEnv c.K H ws wd ∧ Reps c.K H vs ds ∧ R c M H ∧ C wd Ed ds M Qd ∧ KX c H Ed E ∧ KQ c H Qd Q
def FnC (c : Cn) (mg : Str → Option Value) (base : Heap) (CX : CXT) (k : Nat) (F : NF) (ps fr : List Str) (C : List (Option D) → FD) : Prop := ∀ f, NOk c.P c.w c.K mg base CX k f F ps fr (spOfC c C)
/-- heaps between a frame's beginning and now -/
theorem tups_un {K : PySem.W.Frag} {fs ex : List Addr} {H H' : Hp} {h h' : Heap} (u : Un fs ex H H' h h') : Tups K H H' := by
  refine ⟨⟨fun a vs q => ?_, fun a vs q => ?_⟩, fun a o u' q => u.frzs a o u' q⟩
  · rcases q with ⟨w, q⟩ | q
    · exact .inl ⟨w, u.frzs _ _ _ q⟩
    · exact .inr q
  · rcases q with ⟨w, q⟩ | q
    · exact .inl ⟨w, u.frzs _ _ _ q⟩
    · exact .inr q
/-- a call of the function that stands in a slot -/
def eCallV (i : Nat) (f : Addr) (F : NF) (C : FD) (fs : List WE) : WE := fun E env M Q => gt env i = some (.ref f) ∧ M f = some (.fn F) ∧ argsW fs E env M fun ds M1 => M1 f = some (.fn F) ∧ M1 F.c = some (.code F.qual) ∧ C E ds M1 Q
section
variable {X : Cx} {CA : String → Addr} {XE : XK} {e : Expr} {es : List Expr} {fs : List WE} {pos p : Pos} {x : Str} {F : NF} {f : Addr} {ps fr : List Str} {ws : List (Option V)} {wd : List (Option D)} {C : List (Option D) → FD} {CX : CXT} {k j : Nat}
theorem d_callv (i : Nat) (Fn : FnC (cn X CA) X.mg X.base CX k F ps fr C) (cap : Cap X F fr ws) (hw : RelEnv X.K X.H_0 ws wd) (hr : Room j X.A) (hk : k ≤ j) (hx : Passes CX X XE) (ha : SAs X CA XE (e :: es) fs) (hN : X.N[i]? = some x := by rfl) (hv : Vis X.env.scope x := by first | exact Or.inl rfl | exact Or.inr (Or.inl rfl) | exact Or.inr (Or.inr rfl))
    (hd : (x == ("__debug__" : Str)) = false := by decide) (hcd : (x == ("__classdict__" : Str)) = false := by decide)
    (he : starEach (e :: es) X.env = (false, eval e X.env) :: starEach es X.env := by rfl) (hpl : (backTo pos (starEach es X.env)).any (·.1) = false := by rfl) :
    SE X CA XE (.Call (.Name x p) (e :: es) [] pos) (eCallV i f F (C wd) fs) := by
  refine ⟨fun pins s σ H Q I ⟨env, M, Ed, Qd, pr, ⟨q0, q1, q2⟩, kq⟩ => ?_⟩
  obtain ⟨v, hs, rv⟩ := pr.e.get q0
  cases rv
  have hf : H f = some (FnO f F) := pr.r _ _ q1
  refine wpAny_Call_Name_kw (thn ((pe_var (pos := p) hN hv hd hcd).run pins s σ H (fun v H1 => v = .ref f ∧ H1 = H) I ⟨.ref f, hs, rfl, rfl⟩) fun u s1 ⟨v, H1, I1, r1, e1, e2⟩ => ?_)
  subst e1
  rw [e2] at I1
  obtain rfl : u = Value.ref f := r1
  refine PySem.W.callWith_F (first := []) (fnAt_of I1 hf) (thn (ha.pa.run pos pins s1 σ H (fun vs H2 => ∃ ds M2, M2 f = some (.fn F) ∧ M2 F.c = some (.code F.qual) ∧ C wd Ed ds M2 Qd ∧ Reps X.K H2 vs ds ∧ R (cn X CA) M2 H2 ∧ Tups X.K H H2) I1
    ⟨env, M, Ed, _, pr, q2, fun ds M2 vs H2 ⟨a1, a2, a3⟩ r2 R2 T2 _ => ⟨ds, M2, a1, a2, a3, r2, R2, T2⟩⟩) fun us s2 ⟨vs, H2, I2, rv, ds, M2, a1, a2, a3, r2, R2, T2⟩ => ?_) he hpl
  have hf2 : H2 f = some (FnO f F) := R2 _ _ a1
  have hc2 : H2 F.c = some (CodeO F.c F.qual) := R2 _ _ a2
  refine ⟨fnAt_of I2 hf2, ?_⟩
  show wpAny _ _ (call (.ref f) us) _ _ _
  have Tn : Tups X.K X.H_0 H2 := tups_un I2.base
  refine wpAny_call (codeAny_mono ((Fn f).run X.A X.stack s2 H2 us vs ws Q XE (hr.mono hk) I2.env0 hf2 hc2 (cap.at I2).1 rv ⟨wd, ds, M2, Ed, Qd, hw.mono Tn, r2, R2, a3, pr.x.mono T2, kq.mono T2⟩) fun r s' hq => ?_)
  match r, hq with
  | .error e, hq => exact hx pins σ H2 s2 e s' I2 hq
  | .ok (.ret u), hq => exact I2.after hq
  | .ok .next, hq => exact False.elim hq
  | .ok .brk, hq => exact False.elim hq
  | .ok .cont, hq => exact False.elim hq
end
/-- as FnOk, for a def that is handed a function: G by its place, the function, what its calls ask -/
structure FnOkF (c : Cn) (mg : Str → Option Value) (base : Heap) (CX : CXT) (k kc : Nat) (fa : Addr) (fd : FuncData) (ps : List Str) (G : Addr → NF → FD → FD) : Prop where
  len : ∀ f F C E ds M Q, G f F C E ds M Q → ds.length = ps.length
  run : ∀ (A : Around) (outer : List Env) (s : Shared) (H : Hp) (args : Args) (us : List Value) (vs : List V) (Q : VK) (E : XK) {f : Addr} {F : NF} {pc fr : List Str} {ws : List (Option V)} {wd : List (Option D)} {C : List (Option D) → FD} {ds : List D} {M : Sto} {Ed : XW} {Qd : KD},
    Room k A → Env0 c.P c.w c.K mg base A outer s H → BindsTo s fd args (ps.zip us) → Vals vs us → CellsAt F.cl fr ws s.heap H → (∀ y a, F.cl.lookup y = some a → a ∉ frs outer) → FnC c mg base CX kc F pc fr C → RelEnv c.K H ws wd → Reps c.K H vs ds → R c M H → G f F (C wd) Ed ds M Qd → KX c H Ed E → KQ c H Qd Q →
    codeAny (model c.P c.w) A (.call (.ref fa) args) (CR CX outer c.P c.w H s Q E) s
structure FnDF (c : Cn) (mg : Str → Option Value) (base : Heap) (CX : CXT) (k kc : Nat) (x : Str) (G : Addr → NF → FD → FD) : Prop where
  h : ∃ f fd ps, FnOkF c mg base CX k kc f fd ps G ∧ mg x = some (.ref f) ∧ PySem.W.keepIn c.K (.ref f) = true ∧ Binds c.K fd ps []
theorem fn_f {P : Program} {w : World} {K : PySem.W.Frag} {mg : Str → Option Value} {base : Heap} {CA : String → Addr} {x qual : Str} {st : Stmt} {fa : Addr} {fd : FuncData} {N ps : List Str} {k kc : Nat} {G : Addr → NF → FD → FD} {gb : Addr → NF → FD → WS} (F0 : Fun K x qual st fa fd) (S : FnScope N ps (defScope st)) (hl : ∀ f F C E ds M Q, G f F C E ds M Q → ds.length = ps.length)
    (body : ∀ (cdv : Value) (A : Around) (outer : List Env) (s : Shared) (H : Hp) (E : XK), Room k (A.deeper (envOfC qual (defScope st) s.heap.objs.size fa cdv)) → ∀ (f : Addr) (F : NF) (pc fr : List Str) (ws : List (Option V)) (wd : List (Option D)) (C : List (Option D) → FD),
      FnC ⟨P, w, K, CA⟩ mg base CX0 kc F pc fr C → Cap (cxOf CX0 P w K mg base N qual (defScope st) fa cdv A outer s H E).nox F fr ws → RelEnv K H ws wd →
      SSs (cxOf CX0 P w K mg base N qual (defScope st) fa cdv A outer s H E).nox CA E (defBody st) (gb f F (C wd)))
    (ob : ∀ f F C E ds M Q, G f F C E ds M Q → gb f F C E (endsL Q) (DL.start N.length ds) M) : FnOkF ⟨P, w, K, CA⟩ mg base CX0 (k + 1) kc fa fd ps G := by
  obtain ⟨oc, od, kV, doc, pm, an, cdv, ct, osl, rfl, lk, hcd⟩ := F0.ex
  refine ⟨hl, fun A outer s H args us vs Q E {f F pc fr ws wd C ds M Ed Qd} hr e0 hb rv cells nfr Fn hw rs hR hg kx kq => ?_⟩
  have hlv : vs.length = ps.length := by rw [Reps.length rs]; exact hl _ _ _ _ _ _ _ hg
  have kin : K.In s.heap := e0.mod.kin.keeps fun b o e => (e0.bs b o e).1
  have lim : s.heap.NoLimit := e0.mod.nolimit.keeps fun b o e => (e0.bs b o e).1
  have kind : ∀ y ∈ ps.zip us, (defScope st).names.lookup y.1 = some .local ∨ ((defScope st).names.lookup y.1 = some .cell ∧ ((cellsFrom (s.heap.objs.size + 1) (defScope st).names []).lookup y.1).isSome = true) := fun y hy =>
    (S.par y.1 (List.of_mem_zip (show (y.1, y.2) ∈ _ from hy)).1).elim .inl fun q => .inr ⟨q, PySem.W.cellsFrom_some _ _ _ (.inl q)⟩
  refine codeAny_call_function hr.depth (kin _ _ lk) rfl S.co S.gen rfl (PySem.W.codeRec_of kin hcd) (hb _ _ _ _ (wpAny_newFunctionEnv_cells S.kind kind fun env he s1 x => ?_))
  subst he
  have cap : Cap (cxOf CX0 P w K mg base N qual (defScope st) fa cdv A outer s H E).nox F fr ws := ⟨cells, nfr, fun y a _ h => absurd (show a ∈ ([] : List Addr) from h) (by simp)⟩
  have kq' : KQ ⟨P, w, K, CA⟩ H (fun d M' => ∃ M0, Le M0 M' ∧ Qd d M0) Q := fun _ M' v H' ⟨M0, l, q⟩ r' hR' t => kq _ M0 _ _ q r' (fun a o e => hR' a o (l a o e)) t
  have ht := PSs.nox (body cdv A outer s H E (hr.deeper _) f F pc fr ws wd C Fn cap hw)
  have I : Inv (cxOf CX0 P w K mg base N qual (defScope st) fa cdv A outer s H E) [] (L2.start N vs) H s1 := inv_start S hr.hd e0 hlv rv x
  refine ⟨lim.keeps x.toInCall.keep, codeAny_func (wpAny_mono (ht.run [] s1 (L2.start N vs) H { nx := fun _ H' => Q .non H', rt := Q } I
    ⟨DL.start N.length ds, M, Ed, endsL Qd, ⟨RelEnv.start rs, hR, kx⟩, ob _ _ _ _ _ _ _ hg, ⟨fun _ M' _ H' q _ r' t => kq' _ _ _ _ q .non r' t, kq', fun _ _ _ _ q => q.elim, fun _ _ _ _ q => q.elim⟩⟩) (fun fl s' hs => ?_) fun e s' hs => hs)⟩
  have fin : ∀ {σ' : L2.St} {H' : Hp} {v : V} {u : Value}, Inv (cxOf CX0 P w K mg base N qual (defScope st) fa cdv A outer s H E) [] σ' H' s' → RelV v u → Q v H' → CE outer P w H s Q u s' :=
    fun {σ' H' v u} J rv q => ⟨v, H', J.os, J.bare, J.base, J.hok, rv, q⟩
  match fl, hs with
  | .ret _, ⟨_, _, _, J, rv, q⟩ => exact fin J rv q
  | .next, ⟨_, _, J, q⟩ => exact fin (v := V.non) (u := Value.none) J rfl q
  | .brk, ⟨_, _, _, q⟩ => exact False.elim q
  | .cont, ⟨_, _, _, q⟩ => exact False.elim q
section
variable {X : Cx} {CA : String → Addr} {XE : XK} {e : Expr} {es : List Expr} {fs : List WE} {pos p : Pos} {x : Str} {F : NF} {f : Addr} {ps fr : List Str} {ws : List (Option V)} {wd : List (Option D)} {C : List (Option D) → FD} {CX : CXT} {k kc j : Nat} {G : Addr → NF → FD → FD}
theorem d_callF (f : Addr) (D : FnDF (cn X CA) X.mg X.base CX k kc x G) (Fn : FnC (cn X CA) X.mg X.base CX kc F ps fr C) (cap : Cap X F fr ws) (hw : RelEnv X.K X.H_0 ws wd) (hr : Room j X.A) (hk : k ≤ j) (hx : Passes CX X XE) (ha : SAs X CA XE (e :: es) fs) (hg : Gl X x := by rfl)
    (hdb : (x == ("__debug__" : Str)) = false := by decide) (he : starEach (e :: es) X.env = (false, eval e X.env) :: starEach es X.env := by rfl) (hpl : (backTo pos (starEach es X.env)).any (·.1) = false := by rfl) :
    SE X CA XE (.Call (.Name x p) (e :: es) [] pos) (eCall (G f F (C wd)) fs) := by
  obtain ⟨fa, fd, ps', FO, hm, hkp, hb⟩ := D.h
  refine ⟨fun pins s σ H Q I ⟨env, M, Ed, Qd, pr, q2, kq⟩ => ?_⟩
  refine wpAny_Call_Name_kw (ld_glob I hg hm ?_ hdb)
  refine PySem.W.callWith_K (h₀ := X.base) I.ok.mod.kin hkp (thn (ha.pa.run pos pins s σ H (fun vs H2 => ∃ ds M2, G f F (C wd) Ed ds M2 Qd ∧ Reps X.K H2 vs ds ∧ R (cn X CA) M2 H2 ∧ Tups X.K H H2) I
    ⟨env, M, Ed, _, pr, q2, fun ds M2 vs H2 a3 r2 R2 T2 _ => ⟨ds, M2, a3, r2, R2, T2⟩⟩) fun us s2 ⟨vs, H2, I2, rv, ds, M2, a3, r2, R2, T2⟩ => ⟨I2.kIn, ?_⟩) he hpl
  show wpAny _ _ (call (.ref fa) us) _ _ _
  have Tn : Tups X.K X.H_0 H2 := tups_un I2.base
  have hl : us.length = ps'.length := by rw [← rv.length, Reps.length r2]; exact FO.len _ _ _ _ _ _ _ a3
  have hbb := hb s2 us I2.kIn (by simpa using hl)
  obtain ⟨c1, c2⟩ := cap.at I2
  refine wpAny_call (codeAny_mono (FO.run X.A X.stack s2 H2 ⟨us, []⟩ us vs Q XE (hr.mono hk) I2.env0 (by simpa using hbb) rv c1 c2 Fn (hw.mono Tn) r2 R2 a3 (pr.x.mono T2) (kq.mono T2)) fun r s' hq => ?_)
  match r, hq with
  | .error e, hq => exact hx pins σ H2 s2 e s' I2 hq
  | .ok (.ret u), hq => exact I2.after hq
  | .ok .next, hq => exact False.elim hq
  | .ok .brk, hq => exact False.elim hq
  | .ok .cont, hq => exact False.elim hq
end
end DL

set_option Elab.async false
set_option linter.all false
set_option maxRecDepth 100000
set_option maxHeartbeats 4000000
/-! DN3: a function made within a def, handed on within a list comprehension; its promise by its body -/
namespace DL
open PySem PySem.Spec PyProof.Rows L2 NdefX LamX
/-- a list comprehension whose element may know what stands when its block begins (the hand layer's, turned) -/
def tLcF (G : Hp → Prop) (wi : TI) (g : TG) (tt : TT) (te : TE) (vs : List Nat) : TE := fun σ H Q => wi σ H fun J H1 => ∀ D, H1 D = none → G (upd H1 D (.lst [])) ∧ ∃ W : Nat → Nat → Hp → Prop, (∃ m, W 0 m (upd H1 D (.lst []))) ∧ ∀ i m H, W i m H →
  (J.stop i H ∧ Q (.ref D) H) ∨ (J.go i H ∧ ∃ Nx : Hp → Prop, (∀ H', Nx H' → ∃ m', m' < m ∧ W (i + 1) m' H') ∧ ∀ x H', J.yld i H x H' → g x (L2.wipe σ vs) H' fun σ2 H2 => L2.wipe σ2 vs = L2.wipe σ vs ∧ tt σ2 H2 fun b H3 =>
    if b = true then te σ2 H3 fun y H4 => ∃ acc, H4 D = some (.lst acc) ∧ acc.length < sizeLine ∧ Nx (upd H4 D (.lst (acc ++ [y]))) else Nx H3)
section
variable {X : Cx} {CA : String → Addr} {XE : XK} {tg iter : Expr} {y : Bool} {pos : Pos}
theorem lcF_core {G : Hp → Prop} {pins : List (Addr × Obj)} {s : Shared} {σ : L2.St} {H : Hp} {Q : VK} {elt tg iter : Expr} {ifs : List Expr} {scope : Scope} {own : List (Str × Nat)} {pos pos' : Pos} {wi : TI} {g : TG} {tt : TT} {te : TE} {use : Option (Value → Sem Unit)} {Qf : Value → Shared → Prop}
    (hc : X.calm = true) (hN : X.N.Nodup) (I : Inv X pins σ H s) (hi : PI X tg iter wi) (ok : BlkOk X.N X.env.scope scope own)
    (hg : ∀ (s : Shared) (H : Hp) (C : Addr) (cl : List (Str × Addr)) (fp : List Addr), PG (X.blk s H scope (compEnvC scope cl C X.env) fp) tg g) (ht : ∀ (s : Shared) (H : Hp) (C : Addr) (cl : List (Str × Addr)) (fp : List Addr), PTs (X.blk s H scope (compEnvC scope cl C X.env) fp) ifs tt)
    (he : ∀ (s : Shared) (H : Hp) (C : Addr) (cl : List (Str × Addr)) (fp : List Addr), Inv X pins σ H s → (∀ b ∈ fp, FpOk X pins H b) → G H → PE (X.blk s H scope (compEnvC scope cl C X.env) fp) elt te) (hs : ∀ x, foldedSetIterable iter X.env x = pure x)
    (h : tLcF G wi g tt te (own.map (·.2)) σ H Q)
    (hRR : ∀ D C s' m H', Inv X pins σ H' s' → Q (.ref D) H' → s'.heap.Ns C m → FpOk X pins H' C → compPost (model X.prog X.w) X.A X.xe use Qf (.ref D) C (.ok .next) s') :
    wpAny (model X.prog X.w) X.A (comprehension (.ListComp elt [⟨tg, iter, ifs, 0⟩] scope pos) scope X.env pos' (newList []) false (eval iter X.env) use) Qf X.xe s := by
  have hfree : ∀ y ∈ scope.names, y.2 = .free → ∃ c, X.env.cells.lookup y.1 = some c := fun y hy e => by
    rcases ok.free y hy e with k | k
    · exact I.ok.has _ (.inl k)
    · exact I.ok.has _ (.inr k)
  refine wpAny_comprehension_free (use := use) rfl hs (closure_ok hfree) ok.kind (fun y hy e => by rw [ok.uniq y hy, e])
    (thn (hi.run pins s σ H _ I h) fun xv s1 hx => thn hx fun itv s2 h2 => ?_)
  obtain ⟨it, fp, tn, J, H2, e, I2, T, st2, f2, q⟩ := h2
  subst e
  refine wpAny_newObj_type (newEnv_comp ?_) (by show 0 ≤ sizeLine; decide)
  generalize hD : s2.heap.objs.size = D
  have hDn : H2 D = none := I2.hok.fresh (Nat.le_of_eq hD)
  obtain ⟨hG, W, ⟨m0, w0⟩, turn⟩ := q D hDn
  -- the new list
  generalize hs3 : ({ s2 with heap := s2.heap.push { cls := .type "list", data := .seq ([] : List Value).toArray } } : Shared) = s3
  have I3 : Inv X pins σ (upd H2 D (.lst [])) s3 := by
    rw [← hs3]
    refine I2.laid (t' := s2.toks) (fun b o e => Heap.get?_push_of_some _ e) (Nat.le_of_eq hD) ⟨Nat.zero_le _, [], 0, .nil, ?_⟩
    rw [← hD]
    exact Heap.get?_push_size _ rfl
  have h3 : s3.heap = s2.heap.push { cls := .type "list", data := .seq ([] : List Value).toArray } := by rw [← hs3]
  have sz : ∀ b ∈ fp, b < s2.heap.objs.size := fun b hb => by
    obtain ⟨o, e, _⟩ := T.obj _ _ st2 b hb
    exact Heap.lt_size e
  have f3 : ∀ b ∈ fp, FpOk X pins (upd H2 D (.lst [])) b ∧ b < s3.heap.objs.size := fun b hb => by
    have hlt := sz b hb
    refine ⟨⟨?_, (f2 b hb).2⟩, by rw [h3, Heap.size_push]; exact Nat.lt_succ_of_lt hlt⟩
    rw [upd_ne (by rw [← hD]; exact Nat.ne_of_lt hlt)]
    exact (f2 b hb).1
  have st3 : tn 0 s3.heap := T.keep _ _ _ st2 fun b _ o e => by rw [h3]; exact Heap.get?_push_of_some _ e
  have I4 := block_start I3 ok hN f3
  have pg := hg s3 (upd H2 D (.lst [])) s3.heap.objs.size (cellsFrom (s3.heap.objs.size + 1) scope.names (cloFrom X.env.cells scope.names [])) fp
  have pt := ht s3 (upd H2 D (.lst [])) s3.heap.objs.size (cellsFrom (s3.heap.objs.size + 1) scope.names (cloFrom X.env.cells scope.names [])) fp
  have pe := he s3 (upd H2 D (.lst [])) s3.heap.objs.size (cellsFrom (s3.heap.objs.size + 1) scope.names (cloFrom X.env.cells scope.names [])) fp I3 (fun b hb => (f3 b hb).1) hG
  show codeAny _ _ (.compStart (.ListComp elt [⟨tg, iter, ifs, 0⟩] scope pos) 0 (.ref it) (.ref D) (compEnvC scope (cellsFrom (s3.heap.objs.size + 1) scope.names (cloFrom X.env.cells scope.names [])) s3.heap.objs.size X.env)) (compPost (model X.prog X.w) X.A X.xe use Qf (.ref D) s3.heap.objs.size) { s3 with heap := pushCells (s3.heap.push { cls := .type "dict", data := .dict #[] }) scope.names }
  have nfp : ∀ b ∈ fp, (upd H2 D (.lst [])) b = none := fun b hb => (f3 b hb).1.1
  generalize hce : compEnvC scope (cellsFrom (s3.heap.objs.size + 1) scope.names (cloFrom X.env.cells scope.names [])) s3.heap.objs.size X.env = ce at I4 pg pt pe ⊢
  have cL : ce.locals = s3.heap.objs.size := by subst hce; rfl
  generalize hH3 : upd H2 D (.lst []) = H3 at I3 I4 pg pt pe w0 nfp f3
  generalize hs4 : ({ s3 with heap := pushCells (s3.heap.push { cls := .type "dict", data := .dict #[] }) scope.names } : Shared) = s4 at I4 ⊢
  have st4 : tn 0 s4.heap := T.keep _ _ _ st3 fun b _ o e => by rw [← hs4]; exact pushCells_keeps _ _ _ _ (Heap.get?_push_of_some _ e)
  have stat : ∀ {σ' : L2.St} {H' : Hp} {s' : Shared}, Inv (X.blk s3 H3 scope ce fp) [] σ' H' s' → (∀ b ∈ fp, H' b = none) → ∀ b ∈ fp, FpOk (X.blk s3 H3 scope ce fp) [] H' b := fun {σ' H' s'} I' hn b hb =>
    ⟨hn b hb, (I'.ok.exf b hb).1, I'.ok.exfs b hb, .inl hb, fun x c e => (I'.ok.exf b hb).2 x c e, fun p hp => absurd (show p ∈ ([] : List (Addr × Obj)) ++ [] from hp) (by simp)⟩
  have loop : codeAny (model X.prog X.w) X.A (.compLoop (.ListComp elt [⟨tg, iter, ifs, 0⟩] scope pos) 0 (.ref it) (.ref D) ce) (compPost (model X.prog X.w) X.A X.xe use Qf (.ref D) s3.heap.objs.size) s4 := by
    refine compLoop_any (fun n s' => ∃ i H', Inv (X.blk s3 H3 scope ce fp) [] (L2.wipe σ (own.map (·.2))) H' s' ∧ tn i s'.heap ∧ (∀ b ∈ fp, H' b = none) ∧ W i n H') ?_ m0 ⟨0, H3, I4, st4, nfp, w0⟩
    rintro n s5 ⟨i, H5, I5, st5, n5, w5⟩
    rcases turn i n H5 w5 with ⟨stop, qq⟩ | ⟨go, Nx, hNx, step⟩
    · have td := T.done (X.blk s3 H3 scope ce fp) rfl rfl rfl hc i [] s5 _ H5 (fun _ _ => False) I5 (stat I5 n5) st5 stop
      refine thnF td fun r s6 ⟨hr, I6⟩ => ?_
      subst hr
      -- back in the def's context
      have I7 : Inv X pins σ H5 s6 := I3.call' (ch := fp) I6.os I6.base I6.hok I6.bare fun b hb => ⟨(f3 b hb).1.2.2.2.1, (f3 b hb).1.2.1, (f3 b hb).1.2.2.2.2.1, (f3 b hb).1.2.2.2.2.2⟩
      have nC : H5 s3.heap.objs.size = none := by
        have z : H5 ce.locals = none := I6.free
        rw [cL] at z
        exact z
      obtain ⟨m, hn, _⟩ := I6.loc
      have hn : s6.heap.Ns ce.locals m := hn
      rw [cL] at hn
      exact hRR D s3.heap.objs.size s6 m H5 I7 qq hn (I3.fpOk (Nat.le_refl _) nC)
    · have ti := T.item (X.blk s3 H3 scope ce fp) rfl rfl rfl hc i [] s5 _ H5 (fun _ _ => False) I5 (stat I5 n5) st5 go
      refine thnF ti fun r s6 ⟨u, hr, h6⟩ => ?_
      subst hr
      refine thnF h6 fun _ s7 ⟨x, H7, I7, r7, y7, st7, n7⟩ => ?_
      have I7' := I7.pinned (stat I7 n7) (T.obj _ _ st7)
      refine thnF (pg.run _ s7 _ H7 x u _ I7' r7 (step x H7 y7)) fun _ s8 ⟨σ8, H8, I8, hw8, q8⟩ => ?_
      refine thnF (pt.run _ s8 σ8 H8 _ I8 q8) fun b s9 ⟨H9, I9, q9⟩ => ?_
      -- the turn's end
      have fin : ∀ {s' : Shared} {H' : Hp}, Inv (X.blk s3 H3 scope ce fp) ([] ++ pinsAt fp s7.heap) σ8 H' s' → Nx H' → ∃ m, m < n ∧ ∃ i H', Inv (X.blk s3 H3 scope ce fp) [] (L2.wipe σ (own.map (·.2))) H' s' ∧ tn i s'.heap ∧ (∀ b ∈ fp, H' b = none) ∧ W i m H' := fun {s' H'} I' nx => by
        obtain ⟨m', hm, w'⟩ := hNx H' nx
        have pin' : ∀ b ∈ fp, ∀ o, s7.heap.get? b = some o → s'.heap.get? b = some o ∧ H' b = none := fun b hb o e =>
          let z := I'.pin (b, o) (List.mem_append_right _ (List.mem_append_right _ (mem_pinsAt hb e)))
          ⟨z.1, z.2.1⟩
        have hl : (L2.wipe σ (own.map (·.2))).length = σ8.length := by rw [← hw8, L2.wipe_length]
        refine ⟨m', hm, i + 1, H', (I'.unpinned (pins := [])).weak hl (fun j v e => ?_), T.keep _ _ _ st7 fun b hb o e => (pin' b hb o e).1, fun b hb => ?_, w'⟩
        · rw [← hw8] at e
          exact (L2.wipe_some e).1
        · obtain ⟨o, e, _⟩ := T.obj _ _ st7 b hb
          exact (pin' b hb o e).2
      cases b with
      | false =>
        simp only [Bool.false_eq_true, if_false] at q9 ⊢
        exact fin I9 q9
      | true =>
        simp only [if_true] at q9 ⊢
        refine thnF (pe.run _ s9 σ8 H9 _ I9 q9) fun z s10 ⟨yv, H10, I10, r10, acc, hD10, hz10, nx⟩ => ?_
        exact app_ok (X := X.blk s3 H3 scope ce fp) I10 hD10 hz10 r10 fun s11 I11 => fin I11 nx
  exact codeAny_compStart_list loop (T.self X.A 0 _ _ _ st4 loop)

theorem compF_of {G : Hp → Prop} {own : List Nat} {t : WT} {f : WE} {src : WI} {gt : WG} {σ : L2.St} {H : Hp} {Q : VK} {env : Ev} {M : Sto} {Ed : XW} {Qd : KD} (p : Pre (cn X CA) XE σ H env M Ed) (q : eComp src own gt t f Ed env M Qd) (k : KQ (cn X CA) H Qd Q) (hG : ∀ H', Tups X.K H H' → G H') :
    tLcF G (tOfI y (cn X CA) XE src) (tOfG y (cn X CA) E0 own gt) (tOfT (cn X CA) E0 t) (tOf (cn X CA) E0 f) own σ H Q := by
  refine ⟨env, M, Ed, _, p, q, fun chk xs M1 H1 J q1 R1 T1 it => fun D hD => ?_⟩
  obtain ⟨Rl, Tl⟩ := lay_lst (c := cn X CA) hD .nil R1
  have q1 := q1 D (R1.fresh hD)
  refine ⟨hG _ (T1.trans Tl), fun i m H' => m = xs.length - i ∧ i ≤ xs.length ∧ ∃ M', R (cn X CA) M' H' ∧ Tups X.K H1 H' ∧ compL D own gt t f env chk (xs.drop i) M' fun M2 => Qd (.ref D) M2, ⟨xs.length, by simp, Nat.zero_le _, _, Rl, Tl, by rw [List.drop_zero]; exact q1⟩, ?_⟩
  rintro i m H' ⟨rfl, hi, M', R', T', q'⟩
  by_cases hlt : i < xs.length
  · rw [drop_get hlt] at q'
    obtain ⟨hck, q'⟩ := q'
    refine .inr ⟨it.go i H' M' T' R' hck hlt, fun H2 => (xs.length - (i + 1)) = xs.length - (i + 1) ∧ i + 1 ≤ xs.length ∧ ∃ M', R (cn X CA) M' H2 ∧ Tups X.K H1 H2 ∧ compL D own gt t f env chk (xs.drop (i + 1)) M' fun M2 => Qd (.ref D) M2, fun H2 h2 => ⟨xs.length - (i + 1), by omega, h2⟩, fun x H2 yl => ?_⟩
    obtain ⟨rx, R2, T2⟩ := it.yld i H' x H2 M' T' R' hck yl xs[i] (List.getElem?_eq_getElem hlt)
    refine ⟨xs[i], DL.wipe env own, M', X0, _, rx, ⟨(p.e.wipe own).mono (T1.trans (T'.trans T2)), R2, KX.no⟩, q', fun env3 M3 σ3 H3 q3 e3 R3 T3 O3 => ⟨O3.wipe, ?_⟩⟩
    refine ⟨env3, M3, X0, _, ⟨e3, R3, KX.no⟩, q3, fun b M4 H4 q4 R4 T4 => ?_⟩
    have T5 : Tups X.K H1 H4 := T'.trans (T2.trans (T3.trans T4))
    cases b with
    | false => exact ⟨rfl, hlt, M4, R4, T5, q4⟩
    | true =>
      refine ⟨env3, M4, X0, _, ⟨e3.mono T4, R4, KX.no⟩, q4, fun d M6 v H6 q6 r6 R6 T6 => ?_⟩
      split at q6
      · obtain ⟨ws, h1, rr⟩ := R6 _ _ (by assumption)
        obtain ⟨a1, a2⟩ := wr_lst (c := cn X CA) R6 (by assumption) h1 (rr.append (.cons r6 .nil))
        exact ⟨ws, h1, by rw [rr.length]; exact q6.1, rfl, hlt, _, a1, T5.trans (T6.trans a2), q6.2⟩
      · exact q6.elim
  · have e : i = xs.length := by omega
    subst e
    rw [List.drop_length] at q'
    exact .inl ⟨it.stop H' M' T' R' q'.1, k _ _ _ _ q'.2 (.ref D) R' (T1.trans T')⟩
/-- what the slots js hold, handed to the element -/
def eCompF (src : WI) (vs : List Nat) (g : WG) (t : WT) (js : List Nat) (f : List (Option D) → WE) : WE := fun E env M Q => eComp src vs g t (f (js.map (DL.gt env))) E env M Q
@[simp] theorem eCompF_s {src : WI} {vs : List Nat} {g : WG} {t : WT} {js : List Nat} {f : List (Option D) → WE} {E : XW} {env : Ev} {M : Sto} {Q : KD} : eCompF src vs g t js f E env M Q = eComp src vs g t (f (js.map (DL.gt env))) E env M Q := id rfl
theorem env_slots {K : PySem.W.Frag} {H : Hp} {σ : L2.St} {env : Ev} (e : RelEnv K H σ env) : ∀ js : List Nat, RelEnv K H (js.map (slotAt σ)) (js.map (DL.gt env))
  | [] => .nil
  | j :: js => .cons (fun d ed => let ⟨v, a, b⟩ := RelEnv.get e ed; ⟨v, slotAt_of a, b⟩) (env_slots e js)
theorem RelEnv.len2 {K : PySem.W.Frag} {H : Hp} : ∀ {σ : L2.St} {env : Ev}, RelEnv K H σ env → σ.length = env.length
  | _, _, .nil => rfl
  | _, _, .cons _ r => congrArg (· + 1) (RelEnv.len2 r)
theorem RelEnv.app2 {K : PySem.W.Frag} {H : Hp} : ∀ {σ σ' : L2.St} {env env' : Ev}, RelEnv K H σ env → RelEnv K H σ' env' → RelEnv K H (σ ++ σ') (env ++ env')
  | _, _, _, _, .nil, r => r
  | _, _, _, _, .cons h s, r => .cons h (RelEnv.app2 s r)
theorem cap_blk {F : NF} {fr : List Str} {js : List Nat} {scope : Scope} {cenv : Env} {fp : List Addr} {pins : List (Addr × Obj)} {σ : L2.St} {H : Hp} {s : Shared} (I : Inv X pins σ H s) (hf : ∀ b ∈ fp, FpOk X pins H b) (c : Caps X F.cl fr js) (hfn : ∀ x, X.fn x = true) :
    Cap (X.blk s H scope cenv fp) F fr (js.map (slotAt σ)) := by
  refine ⟨cells_of I c, fun y a e hc => ?_, fun y a e hx => (hf a hx).2.2.2.2.1 y a (c.sub y a e) rfl⟩
  have ea := c.sub y a e
  have hc : a ∈ frs X.stack := hc
  rcases List.mem_cons.mp (I.stkSub a hc) with h | h
  · exact I.cne y a ea h
  · obtain ⟨_, o, ho, _⟩ := I.ok.funs.mem h
    exact absurd (Nat.lt_of_lt_of_le (Heap.lt_size ho) (I.ok.cab y a (hfn y) ea)) (Nat.lt_irrefl _)
theorem d_compF {F : NF} {fr : List Str} {elt : Expr} {ifs : List Expr} {scope : Scope} {own : List (Str × Nat)} {src : WI} {gt : WG} {t : WT} {f : List (Option D) → WE} (js : List Nat) (cp : X.Ok → Caps X F.cl fr js) (hfn : ∀ x, X.fn x = true) (hc : X.calm = true) (hN : X.N.Nodup) (hi : SI y X CA XE tg iter src) (ok : BlkOk X.N X.env.scope scope own)
    (hg : ∀ (s : Shared) (H : Hp) (C : Addr) (cl : List (Str × Addr)) (fp : List Addr), SG y (X.blk s H scope (compEnvC scope cl C X.env) fp) CA E0 (own.map (·.2)) tg gt)
    (ht : ∀ (s : Shared) (H : Hp) (C : Addr) (cl : List (Str × Addr)) (fp : List Addr), STs (X.blk s H scope (compEnvC scope cl C X.env) fp) CA E0 ifs t)
    (he : ∀ (s : Shared) (H : Hp) (C : Addr) (cl : List (Str × Addr)) (fp : List Addr) (ws : List (Option V)) (wd : List (Option D)), Cap (X.blk s H scope (compEnvC scope cl C X.env) fp) F fr ws → RelEnv X.K H ws wd → SE (X.blk s H scope (compEnvC scope cl C X.env) fp) CA E0 elt (f wd)) (hs : ∀ x, foldedSetIterable iter X.env x = pure x := by intro _; rfl) :
    SE X CA XE (.ListComp elt [⟨tg, iter, ifs, 0⟩] scope pos) (eCompF src (own.map (·.2)) gt t js f) :=
  ⟨fun pins s σ H Q I ⟨env, M, Ed, Qd, p, q, k⟩ => by
    rw [eval_ListComp]
    refine lcF_core (G := fun H' => RelEnv X.K H' (js.map (slotAt σ)) (js.map (DL.gt env))) (g := tOfG y (cn X CA) E0 (own.map fun z : Str × Nat => z.2) gt) (tt := tOfT (cn X CA) E0 t) (te := tOf (cn X CA) E0 (f (js.map (DL.gt env)))) hc hN I hi ok hg ht
      (fun s H C cl fp I' f' hG => he s H C cl fp _ _ (cap_blk I' f' (cp I'.ok) hfn) hG) hs (compF_of p q k fun H' T => env_slots (p.e.mono T) js) fun D C s' m H' I' q hn f => ⟨m, hn, fun h'' sb => ?_⟩
    obtain ⟨f0, f1, f2, f3, f4, f5⟩ := f
    exact ⟨.ref D, H', I'.turned (t' := s'.toks) (fun b o hb e => (sb.2 b hb).trans e) f0 f1 f3 f4 f5, rfl, q⟩⟩
end
/-- a function made within a def: its promise by its body -/
theorem nok_d {P : Program} {w : World} {K : PySem.W.Frag} {mg : Str → Option Value} {base : Heap} {CA : String → Addr} {N ps fr : List Str} {F : NF} {k : Nat} {C : List (Option D) → FD} {gb : WS} (S : NScope N ps fr F.scope)
    (hb : ∀ (doc pm ctv : Value) (us : List Value), us.length = ps.length → bindArgs (F.fd doc pm ctv) ⟨us, []⟩ = pure (ps.zip us)) (hl : ∀ wd E ds M Q, C wd E ds M Q → ds.length = ps.length)
    (body : ∀ (f : Addr) (A : Around) (outer : List Env) (s : Shared) (H : Hp) (E : XK), Room k (A.deeper (envF F f s.heap.objs.size)) → SSs (ncx CX0 P w K mg base N F f A outer s H E).nox CA E F.body gb)
    (ob : ∀ wd E ds M Q, wd.length = fr.length → C wd E ds M Q → gb E (endsL Q) (ds.map some ++ (wd ++ List.replicate (N.length - ds.length - wd.length) none)) M) : FnC ⟨P, w, K, CA⟩ mg base CX0 (k + 1) F ps fr C := fun f =>
  nok_of S hb (fun ws vs H Q E ⟨wd, ds, M, Ed, Qd, _, r, _, hC, _, _⟩ => by rw [Reps.length r]; exact hl _ _ _ _ _ hC) fun A outer s H vs ws Q E hr hf hc lw ⟨wd, ds, M, Ed, Qd, rw', r, hR, hC, kx, kq⟩ => by
    have kq' : KQ ⟨P, w, K, CA⟩ H (fun d M' => ∃ M0, Le M0 M' ∧ Qd d M0) Q := fun _ M' v H' ⟨M0, l, q⟩ r' hR' t => kq _ M0 _ _ q r' (fun a o e => hR' a o (l a o e)) t
    have lwd : wd.length = fr.length := by rw [← lw]; exact (rw'.len2).symm
    refine ⟨_, PSs.nox (body f A outer s H E hr), ds.map some ++ (wd ++ List.replicate (N.length - ds.length - wd.length) none), M, Ed, endsL Qd, ⟨?_, hR, kx⟩, ob _ _ _ _ _ lwd hC, ⟨fun _ M' _ H' q _ r' t => kq' _ _ _ _ q .non r' t, kq', fun _ _ _ _ q => q.elim, fun _ _ _ _ q => q.elim⟩⟩
    unfold startF
    rw [show vs.length = ds.length from Reps.length r, lw, lwd]
    exact RelEnv.app r (RelEnv.app2 rw' (RelEnv.nones _))
end DL

set_option Elab.async false
set_option linter.all false
set_option maxRecDepth 100000
set_option maxHeartbeats 4000000
/-! DN4: a def that makes functions; the end of a law with tables of code objects, of which it is known that no text of an object is being made around it -/
namespace DL
open PySem PySem.Spec PyProof.Rows L2 NdefX LamX
/-- as fn_l, of a def whose code object is known (it makes functions) -/
theorem fn_lT {P : Program} {w : World} {K : PySem.W.Frag} {mg : Str → Option Value} {base : Heap} {CA : String → Addr} {x qual : Str} {st : Stmt} {f c : Addr} {fd : FuncData} {N ps : List Str} {k : Nat} {g : FD} {gb : WS} (F : Fun K x qual st f fd) (hco : fd.code = .ref c) (S : FnScope N ps (defScope st)) (hl : ∀ E ds M Q, g E ds M Q → ds.length = ps.length)
    (body : ∀ (cdv : Value) (_ : cdv = .ref c) (A : Around) (outer : List Env) (s : Shared) (H : Hp) (E : XK), Room k (A.deeper (envOfC qual (defScope st) s.heap.objs.size f cdv)) →
      SSs (cxOf CX0 P w K mg base N qual (defScope st) f cdv A outer s H E).nox CA E (defBody st) gb)
    (ob : ∀ E ds M Q, g E ds M Q → gb E (endsL Q) (DL.start N.length ds) M) : FnOk P w K mg base CX0 (k + 1) f fd ps (spOf ⟨P, w, K, CA⟩ g) := by
  obtain ⟨oc, od, kV, doc, pm, an, cdv, ct, osl, rfl, lk, hcd⟩ := F.ex
  have hcv : cdv = .ref c := hco
  refine fn_of lk hcd S (fun vs H Q E ⟨ds, M, Ed, Qd, r, hR, hg, kx, kq⟩ => by rw [Reps.length r]; exact hl _ _ _ _ hg) fun A outer s H vs Q E hr ⟨ds, M, Ed, Qd, r, hR, hg, kx, kq⟩ => ?_
  have kq' : KQ ⟨P, w, K, CA⟩ H (fun d M' => ∃ M0, Le M0 M' ∧ Qd d M0) Q := fun _ M' v H' ⟨M0, l, q⟩ r' hR' t => kq _ M0 _ _ q r' (fun a o e => hR' a o (l a o e)) t
  exact ⟨_, PSs.nox (body cdv hcv A outer s H E hr), DL.start N.length ds, M, Ed, endsL Qd, ⟨RelEnv.start r, hR, kx⟩, ob _ _ _ _ hg, ⟨fun _ M' _ H' q _ r' t => kq' _ _ _ _ q .non r' t, kq', fun _ _ _ _ q => q.elim, fun _ _ _ _ q => q.elim⟩⟩
/-! ## the law's end -/
/-- what a law is given, and these tables, empty -/
def lawST (Ps : List Addr) : FD := fun E ds M Q => lawS E ds M Q ∧ Ps.Nodup ∧ ∀ P ∈ Ps, M P = some (.tab [])
theorem lenST {Ps : List Addr} : ∀ E ds M Q, lawST Ps E ds M Q → ds.length = 1 := fun E ds M Q h => len1 E ds M Q h.1
theorem law_callTsG {P : Program} {w : World} {K : PySem.W.Frag} {mg mb : Str → Option Value} {fa a : Addr} {cs : List (Addr × Addr)} {fd : FuncData} {x : Str} {sp : Sp} {s₁ : Shared} {vs : List Value} {ns : List Int}
    (KX : K.In s₁.heap) (hns : s₁.heap.Ns mainGlobals mg) (hb : s₁.heap.Ns builtinsNs mb) (hbb : ∀ x : Str, x ≠ "__name__" → mb x = bootBuiltins x) (hlim : s₁.heap.NoLimit) (hg : s₁.gens = #[])
    (hT : ∀ p ∈ cs, s₁.heap.get? p.2 = some { cls := .none, data := .fields #[] }) (nT : ∀ p ∈ cs, K.lookup p.2 = none) (C : ∀ p ∈ cs, PySem.W.CodeHd s₁.heap p.1 p.2)
    (hbm : ∃ (bm : Addr) (ob : Obj), mg "__builtins__" = some (.ref bm) ∧ bm ≠ builtinsNs ∧ s₁.heap.get? bm = some ob ∧ ob.cls = .type "module" ∧ ob.dict = some builtinsNs ∧ ob.data = .plain)
    (ha : s₁.heap.get? a = some { cls := .type "list", data := .seq vs.toArray }) (hi : IntsAre vs ns) (hl : ns.length ≤ sizeLine)
    (F : ∀ base : Heap, K.In base → base.Ns mainGlobals mg → (∀ p ∈ cs, TabB base mg p.1 p.2) → FnOkG P w K mg base fa fd [x] sp) (hbind : ∀ (s : Shared) (u : Value), BindsTo s fd ⟨[u], []⟩ [(x, u)])
    (hsp : ∀ H : Hp, (∀ p ∈ cs, H p.2 = some (.tbl #[])) → (∀ b, H b = none ∨ b ∈ cs.map (·.2) ∨ ∃ o xs, H b = some (.frz o (.lst xs))) → a ∉ cs.map (·.2) → SqL K H a (ns.map V.int) → sp [.ref a] H (fun v _ => v = .bl true) fun _ _ _ => False) :
    codeAny (model P w) callerA (.call (.ref fa) ⟨[.ref a], []⟩) (fun r s' => r = .ok (.ret (.bool true)) ∧ OldK s₁.heap s'.heap ∧ s'.os = s₁.os ∧ AllBare s'.gens) s₁ := by
  have rv := vals_ints hi
  have lenV := hi.length
  have isT : ∀ b : Addr, b ∈ cs.map (·.2) → s₁.heap.get? b = some { cls := .none, data := .fields #[] } := fun b hb => by
    obtain ⟨p, hp, e⟩ := List.mem_map.mp hb
    rw [← e]
    exact hT p hp
  have aT : a ∉ cs.map (·.2) := fun z => by
    have q := isT a z
    rw [ha] at q
    have z' : Data.seq vs.toArray _ = Data.fields #[] := congrArg Obj.data (Option.some.inj q)
    cases z'
  have memT : ∀ p ∈ cs, p.2 ∈ cs.map (·.2) := fun p hp => List.mem_map.mpr ⟨p, hp, rfl⟩
  -- from an abstract heap in which nothing but the script and the tables may be tracked
  have core : ∀ H : Hp, (∀ p ∈ cs, H p.2 = some (.tbl #[])) → (∀ b, H b = none ∨ b ∈ cs.map (·.2) ∨ ∃ o xs, H b = some (.frz o (.lst xs))) → SqL K H a (ns.map V.int) → HOk P w H s₁.heap → (∀ b, H b ≠ none → b = a ∨ b ∈ cs.map (·.2)) → (H a ≠ none → K.lookup a = none) →
      codeAny (model P w) callerA (.call (.ref fa) ⟨[.ref a], []⟩) (fun r s' => r = .ok (.ret (.bool true)) ∧ OldK s₁.heap s'.heap ∧ s'.os = s₁.os ∧ AllBare s'.gens) s₁ := by
    intro H hH hO hS hok hA hK
    have base_of : ∀ {b : Addr} {o : Obj}, s₁.heap.get? b = some o → H b = none → (hidT s₁.heap H).get? b = some o := fun e n => hidT_get e n
    have noD : ∀ {b : Addr} {o : Obj}, s₁.heap.get? b = some o → (∀ vs n, o.data ≠ .seq vs n) → o.data ≠ .fields #[] → H b = none := fun {b o} e h1 h2 => by
      cases q : H b with
      | none => rfl
      | some u =>
        rcases hA b (by rw [q]; simp) with e' | e'
        · rw [e', ha] at e
          cases e
          exact (h1 _ _ rfl).elim
        · rw [isT b e'] at e
          cases e
          exact (h2 rfl).elim
    have noA : ∀ {b : Addr} {o : Obj} {es : Array DictEntry} {ep : Nat}, s₁.heap.get? b = some o → o.data = .dict es ep → H b = none := fun {b o es ep} e d => by
      refine noD e (fun vs n z => ?_) fun z => ?_
      · rw [d] at z
        cases z
      · rw [d] at z
        cases z
    have nsK : ∀ {b : Addr} {m : Str → Option Value}, s₁.heap.Ns b m → (hidT s₁.heap H).Ns b m := fun {b m} ⟨o, es, ep, e, d, r⟩ => ⟨o, es, ep, base_of e (noA e d), d, r⟩
    have hKb : K.In (hidT s₁.heap H) := fun b o e => base_of (KX b o e) (by
      cases q : H b with
      | none => rfl
      | some u =>
        rcases hA b (by rw [q]; simp) with e' | e'
        · rw [e'] at e q
          rw [hK (by rw [q]; simp)] at e
          cases e
        · obtain ⟨p, hp, ep⟩ := List.mem_map.mp e'
          rw [← ep, nT p hp] at e
          cases e)
    have hM : L2.Mod K mg (hidT s₁.heap H) := ⟨hKb, nsK hns, ⟨mb, nsK hb, hbb⟩, let ⟨mc, h1, h2⟩ := hlim; ⟨mc, nsK h1, h2⟩⟩
    have TB : ∀ p ∈ cs, TabB (hidT s₁.heap H) mg p.1 p.2 := fun p hp => by
      have hTp := hT p hp
      refine ⟨?_, ?_, fun z => ?_⟩
      · obtain ⟨o, us, file, tf, flags, tg, inF, text, tt, e1, r1, r2, r3, r4, r5, r6, r7, r8, hne⟩ := C p hp
        refine ⟨o, us, file, tf, flags, tg, inF, text, tt, base_of e1 (noD e1 (fun vs n z => ?_) fun z => ?_), r1, r2, r3, r4, r5, r6, r7, r8, hne⟩
        · rw [r2] at z
          cases z
        · rw [r2] at z
          cases z
          simp at r3
      · obtain ⟨bm, ob, b1, b2, b3, b4, b5, b6⟩ := hbm
        have nG : bm ≠ mainGlobals := fun q => by
          obtain ⟨o, es, ep, e, hd, _⟩ := hns
          rw [q, e] at b3
          cases b3
          rw [hd] at b6
          cases b6
        have nP : bm ≠ p.2 := fun q => by
          rw [q, hTp] at b3
          cases b3
          cases b6
        refine ⟨bm, ob, b1, b2, nG, nP, base_of b3 (noD b3 (fun vs n z => ?_) fun z => ?_), b4, b5, b6⟩
        · rw [b6] at z
          cases z
        · rw [b6] at z
          cases z
      · obtain ⟨o, es, ep, e, hd, _⟩ := hns
        rw [z, hTp] at e
        cases e
        cases hd
    have e0 : Env0 P w K mg (hidT s₁.heap H) callerA [] s₁ H := ⟨rfl, hM, fun b o e => of_hidT e, Nat.le_of_eq (hidT_size _ _), trivial, fun b hb => absurd (show b ∈ ([] : List Addr) from hb) (by simp), hok, .of_eq hg⟩
    refine codeAny_mono ((F _ hKb (nsK hns) TB).run s₁ H ⟨[.ref a], []⟩ [.ref a] [.ref a] _ _ e0 (hbind s₁ (.ref a)) (.cons rfl .nil) (hsp H hH hO aT hS)) fun r s' h => ?_
    cases r with
    | error e => exact False.elim h
    | ok fl =>
      cases fl with
      | next => exact False.elim h
      | brk => exact False.elim h
      | cont => exact False.elim h
      | ret u =>
        obtain ⟨v, H', os, bare, un, hok', r', q⟩ := h
        have q' : v = .bl true := q
        subst q'
        obtain rfl : u = Value.bool true := r'
        have key : ∀ b o, b ∉ cs.map (·.2) → s₁.heap.get? b = some o → s'.heap.get? b = some o := fun b o nb e => by
          cases q : H b with
          | none => exact un.keep b o e q (by intro z; exact absurd (show b ∈ ([] : List Addr) from z) (by simp)) (by simp)
          | some u =>
            rcases hO b with z | z | ⟨ob, xs, z⟩
            · rw [q] at z; cases z
            · exact absurd z nb
            · have z2 := un.frzs b ob _ z
              obtain ⟨e1, _⟩ := hok b _ z
              obtain ⟨e2, _⟩ := hok' b _ z2
              rw [e] at e1; cases e1
              exact e2
        have grown : ∀ p ∈ cs, ∃ more : Array Value, s'.heap.get? p.2 = some { cls := .none, data := .fields more } := fun p hp => by
          obtain ⟨more, z⟩ := un.tbls p.2 #[] (hH p hp)
          exact ⟨_, hok' p.2 _ z⟩
        refine ⟨rfl, ⟨fun b o e => ?_, fun b o e => ?_⟩, os, bare⟩
        · by_cases hb : b ∈ cs.map (·.2)
          · obtain ⟨p, hp, ep⟩ := List.mem_map.mp hb
            obtain ⟨more, hm⟩ := grown p hp
            rw [← ep] at e ⊢
            rw [hT p hp] at e
            cases e
            exact .inr (.inl ⟨((C p hp).tab (hT p hp)).isCodeTable, rfl, #[], more, rfl, by rw [Array.empty_append]; exact hm⟩)
          · exact .inl (key b o hb e)
        · by_cases hb : b ∈ cs.map (·.2)
          · obtain ⟨p, hp, ep⟩ := List.mem_map.mp hb
            obtain ⟨more, hm⟩ := grown p hp
            rw [← ep]
            exact ⟨_, hm⟩
          · exact ⟨o, key b o hb e⟩
  cases hk : K.lookup a with
  | some o =>
    have e := KX a o hk
    rw [ha] at e
    cases e
    refine core (fun b => if b ∈ cs.map (·.2) then some (.tbl #[]) else none) (fun p hp => if_pos (memT p hp)) (fun b => ?_) (.inr ⟨_, vs.toArray, _, hk, rfl, rfl, rfl, by rw [List.size_toArray, lenV]; exact hl, by simpa using rv⟩) (fun b u z => ?_) (fun b z => ?_) fun z => absurd (show (if a ∈ cs.map (·.2) then some (HO.tbl #[]) else none) = none from if_neg aT) z
    · by_cases hb : b ∈ cs.map (·.2)
      · exact .inr (.inl hb)
      · exact .inl (if_neg hb)
    · by_cases hb : b ∈ cs.map (·.2)
      · have z' := (if_pos hb).symm.trans z
        cases z'
        exact isT b hb
      · have z' := (if_neg hb).symm.trans z
        cases z'
    · by_cases hb : b ∈ cs.map (·.2)
      · exact .inr hb
      · exact absurd (if_neg hb) z
  | none =>
    refine core (fun b => if b = a then some (.frz { cls := .type "list", data := .seq vs.toArray } (.lst (ns.map V.int))) else if b ∈ cs.map (·.2) then some (.tbl #[]) else none) (fun p hp => (if_neg (show ¬ p.2 = a from fun z => aT (by rw [← z]; exact memT p hp))).trans (if_pos (memT p hp))) (fun b => ?_)
      (.inl (.inr ⟨{ cls := .type "list", data := .seq vs.toArray }, if_pos rfl⟩)) (fun b u z => ?_) (fun b z => ?_) fun _ => hk
    · by_cases hb : b = a
      · exact .inr (.inr ⟨_, _, if_pos hb⟩)
      · by_cases hb2 : b ∈ cs.map (·.2)
        · exact .inr (.inl hb2)
        · exact .inl ((if_neg hb).trans (if_neg hb2))
    · by_cases hb : b = a
      · have z' := (if_pos hb).symm.trans z
        cases z'
        rw [hb]
        exact ⟨ha, by rw [List.length_map]; exact hl, vs, _, rv, ha⟩
      · have z1 := (if_neg hb).symm.trans z
        by_cases hb2 : b ∈ cs.map (·.2)
        · have z' := (if_pos hb2).symm.trans z1
          cases z'
          exact isT b hb2
        · have z' := (if_neg hb2).symm.trans z1
          cases z'
    · by_cases hb : b = a
      · exact .inl hb
      · by_cases hb2 : b ∈ cs.map (·.2)
        · exact .inr hb2
        · exact absurd ((if_neg hb).trans (if_neg hb2)) z

theorem law_walkT {l : PySem.W.OpenLaw} {q : Program} {loose : List Str} {XP : (Str → Option Value) → Heap → Prop} {YP : World → Heap → Prop} {d : DefRec} {K : Params → PySem.W.Frag} (CAw : World → String → Addr)
    (hn : l.most = some 63) (hdf : d.params.defaults = []) (hY : ∀ (w : World) (h : Heap), YP w h → (K w.params).In h)
    (F : ∀ (w : World) (mg : Str → Option Value) (fa : Addr) (h : Heap), YP w h → (K w.params).In h → h.Ns mainGlobals mg → mg d.name = some (.ref fa) →
      ∃ (fd : FuncData) (cs : List (Addr × Addr)), (cs.map (·.2)).Nodup ∧ (∀ p ∈ cs, h.get? p.2 = some { cls := .none, data := .fields #[] }) ∧ (∀ p ∈ cs, (K w.params).lookup p.2 = none) ∧ (∀ p ∈ cs, PySem.W.CodeHd h p.1 p.2) ∧ (∀ (s : Shared) (u : Value), BindsTo s fd ⟨[u], []⟩ [("script", u)]) ∧
        ∀ base : Heap, (K w.params).In base → base.Ns mainGlobals mg → (∀ p ∈ cs, TabB base mg p.1 p.2) → FnOkG l.prog w (K w.params) mg base fa fd ["script"] (spOf ⟨l.prog, w, K w.params, CAw w⟩ (lawST (cs.map (·.2))))) :
    PySem.W.WalkO q loose XP YP l.row.toRowW d [] (fun f vs => PySem.call f vs) := by
  refine Att.attach_callB hn hdf fun w s0 s1 mg mb fa o pm cd doc a vs ns G Y ho hd hcd hmg hobj hints hlen hbits hg => ?_
  have kin := hY w _ Y
  obtain ⟨fd, cs, hnd, hT, nT, C, hbd, hF⟩ := F w mg fa _ Y kin G.T.g hmg
  refine law_callTsG kin G.T.g G.T.b G.T.builtins G.T.nolimit hg hT nT C G.T.bmain hobj hints (Nat.le_trans hlen (by decide)) hF hbd fun H hH hO aT hS => ?_
  refine ⟨[.lro (ns.map D.int)], fun b => if b ∈ cs.map (·.2) then some (.tab []) else none, X0, fun d _ => d = .bl true, .cons (.lro ?_ (reps_ints ns)) .nil, fun b o e => ?_, ⟨⟨⟨ns, rfl, hlen, hbits⟩, fun _ => rfl⟩, hnd, fun P hP => if_pos hP⟩, KX.no, fun d M' v H' e r _ _ => by subst e; cases r; rfl⟩
  · rcases hS with (hS | hS) | hS
    · rcases hO a with z | z | ⟨o, xs, z⟩
      · rw [z] at hS; cases hS
      · exact absurd z aT
      · rw [z] at hS; cases hS
    · exact .inl hS
    · exact .inr hS
  · by_cases hb : b ∈ cs.map (·.2)
    · have e : (if b ∈ cs.map (·.2) then some (O.tab []) else none) = some o := e
      rw [if_pos hb] at e
      cases e
      obtain ⟨p, hp, rfl⟩ := List.mem_map.mp hb
      exact ⟨#[], hH p hp, True.intro, fun pos cv hc => by
        have z : codeAmong pos [] = some cv := hc
        simp [codeAmong] at z⟩
    · have e : (if b ∈ cs.map (·.2) then some (O.tab []) else none) = some o := e
      rw [if_neg hb] at e
      cases e
/-- the table that a code object in K tells -/
def tabOf (K : PySem.W.Frag) (c : Addr) : Addr := match K.lookup c with
  | some ⟨_, _, .fields vs, _⟩ => (match (vs[11]? : Option Value) with | some (.ref P) => P | _ => 0)
  | _ => 0
theorem tab_in {ts : List Addr} {h : Heap} {P : Addr} (Y : ∀ P ∈ ts, h.get? P = some (PySem.W.tabObj #[])) (e : ts.contains P = true) : h.get? P = some { cls := .none, data := .fields #[] } := Y P (List.contains_iff_mem.mp e)
end DL

set_option Elab.async false
set_option linter.all false
set_option maxRecDepth 100000
set_option maxHeartbeats 4000000
/-! DY1: exceptions: raised, let out by calls, caught round a call -/
namespace DL
open PySem PySem.Spec PyProof.Rows L2 NdefX LamX
abbrev CXx (P : Program) (w : World) : CXT := L2.CX P w
section
variable {P : Program} {w : World} {K : PySem.W.Frag} {mg : Str → Option Value} {base : Heap} {N : List Str} {q : Str} {sc : Scope} {f : Addr} {cd : Value} {A : Around} {outer : List Env} {s : Shared} {H : Hp} {E : XK}
theorem tk1 : Takes (cxOf (CXx P w) P w K mg base N q sc f cd A outer s H E) (fun cls d _ H => E cls d H) := takes_of rfl rfl rfl rfl
theorem pown1 : PassesOwn (model P w) (cxOf (CXx P w) P w K mg base N q sc f cd A outer s H E).A (cxOf (CXx P w) P w K mg base N q sc f cd A outer s H E).env (cxOf (CXx P w) P w K mg base N q sc f cd A outer s H E).xe := passes_of rfl
theorem pass1 : Passes (CXx P w) (cxOf (CXx P w) P w K mg base N q sc f cd A outer s H E) E := passes_call tk1 fun _ _ _ _ h => h
theorem tk1n {F : NF} : Takes (ncx (CXx P w) P w K mg base N F f A outer s H E) (fun cls d _ H => E cls d H) := takes_of rfl rfl rfl rfl
theorem pown1n {F : NF} : PassesOwn (model P w) (ncx (CXx P w) P w K mg base N F f A outer s H E).A (ncx (CXx P w) P w K mg base N F f A outer s H E).env (ncx (CXx P w) P w K mg base N F f A outer s H E).xe := passes_of rfl
theorem pass1n {F : NF} : Passes (CXx P w) (ncx (CXx P w) P w K mg base N F f A outer s H E) E := passes_call tk1n fun _ _ _ _ h => h
end
/-- as fn_l, of a def that may raise -/
theorem fn_lX {P : Program} {w : World} {K : PySem.W.Frag} {mg : Str → Option Value} {base : Heap} {CA : String → Addr} {x qual : Str} {st : Stmt} {f : Addr} {fd : FuncData} {N ps : List Str} {k : Nat} {g : FD} {gb : WS} (F : Fun K x qual st f fd) (S : FnScope N ps (defScope st)) (hl : ∀ E ds M Q, g E ds M Q → ds.length = ps.length)
    (body : ∀ (cdv : Value) (A : Around) (outer : List Env) (s : Shared) (H : Hp) (E : XK), Room k (A.deeper (envOfC qual (defScope st) s.heap.objs.size f cdv)) →
      SSs (cxOf (CXx P w) P w K mg base N qual (defScope st) f cdv A outer s H E) CA E (defBody st) gb)
    (ob : ∀ E ds M Q, g E ds M Q → gb E (endsL Q) (DL.start N.length ds) M) : FnOk P w K mg base (CXx P w) (k + 1) f fd ps (spOf ⟨P, w, K, CA⟩ g) := by
  obtain ⟨oc, od, kV, doc, pm, an, cdv, ct, osl, rfl, lk, hcd⟩ := F.ex
  refine fn_of lk hcd S (fun vs H Q E ⟨ds, M, Ed, Qd, r, hR, hg, kx, kq⟩ => by rw [Reps.length r]; exact hl _ _ _ _ hg) fun A outer s H vs Q E hr ⟨ds, M, Ed, Qd, r, hR, hg, kx, kq⟩ => ?_
  have kq' : KQ ⟨P, w, K, CA⟩ H (fun d M' => ∃ M0, Le M0 M' ∧ Qd d M0) Q := fun _ M' v H' ⟨M0, l, q⟩ r' hR' t => kq _ M0 _ _ q r' (fun a o e => hR' a o (l a o e)) t
  exact ⟨_, body cdv A outer s H E hr, DL.start N.length ds, M, Ed, endsL Qd, ⟨RelEnv.start r, hR, kx⟩, ob _ _ _ _ hg, ⟨fun _ M' _ H' q _ r' t => kq' _ _ _ _ q .non r' t, kq', fun _ _ _ _ q => q.elim, fun _ _ _ _ q => q.elim⟩⟩
/-- .. and makes functions -/
theorem fn_lTX {P : Program} {w : World} {K : PySem.W.Frag} {mg : Str → Option Value} {base : Heap} {CA : String → Addr} {x qual : Str} {st : Stmt} {f c : Addr} {fd : FuncData} {N ps : List Str} {k : Nat} {g : FD} {gb : WS} (F : Fun K x qual st f fd) (hco : fd.code = .ref c) (S : FnScope N ps (defScope st)) (hl : ∀ E ds M Q, g E ds M Q → ds.length = ps.length)
    (body : ∀ (cdv : Value) (_ : cdv = .ref c) (A : Around) (outer : List Env) (s : Shared) (H : Hp) (E : XK), Room k (A.deeper (envOfC qual (defScope st) s.heap.objs.size f cdv)) →
      SSs (cxOf (CXx P w) P w K mg base N qual (defScope st) f cdv A outer s H E) CA E (defBody st) gb)
    (ob : ∀ E ds M Q, g E ds M Q → gb E (endsL Q) (DL.start N.length ds) M) : FnOk P w K mg base (CXx P w) (k + 1) f fd ps (spOf ⟨P, w, K, CA⟩ g) := by
  obtain ⟨oc, od, kV, doc, pm, an, cdv, ct, osl, rfl, lk, hcd⟩ := F.ex
  have hcv : cdv = .ref c := hco
  refine fn_of lk hcd S (fun vs H Q E ⟨ds, M, Ed, Qd, r, hR, hg, kx, kq⟩ => by rw [Reps.length r]; exact hl _ _ _ _ hg) fun A outer s H vs Q E hr ⟨ds, M, Ed, Qd, r, hR, hg, kx, kq⟩ => ?_
  have kq' : KQ ⟨P, w, K, CA⟩ H (fun d M' => ∃ M0, Le M0 M' ∧ Qd d M0) Q := fun _ M' v H' ⟨M0, l, q⟩ r' hR' t => kq _ M0 _ _ q r' (fun a o e => hR' a o (l a o e)) t
  exact ⟨_, body cdv hcv A outer s H E hr, DL.start N.length ds, M, Ed, endsL Qd, ⟨RelEnv.start r, hR, kx⟩, ob _ _ _ _ hg, ⟨fun _ M' _ H' q _ r' t => kq' _ _ _ _ q .non r' t, kq', fun _ _ _ _ q => q.elim, fun _ _ _ _ q => q.elim⟩⟩
/-! ## raise -/
def sRaise (C : String) : WS := fun E _ _ M => E C [] M
@[simp] theorem sRaise_s {C : String} {E : XW} {D' : Ends} {env : Ev} {M : Sto} : sRaise C E D' env M = E C [] M := id rfl
/-- an own class of exceptions without an own __init__ -/
structure ExcK (K : PySem.W.Frag) (mg : Str → Option Value) (x : Str) (C : Addr) : Prop where
  h : ∃ (bmB : List Value) (B newId initId : String), ExcBaseFacts B newId initId bmB ∧ PySem.W.excIn K C bmB newId = true
  g : mg x = some (.ref C)
  k : PySem.W.keepIn K (.ref C) = true
  s : PySem.W.subIn K (.ref C) (.type "BaseException") = some true
  t : PySem.W.typeIn K (.ref C) = some (.type "type")
  m : PySem.W.exmOne K (.ref C) (.ref C) = some true
section
variable {X : Cx} {CA : String → Addr} {XE : XK} {x : Str} {p pos pos' : Pos} {C : Addr}
theorem pmk_own0 (F : ExcK X.K X.mg x C) (hg : Gl X x) (hdb : (x == ("__debug__" : Str)) = false := by decide) : PMk X (.Call (.Name x p) [] [] pos) (fun _ H Q => Q (.ref C) none H) := by
  intro pins s σ H Q I h
  obtain ⟨bmB, B, newId, initId, Fb, q⟩ := F.h
  refine wpAny_Call_Name_kw (ld_glob I hg F.g ?_ hdb)
  refine PySem.W.callWith_K0 I.kIn F.k ?_
  show wpAny _ _ (call (.ref C) []) _ _ _
  obtain ⟨bm, N, nm, qn, bs, hdct, sn, sub, ab, col, dd, k0, k1, k2, k3, k5, mN, hC, hN, hni, T⟩ := exc_obj I.kIn q
  refine wpAny_call_exc_subT Fb T hC hN hni (fun h' e hm => ?_) (Nat.zero_le _)
  exact mk_of I hm (raises_own F.s F.t) h (I.hok.gone hm.new)
theorem s_raise0 {Cn : String} (F : ExcK X.K X.mg x C) (hCA : CA Cn = C) (hc : X.calm = true) (tk : Takes X (fun cls d _ H => XE cls d H)) (hg : Gl X x := by rfl) (hdb : (x == ("__debug__" : Str)) = false := by decide) :
    SS X CA XE (.Raise (some (.Call (.Name x p) [] [] pos)) none pos') (sRaise Cn) :=
  PS_weak (ps_raise hc tk (pmk_own0 F hg hdb)) fun D σ H ⟨env, M, Ed, Dd, p, q, k⟩ => by
    have := p.x Cn [] M none H q (.inl ⟨rfl, rfl⟩) p.r .refl
    rw [show (cn X CA).CA Cn = C from hCA] at this
    exact this
/-! ## try: x = f(..), except C: suite -/
def sTryC (i : Nat) (G : FD) (fs : List WE) (C : String) (s : WS) : WS := fun E D env M => argsW fs X0 env M fun ds M1 => G (fun C' _ M' => C' = C ∧ s E D env M') ds M1 fun d M2 => D.nx (put env i d) M2
@[simp] theorem sTryC_s {i : Nat} {G : FD} {fs : List WE} {C : String} {s : WS} {E : XW} {D' : Ends} {env : Ev} {M : Sto} : sTryC i G fs C s E D' env M = argsW fs X0 env M fun ds M1 => G (fun C' _ M' => C' = C ∧ s E D' env M') ds M1 fun d M2 => D'.nx (put env i d) M2 := id rfl
theorem s_tryC {k j : Nat} {g : Str} {G : FD} {fs : List WE} {Cn : String} {s : WS} {e : Expr} {es : List Expr} {y : Str} {py pc np pa pt ph : Pos} {b₀ : Stmt} {suite : List Stmt} (i : Nat) (D : FnD (cn X CA) X.mg X.base (CXx X.prog X.w) k g G) (hr : Room j X.A) (hk : k ≤ j) (F : ExcK X.K X.mg x C) (hCA : CA Cn = C)
    (hs : X.stack = X.env :: X.outer) (hfr : X.env.frame = some X.env.locals) (hN : X.N.Nodup)
    (ha : ∀ (pn : List (Addr × Obj)) (xe : Value → Shared → Prop), SAs (X.tr pn xe) CA E0 (e :: es) fs)
    (hsu : ∀ (a : Addr) (pn : List (Addr × Obj)), SSs (X.suite a pn) CA XE (b₀ :: suite) s)
    (hg : Gl X x := by rfl) (hgg : Gl X g := by rfl) (hi : X.N[i]? = some y := by rfl) (hx : Loc X.env.scope y := by first | exact Or.inl rfl | exact Or.inr rfl) (hf : X.fn y = true ∨ X.env.scope.names.lookup y = some .local := by first | exact .inl rfl | exact .inr rfl)
    (hdb : (x == ("__debug__" : Str)) = false := by decide) (hdg : (g == ("__debug__" : Str)) = false := by decide)
    (hsw : swapsWith (.Call (.Name g pc) (e :: es) [] pa) (some (.Name y py)) pos.line X.env = pure false := by rfl)
    (he : starEach (e :: es) X.env = (false, eval e X.env) :: starEach es X.env := by rfl) (hpl : (backTo pa (starEach es X.env)).any (·.1) = false := by rfl) :
    SS X CA XE (.Try [.Assign [.Name y py] (.Call (.Name g pc) (e :: es) [] pa) pos] [.ExceptHandler (some (.Name x np)) none (b₀ :: suite) ph] [] [] pt) (sTryC i G fs Cn s) := by
  obtain ⟨f, fd, ps, FO, hm, hkp, hb⟩ := D.h
  refine PS_weak (ps_try_only (c := .ref C) (Wout := fun _ _ _ _ => False) (tb := fun W D σ H => tCallS (spOf (cn X CA) G) (L2.WE W) (tOfA (cn X CA) E0 fs) σ H fun v H1 => L2.gName i v σ H1 D.nx) (ts := fun _ _ _ => tOfS (cn X CA) XE s) hs hfr ⟨hg, hdb, .inl F.g⟩ (fun u s' h => by obtain ⟨_, _, _, _, _, _, _, _, _, _, _, _, _, _, _, _, w⟩ := h; exact w.elim)
    (fun W pn xe tkW po => pss_one (ps_set (X := X.tr pn xe) hN hi hx (pe_callS (X := X.tr pn xe) FO (hr.mono hk) hgg hm hkp hb (passAt tkW) (ha pn xe).pa hdg he hpl) hsw hf))
    (fun a oe cls d pn hz hv => hsu a _)) fun D σ H ⟨env, M, Ed, Dd, p, q, kk⟩ => ?_
  refine ⟨env, M, X0, _, ⟨p.e, p.r, KX.no⟩, q, fun ds M1 vs H1 q1 rs R1 T1 _ => ⟨ds, M1, _, _, rs, R1, q1, ?_, fun d M2 v H2 q2 r2 R2 T2 => kk.nx _ _ _ _ q2 ((p.e.mono (T1.trans T2)).put r2 i) R2 (T1.trans T2)⟩⟩
  intro C' flds M' oa H' h0 hx' R' T'
  obtain ⟨e1, e2⟩ := h0
  subst e1
  refine ⟨true, by rw [show (cn X CA).CA C' = C from hCA]; exact F.m, fun _ a na => ⟨env, M', Ed, Dd, ⟨p.e.mono (T1.trans T'), R', p.x.mono (T1.trans T')⟩, e2, kk.mono (T1.trans T')⟩, fun z => by cases z⟩
end
end DL
namespace DL
open PySem
/-- what is of the class S is caught by «except S» -/
theorem exm_one {K : PySem.W.Frag} {S : Addr} (h1 : PySem.W.subIn K (.ref S) (.type "BaseException") = some true) (h2 : PySem.W.isClsIn K S = true) (h3 : PySem.W.typeIn K (.ref S) = some (.type "type")) (h4 : PySem.W.subIn K (.ref S) (.ref S) = some true) : PySem.W.exmOne K (.ref S) (.ref S) = some true := by
  have h2' : (PySem.W.clsIn K S).isSome = true := h2
  have e2 : ((PySem.W.clsIn K S).isSome && PySem.W.typeIn K (.ref S) == some (.type "type")) = true := by rw [h2', h3] <;> rfl
  show (if (PySem.W.subIn K (.ref S) (.type "BaseException") == some true) = true then (if ((PySem.W.clsIn K S).isSome && PySem.W.typeIn K (.ref S) == some (.type "type")) = true then PySem.W.subIn K (.ref S) (.ref S) else none) else none) = some true
  rw [if_pos (by rw [h1] <;> rfl), if_pos e2]
  exact h4
/-- the parts of a text that hold a lambda -/
def retE : Stmt → Expr
  | .Return (some e) _ => e
  | _ => default
def argE (i : Nat) : Expr → Expr
  | .Call _ as _ _ => as.getD i default
  | e => e
/-- the address of a class that the module knows -/
def exA (K : PySem.W.Frag) (x : String) : Addr := match PySem.W.nsIn K mainGlobals (Str.ofString x) with
  | some (some (.ref a)) => a
  | _ => 0
theorem law_walkTX {l : PySem.W.OpenLaw} {q : Program} {loose : List Str} {XP : (Str → Option Value) → Heap → Prop} {YP : World → Heap → Prop} {d : DefRec} {K : Params → PySem.W.Frag}
    (hn : l.most = some 63) (hdf : d.params.defaults = []) (hY : ∀ (w : World) (h : Heap), YP w h → (K w.params).In h)
    (F : ∀ (w : World) (mg : Str → Option Value) (fa : Addr) (h : Heap), YP w h → (K w.params).In h → h.Ns mainGlobals mg → mg d.name = some (.ref fa) →
      ∃ (fd : FuncData) (cs : List (Addr × Addr)), (cs.map (·.2)).Nodup ∧ (∀ p ∈ cs, h.get? p.2 = some { cls := .none, data := .fields #[] }) ∧ (∀ p ∈ cs, (K w.params).lookup p.2 = none) ∧ (∀ p ∈ cs, PySem.W.CodeHd h p.1 p.2) ∧ (∀ (s : Shared) (u : Value), BindsTo s fd ⟨[u], []⟩ [("script", u)]) ∧
        ∀ base : Heap, (K w.params).In base → base.Ns mainGlobals mg → (∀ p ∈ cs, LamX.TabB base mg p.1 p.2) → FnOkG l.prog w (K w.params) mg base fa fd ["script"] (spOf ⟨l.prog, w, K w.params, exA (K w.params)⟩ (lawST (cs.map (·.2))))) :
    PySem.W.WalkO q loose XP YP l.row.toRowW d [] (fun f vs => PySem.call f vs) := law_walkT (fun w => exA (K w.params)) hn hdf hY F
end DL

set_option Elab.async false
set_option linter.all false
set_option maxRecDepth 100000
set_option maxHeartbeats 4000000
/-! DN5: functions made by a def or by a lambda, handed to a def; with exceptions -/
namespace DL
open PySem PySem.Spec PyProof.Rows L2 NdefX LamX
/-- a function that was made: by a def, by a lambda -/
inductive Ka where
  | d (F : NF) | l (F : NF) (e : Expr)
def Ka.F : Ka → NF
  | .d F => F
  | .l F _ => F
def Ka.o : Ka → O
  | .d F => .fn F
  | .l F e => .lam F e
def Ka.ho (f : Addr) : Ka → HO
  | .d F => FnO f F
  | .l F e => LamO f F e
theorem Ka.rep {c : Cn} {M : Sto} {H : Hp} {f : Addr} {κ : Ka} (r : R c M H) (h : M f = some κ.o) : H f = some (κ.ho f) := by
  cases κ <;> exact r _ _ h
theorem lamO_at {P : Program} {w : World} {H : Hp} {h : Heap} {f : Addr} {F : NF} {e : Expr} (hok : HOk P w H h) (q : H f = some (LamO f F e)) : ∃ (od : Option Addr) (sl : Array (Option Value)) (pm ctv : Value), h.get? f = some (⟨.type "function", od, .func (PySem.W.kla_fn F.name F.qual F.params e F.scope F.cl pm (.ref F.c) ctv), sl⟩ : Obj) := by
  obtain ⟨z, _, _⟩ := hok f _ q
  exact z
theorem kaAt_of {X : Cx} {pins : List (Addr × Obj)} {σ : L2.St} {H : Hp} {s : Shared} {f : Addr} {κ : Ka} (I : Inv X pins σ H s) (e : H f = some (κ.ho f)) : PySem.W.FnAt f s.heap := by
  cases κ with
  | d F => exact fnAt_of I e
  | l F b =>
    obtain ⟨od, sl, pm, ctv, ho⟩ := lamO_at I.hok e
    exact ⟨_, od, _, sl, ho⟩
theorem inv_lam {X : Cx} {pins : List (Addr × Obj)} {σ : L2.St} {H : Hp} {s : Shared} {F : NF} {e : Expr} {o : Obj} {t' : Nat} {pm ctv : Value} (I : Inv X pins σ H s) (ho : o = { cls := .type "function", data := .func (PySem.W.kla_fn F.name F.qual F.params e F.scope F.cl pm (.ref F.c) ctv) }) :
    Inv X pins σ (upd H s.heap.objs.size (LamO s.heap.objs.size F e)) { s with heap := s.heap.push o, toks := t' } := by
  subst ho
  refine I.laid (a := s.heap.objs.size) (fun b u e => Heap.get?_push_of_some _ e) (Nat.le_refl _) ?_
  have e : (s.heap.push ({ cls := .type "function", data := .func (PySem.W.kla_fn F.name F.qual F.params e F.scope F.cl pm (.ref F.c) ctv) } : Obj)).get? s.heap.objs.size = some ({ cls := .type "function", data := .func (PySem.W.kla_fn F.name F.qual F.params e F.scope F.cl pm (.ref F.c) ctv) } : Obj) := Heap.get?_push_size _ rfl
  exact ⟨⟨_, _, pm, ctv, e⟩, ⟨_, e⟩, fun h1 h2 ⟨od, sl, p, t, z⟩ st => ⟨od, sl, p, t, st _ z⟩⟩
/-- the promise of the function κ at f -/
structure KOk (P : Program) (w : World) (K : PySem.W.Frag) (mg : Str → Option Value) (base : Heap) (CX : CXT) (k : Nat) (f : Addr) (κ : Ka) (ps fr : List Str) (sp : List (Option V) → Sp) : Prop where
  len : ∀ ws vs H Q E, sp ws vs H Q E → vs.length = ps.length
  run : ∀ (A : Around) (outer : List Env) (s : Shared) (H : Hp) (us : List Value) (vs : List V) (ws : List (Option V)) (Q : VK) (E : XK), Room k A → Env0 P w K mg base A outer s H → H f = some (κ.ho f) → H κ.F.c = some (CodeO κ.F.c κ.F.qual) →
    CellsAt κ.F.cl fr ws s.heap H → Vals vs us → sp ws vs H Q E → codeAny (model P w) A (.call (.ref f) ⟨us, []⟩) (CR CX outer P w H s Q E) s
def FnK (c : Cn) (mg : Str → Option Value) (base : Heap) (CX : CXT) (k : Nat) (κ : Ka) (ps fr : List Str) (C : List (Option D) → FD) : Prop := ∀ f, KOk c.P c.w c.K mg base CX k f κ ps fr (spOfC c C)
theorem FnC.k {c : Cn} {mg : Str → Option Value} {base : Heap} {CX : CXT} {k : Nat} {F : NF} {ps fr : List Str} {C : List (Option D) → FD} (h : FnC c mg base CX k F ps fr C) : FnK c mg base CX k (.d F) ps fr C := fun f => ⟨(h f).len, (h f).run⟩
theorem CR.up {P : Program} {w : World} {outer : List Env} {H : Hp} {s : Shared} {Q : VK} {E : XK} {r : Result} {s' : Shared} {CX : CXT} (h : CR CX0 outer P w H s Q E r s') : CR CX outer P w H s Q E r s' := by
  match r, h with
  | .ok (.ret u), h => exact h
  | .ok .next, h => exact h
  | .ok .brk, h => exact h
  | .ok .cont, h => exact h
  | .error e, h => exact False.elim h
theorem FnK.up {c : Cn} {mg : Str → Option Value} {base : Heap} {CX : CXT} {k j : Nat} {κ : Ka} {ps fr : List Str} {C : List (Option D) → FD} (h : FnK c mg base CX0 k κ ps fr C) (hk : k ≤ j) : FnK c mg base CX j κ ps fr C := fun f =>
  ⟨(h f).len, fun A outer s H us vs ws Q E hr e0 hf hc C r q => codeAny_mono ((h f).run A outer s H us vs ws Q E (hr.mono hk) e0 hf hc C r q) fun _ _ z => CR.up z⟩
theorem FnK.mono {c : Cn} {mg : Str → Option Value} {base : Heap} {CX : CXT} {k j : Nat} {κ : Ka} {ps fr : List Str} {C : List (Option D) → FD} (h : FnK c mg base CX k κ ps fr C) (hk : k ≤ j) : FnK c mg base CX j κ ps fr C := fun f =>
  ⟨(h f).len, fun A outer s H us vs ws Q E hr e0 hf hc C r q => (h f).run A outer s H us vs ws Q E (hr.mono hk) e0 hf hc C r q⟩
/-- a lambda, by its body -/
theorem lok_d {P : Program} {w : World} {K : PySem.W.Frag} {mg : Str → Option Value} {base : Heap} {CA : String → Addr} {N ps fr : List Str} {F : NF} {e : Expr} {k : Nat} {C : List (Option D) → FD} {ge : WE} (S : NScope N ps fr F.scope)
    (hb : ∀ (pm ctv : Value) (us : List Value), us.length = ps.length → bindArgs (PySem.W.kla_fn F.name F.qual F.params e F.scope F.cl pm (.ref F.c) ctv) ⟨us, []⟩ = pure (ps.zip us)) (hl : ∀ wd E ds M Q, C wd E ds M Q → ds.length = ps.length)
    (body : ∀ (f : Addr) (A : Around) (outer : List Env) (s : Shared) (H : Hp) (E : XK), Room k (A.deeper (envF F f s.heap.objs.size)) → SE (ncx CX0 P w K mg base N F f A outer s H E).nox CA E e ge)
    (ob : ∀ wd E ds M Q, wd.length = fr.length → C wd E ds M Q → ge E (ds.map some ++ (wd ++ List.replicate (N.length - ds.length - wd.length) none)) M fun d M' => ∃ M0, Le M0 M' ∧ Q d M0) : FnK ⟨P, w, K, CA⟩ mg base CX0 (k + 1) (.l F e) ps fr C := fun f => by
  refine ⟨fun ws vs H Q E ⟨wd, ds, M, Ed, Qd, _, r, _, hC, _, _⟩ => by rw [Reps.length r]; exact hl _ _ _ _ _ hC, fun A outer s H us vs ws Q E hr e0 hf hc Cc r ⟨wd, ds, M, Ed, Qd, rw', rs, hR, hC, kx, kq⟩ => ?_⟩
  have hlv : vs.length = ps.length := by rw [Reps.length rs]; exact hl _ _ _ _ _ hC
  have lim : s.heap.NoLimit := e0.mod.nolimit.keeps fun b o e => (e0.bs b o e).1
  obtain ⟨od, sl, pm, ctv, ho⟩ := lamO_at e0.hok hf
  refine PySem.W.kla_callFunE hr.depth ho rfl S.co S.gen rfl (codeO_at e0.hok hc) ?_
  rw [hb pm ctv us (by rw [← r.length]; exact hlv)]
  refine wpAny_pure (wpAny_newFunctionEnv S.nocell (fun ⟨n, _⟩ hy => S.par n (List.of_mem_zip hy).1) (fun h₁ hns hsb => ⟨lim.fresh _ hsb, ?_⟩) S.kind)
  show codeAny _ _ (.expr e (envF F f s.heap.objs.size)) _ _
  refine PySem.W.kla_codeExpr ?_
  have kp : ∀ b o, s.heap.get? b = some o → h₁.get? b = some o := fun b o e => hsb.extBut b o (Nat.ne_of_lt (Heap.lt_size e)) (Heap.get?_push_of_some _ e)
  have I : Inv (ncx CX0 P w K mg base N F f A outer s H E) [] (startF N vs ws) H { s with heap := h₁, toks := s.toks + (ps.zip us).length } := inv_startN S hr.hd e0 hlv r Cc hns kp
  have hp := PE.nox (body f A outer s H E (hr.deeper _))
  have lwd : wd.length = fr.length := by rw [← Cc.len]; exact (rw'.len2).symm
  refine wpAny_mono (hp.run [] _ (startF N vs ws) H Q I ⟨ds.map some ++ (wd ++ List.replicate (N.length - ds.length - wd.length) none), M, Ed, _, ⟨?_, hR, kx⟩, ob _ _ _ _ _ lwd hC, fun _ M' v H' ⟨M0, l, q⟩ r' hR' t => kq _ M0 _ _ q r' (fun a o e => hR' a o (l a o e)) t⟩) (fun u s' ⟨v, H', J, rv, q⟩ => ⟨v, H', J.os, J.bare, J.base, J.hok, rv, q⟩) fun e s' hs => hs
  unfold startF
  rw [show vs.length = ds.length from Reps.length rs, Cc.len, lwd]
  exact RelEnv.app rs (RelEnv.app2 rw' (RelEnv.nones _))
/-- a function made within a def, by its body; it may raise -/
theorem nok_dX {P : Program} {w : World} {K : PySem.W.Frag} {mg : Str → Option Value} {base : Heap} {CA : String → Addr} {N ps fr : List Str} {F : NF} {k : Nat} {C : List (Option D) → FD} {gb : WS} (S : NScope N ps fr F.scope)
    (hb : ∀ (doc pm ctv : Value) (us : List Value), us.length = ps.length → bindArgs (F.fd doc pm ctv) ⟨us, []⟩ = pure (ps.zip us)) (hl : ∀ wd E ds M Q, C wd E ds M Q → ds.length = ps.length)
    (body : ∀ (f : Addr) (A : Around) (outer : List Env) (s : Shared) (H : Hp) (E : XK), Room k (A.deeper (envF F f s.heap.objs.size)) → SSs (ncx (CXx P w) P w K mg base N F f A outer s H E) CA E F.body gb)
    (ob : ∀ wd E ds M Q, wd.length = fr.length → C wd E ds M Q → gb E (endsL Q) (ds.map some ++ (wd ++ List.replicate (N.length - ds.length - wd.length) none)) M) : FnK ⟨P, w, K, CA⟩ mg base (CXx P w) (k + 1) (.d F) ps fr C := fun f => by
  have n := nok_of (CX := CXx P w) (P := P) (w := w) (K := K) (mg := mg) (base := base) (f := f) (k := k) (sp := spOfC ⟨P, w, K, CA⟩ C) S hb (fun ws vs H Q E ⟨wd, ds, M, Ed, Qd, _, r, _, hC, _, _⟩ => by rw [Reps.length r]; exact hl _ _ _ _ _ hC) fun A outer s H vs ws Q E hr hf hc lw ⟨wd, ds, M, Ed, Qd, rw', r, hR, hC, kx, kq⟩ => by
    have kq' : KQ ⟨P, w, K, CA⟩ H (fun d M' => ∃ M0, Le M0 M' ∧ Qd d M0) Q := fun _ M' v H' ⟨M0, l, q⟩ r' hR' t => kq _ M0 _ _ q r' (fun a o e => hR' a o (l a o e)) t
    have lwd : wd.length = fr.length := by rw [← lw]; exact (rw'.len2).symm
    refine ⟨_, body f A outer s H E hr, ds.map some ++ (wd ++ List.replicate (N.length - ds.length - wd.length) none), M, Ed, endsL Qd, ⟨?_, hR, kx⟩, ob _ _ _ _ _ lwd hC, ⟨fun _ M' _ H' q _ r' t => kq' _ _ _ _ q .non r' t, kq', fun _ _ _ _ q => q.elim, fun _ _ _ _ q => q.elim⟩⟩
    unfold startF
    rw [show vs.length = ds.length from Reps.length r, lw, lwd]
    exact RelEnv.app r (RelEnv.app2 rw' (RelEnv.nones _))
  exact ⟨n.len, n.run⟩
/-! ## calls of the function that stands in a slot -/
def eCallK (i : Nat) (f : Addr) (κ : Ka) (C : FD) (fs : List WE) : WE := fun E env M Q => gt env i = some (.ref f) ∧ M f = some κ.o ∧ argsW fs E env M fun ds M1 => M1 f = some κ.o ∧ M1 κ.F.c = some (.code κ.F.qual) ∧ C E ds M1 Q
@[simp] theorem eCallK_s {i : Nat} {f : Addr} {κ : Ka} {C : FD} {fs : List WE} {E : XW} {env : Ev} {M : Sto} {Q : KD} : eCallK i f κ C fs E env M Q = (gt env i = some (.ref f) ∧ M f = some κ.o ∧ argsW fs E env M fun ds M1 => M1 f = some κ.o ∧ M1 κ.F.c = some (.code κ.F.qual) ∧ C E ds M1 Q) := id rfl
structure CapK (X : Cx) (cl : List (Str × Addr)) (fr : List Str) (ws : List (Option V)) : Prop where
  c : CellsAt cl fr ws X.s_0.heap X.H_0
  nf : ∀ y c, cl.lookup y = some c → c ∉ X.fs
  nx : ∀ y c, cl.lookup y = some c → c ∉ X.ex
theorem CapK.at {X : Cx} {cl : List (Str × Addr)} {fr : List Str} {ws : List (Option V)} {pins : List (Addr × Obj)} {σ : L2.St} {H : Hp} {s : Shared} (C : CapK X cl fr ws) (I : Inv X pins σ H s) : CellsAt cl fr ws s.heap H ∧ ∀ y c, cl.lookup y = some c → c ∉ frs X.stack := by
  refine ⟨C.c.later C.nf C.nx I, fun y c e hc => ?_⟩
  rcases List.mem_cons.mp (I.stkSub c hc) with h | h
  · obtain ⟨_, v, o, ho, _⟩ := C.c.all y c e
    have := Heap.lt_size ho
    have ha := I.ok.above
    rw [h] at this
    exact absurd (Nat.lt_of_lt_of_le this ha) (Nat.lt_irrefl _)
  · exact C.nf y c e h
section
variable {X : Cx} {CA : String → Addr} {XE : XK} {e : Expr} {es : List Expr} {fs : List WE} {pos p : Pos} {x : Str} {κ : Ka} {f : Addr} {ps fr : List Str} {ws : List (Option V)} {wd : List (Option D)} {C : List (Option D) → FD} {CX : CXT} {k j : Nat}
theorem d_callk (i : Nat) (Fn : FnK (cn X CA) X.mg X.base CX k κ ps fr C) (cap : CapK X κ.F.cl fr ws) (hw : RelEnv X.K X.H_0 ws wd) (hr : Room j X.A) (hk : k ≤ j) (hx : Passes CX X XE) (ha : SAs X CA XE (e :: es) fs) (hN : X.N[i]? = some x := by rfl) (hv : Vis X.env.scope x := by first | exact Or.inl rfl | exact Or.inr (Or.inl rfl) | exact Or.inr (Or.inr rfl))
    (hd : (x == ("__debug__" : Str)) = false := by decide) (hcd : (x == ("__classdict__" : Str)) = false := by decide)
    (he : starEach (e :: es) X.env = (false, eval e X.env) :: starEach es X.env := by rfl) (hpl : (backTo pos (starEach es X.env)).any (·.1) = false := by rfl) :
    SE X CA XE (.Call (.Name x p) (e :: es) [] pos) (eCallK i f κ (C wd) fs) := by
  refine ⟨fun pins s σ H Q I ⟨env, M, Ed, Qd, pr, ⟨q0, q1, q2⟩, kq⟩ => ?_⟩
  obtain ⟨v, hs, rv⟩ := pr.e.get q0
  cases rv
  have hf : H f = some (κ.ho f) := Ka.rep pr.r q1
  refine wpAny_Call_Name_kw (thn ((pe_var (pos := p) hN hv hd hcd).run pins s σ H (fun v H1 => v = .ref f ∧ H1 = H) I ⟨.ref f, hs, rfl, rfl⟩) fun u s1 ⟨v, H1, I1, r1, e1, e2⟩ => ?_)
  subst e1
  rw [e2] at I1
  obtain rfl : u = Value.ref f := r1
  refine PySem.W.callWith_F (first := []) (kaAt_of I1 hf) (thn (ha.pa.run pos pins s1 σ H (fun vs H2 => ∃ ds M2, M2 f = some κ.o ∧ M2 κ.F.c = some (.code κ.F.qual) ∧ C wd Ed ds M2 Qd ∧ Reps X.K H2 vs ds ∧ R (cn X CA) M2 H2 ∧ Tups X.K H H2) I1
    ⟨env, M, Ed, _, pr, q2, fun ds M2 vs H2 ⟨a1, a2, a3⟩ r2 R2 T2 _ => ⟨ds, M2, a1, a2, a3, r2, R2, T2⟩⟩) fun us s2 ⟨vs, H2, I2, rv, ds, M2, a1, a2, a3, r2, R2, T2⟩ => ?_) he hpl
  have hf2 : H2 f = some (κ.ho f) := Ka.rep R2 a1
  have hc2 : H2 κ.F.c = some (CodeO κ.F.c κ.F.qual) := R2 _ _ a2
  refine ⟨kaAt_of I2 hf2, ?_⟩
  show wpAny _ _ (call (.ref f) us) _ _ _
  have Tn : Tups X.K X.H_0 H2 := tups_un I2.base
  refine wpAny_call (codeAny_mono ((Fn f).run X.A X.stack s2 H2 us vs ws Q XE (hr.mono hk) I2.env0 hf2 hc2 (cap.at I2).1 rv ⟨wd, ds, M2, Ed, Qd, hw.mono Tn, r2, R2, a3, pr.x.mono T2, kq.mono T2⟩) fun r s' hq => ?_)
  match r, hq with
  | .error e, hq => exact hx pins σ H2 s2 e s' I2 hq
  | .ok (.ret u), hq => exact I2.after hq
  | .ok .next, hq => exact False.elim hq
  | .ok .brk, hq => exact False.elim hq
  | .ok .cont, hq => exact False.elim hq
end
/-- a def that is handed a function -/
structure FnOkK (c : Cn) (mg : Str → Option Value) (base : Heap) (CX : CXT) (k kc : Nat) (fa : Addr) (fd : FuncData) (ps : List Str) (G : Addr → Ka → FD → FD) : Prop where
  len : ∀ f κ C E ds M Q, G f κ C E ds M Q → ds.length = ps.length
  run : ∀ (A : Around) (outer : List Env) (s : Shared) (H : Hp) (args : Args) (us : List Value) (vs : List V) (Q : VK) (E : XK) {f : Addr} {κ : Ka} {pc fr : List Str} {ws : List (Option V)} {wd : List (Option D)} {C : List (Option D) → FD} {ds : List D} {M : Sto} {Ed : XW} {Qd : KD},
    Room k A → Env0 c.P c.w c.K mg base A outer s H → BindsTo s fd args (ps.zip us) → Vals vs us → CellsAt κ.F.cl fr ws s.heap H → (∀ y a, κ.F.cl.lookup y = some a → a ∉ frs outer) → FnK c mg base CX kc κ pc fr C → RelEnv c.K H ws wd → Reps c.K H vs ds → R c M H → G f κ (C wd) Ed ds M Qd → KX c H Ed E → KQ c H Qd Q →
    codeAny (model c.P c.w) A (.call (.ref fa) args) (CR CX outer c.P c.w H s Q E) s
/-- .. by its name; whatever it is handed, so deep it goes -/
structure FnDK (c : Cn) (mg : Str → Option Value) (base : Heap) (CX : CXT) (x : Str) (G : Addr → Ka → FD → FD) : Prop where
  h : ∃ f fd ps, (∀ kc, 1 ≤ kc → FnOkK c mg base CX (kc + 1) kc f fd ps G) ∧ mg x = some (.ref f) ∧ PySem.W.keepIn c.K (.ref f) = true ∧ Binds c.K fd ps []
theorem fn_fK {P : Program} {w : World} {K : PySem.W.Frag} {mg : Str → Option Value} {base : Heap} {CA : String → Addr} {x qual : Str} {st : Stmt} {fa : Addr} {fd : FuncData} {N ps : List Str} {k kc : Nat} {G : Addr → Ka → FD → FD} {gb : Addr → Ka → FD → WS} (F0 : Fun K x qual st fa fd) (S : FnScope N ps (defScope st)) (hl : ∀ f κ C E ds M Q, G f κ C E ds M Q → ds.length = ps.length)
    (body : ∀ (cdv : Value) (A : Around) (outer : List Env) (s : Shared) (H : Hp) (E : XK), Room k (A.deeper (envOfC qual (defScope st) s.heap.objs.size fa cdv)) → ∀ (f : Addr) (κ : Ka) (pc fr : List Str) (ws : List (Option V)) (wd : List (Option D)) (C : List (Option D) → FD),
      FnK ⟨P, w, K, CA⟩ mg base (CXx P w) kc κ pc fr C → CapK (cxOf (CXx P w) P w K mg base N qual (defScope st) fa cdv A outer s H E) κ.F.cl fr ws → RelEnv K H ws wd →
      SSs (cxOf (CXx P w) P w K mg base N qual (defScope st) fa cdv A outer s H E) CA E (defBody st) (gb f κ (C wd)))
    (ob : ∀ f κ C E ds M Q, G f κ C E ds M Q → gb f κ C E (endsL Q) (DL.start N.length ds) M) : FnOkK ⟨P, w, K, CA⟩ mg base (CXx P w) (k + 1) kc fa fd ps G := by
  obtain ⟨oc, od, kV, doc, pm, an, cdv, ct, osl, rfl, lk, hcd⟩ := F0.ex
  refine ⟨hl, fun A outer s H args us vs Q E {f κ pc fr ws wd C ds M Ed Qd} hr e0 hb rv cells nfr Fn hw rs hR hg kx kq => ?_⟩
  have hlv : vs.length = ps.length := by rw [Reps.length rs]; exact hl _ _ _ _ _ _ _ hg
  have kin : K.In s.heap := e0.mod.kin.keeps fun b o e => (e0.bs b o e).1
  have lim : s.heap.NoLimit := e0.mod.nolimit.keeps fun b o e => (e0.bs b o e).1
  have kind : ∀ y ∈ ps.zip us, (defScope st).names.lookup y.1 = some .local ∨ ((defScope st).names.lookup y.1 = some .cell ∧ ((cellsFrom (s.heap.objs.size + 1) (defScope st).names []).lookup y.1).isSome = true) := fun y hy =>
    (S.par y.1 (List.of_mem_zip (show (y.1, y.2) ∈ _ from hy)).1).elim .inl fun q => .inr ⟨q, PySem.W.cellsFrom_some _ _ _ (.inl q)⟩
  refine codeAny_call_function hr.depth (kin _ _ lk) rfl S.co S.gen rfl (PySem.W.codeRec_of kin hcd) (hb _ _ _ _ (wpAny_newFunctionEnv_cells S.kind kind fun env he s1 x => ?_))
  subst he
  have cap : CapK (cxOf (CXx P w) P w K mg base N qual (defScope st) fa cdv A outer s H E) κ.F.cl fr ws := ⟨cells, nfr, fun y a _ h => absurd (show a ∈ ([] : List Addr) from h) (by simp)⟩
  have kq' : KQ ⟨P, w, K, CA⟩ H (fun d M' => ∃ M0, Le M0 M' ∧ Qd d M0) Q := fun _ M' v H' ⟨M0, l, q⟩ r' hR' t => kq _ M0 _ _ q r' (fun a o e => hR' a o (l a o e)) t
  have ht := body cdv A outer s H E (hr.deeper _) f κ pc fr ws wd C Fn cap hw
  have I : Inv (cxOf (CXx P w) P w K mg base N qual (defScope st) fa cdv A outer s H E) [] (L2.start N vs) H s1 := inv_start S hr.hd e0 hlv rv x
  refine ⟨lim.keeps x.toInCall.keep, codeAny_func (wpAny_mono (ht.run [] s1 (L2.start N vs) H { nx := fun _ H' => Q .non H', rt := Q } I
    ⟨DL.start N.length ds, M, Ed, endsL Qd, ⟨RelEnv.start rs, hR, kx⟩, ob _ _ _ _ _ _ _ hg, ⟨fun _ M' _ H' q _ r' t => kq' _ _ _ _ q .non r' t, kq', fun _ _ _ _ q => q.elim, fun _ _ _ _ q => q.elim⟩⟩) (fun fl s' hs => ?_) fun e s' hs => hs)⟩
  have fin : ∀ {σ' : L2.St} {H' : Hp} {v : V} {u : Value}, Inv (cxOf (CXx P w) P w K mg base N qual (defScope st) fa cdv A outer s H E) [] σ' H' s' → RelV v u → Q v H' → CE outer P w H s Q u s' :=
    fun {σ' H' v u} J rv q => ⟨v, H', J.os, J.bare, J.base, J.hok, rv, q⟩
  match fl, hs with
  | .ret _, ⟨_, _, _, J, rv, q⟩ => exact fin J rv q
  | .next, ⟨_, _, J, q⟩ => exact fin (v := V.non) (u := Value.none) J rfl q
  | .brk, ⟨_, _, _, q⟩ => exact False.elim q
  | .cont, ⟨_, _, _, q⟩ => exact False.elim q
/-- the cells of a function that the running frame made -/
theorem own_cells {X : Cx} {cl : List (Str × Addr)} {fr : List Str} {js : List Nat} {pins : List (Addr × Obj)} {σ : L2.St} {H : Hp} {s : Shared} (I : Inv X pins σ H s) (c : Caps X cl fr js) (hfn : ∀ x, X.fn x = true) : CellsAt cl fr (js.map (slotAt σ)) s.heap H ∧ ∀ y a, cl.lookup y = some a → a ∉ frs X.stack := by
  refine ⟨cells_of I c, fun y a e hc => ?_⟩
  have ea := c.sub y a e
  rcases List.mem_cons.mp (I.stkSub a hc) with h | h
  · exact I.cne y a ea h
  · obtain ⟨_, o, ho, _⟩ := I.ok.funs.mem h
    exact absurd (Nat.lt_of_lt_of_le (Heap.lt_size ho) (I.ok.cab y a (hfn y) ea)) (Nat.lt_irrefl _)
/-! ## the maker itself hands its function on -/
def eCallO (js : List Nat) (S : List (Option D) → FD) (fs : List WE) : WE := fun E env M Q => argsW fs E env M fun ds M1 => S (js.map (DL.gt env)) E ds M1 Q
@[simp] theorem eCallO_s {js : List Nat} {S : List (Option D) → FD} {fs : List WE} {E : XW} {env : Ev} {M : Sto} {Q : KD} : eCallO js S fs E env M Q = argsW fs E env M fun ds M1 => S (js.map (DL.gt env)) E ds M1 Q := id rfl
section
variable {X : Cx} {CA : String → Addr} {XE : XK} {e : Expr} {es : List Expr} {fs : List WE} {pos p : Pos} {x : Str} {κ : Ka} {ps fr : List Str} {C : List (Option D) → FD} {CX : CXT} {kc j : Nat} {G : Addr → Ka → FD → FD}
theorem d_callO (f : Addr) (js : List Nat) (D : FnDK (cn X CA) X.mg X.base CX x G) (Fn : FnK (cn X CA) X.mg X.base CX kc κ ps fr C) (cp : X.Ok → Caps X κ.F.cl fr js) (hfn : ∀ x, X.fn x = true) (hr : Room j X.A) (hk : kc + 1 ≤ j) (h1 : 1 ≤ kc) (hx : Passes CX X XE) (ha : SAs X CA XE (e :: es) fs) (hg : Gl X x := by rfl)
    (hdb : (x == ("__debug__" : Str)) = false := by decide) (he : starEach (e :: es) X.env = (false, eval e X.env) :: starEach es X.env := by rfl) (hpl : (backTo pos (starEach es X.env)).any (·.1) = false := by rfl) :
    SE X CA XE (.Call (.Name x p) (e :: es) [] pos) (eCallO js (fun wd => G f κ (C wd)) fs) := by
  obtain ⟨fa, fd, ps', FOs, hm, hkp, hb⟩ := D.h
  have FO := FOs kc h1
  refine ⟨fun pins s σ H Q I ⟨env, M, Ed, Qd, pr, q2, kq⟩ => ?_⟩
  refine wpAny_Call_Name_kw (ld_glob I hg hm ?_ hdb)
  refine PySem.W.callWith_K (h₀ := X.base) I.ok.mod.kin hkp (thn (ha.pa.run pos pins s σ H (fun vs H2 => ∃ ds M2, G f κ (C (js.map (DL.gt env))) Ed ds M2 Qd ∧ Reps X.K H2 vs ds ∧ R (cn X CA) M2 H2 ∧ Tups X.K H H2) I
    ⟨env, M, Ed, _, pr, q2, fun ds M2 vs H2 a3 r2 R2 T2 _ => ⟨ds, M2, a3, r2, R2, T2⟩⟩) fun us s2 ⟨vs, H2, I2, rv, ds, M2, a3, r2, R2, T2⟩ => ⟨I2.kIn, ?_⟩) he hpl
  show wpAny _ _ (call (.ref fa) us) _ _ _
  have hl : us.length = ps'.length := by rw [← rv.length, Reps.length r2]; exact FO.len _ _ _ _ _ _ _ a3
  have hbb := hb s2 us I2.kIn (by simpa using hl)
  obtain ⟨c1, c2⟩ := own_cells I2 (cp I2.ok) hfn
  refine wpAny_call (codeAny_mono (FO.run X.A X.stack s2 H2 ⟨us, []⟩ us vs Q XE (hr.mono hk) I2.env0 (by simpa using hbb) rv c1 c2 Fn (env_slots (pr.e.mono T2) js) r2 R2 a3 (pr.x.mono T2) (kq.mono T2)) fun r s' hq => ?_)
  match r, hq with
  | .error e, hq => exact hx pins σ H2 s2 e s' I2 hq
  | .ok (.ret u), hq => exact I2.after hq
  | .ok .next, hq => exact False.elim hq
  | .ok .brk, hq => exact False.elim hq
  | .ok .cont, hq => exact False.elim hq
end
end DL

set_option Elab.async false
set_option linter.all false
set_option maxRecDepth 100000
set_option maxHeartbeats 4000000
/-! DN6: a lambda, made where a def is called that takes it -/
namespace DL
open PySem PySem.Spec PyProof.Rows L2 NdefX LamX
def laParams : Expr → Arguments
  | .Lambda p _ _ _ => p
  | _ => default
def laBody : Expr → Expr
  | .Lambda _ b _ _ => b
  | e => e
def laScope : Expr → Scope
  | .Lambda _ _ s _ => s
  | _ => default
/-- a lambda's words -/
abbrev laNF (la : Expr) (q : Str) (cl : List (Str × Addr)) (c : Addr) : NF := ⟨"<lambda>", q, laParams la, [], laScope la, cl, c⟩
section
variable {X : Cx} {CA : String → Addr} {XE : XK}
theorem lam_at {pins : List (Addr × Obj)} {σ : L2.St} {H : Hp} {s : Shared} {c P : Addr} {cs : List Addr} {ps : Array Value} {q : Str} {la : Expr} {params : Arguments} {body : Expr} {scope : Scope} {pos : Pos} {E : Value → Shared → Prop} {Q : Value → Shared → Prop} (hla : la = .Lambda params body scope pos) (I : Inv X pins σ H s) (TB : TabB X.base X.mg c P) (hcode : X.env.code = .ref c)
    (hq : X.env.qual ++ "<lambda>" = q) (hdef : defaultsOf params X.env = ([], [])) (hP : H P = some (.tbl ps)) (ht : TriplesOk ps.toList) (ha : ∀ (pos : Pos) (cv : Value), codeAmong pos ps.toList = some cv → ∃ x ∈ cs, cv = .ref x) (hcs : ∀ x ∈ cs, H x = some (CodeO x q)) (hfree : ∀ y ∈ scope.names, y.2 = .free → ∃ c, X.env.cells.lookup y.1 = some c)
    (found : ∀ (f c' : Addr) (s' : Shared), c' ∈ cs → H f = none → Inv X pins σ (upd H f (LamO f (laNF la q (cloFrom X.env.cells scope.names []) c') body)) s' → Q (.ref f) s')
    (new : ∀ (f c' : Addr) (ps' : Array Value) (s' : Shared), H f = none → H c' = none → c' ≠ f → TriplesOk ps'.toList → (∀ (pos : Pos) (cv : Value), codeAmong pos ps'.toList = some cv → ∃ x ∈ c' :: cs, cv = .ref x) →
      Inv X pins σ (upd (upd (upd H P (.tbl ps')) c' (CodeO c' q)) f (LamO f (laNF la q (cloFrom X.env.cells scope.names []) c') body)) s' → Q (.ref f) s') :
    wpAny (model X.prog X.w) X.A (eval la X.env) Q E s := by
  subst hla
  refine PySem.W.kla_eval hdef ?_
  rw [hq]
  have bP : s.heap.BuiltinsAt X.mg P := TB.bm.keeps I.bk
  have hP' : s.heap.get? P = some { cls := .none, data := .fields ps } := I.hok P _ hP
  have lay : ∀ {H1 : Hp} {h' : Heap} {tk : Nat} (c' : Addr) (ctv : Value) (I1 : Inv X pins σ H1 { s with heap := h', toks := tk }), Inv X pins σ (upd H1 h'.objs.size (LamO h'.objs.size (laNF (.Lambda params body scope pos) q (cloFrom X.env.cells scope.names []) c') body)) { s with heap := h'.push { cls := .type "function", data := .func (PySem.W.kla_fn "<lambda>" q params body scope (cloFrom X.env.cells scope.names []) ((X.mg "__name__").getD .none) (.ref c') ctv) }, toks := tk } :=
    fun {H1 h' tk} c' ctv I1 => inv_lam (F := laNF (.Lambda params body scope pos) q (cloFrom X.env.cells scope.names []) c') (e := body) (t' := tk) (pm := (X.mg "__name__").getD .none) (ctv := ctv) I1 rfl
  cases hc : codeAmong pos ps.toList with
  | some cv =>
    obtain ⟨c', hm, rfl⟩ := ha pos cv hc
    refine PySem.W.kla_makeFunctionHit (mg := X.mg) (c := c) (P := P) (ps := ps) (closure_ok hfree) I.ok.glob (I.mod.glob.keeps I.bk) hcode (TB.code.keeps I.bk) hP' ht hc bP fun ctv h' tk hx hsz => ?_
    have I1 : Inv X pins σ H { s with heap := h', toks := tk } := I.kept hx
    exact found h'.objs.size c' _ hm (I1.hok.fresh (Nat.le_refl _)) (lay c' ctv I1)
  | none =>
    refine PySem.W.kla_makeFunction (mg := X.mg) (c := c) (P := P) (ps := ps) (closure_ok hfree) I.ok.glob (I.mod.glob.keeps I.bk) hcode (TB.code.keeps I.bk) hP' ht hc TB.gP bP fun c' ctv h' tk hx hge hlt hrec htb => ?_
    obtain ⟨c2, oc, vs, t, e2, hoc, hd, hv⟩ := hrec
    cases e2
    have nC : H c' = none := I.hok.fresh hge
    have I1 := inv_table (t' := tk) (q := q) (more := #[rawInt pos.line, rawInt pos.col, .ref c']) (h' := h') I hP (fun b o hb e => hx b o hb e) htb hge ⟨oc, vs, t, hoc, hd, hv⟩
    have eL : (ps ++ #[rawInt pos.line, rawInt pos.col, .ref c']).toList = ps.toList ++ [rawInt pos.line, rawInt pos.col, .ref c'] := by simp
    refine new h'.objs.size c' _ _ (I.hok.fresh (Nat.le_trans hge (Nat.le_of_lt hlt))) nC (Nat.ne_of_lt hlt) (by rw [eL]; exact PySem.TriplesOk_snoc _ _ _ _ ht) (fun p' cv hcv => ?_) (lay c' ctv I1)
    rw [eL] at hcv
    rcases among_app2 _ ht hcv with z | ⟨z, _, _⟩
    · obtain ⟨x, hx, e⟩ := ha p' cv z
      exact ⟨x, .tail _ hx, e⟩
    · exact ⟨c', .head _, z⟩
def tLam (P : Addr) (q : Str) (mk : Addr → NF) (b : Expr) : TE := fun σ H Q => ∃ (cs : List Addr) (ps : Array Value), H P = some (.tbl ps) ∧ TriplesOk ps.toList ∧ (∀ (pos : Pos) (cv : Value), codeAmong pos ps.toList = some cv → ∃ x ∈ cs, cv = .ref x) ∧ (∀ x ∈ cs, H x = some (CodeO x q)) ∧
  (∀ f c', c' ∈ cs → H f = none → Q (.ref f) (upd H f (LamO f (mk c') b))) ∧
  ∀ (f c' : Addr) (ps' : Array Value), H f = none → H c' = none → c' ≠ f → TriplesOk ps'.toList → (∀ (pos : Pos) (cv : Value), codeAmong pos ps'.toList = some cv → ∃ x ∈ c' :: cs, cv = .ref x) →
    Q (.ref f) (upd (upd (upd H P (.tbl ps')) c' (CodeO c' q)) f (LamO f (mk c') b))
theorem pe_lamb {c P : Addr} {q : Str} {la : Expr} {pos : Pos} (hla : la = .Lambda (laParams la) (laBody la) (laScope la) pos) (TB : TabB X.base X.mg c P) (hcode : X.env.code = .ref c) (hq : X.env.qual ++ "<lambda>" = q) (hdef : defaultsOf (laParams la) X.env = ([], []))
    (hfree : ∀ y ∈ (laScope la).names, y.2 = .free → X.env.scope.names.lookup y.1 = some .cell ∨ X.env.scope.names.lookup y.1 = some .free) :
    PE X la (tLam P q (laNF la q (cloFrom X.env.cells (laScope la).names [])) (laBody la)) := by
  refine ⟨fun pins s σ H Q I ⟨cs, ps, hP, ht, ha, hcs, found, new⟩ => ?_⟩
  have hfr : ∀ y ∈ (laScope la).names, y.2 = .free → ∃ c, X.env.cells.lookup y.1 = some c := fun y hy e => (hfree y hy e).elim (fun z => I.ok.has _ (.inl z)) fun z => I.ok.has _ (.inr z)
  exact lam_at hla I TB hcode hq hdef hP ht ha hcs hfr (fun f c' s' hm f0 I1 => ⟨.ref f, _, I1, rfl, found f c' hm f0⟩) fun f c' ps' s' f0 c0 hcf ht' ha' I1 => ⟨.ref f, _, I1, rfl, new f c' ps' f0 c0 hcf ht' ha'⟩
/-- f(e, lambda ..): f takes the lambda -/
def eCallL (P : Addr) (q : Str) (js : List Nat) (b : Expr) (G : Addr → Ka → FD → FD) (C : List (Option D) → FD) (g : WE) : WE := fun E env M Q => g E env M fun d M1 => ∃ cs, M1 P = some (.tab cs) ∧ (∀ c ∈ cs, M1 c = some (.code q)) ∧
  ∀ f F M2, M1 f = none → F.qual = q → NewCode M1 P cs q f F.c M2 → G f (.l F b) (C (js.map (DL.gt env))) E [d, .ref f] (M2.set f (.lam F b)) Q
variable {e : Expr} {g : WE} {pos p : Pos} {x : Str} {ps fr : List Str} {C : List (Option D) → FD} {CX : CXT} {kc j : Nat} {G : Addr → Ka → FD → FD}
theorem d_callL {c P : Addr} {q : Str} {la : Expr} {lpos : Pos} (js : List Nat) (D : FnDK (cn X CA) X.mg X.base CX x G) (hla : la = .Lambda (laParams la) (laBody la) (laScope la) lpos) (TB : TabB X.base X.mg c P) (hcode : X.env.code = .ref c) (hq : X.env.qual ++ "<lambda>" = q) (hdef : defaultsOf (laParams la) X.env = ([], []))
    (hfree : ∀ y ∈ (laScope la).names, y.2 = .free → X.env.scope.names.lookup y.1 = some .cell ∨ X.env.scope.names.lookup y.1 = some .free) (Fn : ∀ cl c', FnK (cn X CA) X.mg X.base CX kc (.l (laNF la q cl c') (laBody la)) ps fr C)
    (cp : X.Ok → Caps X (cloFrom X.env.cells (laScope la).names []) fr js) (hfn : ∀ x, X.fn x = true) (hr : Room j X.A) (hk : kc + 1 ≤ j) (h1 : 1 ≤ kc) (hx : Passes CX X XE) (ha : SE X CA XE e g) (hg : Gl X x := by rfl)
    (hdb : (x == ("__debug__" : Str)) = false := by decide) (he : starEach [e, la] X.env = (false, eval e X.env) :: starEach [la] X.env := by rfl) (he2 : starEach [la] X.env = (false, eval la X.env) :: starEach [] X.env := by rfl) (hpl : (backTo pos (starEach [la] X.env)).any (·.1) = false := by rfl) :
    SE X CA XE (.Call (.Name x p) [e, la] [] pos) (eCallL P q js (laBody la) G C g) := by
  obtain ⟨fa, fd, ps', FOs, hm, hkp, hb⟩ := D.h
  have FO := FOs kc h1
  refine ⟨fun pins s σ H Q I ⟨env, M, Ed, Qd, pr, q2, kq⟩ => ?_⟩
  refine wpAny_Call_Name_kw (ld_glob I hg hm ?_ hdb)
  have hpa : PA X [e, la] _ := pa_cons ha (pa_cons (pe_lamb hla TB hcode hq hdef hfree) pa_nil he2) he
  refine PySem.W.callWith_K (h₀ := X.base) I.ok.mod.kin hkp (thn (hpa.run pos pins s σ H (fun vs H2 => ∃ f c' ds M2, G f (.l (laNF la q (cloFrom X.env.cells (laScope la).names []) c') (laBody la)) (C (js.map (DL.gt env))) Ed ds M2 Qd ∧ Reps X.K H2 vs ds ∧ R (cn X CA) M2 H2 ∧ Tups X.K H H2) I
    ⟨env, M, Ed, _, pr, q2, fun d M1 v H1 ⟨cs, eP, ecs, q1⟩ r1 R1 T1 => ?_⟩) fun us s2 ⟨vs, H2, I2, rv, f, c', ds, M2, a3, r2, R2, T2⟩ => ⟨I2.kIn, ?_⟩) he hpl
  · obtain ⟨ps, hP, ht, ha⟩ := R1 _ _ eP
    refine ⟨cs, ps, hP, ht, ha, fun x hx => R1 _ _ (ecs x hx), fun f c' hm f0 => ?_, fun f c' ps' f0 c0 hcf ht' ha' => ?_⟩
    · have T : Tups X.K H1 (upd H1 f (LamO f (laNF la q (cloFrom X.env.cells (laScope la).names []) c') (laBody la))) := Tups.new f0
      exact ⟨f, c', _, _, q1 f (laNF la q (cloFrom X.env.cells (laScope la).names []) c') M1 (R1.fresh f0) rfl (.found hm), .cons (r1.m T) (.cons (.ref f) .nil), R1.at T upd_same, T1.trans T⟩
    · have hPc : P ≠ c' := fun e => by rw [e, c0] at hP; cases hP
      have hPf : P ≠ f := fun e => by rw [e, f0] at hP; cases hP
      have T1' : Tups X.K H1 (upd H1 P (.tbl ps')) := Tups.wr hP (ne_frz trivial)
      have R1' : R (cn X CA) (M1.set P (.tab (c' :: cs))) (upd H1 P (.tbl ps')) := R1.at T1' ⟨ps', upd_same, ht', ha'⟩
      have T2 : Tups X.K (upd H1 P (.tbl ps')) (upd (upd H1 P (.tbl ps')) c' (CodeO c' q)) := Tups.new (by rw [upd_ne hPc.symm]; exact c0)
      have R2 : R (cn X CA) ((M1.set P (.tab (c' :: cs))).set c' (.code q)) (upd (upd H1 P (.tbl ps')) c' (CodeO c' q)) := R1'.at T2 upd_same
      have T3 : Tups X.K (upd (upd H1 P (.tbl ps')) c' (CodeO c' q)) (upd (upd (upd H1 P (.tbl ps')) c' (CodeO c' q)) f (LamO f (laNF la q (cloFrom X.env.cells (laScope la).names []) c') (laBody la))) := Tups.new (by rw [upd_ne hcf.symm, upd_ne hPf.symm]; exact f0)
      have R3 := R2.at (o := .lam (laNF la q (cloFrom X.env.cells (laScope la).names []) c') (laBody la)) T3 upd_same
      have T := T1'.trans (T2.trans T3)
      exact ⟨f, c', _, _, q1 f (laNF la q (cloFrom X.env.cells (laScope la).names []) c') _ (R1.fresh f0) rfl (.new (R1.fresh c0) hcf), .cons (r1.m T) (.cons (.ref f) .nil), R3, T1.trans T⟩
  show wpAny _ _ (call (.ref fa) us) _ _ _
  have hl : us.length = ps'.length := by rw [← rv.length, Reps.length r2]; exact FO.len _ _ _ _ _ _ _ a3
  have hbb := hb s2 us I2.kIn (by simpa using hl)
  obtain ⟨c1, c2⟩ := own_cells I2 (cp I2.ok) hfn
  refine wpAny_call (codeAny_mono (FO.run (κ := .l (laNF la q (cloFrom X.env.cells (laScope la).names []) c') (laBody la)) X.A X.stack s2 H2 ⟨us, []⟩ us vs Q XE (hr.mono hk) I2.env0 (by simpa using hbb) rv c1 c2 (Fn _ c') (env_slots (pr.e.mono T2) js) r2 R2 a3 (pr.x.mono T2) (kq.mono T2)) fun r s' hq => ?_)
  match r, hq with
  | .error e, hq => exact hx pins σ H2 s2 e s' I2 hq
  | .ok (.ret u), hq => exact I2.after hq
  | .ok .next, hq => exact False.elim hq
  | .ok .brk, hq => exact False.elim hq
  | .ok .cont, hq => exact False.elim hq
end
end DL

set_option Elab.async false
set_option linter.all false
set_option maxRecDepth 100000
set_option maxHeartbeats 4000000
/-! DY2: repr of deeper data; == of which one side is flat enough -/
namespace DL
open PySem PySem.Spec PyProof.Rows L2
mutual
theorem Rep.dpC {K : PySem.W.Frag} {H : Hp} : ∀ (d : D) {v : V}, Rep K H v d → d.py.canLay0 = true → Dp K H v d.py
  | .non, _, h, _ => by cases h; exact .non
  | .bl b, _, h, _ => by cases h; exact .bl b
  | .int b, _, h, _ => by cases h; exact .int b
  | .str b, _, h, _ => by cases h; exact .str b
  | .ref b, _, h, z => by simp [D.py, PyData.canLay0] at z
  | .ty b, _, h, z => by simp [D.py, PyData.canLay0] at z
  | .lro b, _, h, z => by simp [D.py, PyData.canLay0] at z
  | .tup ds, _, h, z => by
    cases h with
    | tup s r =>
      refine .tup s.s (Reps.dpC ds r ?_)
      simp only [D.py, PyData.canLay0] at z
      exact z
theorem Reps.dpC {K : PySem.W.Frag} {H : Hp} : ∀ (ds : List D) {vs : List V}, Reps K H vs ds → PyData.canLayAll0 (D.pys ds) = true → DpAll K H vs (D.pys ds)
  | [], _, h, _ => by cases h; exact .nil
  | d :: ds, _, h, z => by
    cases h with
    | cons a b =>
      simp only [D.pys, PyData.canLayAll0, Bool.and_eq_true] at z
      exact .cons (Rep.dpC d a z.1) (Reps.dpC ds b z.2)
end
def repW (x : D) (k : Str → Prop) : Prop := x.py.canLay0 = true ∧ x.py.depth ≤ 190 ∧ x.py.showable = true ∧ x.py.shown.length ≤ sizeLine ∧ (∃ xs, x = .tup xs) ∧ k x.py.shown
def eReprW (f : WE) : WE := fun E env M Q => f E env M fun x M1 => repW x fun s => Q (.str s) M1
@[simp] theorem eReprW_s {f : WE} {E : XW} {env : Ev} {M : Sto} {Q : KD} : eReprW f E env M Q = f E env M fun x M1 => repW x fun s => Q (.str s) M1 := id rfl
/-- == of data; the right one is not deep -/
def cEqW : C2 := fun x y M k => x.py.canLay0 = true ∧ y.py.canLay0 = true ∧ y.py.depth ≤ 64 ∧ k (PyData.eqv x.py y.py)
def rEqW (K : PySem.W.Frag) : R2 := fun x y H Q => ∃ d e, Dp K H x d ∧ Dp K H y e ∧ d.canLay0 = true ∧ e.canLay0 = true ∧ e.depth ≤ 64 ∧ Q (.bl (PyData.eqv d e)) H
theorem eqWS {c : Cn} : CmpS c cEqW (rEqW c.K) := by
  intro v1 v2 d1 d2 M H kd Q r1 r2 hR ⟨h1, h2, h3, h4⟩ k
  exact ⟨_, _, r1.dpC _ h1, r2.dpC _ h2, h1, h2, h3, k _ h4⟩
section
variable {X : Cx} {CA : String → Addr} {XE : XK} {a : Expr} {f : WE} {pos p : Pos} {k : Nat}
theorem op_eqW (hr : Room k X.A) : OpR X (compareOp .Eq) (rEqW X.K) := by
  intro pins s σ H x y v u Q I rx ry h
  obtain ⟨d, e, hd, he, sd, se, hz, q⟩ := h
  obtain ⟨as, r1⟩ := Dp.reads I d x v hd rx
  obtain ⟨bs, r2⟩ := Dp.reads I e y u he ry
  have hu := hr.un
  exact SeqAt.compareEq_reads r1 r2 sd se (by have := Nat.min_le_right d.depth e.depth; omega) ⟨.bl _, H, I, rfl, q⟩
theorem d_reprW (hg : X.A.guards = some []) (hr : Room k X.A) (hm : X.mg "repr" = none) (ha : SE X CA XE a f) (hgl : Gl X "repr" := by rfl) (he : starEach [a] X.env = (false, eval a X.env) :: starEach [] X.env := by rfl) (hpl : (backTo pos (starEach [] X.env)).any (·.1) = false := by rfl) : SE X CA XE (.Call (.Name "repr" p) [a] [] pos) (eReprW f) := by
  refine ⟨fun pins s σ H Q I ⟨env, M, Ed, Qd, p, q, kq⟩ => ?_⟩
  refine wpAny_Call_Name_kw (ld_blt (u := .builtin "repr") I hgl hm (by decide +kernel) ?_)
  have pa : PA X [a] _ := pa_cons ha pa_nil he
  refine PyProof.Rows.callWith_builtin1 (thn (pa.run _ pins s σ H (fun vs H1 => ∃ d v M1, vs = [v] ∧ repW d (fun t => Qd (.str t) M1) ∧ Rep X.K H1 v d ∧ R (cn X CA) M1 H1 ∧ Tups X.K H H1) I
    ⟨env, M, Ed, _, p, q, fun d M1 v H1 q1 r1 R1 T1 => ⟨d, v, M1, rfl, q1, r1, R1, T1⟩⟩) fun us s1 ⟨vs, H1, I1, r1, d, v, M1, ev, ⟨q1, q2, q3, q4, q5, q6⟩, rv, R1, T1⟩ => ?_) he hpl
  subst ev
  obtain ⟨u, rfl, ru⟩ := vals1 r1
  have hu := hr.un
  have hd := Rep.dpC d rv q1
  obtain ⟨as, rd⟩ := Dp.reads I1 d.py v u hd ru
  obtain ⟨xs, rfl⟩ := q5
  cases rv with
  | tup s1' r1' =>
    obtain rfl : u = Value.ref _ := ru
    exact repr_of_reads' rd q3 (PyData.noDict_hsm (PyData.hasDict_of_canLay _ q1)) hg (by omega) (fun b o e => e) (fun h' t tk kp => ⟨.str (D.tup xs).py.shown, H1, I1.kept kp, ⟨_, rfl⟩, kq _ _ _ _ q6 (.str _) R1 T1⟩) q4
end
end DL

set_option Elab.async false
set_option linter.all false
set_option maxRecDepth 100000
/-! G1: what the laws' makers of programs ask and tell -/
namespace DL
open PySem
/-- what a script's reader stands at -/
def cs (b : Addr) (i j k l : Int) : O := .lst [.ref b, .int i, .int j, .int k, .int l]
def CO (b : Addr) (o : O) : Prop := ∃ i j k l, 0 ≤ i ∧ o = cs b i j k l
structure CSt (M : Sto) (a b : Addr) : Prop where
  ne : a ≠ b
  xs : ∃ xs : List Int, M b = some (.lst (xs.map .int))
  o : ∃ o, M a = some o ∧ CO b o
/-- from M to M' nothing is changed but what stands at a -/
structure Fr (a b : Addr) (M M' : Sto) : Prop where
  l : LeX a M M'
  o : ∃ o, M' a = some o ∧ CO b o
section
variable {M M' : Sto} {a b p : Addr} {o : O}
theorem CSt.pa (h : CSt M a b) (hp : M p = none) : p ≠ a := by
  obtain ⟨o, e, _⟩ := h.o
  exact (ne_of e hp).symm
theorem CSt.pb (h : CSt M a b) (hp : M p = none) : p ≠ b := by
  obtain ⟨xs, e⟩ := h.xs
  exact (ne_of e hp).symm
theorem CSt.fresh (h : CSt M a b) (hp : M p = none) : CSt (M.set p o) a b :=
  ⟨h.ne, by obtain ⟨xs, e⟩ := h.xs; exact ⟨xs, by rw [set_ne (h.pb hp).symm]; exact e⟩, by obtain ⟨u, e, c⟩ := h.o; exact ⟨u, by rw [set_ne (h.pa hp).symm]; exact e, c⟩⟩
theorem CSt.set (h : CSt M a b) (c : CO b o) : CSt (M.set a o) a b :=
  ⟨h.ne, by obtain ⟨xs, e⟩ := h.xs; exact ⟨xs, by rw [set_ne h.ne.symm]; exact e⟩, ⟨o, set_same, c⟩⟩
theorem CSt.fr (h : CSt M a b) (f : Fr a b M M') : CSt M' a b := ⟨h.ne, by obtain ⟨xs, e⟩ := h.xs; exact ⟨xs, f.l _ _ h.ne.symm e⟩, f.o⟩
theorem CSt.refl (h : CSt M a b) : Fr a b M M := ⟨.refl, h.o⟩
theorem Fr.fresh (f : Fr a b M M') (hp : M' p = none) : Fr a b M (M'.set p o) := by
  have hpa : p ≠ a := by
    obtain ⟨o, e, _⟩ := f.o
    exact (ne_of e hp).symm
  refine ⟨fun x u hx e => ?_, by obtain ⟨u, e, c⟩ := f.o; exact ⟨u, by rw [set_ne hpa.symm]; exact e, c⟩⟩
  have e' := f.l x u hx e
  rw [set_ne (ne_of e' hp)]; exact e'
/-- also at a place that was not there before -/
theorem Fr.upd {u : O} (f : Fr a b M M') (hp : M p = none) (hpa : p ≠ a) : Fr a b M (M'.set p u) := by
  refine ⟨fun x w hx e => ?_, by obtain ⟨u, e, c⟩ := f.o; exact ⟨u, by rw [set_ne hpa.symm]; exact e, c⟩⟩
  rw [set_ne (ne_of e hp)]; exact f.l x w hx e
theorem Fr.set (f : Fr a b M M') (c : CO b o) : Fr a b M (M'.set a o) := ⟨f.l.at, ⟨o, set_same, c⟩⟩
theorem Fr.trans {M'' : Sto} (f : Fr a b M M') (g : Fr a b M' M'') : Fr a b M M'' := ⟨f.l.trans g.l, g.o⟩
theorem Fr.none (f : Fr a b M M') (hp : M' p = none) : p ≠ a ∧ M p = none := by
  have hpa : p ≠ a := by
    obtain ⟨o, e, _⟩ := f.o
    exact (ne_of e hp).symm
  refine ⟨hpa, ?_⟩
  cases hm : M p with
  | none => rfl
  | some u => rw [f.l p u hpa hm] at hp; cases hp
theorem Fr.le (f : Fr a b M M') : ∃ o, CO b o ∧ Le (M.set a o) M' := by
  obtain ⟨o, e, c⟩ := f.o
  exact ⟨o, c, f.l.le e⟩
theorem Fr.at (f : Fr a b M M') (hx : p ≠ a) (e : M p = some o) : M' p = some o := f.l _ _ hx e
end
def S_law_start : FD := fn1 fun x _ M Q => ∃ ns : List Int, x = .lro (ns.map .int) ∧ ns.length ≤ 63 ∧ ∀ a b, a ≠ b → M a = none → M b = none → Q (.ref a) ((M.set b (.lst (ns.map .int))).set a (cs b 0 0 0 20))
def S_law_fill : FD := fn1 fun c _ M Q => ∃ a b, c = .ref a ∧ CSt M a b ∧ ∀ v o, CO b o → Q (.int v) (M.set a o)
def S_law_take : FD := fn2 fun c m _ M Q => ∃ a b many, c = .ref a ∧ m = .int many ∧ 0 < many ∧ many < 1073741824 ∧ CSt M a b ∧ ∀ d o, 0 ≤ d → d < many → CO b o → Q (.int d) (M.set a o)
def S_law_divisor : FD := fn2 fun x y _ M Q => ∃ n d : Int, x = .int n ∧ y = .int d ∧ 0 < d ∧ Sm 8999 d ∧ Q (.int (Int.gcd n d)) M
/-- a fraction in lowest terms -/
def fr (n d : Int) : Int × Int := (n / (Int.gcd n d : Int), d / (Int.gcd n d : Int))
def dF (q : Int × Int) : D := .tup [.int q.1, .int q.2]
def S_law_fraction : FD := fn2 fun x y _ M Q => ∃ n d : Int, x = .int n ∧ y = .int d ∧ 0 < d ∧ Sm 8999 d ∧ Q (dF (fr n d)) M
def S_law_plus : FD := fn2 fun x y _ M Q => ∃ a b : Int × Int, x = dF a ∧ y = dF b ∧ 0 < a.2 ∧ 0 < b.2 ∧ Sm 4000 a.1 ∧ Sm 4000 a.2 ∧ Sm 4000 b.1 ∧ Sm 4000 b.2 ∧ Q (dF (fr (a.1 * b.2 + b.1 * a.2) (a.2 * b.2))) M
def S_law_times : FD := fn2 fun x y _ M Q => ∃ a b : Int × Int, x = dF a ∧ y = dF b ∧ 0 < a.2 ∧ 0 < b.2 ∧ Sm 4000 a.1 ∧ Sm 4000 a.2 ∧ Sm 4000 b.1 ∧ Sm 4000 b.2 ∧ Q (dF (fr (a.1 * b.1) (a.2 * b.2))) M
/-! the rows of chances that are drawn -/
def lcmR (rows : List (Int × Int)) : Int := rows.foldl (fun f r => f * r.2 / (Int.gcd f r.2 : Int)) 1
def menu : List (Int × Int) := [(1, 1), (1, 2), (1, 3), (2, 3), (1, 4), (3, 4), (1, 5), (2, 7), (1, 10)]
def cut2 (q : Int × Int) : List (Int × Int) := [q, fr (q.2 - q.1) q.2]
def cut3 (q u : Int × Int) : List (Int × Int) :=
  let rest := fr (q.2 - q.1) q.2
  let part := fr (rest.1 * u.1) (rest.2 * u.2)
  [q, part, fr (rest.1 * part.2 + (0 - part.1) * rest.2) (rest.2 * part.2)]
/-- the rows of the second maker: so many parts, so much in all -/
def comps : Nat → Nat → List (List Nat)
  | 0, d => if d = 0 then [[]] else []
  | m + 1, d => (List.range d).flatMap fun s => (comps m (d - (s + 1))).map fun r => (s + 1) :: r
def rowsB (m d : Nat) : List (List (Int × Int)) := (comps m d).map fun sh => sh.map fun s : Nat => fr (s : Int) (d : Int)
def cutsB : List (List (Int × Int)) := [2, 3, 4, 5, 6, 7, 8, 9, 12].flatMap fun d => rowsB 2 d ++ rowsB 3 d
def cuts : List (List (Int × Int)) := [(1, 1)] :: ((menu.drop 1).map cut2 ++ ((menu.drop 1).map fun q => (menu.drop 1).map fun u => cut3 q u).flatten ++ cutsB)
def S_law_cut : FD := fn1 fun c _ M Q => ∃ a b, c = .ref a ∧ CSt M a b ∧ ∀ rows o p, rows ∈ cuts → CO b o → p ≠ a → M p = none → Q (.ref p) ((M.set a o).set p (.lst (rows.map dF)))
/-! bodies -/
def dRow (r : (Int × Int) × D) : D := .tup [dF r.1, r.2]
abbrev dEnd : D := .tup [.str "end"]
abbrev dStop : D := .tup [.str "stop"]
def WB (ns ls : List Str) : Nat → D → Prop
  | 0, d => d = dEnd ∨ d = dStop
  | n + 1, d => d = dEnd ∨ d = dStop ∨ (∃ s b, s ∈ ls ∧ d = .tup [.str "tell", .str s, b] ∧ WB ns ls n b) ∨ (∃ s b, s ∈ ns ∧ d = .tup [.str "call", .str s, b] ∧ WB ns ls n b) ∨
    (∃ rs : List ((Int × Int) × D), rs.map Prod.fst ∈ cuts ∧ d = .tup [.str "draw", .tup (rs.map dRow)] ∧ ∀ r ∈ rs, WB ns ls n r.2)
theorem WB.succ {ns ls : List Str} : ∀ {n : Nat} {d : D}, WB ns ls n d → WB ns ls (n + 1) d
  | 0, d, h => by
    rcases h with h | h
    · exact .inl h
    · exact .inr (.inl h)
  | n + 1, d, h => by
    rcases h with h | h | ⟨s, b, h1, h2, h3⟩ | ⟨s, b, h1, h2, h3⟩ | ⟨rs, h1, h2, h3⟩
    · exact .inl h
    · exact .inr (.inl h)
    · exact .inr (.inr (.inl ⟨s, b, h1, h2, h3.succ⟩))
    · exact .inr (.inr (.inr (.inl ⟨s, b, h1, h2, h3.succ⟩)))
    · exact .inr (.inr (.inr (.inr ⟨rs, h1, h2, fun r hr => (h3 r hr).succ⟩)))
theorem WB.mono {ns ls : List Str} {m n : Nat} {d : D} (h : WB ns ls m d) (hl : m ≤ n) : WB ns ls n d := by
  induction hl with
  | refl => exact h
  | step _ ih => exact ih.succ
def S_law_body (n : Nat) : FD := fn4 fun c names letters deep _ M Q => ∃ a b pn pl, ∃ ns ls : List Str, ∃ k : Nat, c = .ref a ∧ CSt M a b ∧ names = .ref pn ∧ pn ≠ a ∧ M pn = some (.lst (ns.map .str)) ∧ ns ≠ [] ∧ ns.length ≤ 100 ∧
  letters = .ref pl ∧ pl ≠ a ∧ M pl = some (.lst (ls.map .str)) ∧ ls.length ≤ 100 ∧ deep = .int k ∧ k < n ∧ ∀ d o, WB ns ls k d → CO b o → Q d (M.set a o)
def N4 : List Str := ["p", "q", "r2", "s"]
def L3 : List Str := ["a", "b", "p"]
def rotN (i k : Nat) : List Str := (N4.take (1 + i)).drop k ++ (N4.take (1 + i)).take k
def allN : List (List Str) := [0, 1, 2, 3].flatMap fun i => (List.range (1 + i)).map (rotN i)
def allL : List (List Str) := [0, 1, 2, 3].map L3.take
def dProc (r : Str × D) : D := .tup [.str r.1, r.2]
/-- programs as they are drawn -/
def WP (rs : List (Str × D)) : Prop := rs.map Prod.fst ∈ allN ∧ ∃ ls ∈ allL, ∀ r ∈ rs, WB (rs.map Prod.fst) ls 5 r.2
def S_law_program : FD := fn1 fun c _ M Q => ∃ a b, c = .ref a ∧ CSt M a b ∧ ∀ rs o, WP rs → CO b o → Q (.tup (rs.map dProc)) (M.set a o)
end DL

set_option Elab.async false
set_option linter.all false
set_option maxRecDepth 100000
/-! mirrors of the text's defs (printed by gen.py) -/
namespace DL
open PySem
def CE_law_start_1 : WE :=
  (eInt (eVar 1))
def B_law_start : WS :=
  (sRet (eLst [(eComp (iVal (eSl (eVar 0) none (some (eC (.int 63))))) [1] (gName 1) tYes CE_law_start_1), (eC (.int 0)), (eC (.int 0)), (eC (.int 0)), (eC (.int 20))]))
def T_law_fill_1 : WS :=
  (sIf (tCmp cGe (eVar 1) (eBin opPow (eC (.int 10)) (eC (.int 18)))) (sRet (eVar 1)) sNil)
def T_law_fill_2 : WS :=
  (sSeq (sAsg (eBin opMod (eInt (eBin opAdd (eBin opMul (eVar 1) (eC (.int 48271))) (eBin opMul (eSub (eVar 0) (eC (.int 3))) (eC (.int 69621))))) (eC (.int 2147483647))) (gName 1)) (sRet (eBin opAdd (eBin opDiv (eInt (eBin opAdd (eBin opAdd (eBin opMul (eVar 1) (eVar 1)) (eBin opMul (eSub (eVar 0) (eC (.int 3))) (eC (.int 7919)))) (eC (.int 11)))) (eC (.int 64))) (eC (.int 36028797018963968)))))
def T_law_fill_3 : WS :=
  (sSeq (sIf (tAnd (tTru (eSub (eVar 0) (eC (.int 0)))) (tCmp cGe (eSub (eVar 0) (eC (.int 1))) (eLen (eSub (eVar 0) (eC (.int 0)))))) (sAsg (eBin opAdd (eVar 1) (eBin opMod (eInt (eSub (eSub (eVar 0) (eC (.int 0))) (eNeg (eC (.int 1))))) (eC (.int 1000003)))) (gName 1)) sNil) T_law_fill_2)
def B_law_fill : WS :=
  (sSeq (sAsg (eBin opAdd (eSub (eVar 0) (eC (.int 3))) (eC (.int 1))) (gSub (eVar 0) (eC (.int 3)))) (sSeq (sAsg (eBin opAdd (eBin opMul (eSub (eVar 0) (eC (.int 3))) (eC (.int 69621))) (eC (.int 12345))) (gName 1)) (sSeq (sIf (tCmp cLt (eSub (eVar 0) (eC (.int 1))) (eLen (eSub (eVar 0) (eC (.int 0))))) (sSeq (sAsg (eSub (eSub (eVar 0) (eC (.int 0))) (eSub (eVar 0) (eC (.int 1)))) (gName 1)) (sSeq (sAsg (eBin opAdd (eSub (eVar 0) (eC (.int 1))) (eC (.int 1))) (gSub (eVar 0) (eC (.int 1)))) (sSeq (sIf (tCmp cLt (eVar 1) (eC (.int 0))) (sAsg (eBin opSub (eBin opSub (eC (.int 0)) (eC (.int 1))) (eVar 1)) (gName 1)) sNil) T_law_fill_1))) sNil) T_law_fill_3)))
def T_law_take_1 : WS :=
  (sSeq (sAsg (eBin opMod (eInt (eSub (eVar 0) (eC (.int 2)))) (eVar 1)) (gName 2)) (sSeq (sAsg (eBin opDiv (eSub (eVar 0) (eC (.int 2))) (eVar 1)) (gSub (eVar 0) (eC (.int 2)))) (sRet (eVar 2))))
def B_law_take : WS :=
  (sSeq (sIf (tCmp cLt (eSub (eVar 0) (eC (.int 2))) (eVar 1)) (sAsg (eCall S_law_fill [(eVar 0)]) (gSub (eVar 0) (eC (.int 2)))) sNil) T_law_take_1)
def T_law_divisor_1 : WS :=
  (sAsg (eTup [(eVar 1), (eBin opMod (eVar 0) (eVar 1))]) (gTup [gName 0, gName 1]))
def FB_law_divisor_1 : WS :=
  (sSeq (sIf (tCmp cEq (eVar 1) (eC (.int 0))) (sRet (eAbs (eVar 0))) sNil) T_law_divisor_1)
def T_law_divisor_2 : WS :=
  (sRet (eC (.int 1)))
def B_law_divisor : WS :=
  (sSeq (sFor (iRange1 (eC (.int 20000))) (gName 2) FB_law_divisor_1) T_law_divisor_2)
def B_law_fraction : WS :=
  (sSeq (sAsg (eCall S_law_divisor [(eVar 0), (eVar 1)]) (gName 2)) (sSeq (sAsg (eIf (tCmp cGt (eVar 1) (eC (.int 0))) (eVar 2) (eBin opSub (eC (.int 0)) (eVar 2))) (gName 2)) (sRet (eTup [(eBin opDiv (eVar 0) (eVar 2)), (eBin opDiv (eVar 1) (eVar 2))]))))
def B_law_plus : WS :=
  (sRet (eCall S_law_fraction [(eBin opAdd (eBin opMul (eSub (eVar 0) (eC (.int 0))) (eSub (eVar 1) (eC (.int 1)))) (eBin opMul (eSub (eVar 1) (eC (.int 0))) (eSub (eVar 0) (eC (.int 1))))), (eBin opMul (eSub (eVar 0) (eC (.int 1))) (eSub (eVar 1) (eC (.int 1))))]))
def B_law_times : WS :=
  (sRet (eCall S_law_fraction [(eBin opMul (eSub (eVar 0) (eC (.int 0))) (eSub (eVar 1) (eC (.int 0)))), (eBin opMul (eSub (eVar 0) (eC (.int 1))) (eSub (eVar 1) (eC (.int 1))))]))
def T_law_cut_1 : WS :=
  (sRet (eBin opAdd (eVar 2) (eLst [(eVar 3)])))
def T_law_cut_2 : WS :=
  (sSeq (sAsg (eLst [(eTup [(eVar 4), (eVar 5)])]) (gName 2)) (sSeq (sAsg (eCall S_law_fraction [(eBin opSub (eVar 5) (eVar 4)), (eVar 5)]) (gName 3)) (sSeq (sIf (tCmp cEq (eCall S_law_take [(eVar 0), (eC (.int 3))]) (eC (.int 0))) (sSeq (sAsg (eSub (eVar 1) (eBin opAdd (eC (.int 1)) (eCall S_law_take [(eVar 0), (eC (.int 8))]))) (gTup [(gName 4), (gName 5)])) (sSeq (sAsg (eCall S_law_times [(eVar 3), (eTup [(eVar 4), (eVar 5)])]) (gName 6)) (sSeq (sExpr (eAppend (eVar 2) (eVar 6))) (sAsg (eCall S_law_plus [(eVar 3), (eTup [(eBin opSub (eC (.int 0)) (eSub (eVar 6) (eC (.int 0)))), (eSub (eVar 6) (eC (.int 1)))])]) (gName 3))))) sNil) T_law_cut_1)))
def B_law_cut : WS :=
  (sSeq (sAsg (eLst [(eTup [(eC (.int 1)), (eC (.int 1))]), (eTup [(eC (.int 1)), (eC (.int 2))]), (eTup [(eC (.int 1)), (eC (.int 3))]), (eTup [(eC (.int 2)), (eC (.int 3))]), (eTup [(eC (.int 1)), (eC (.int 4))]), (eTup [(eC (.int 3)), (eC (.int 4))]), (eTup [(eC (.int 1)), (eC (.int 5))]), (eTup [(eC (.int 2)), (eC (.int 7))]), (eTup [(eC (.int 1)), (eC (.int 10))])]) (gName 1)) (sSeq (sAsg (eSub (eVar 1) (eCall S_law_take [(eVar 0), (eC (.int 9))])) (gTup [(gName 4), (gName 5)])) (sSeq (sIf (tCmp cEq (eVar 5) (eC (.int 1))) (sRet (eLst [(eTup [(eC (.int 1)), (eC (.int 1))])])) sNil) T_law_cut_2)))
def CE_law_body_1 (n : Nat) : WE :=
  (eTup [(eVar 5), (eCall (S_law_body n) [(eVar 0), (eVar 1), (eVar 2), (eBin opSub (eVar 3) (eC (.int 1)))])])
def T_law_body_1 (n : Nat) : WS :=
  (sRet (eTup [(eC (.str "draw")), (eTupOf (eComp (iVal (eCall S_law_cut [(eVar 0)])) [5] (gName 5) tYes (CE_law_body_1 n)))]))
def T_law_body_2 (n : Nat) : WS :=
  (sSeq (sIf (tCmp cLt (eVar 4) (eC (.int 6))) (sRet (eTup [(eC (.str "call")), (eSub (eVar 1) (eCall S_law_take [(eVar 0), (eLen (eVar 1))])), (eCall (S_law_body n) [(eVar 0), (eVar 1), (eVar 2), (eBin opSub (eVar 3) (eC (.int 1)))])])) sNil) (T_law_body_1 n))
def T_law_body_3 (n : Nat) : WS :=
  (sSeq (sIf (tAnd (tCmp cLt (eVar 4) (eC (.int 3))) (tTru (eVar 2))) (sRet (eTup [(eC (.str "tell")), (eSub (eVar 2) (eCall S_law_take [(eVar 0), (eLen (eVar 2))])), (eCall (S_law_body n) [(eVar 0), (eVar 1), (eVar 2), (eBin opSub (eVar 3) (eC (.int 1)))])])) sNil) (T_law_body_2 n))
def B_law_body (n : Nat) : WS :=
  (sSeq (sAsg (eCall S_law_take [(eVar 0), (eC (.int 9))]) (gName 4)) (sSeq (sIf (tOr (tCmp cLt (eVar 3) (eC (.int 1))) (tCmp cEq (eVar 4) (eC (.int 0)))) (sRet (eSub (eLst [(eTup [(eC (.str "end"))]), (eTup [(eC (.str "end"))]), (eTup [(eC (.str "end"))]), (eTup [(eC (.str "end"))]), (eTup [(eC (.str "stop"))])]) (eCall S_law_take [(eVar 0), (eC (.int 5))]))) sNil) (T_law_body_3 n)))
def CE_law_program_1 : WE :=
  (eTup [(eVar 4), (eCall (S_law_body 8) [(eVar 0), (eVar 1), (eVar 3), (eBin opAdd (eC (.int 1)) (eCall S_law_take [(eVar 0), (eC (.int 5))]))])])
def B_law_program : WS :=
  (sSeq (sAsg (eSl (eLst [(eC (.str "p")), (eC (.str "q")), (eC (.str "r2")), (eC (.str "s"))]) none (some (eBin opAdd (eC (.int 1)) (eCall S_law_take [(eVar 0), (eC (.int 4))])))) (gName 1)) (sSeq (sAsg (eCall S_law_take [(eVar 0), (eLen (eVar 1))]) (gName 2)) (sSeq (sAsg (eBin opAdd (eSl (eVar 1) (some (eVar 2)) none) (eSl (eVar 1) none (some (eVar 2)))) (gName 1)) (sSeq (sAsg (eSl (eLst [(eC (.str "a")), (eC (.str "b")), (eC (.str "p"))]) none (some (eCall S_law_take [(eVar 0), (eC (.int 4))]))) (gName 3)) (sRet (eTupOf (eComp (iVal (eVar 1)) [4] (gName 4) tYes CE_law_program_1)))))))
end DL

set_option Elab.async false
set_option linter.all false
set_option maxRecDepth 100000
set_option maxHeartbeats 4000000
namespace DL
open PySem
theorem Str.ne_of {a b : Str} (h : (a == b) = false) : a ≠ b := by intro e; subst e; simp at h
theorem ob_law_start : ∀ E ds M Q, S_law_start E ds M Q → B_law_start E (endsL Q) (start 2 ds) M := by
  intro E ds M Q h
  obtain ⟨x, rfl, ns, rfl, hl, hq⟩ := fn1_e h
  simp [B_law_start]
  intro p hp q hq'
  have e : cut (ns.map D.int) none (some 63) = ns.map D.int := by
    unfold cut HT.sIx
    rw [List.length_map]
    simp
    exact List.take_of_length_le (by rw [List.length_map]; omega)
  rw [e]
  have hpq : q ≠ p := (set_none.mp hq').1
  have hq0 := (set_none.mp hq').2
  refine comp_map id (fun m => m p = some (.lst (ns.map D.int))) (fun m o h => by rw [set_ne hpq.symm]; exact h) (fun _ h => h) _ [] _ ?_ ?_ set_same ?_ ?_
  · intro x hx m T r ht
    obtain ⟨i, _, rfl⟩ := List.mem_map.mp hx
    simp [CE_law_start_1]; exact ht
  · have := sizeLine_ge; simp; omega
  · rw [set_ne hpq.symm, set_same]
  · intro a ha
    simp only [List.nil_append, List.map_id]
    rw [set_set] at ha ⊢
    have h1 := set_none.mp ha
    have h2 := set_none.mp h1.2
    exact ⟨_, (((Le.refl.fresh hp).set).set : Le ((M.set q _).set a _) _), hq a q h1.1 h2.2 hq0⟩
theorem ob_law_fill : ∀ E ds M Q, S_law_fill E ds M Q → B_law_fill E (endsL Q) (start 2 ds) M := by
  intro E ds M Q h
  obtain ⟨x, rfl, a, b, rfl, hc, hq⟩ := fn1_e h
  obtain ⟨h2, ⟨xs, h5⟩, ⟨_, h4, i, j, k, l, h3, rfl⟩⟩ := hc
  have e5 : ∀ o, M.set a o b = some (.lst (xs.map .int)) := fun o => by rw [set_ne (Ne.symm h2)]; exact h5
  have hq' : ∀ (v i' j' k' l' : Int), 0 ≤ i' → ∃ M0, Le M0 (M.set a (cs b i' j' k' l')) ∧ Q (.int v) M0 := fun v i' j' k' l' hi => ⟨_, Le.refl, hq _ _ ⟨i', j', k', l', hi, rfl⟩⟩
  have tail : ∀ (v i' j' k' l' : Int), 0 ≤ i' → T_law_fill_2 E (endsL Q) [some (.ref a), some (.int v)] (M.set a (cs b i' j' k' l')) := by
    intro v i' j' k' l' hi
    simp [T_law_fill_2, cs, K, mulOk_small, np_small]
    refine ⟨?_, hq' _ _ _ _ _ hi⟩
    refine mulOk_small ?_
    have e1 := Int.emod_nonneg (a := v * 48271 + k' * 69621) (b := 2147483647) (by decide)
    have e2 := Int.emod_lt_of_pos (v * 48271 + k' * 69621) (b := 2147483647) (by decide)
    rw [fmod_pos (by decide)]
    omega
  have tail3 : ∀ (v i' j' k' l' : Int), 0 ≤ i' → T_law_fill_3 E (endsL Q) [some (.ref a), some (.int v)] (M.set a (cs b i' j' k' l')) := by
    intro v i' j' k' l' hi
    simp [T_law_fill_3, cs, e5]
    split
    · exact go (tail v i' j' k' l' hi)
    · rename_i hx
      split
      · have : 1 ≤ xs.length := by
          have : xs.length ≠ 0 := by simpa using hx
          omega
        rw [if_pos (by omega), Option.bind_some, show (-1 + (xs.length : Int)).toNat = xs.length - 1 from by omega, List.getElem?_eq_getElem (by omega)]
        simp
        exact go (tail _ i' j' k' l' hi)
      · exact go (tail _ i' j' k' l' hi)
  simp [B_law_fill, h4, cs, K, mulOk_small, e5, h3]
  split
  · rename_i hi
    have hi' : i.toNat < xs.length := by omega
    have := tail3
    simp [cs] at this
    simp [List.getElem?_eq_getElem hi', set_set, T_law_fill_1, K]
    have := sizeLine_ge
    split <;> split <;> first | exact hq' _ _ _ _ _ (by omega) | exact tail3 _ _ _ _ _ (by omega)
  · exact tail3 _ _ _ _ _ h3
theorem ob_law_take : ∀ E ds M Q, S_law_take E ds M Q → B_law_take E (endsL Q) (start 3 ds) M := by
  intro E ds M Q h
  obtain ⟨x, y, rfl, a, b, many, rfl, rfl, h0, h1, hc, hq⟩ := fn2_e h
  have tail : ∀ o, CO b o → T_law_take_1 E (endsL Q) [some (.ref a), some (.int many), none] (M.set a o) := by
    intro o hc'
    obtain ⟨i, j, k, l, h2, rfl⟩ := hc'
    simp [T_law_take_1, cs, K, fdiv_pos h0, fmod_pos h0, set_set]
    exact ⟨by omega, np_small (by omega), _, Le.refl, hq _ _ (Int.emod_nonneg _ (by omega)) (Int.emod_lt_of_pos _ h0) ⟨i, _, k, l, h2, rfl⟩⟩
  obtain ⟨h2, ⟨xs, h5⟩, ⟨_, h4, i, j, k, l, h3, rfl⟩⟩ := id hc
  simp [B_law_take, h4, cs]
  split
  · refine ⟨a, b, rfl, hc, fun v o hc' => ?_⟩
    obtain ⟨i', j', k', l', h3', rfl⟩ := hc'
    simp [cs, set_set]
    exact go (tail _ ⟨i', v, k', l', h3', rfl⟩)
  · have : M = M.set a (cs b i j k l) := (set_self h4).symm
    rw [this]
    exact go (tail _ ⟨i, j, k, l, h3, rfl⟩)
/-! ## fractions -/
theorem gcd_mod {a b : Int} (hb : 0 < b) : Int.gcd b (a % b) = Int.gcd a b := by
  rw [Int.emod_def, Int.gcd_sub_mul_left_right, Int.gcd_comm]
theorem div_loop {Q : KD} (E : XW) (M : Sto) : ∀ (m : Nat) (xs : List D) (a b : Int) (t : Option D) , 0 ≤ a → 0 ≤ b → Sm m b → 2 * m + 1 ≤ xs.length → Q (.int (Int.gcd a b)) M →
    forL (gName 2) FB_law_divisor_1 (fun _ => True) xs E { nx := K (T_law_divisor_2 E (endsL Q)), rt := (endsL Q).rt, bk := (endsL Q).bk, ct := (endsL Q).ct } [some (.int a), some (.int b), t] M
  | m, [], a, b, t, _, _, _, hl, _ => by simp at hl
  | m, x :: xs, a, b, t, h0, h1, hs, hl, hq => by
    rw [forL_cons]
    simp [FB_law_divisor_1]
    split
    · subst b
      refine ⟨M, Le.refl, ?_⟩
      simp [show ¬ a < 0 by omega] at hq ⊢
      rw [show (a.natAbs : Int) = a by omega] at hq; exact hq
    · have hb : 0 < b := by omega
      have r0 := Int.emod_nonneg a (b := b) (by omega)
      have r1 := Int.emod_lt_of_pos a hb
      refine go ?_
      simp [T_law_divisor_1, fmod_pos hb]
      refine ⟨by omega, go ?_⟩
      match m, hs, hl with
      | 0, hs, hl => exact absurd hs.h (by simp; omega)
      | m + 1, hs, hl =>
        by_cases hc : Sm m (a % b)
        · exact div_loop E M m xs b (a % b) _ (by omega) r0 hc (by simp at hl; omega) (by rw [gcd_mod hb]; exact hq)
        · match xs, hl with
          | [], hl => simp at hl
          | y :: xs, hl =>
            rw [forL_cons]
            simp [FB_law_divisor_1]
            have hc' : 0 < a % b := by
              rcases Int.lt_or_eq_of_le r0 with h | h
              · exact h
              · exfalso; apply hc; rw [← h]; exact ⟨by simp; exact Nat.two_pow_pos m⟩
            rw [if_neg (by omega)]
            refine go ?_
            simp [T_law_divisor_1, fmod_pos hc']
            refine ⟨by omega, go ?_⟩
            have r2 := Int.emod_nonneg b (b := a % b) (by omega)
            have r3 := Int.emod_lt_of_pos b hc'
            refine div_loop E M m xs (a % b) (b % (a % b)) _ r0 r2 ?_ (by simp at hl; omega) (by rw [gcd_mod hc', gcd_mod hb]; exact hq)
            refine ⟨?_⟩
            replace hs := hs.h
            have hc := fun h => hc ⟨h⟩
            have e := Int.emod_add_mul_ediv b (a % b)
            have hq1 : 1 ≤ b / (a % b) := by
              rcases Int.lt_or_le 0 (b / (a % b)) with h | h
              · omega
              · exfalso
                have h2 : 0 ≤ b / (a % b) := Int.ediv_nonneg (by omega) r0
                have h3 : b / (a % b) = 0 := by omega
                rw [h3] at e; simp at e
                omega
            have : a % b ≤ (a % b) * (b / (a % b)) := by simpa using Int.mul_le_mul_of_nonneg_left hq1 r0
            rw [Nat.pow_succ] at hs
            omega
theorem rangeL_len (i j : Int) : (rangeL i j).length = (j - i).toNat := by simp [rangeL]
theorem ob_law_divisor : ∀ E ds M Q, S_law_divisor E ds M Q → B_law_divisor E (endsL Q) (start 3 ds) M := by
  intro E ds M Q h
  obtain ⟨x, y, rfl, n, d, rfl, rfl, h0, h1, hq⟩ := fn2_e h
  simp [B_law_divisor]
  have hl := rangeL_len 0 20000
  generalize rangeL 0 20000 = xs at hl ⊢
  match xs, hl with
  | [], hl => simp at hl
  | x :: xs, hl =>
    rw [forL_cons]
    simp [FB_law_divisor_1]
    rw [if_neg (by omega)]
    refine go ?_
    have r0 := Int.emod_nonneg n (b := d) (by omega)
    have r1 := Int.emod_lt_of_pos n h0
    simp [T_law_divisor_1, fmod_pos h0]
    refine ⟨by omega, go ?_⟩
    refine div_loop E M 8999 xs d (n % d) _ (by omega) r0 (Sm.of_le (by omega) h1) (by simp at hl; omega) (by rw [gcd_mod h0]; exact hq)
theorem gcd_pos' {n d : Int} (h : 0 < d) : 0 < (Int.gcd n d : Int) := by
  have := Int.gcd_pos_of_ne_zero_right n (b := d) (by omega); omega
theorem gcd_sm {n d : Int} {m : Nat} (h : 0 < d) (hs : Sm m d) : Sm m (Int.gcd n d : Int) := Sm.of_le (by have := Int.gcd_le_right n h; omega) hs
theorem ob_law_fraction : ∀ E ds M Q, S_law_fraction E ds M Q → B_law_fraction E (endsL Q) (start 3 ds) M := by
  intro E ds M Q h
  obtain ⟨x, y, rfl, n, d, rfl, rfl, h0, h1, hq⟩ := fn2_e h
  have g0 := gcd_pos' (n := n) h0
  have g1 := gcd_sm (n := n) h0 h1
  simp [B_law_fraction, K, S_law_divisor]
  refine ⟨h0, h1, ?_⟩
  rw [if_pos h0, fdiv_pos g0, fdiv_pos g0]
  exact ⟨by omega, g1.np (by decide), by omega, g1.np (by decide), M, Le.refl, hq⟩
theorem ob_law_plus : ∀ E ds M Q, S_law_plus E ds M Q → B_law_plus E (endsL Q) (start 2 ds) M := by
  intro E ds M Q h
  obtain ⟨x, y, rfl, a, b, rfl, rfl, ha, hb, h1, h2, h3, h4, hq⟩ := fn2_e h
  simp [B_law_plus, S_law_fraction, dF]
  refine ⟨h1.mulOk h4 (by omega), h3.mulOk h2 (by omega), h2.mulOk h4 (by omega), Int.mul_pos ha hb, (h2.mul h4).mono (by omega), M, Le.refl, hq⟩
theorem ob_law_times : ∀ E ds M Q, S_law_times E ds M Q → B_law_times E (endsL Q) (start 2 ds) M := by
  intro E ds M Q h
  obtain ⟨x, y, rfl, a, b, rfl, rfl, ha, hb, h1, h2, h3, h4, hq⟩ := fn2_e h
  simp [B_law_times, S_law_fraction, dF]
  refine ⟨h1.mulOk h3 (by omega), h2.mulOk h4 (by omega), Int.mul_pos ha hb, (h2.mul h4).mono (by omega), M, Le.refl, hq⟩
theorem take_i {E : XW} {M : Sto} {Q : KD} {a b : Addr} {many : Int} (h0 : 0 < many) (h1 : many < 1073741824) (hc : CSt M a b) (hq : ∀ d o, 0 ≤ d → d < many → CO b o → Q (.int d) (M.set a o)) :
    S_law_take E [.ref a, .int many] M Q := ⟨a, b, many, rfl, rfl, h0, h1, hc, hq⟩
theorem frac_i {E : XW} {M : Sto} {Q : KD} {n d : Int} (h0 : 0 < d) (h1 : Sm 8999 d) (hq : Q (dF (fr n d)) M) : S_law_fraction E [.int n, .int d] M Q := ⟨n, d, rfl, rfl, h0, h1, hq⟩
theorem times_i {E : XW} {M : Sto} {Q : KD} {a b c d : Int} (ha : 0 < b) (hb : 0 < d) (h1 : Sm 4000 a) (h2 : Sm 4000 b) (h3 : Sm 4000 c) (h4 : Sm 4000 d) (hq : Q (dF (fr (a * c) (b * d))) M) :
    S_law_times E [.tup [.int a, .int b], .tup [.int c, .int d]] M Q := ⟨(a, b), (c, d), rfl, rfl, ha, hb, h1, h2, h3, h4, hq⟩
theorem plus_i {E : XW} {M : Sto} {Q : KD} {a b c d : Int} (ha : 0 < b) (hb : 0 < d) (h1 : Sm 4000 a) (h2 : Sm 4000 b) (h3 : Sm 4000 c) (h4 : Sm 4000 d) (hq : Q (dF (fr (a * d + c * b) (b * d))) M) :
    S_law_plus E [.tup [.int a, .int b], .tup [.int c, .int d]] M Q := ⟨(a, b), (c, d), rfl, rfl, ha, hb, h1, h2, h3, h4, hq⟩
/-- small ones all -/
def litR (q : Int × Int) : Bool := decide (0 < q.2 ∧ q.1.natAbs < 2 ^ 30 ∧ q.2.natAbs < 2 ^ 30)
theorem menu_lit : ∀ q ∈ menu, ∀ u ∈ menu, litR q ∧ litR (fr (q.2 - q.1) q.2) ∧ litR (fr ((fr (q.2 - q.1) q.2).1 * u.1) ((fr (q.2 - q.1) q.2).2 * u.2)) ∧ (q.2 = 1 → q = (1, 1)) := by decide +kernel
theorem litR_sm {q : Int × Int} (h : litR q = true) : 0 < q.2 ∧ Sm 60 q.1 ∧ Sm 60 q.2 := by
  have := of_decide_eq_true h
  exact ⟨this.1, ⟨Nat.lt_of_lt_of_le this.2.1 (by decide)⟩, ⟨Nat.lt_of_lt_of_le this.2.2 (by decide)⟩⟩
theorem atI_map {α : Type} {xs : List α} {f : α → D} {d : Int} (h0 : 0 ≤ d) (h1 : d < xs.length) : ∃ q ∈ xs, L2.atI (xs.map f) d = some (f q) := by
  refine ⟨xs[d.toNat]'(by omega), List.getElem_mem _, ?_⟩
  simp [h0, h1, List.getElem?_eq_getElem (show d.toNat < xs.length by omega)]
theorem atI_mem {xs : List D} {d : Int} (h0 : 0 ≤ d) (h1 : d < xs.length) : ∃ q ∈ xs, L2.atI xs d = some q := by
  simpa using atI_map (f := id) h0 h1
theorem atI_map1 {α : Type} {x : α} {xs : List α} {f : α → D} {d : Int} (h0 : 0 ≤ d) (h1 : d < xs.length) : ∃ q ∈ xs, L2.atI ((x :: xs).map f) (1 + d) = some (f q) := by
  refine ⟨xs[d.toNat]'(by omega), List.getElem_mem _, ?_⟩
  have e : (1 + d).toNat = d.toNat + 1 := by omega
  simp [show 0 ≤ 1 + d by omega, show 1 + d < xs.length + 1 by omega, e, List.getElem?_eq_getElem (show d.toNat < xs.length by omega)]
theorem cut2_mem : ∀ q ∈ menu, q.2 ≠ 1 → cut2 q ∈ cuts := by decide +kernel
theorem cut3_mem : ∀ q ∈ menu, q.2 ≠ 1 → ∀ u ∈ menu.drop 1, cut3 q u ∈ cuts := by decide +kernel
theorem litR.s4 {x : Int} (h : Sm 60 x) : Sm 4000 x := h.mono (by omega)
theorem ob_law_cut : ∀ E ds M Q, S_law_cut E ds M Q → B_law_cut E (endsL Q) (start 7 ds) M := by
  intro E ds M Q h
  obtain ⟨x, rfl, a, b, rfl, hc, hq⟩ := fn1_e h
  simp [B_law_cut]
  intro p hp
  have hpa := hc.pa hp
  refine go ?_
  simp [-atI_s]
  refine take_i (by decide) (by decide) (hc.fresh hp) fun d o h0 h1 hc1 => ?_
  have el : ∀ o, (M.set p (.lst (menu.map dF))).set a o p = some (.lst (menu.map dF)) := fun o => by rw [set_ne hpa, set_same]
  obtain ⟨q, hqm, hqe⟩ := atI_map (xs := menu) (f := dF) h0 h1
  have em : menu.map dF = [D.tup [D.int 1, D.int 1], D.tup [D.int 1, D.int 2], D.tup [D.int 1, D.int 3], D.tup [D.int 2, D.int 3], D.tup [D.int 1, D.int 4], D.tup [D.int 3, D.int 4], D.tup [D.int 1, D.int 5], D.tup [D.int 2, D.int 7], D.tup [D.int 1, D.int 10]] := rfl
  rw [← em]
  have f1 : Fr a b M ((M.set p (.lst (menu.map dF))).set a o) := ((hc.refl.fresh hp).set hc1)
  have e1 : ((M.set p (.lst (menu.map dF))).set a o) p = some (.lst (menu.map dF)) := el o
  simp [-atI_s, e1, hqe, dF]
  generalize (M.set p (.lst (menu.map dF))).set a o = M1 at f1 e1 ⊢
  refine go ?_
  simp
  -- what may be forgotten
  have fin : ∀ (rows : List (Int × Int)) (M' : Sto), rows ∈ cuts → Fr a b M M' → ∀ r, M' r = none → ∃ M0, Le M0 (M'.set r (.lst (rows.map dF))) ∧ Q (.ref r) M0 := by
    intro rows M' hr f r hr'
    obtain ⟨o, c, l1⟩ := f.le
    have hn := f.none hr'
    exact ⟨_, l1.set, hq rows o r hr c hn.1 hn.2⟩
  split
  · have : q = (1, 1) := (menu_lit q hqm q hqm).2.2.2 (by assumption)
    subst this
    intro r hr
    exact fin [(1, 1)] _ (by decide) f1 r hr
  · rename_i hq1
    refine go ?_
    have L := menu_lit q hqm q hqm
    have L1 := litR_sm L.1
    have L2 := litR_sm L.2.1
    simp [T_law_cut_2, -atI_s]
    intro r hr
    have hra := (f1.none hr)
    refine go ?_
    simp [-atI_s]
    refine frac_i L1.1 (L1.2.2.mono (by omega)) ?_
    refine go ?_
    simp [-atI_s]
    have f2 : Fr a b M (M1.set r (.lst [dF q])) := f1.fresh hr
    have hrp : r ≠ p := fun e => by rw [e, e1] at hr; cases hr
    refine take_i (by decide) (by decide) ((hc.fr f1).fresh hr) fun d2 o2 g0 g1 hc2 => ?_
    have f3 := f2.set hc2
    have e3 : ((M1.set r (.lst [dF q])).set a o2) p = some (.lst (menu.map dF)) := by rw [set_ne hpa, set_ne hrp.symm, e1]
    have e4 : ((M1.set r (.lst [dF q])).set a o2) r = some (.lst [dF q]) := by rw [set_ne hra.1, set_same]
    have eq' : D.tup [D.int q.fst, D.int q.snd] = dF q := rfl
    rw [eq']
    generalize hM2 : ((M1.set r (.lst [dF q])).set a o2) = M2 at f3 e3 e4 ⊢
    -- the end
    have tail : ∀ (rows : List (Int × Int)) (rest : Int × Int) (x4 x5 x6 : Option D) (M' : Sto), rows ++ [rest] ∈ cuts → Fr a b M M' → M' r = some (.lst (rows.map dF)) →
        T_law_cut_1 E (endsL Q) [some (.ref a), some (.ref p), some (.ref r), some (dF rest), x4, x5, x6] M' := by
      intro rows rest x4 x5 x6 M' hm f e
      simp [T_law_cut_1, e]
      intro z hz
      have hzr : z ≠ r := fun h => by rw [h, e] at hz; cases hz
      rw [set_ne (Ne.symm hzr), e]
      simp
      have hl : rows.length + 1 ≤ 3 := by
        have : ∀ l ∈ cuts, l.length ≤ 3 := by decide +kernel
        simpa using this _ hm
      refine ⟨by have := sizeLine_ge; omega, fun w hw => ?_⟩
      have f' := f.fresh (o := .lst [dF rest]) hz
      have := fin _ _ hm f' w hw
      simpa using this
    simp only [cEq_int]
    split
    · refine take_i (by decide) (by decide) (hc.fr f3) fun d3 o3 k0 k1 hc3 => ?_
      have f4 := f3.set hc3
      have e5 : (M2.set a o3) p = some (.lst (menu.map dF)) := by rw [set_ne hpa, e3]
      have e6 : (M2.set a o3) r = some (.lst [dF q]) := by rw [set_ne hra.1, e4]
      generalize M2.set a o3 = M3 at f4 e5 e6 ⊢
      obtain ⟨u, hum, hue⟩ := atI_map1 (x := (1, 1)) (xs := menu.drop 1) (f := dF) k0 k1
      have hue' : _root_.L2.atI (List.map dF menu) (1 + d3) = some (dF u) := hue
      have hum' : u ∈ menu := List.mem_of_mem_drop hum
      have L3 := litR_sm (menu_lit u hum' u hum').1
      have L4 := litR_sm (menu_lit q hqm u hum').2.2.1
      simp [-atI_s, e5, hue', dF]
      refine go ?_
      simp
      refine times_i L2.1 L3.1 (litR.s4 L2.2.1) (litR.s4 L2.2.2) (litR.s4 L3.2.1) (litR.s4 L3.2.2) ?_
      refine go ?_
      simp [e6]
      refine ⟨by have := sizeLine_ge; omega, go ?_⟩
      simp [dF]
      refine plus_i L2.1 L4.1 (litR.s4 L2.2.1) (litR.s4 L2.2.2) (litR.s4 ?_) (litR.s4 L4.2.2) ?_
      · have := L4.2.1.neg
        simpa [dF] using this
      · refine go (tail [q, _] _ _ _ _ _ ?_ (f4.upd hra.2 hra.1) (by rw [set_same]; rfl))
        simp
        have := cut3_mem q hqm hq1 u hum
        simpa [cut3] using this
    · refine go (tail [q] _ _ _ _ _ ?_ f3 e4)
      have := cut2_mem q hqm hq1
      exact this
theorem body_i {n : Nat} {E : XW} {M : Sto} {Q : KD} {a b pn pl : Addr} {ns ls : List Str} {k : Nat} (hc : CSt M a b) (h1 : pn ≠ a) (h2 : M pn = some (.lst (ns.map .str))) (h3 : ns ≠ []) (h4 : ns.length ≤ 100)
    (h5 : pl ≠ a) (h6 : M pl = some (.lst (ls.map .str))) (h7 : ls.length ≤ 100) (h8 : k < n) (hq : ∀ d o, WB ns ls k d → CO b o → Q d (M.set a o)) : S_law_body n E [.ref a, .ref pn, .ref pl, .int k] M Q :=
  ⟨a, b, pn, pl, ns, ls, k, rfl, hc, rfl, h1, h2, h3, h4, rfl, h5, h6, h7, rfl, h8, hq⟩
theorem no_law_body : ∀ E ds M Q, ¬ S_law_body 0 E ds M Q := by
  intro E ds M Q h
  obtain ⟨x, y, z, u, rfl, a, b, pn, pl, ns, ls, k, rfl, hc, rfl, hpn, en, hn0, hn1, rfl, hpl, el, hl1, rfl, hk, hq⟩ := fn4_e h
  omega
theorem ob_law_body (n : Nat) : ∀ E ds M Q, S_law_body (n + 1) E ds M Q → B_law_body n E (endsL Q) (start 6 ds) M := by
  intro E ds M Q h
  obtain ⟨x, y, z, u, rfl, a, b, pn, pl, ns, ls, k, rfl, hc, rfl, hpn, en, hn0, hn1, rfl, hpl, el, hl1, rfl, hk, hq⟩ := fn4_e h
  have fin : ∀ d M', WB ns ls k d → Fr a b M M' → ∃ M0, Le M0 M' ∧ Q d M0 := by
    intro d M' hd f
    obtain ⟨o, c, l⟩ := f.le
    exact ⟨_, l, hq d o hd c⟩
  simp [B_law_body]
  refine take_i (by decide) (by decide) hc fun w o h0 h1 hc1 => ?_
  have f1 := hc.refl.set hc1
  generalize M.set a o = M1 at f1 ⊢
  refine go ?_
  simp [-atI_s]
  -- a leaf
  have leaf : ∀ p, M1 p = none → S_law_take E [D.ref a, D.int 5] (M1.set p (O.lst [dEnd, dEnd, dEnd, dEnd, dStop])) fun y M2 => subO (M2 p) y fun d => ∃ M0, Le M0 M2 ∧ Q d M0 := by
    intro p hp
    have hpa := f1.none hp
    refine take_i (by decide) (by decide) ((hc.fr f1).fresh hp) fun d o h0 h1 hc1 => ?_
    rw [set_ne hpa.1, set_same]
    obtain ⟨q, hm, hq⟩ := atI_mem (xs := [dEnd, dEnd, dEnd, dEnd, dStop]) h0 h1
    simp [-atI_s, hq]
    refine fin q _ ?_ ((f1.fresh hp).set hc1)
    have : q = dEnd ∨ q = dStop := by simpa using hm
    cases k with
    | zero => exact this
    | succ k => rcases this with h | h; exact .inl h; exact .inr (.inl h)
  have tail : 1 ≤ k → T_law_body_3 n E (endsL Q) [some (.ref a), some (.ref pn), some (.ref pl), some (.int k), some (.int w), none] M1 := by
    intro hk1
    obtain ⟨k, rfl⟩ : ∃ j, k = j + 1 := ⟨k - 1, by omega⟩
    have ek : ((k + 1 : Nat) : Int) - 1 = (k : Int) := by omega
    have tail2 : T_law_body_2 n E (endsL Q) [some (.ref a), some (.ref pn), some (.ref pl), some (.int (k + 1 : Nat)), some (.int w), none] M1 := by
      have tail1 : T_law_body_1 n E (endsL Q) [some (.ref a), some (.ref pn), some (.ref pl), some (.int (k + 1 : Nat)), some (.int w), none] M1 := by
        simp [T_law_body_1]
        refine ⟨a, b, rfl, hc.fr f1, fun rows o p hr hc2 hpa hp => ?_⟩
        have f2 : Fr a b M ((M1.set a o).set p (.lst (rows.map dF))) := (f1.set hc2).fresh (set_none.mpr ⟨hpa, hp⟩)
        have e2 : ((M1.set a o).set p (.lst (rows.map dF))) p = some (.lst (rows.map dF)) := set_same
        generalize (M1.set a o).set p (.lst (rows.map dF)) = M2 at f2 e2 ⊢
        simp [e2]
        intro z hz
        have hza := f2.none hz
        have hzp : z ≠ p := fun e => by rw [e, e2] at hz; cases hz
        have hlen : rows.length ≤ 3 := by
          have : ∀ l ∈ cuts, l.length ≤ 3 := by decide +kernel
          exact this _ hr
        refine comp_ind (fun acc xs m => ∃ (rs : List ((Int × Int) × D)) (qs : List (Int × Int)), acc = rs.map dRow ∧ xs = qs.map dF ∧ rs.map Prod.fst ++ qs = rows ∧ (∀ r ∈ rs, WB ns ls k r.2) ∧ Fr a b M m ∧ m p = some (.lst (rows.map dF)) ∧ m z = some (.lst acc)) ?_ ?_ _ [] _ ⟨[], rows, rfl, rfl, rfl, by simp, f2.fresh hz, by rw [set_ne (Ne.symm hzp)]; exact e2, set_same⟩
        · rintro x xs acc m ⟨rs, qs, rfl, hx, hrq, hw, f, e, ez⟩
          obtain ⟨q, qs, rfl⟩ : ∃ q qs', qs = q :: qs' := by cases qs with
            | nil => simp at hx
            | cons q qs => exact ⟨q, qs, rfl⟩
          simp at hx
          obtain ⟨rfl, rfl⟩ := hx
          have hl2 : rs.length + (qs.length + 1) = rows.length := by rw [← hrq]; simp
          refine ⟨e, by have := sizeLine_ge; simp; omega, fun T hT => ?_⟩
          simp [CE_law_body_1, ek]
          refine body_i (hc.fr f) hpn (f.at hpn en) hn0 hn1 hpl (f.at hpl el) hl1 (by omega) fun d o hd hc3 => ?_
          have f' := f.set hc3
          have e' : (m.set a o) p = some (.lst (rows.map dF)) := by rw [set_ne hpa]; exact e
          have ez' : (m.set a o) z = some (.lst (rs.map dRow)) := by rw [set_ne hza.1]; exact ez
          refine hT _ _ ez' ⟨rs ++ [(q, d)], qs, by simp [dRow], rfl, by simp [← hrq], ?_, f'.upd hza.2 hza.1, by rw [set_ne (Ne.symm hzp)]; exact e', set_same⟩
          intro r hr
          rcases List.mem_append.mp hr with hr | hr
          · exact hw r hr
          · simp at hr; subst hr; exact hd
        · rintro acc m ⟨rs, qs, rfl, hx, hrq, hw, f, e, ez⟩
          have : qs = [] := by simpa using hx.symm
          subst this
          refine ⟨e, ?_⟩
          simp [ez]
          refine fin _ _ ?_ f
          refine .inr (.inr (.inr (.inr ⟨rs, ?_, rfl, hw⟩)))
          simp at hrq; rw [hrq]; exact hr
      simp [T_law_body_2, -atI_s]
      split
      · rw [f1.at hpn en]
        simp [-atI_s]
        have : 0 < ns.length := by cases ns; exact absurd rfl hn0; simp
        refine take_i (by omega) (by omega) (hc.fr f1) fun d o h0 h1 hc2 => ?_
        have f2 := f1.set hc2
        rw [f2.at hpn en]
        obtain ⟨q, hm, hq⟩ := atI_map (xs := ns) (f := .str) h0 h1
        simp [-atI_s, hq, ek]
        refine body_i (hc.fr f2) hpn (f2.at hpn en) hn0 hn1 hpl (f2.at hpl el) hl1 (by omega) fun d o hd hc3 => ?_
        exact fin _ _ (.inr (.inr (.inr (.inl ⟨q, d, hm, rfl, hd⟩)))) (f2.set hc3)
      · exact go tail1
    simp [T_law_body_3, -atI_s]
    rw [f1.at hpl el]
    split
    · simp [-atI_s]
      split
      · exact go tail2
      · rename_i hls
        have : 0 < ls.length := by cases ls; exact absurd rfl hls; simp
        refine take_i (by omega) (by omega) (hc.fr f1) fun d o h0 h1 hc2 => ?_
        have f2 := f1.set hc2
        rw [f2.at hpl el]
        obtain ⟨q, hm, hq⟩ := atI_map (xs := ls) (f := .str) h0 h1
        simp [-atI_s, hq, ek]
        refine body_i (hc.fr f2) hpn (f2.at hpn en) hn0 hn1 hpl (f2.at hpl el) hl1 (by omega) fun d o hd hc3 => ?_
        exact fin _ _ (.inr (.inr (.inl ⟨q, d, hm, rfl, hd⟩))) (f2.set hc3)
    · exact go tail2
  split
  · exact leaf
  · split
    · exact leaf
    · exact go (tail (by omega))
theorem rotN_mem : ∀ i, i < 4 → ∀ k, k < 1 + i → rotN i k ∈ allN := by decide +kernel
theorem allN_ne : ∀ ns ∈ allN, ns ≠ [] ∧ ns.length ≤ 4 := by decide +kernel
theorem allL_le : ∀ ls ∈ allL, ls.length ≤ 3 := by decide +kernel
theorem cut_to {α : Type} (xs : List α) {i : Int} (h : 0 ≤ i) : cut xs none (some i) = xs.take i.toNat := by
  unfold cut HT.sIx
  simp [show ¬ i < 0 by omega]
theorem cut_from {α : Type} (xs : List α) {i : Int} (h : 0 ≤ i) : cut xs (some i) none = xs.drop i.toNat := by
  unfold cut HT.sIx
  simp [show ¬ i < 0 by omega]
  by_cases hl : i.toNat ≤ xs.length
  · rw [Nat.min_eq_left hl]; exact List.take_of_length_le (by simp)
  · rw [Nat.min_eq_right (by omega), List.drop_eq_nil_of_le (Nat.le_refl _), List.drop_eq_nil_of_le (by omega)]; simp
theorem ob_law_program : ∀ E ds M Q, S_law_program E ds M Q → B_law_program E (endsL Q) (start 5 ds) M := by
  intro E ds M Q h
  obtain ⟨x, rfl, a, b, rfl, hc, hq⟩ := fn1_e h
  simp [B_law_program]
  intro p hp
  have en : O.lst [D.str (Str.ofString "p"), D.str (Str.ofString "q"), D.str (Str.ofString "r2"), D.str (Str.ofString "s")] = .lst (N4.map .str) := rfl
  rw [en]
  refine take_i (by decide) (by decide) (hc.fresh hp) fun d o h0 h1 hc1 => ?_
  have f1 : Fr a b M _ := (hc.refl.fresh (o := .lst (N4.map .str)) hp).set hc1
  have e1 : ((M.set p (.lst (N4.map .str))).set a o) p = some (.lst (N4.map .str)) := by rw [set_ne (hc.pa hp), set_same]
  obtain ⟨i, rfl⟩ := Int.eq_ofNat_of_zero_le h0
  have ec : cut (N4.map D.str) none (some (1 + (i : Int))) = (N4.take (1 + i)).map .str := by rw [cut_to _ (by omega), List.map_take]; congr 1
  simp [e1, -List.map_take, ec]
  generalize (M.set p (.lst (N4.map .str))).set a o = M1 at f1 ⊢
  intro r hr
  have f2 := f1.fresh (o := .lst ((N4.take (1 + i)).map .str)) hr
  have hra := f1.none hr
  have e2 : (M1.set r (.lst ((N4.take (1 + i)).map .str))) r = some (.lst ((N4.take (1 + i)).map .str)) := set_same
  generalize (M1.set r (.lst ((N4.take (1 + i)).map .str))) = M2 at f2 e2 ⊢
  refine go ?_
  simp [e2, -List.map_take]
  have hl4 : N4.length = 4 := rfl
  refine take_i (by omega) (by omega) (hc.fr f2) fun k o2 k0 k1 hc2 => ?_
  rw [hl4] at k1
  obtain ⟨k, rfl⟩ := Int.eq_ofNat_of_zero_le k0
  have f3 := f2.set hc2
  have e3 : (M2.set a o2) r = some (.lst ((N4.take (1 + i)).map .str)) := by rw [set_ne hra.1, e2]
  generalize M2.set a o2 = M3 at f3 e3 ⊢
  refine go ?_
  have ec2 : cut ((N4.take (1 + i)).map D.str) (some (k : Int)) none = ((N4.take (1 + i)).drop k).map .str := by rw [cut_from _ (by omega), List.map_drop]; congr 1
  have ec3 : cut ((N4.take (1 + i)).map D.str) none (some (k : Int)) = ((N4.take (1 + i)).take k).map .str := by simp only [cut_to _ (Int.natCast_nonneg _), Int.toNat_natCast, List.map_take]
  simp [e3, -List.map_take, -List.map_drop, ec2]
  intro u hu
  have hur : u ≠ r := fun e => by rw [e, e3] at hu; cases hu
  rw [set_ne (Ne.symm hur), e3]
  simp [-List.map_take, -List.map_drop, ec3]
  intro v hv
  have huv : v ≠ u := fun e => by rw [e, set_same] at hv; cases hv
  rw [set_ne (Ne.symm huv), set_same]
  simp [-List.map_take, -List.map_drop]
  refine ⟨by have := sizeLine_ge; omega, fun t ht => ?_⟩
  have f4 := ((f3.fresh hu).fresh hv).fresh (o := .lst ((rotN i k).map .str)) ht
  have hmem := rotN_mem i (by omega) k (by omega)
  have e4 : (((M3.set u (.lst (((N4.take (1 + i)).drop k).map .str))).set v (.lst (((N4.take (1 + i)).take k).map .str))).set t (.lst ((rotN i k).map .str))) t = some (.lst ((rotN i k).map .str)) := set_same
  have hap : List.map D.str (List.drop k (List.take (1 + i) N4)) ++ List.map D.str (List.take k (List.take (1 + i) N4)) = (rotN i k).map .str := by rw [← List.map_append]; rfl
  rw [hap]
  have hta := (((f3.fresh hu).fresh hv).none ht)
  generalize (((M3.set u (O.lst (List.map D.str (List.drop k (List.take (1 + i) N4))))).set v (O.lst (List.map D.str (List.take k (List.take (1 + i) N4))))).set t (O.lst (List.map D.str (rotN i k)))) = M4 at f4 e4 ⊢
  generalize rotN i k = ns at hmem f4 e4 ⊢
  refine go ?_
  simp
  intro q hq1
  have f5 := f4.fresh (o := .lst (L3.map .str)) hq1
  have hqa := f4.none hq1
  have hqt : q ≠ t := fun e => by rw [e, e4] at hq1; cases hq1
  have eL : O.lst [D.str (Str.ofString "a"), D.str (Str.ofString "b"), D.str (Str.ofString "p")] = .lst (L3.map .str) := rfl
  rw [eL]
  have e5 : (M4.set q (.lst (L3.map .str))) q = some (.lst (L3.map .str)) := set_same
  have e5' : (M4.set q (.lst (L3.map .str))) t = some (.lst (ns.map .str)) := by rw [set_ne hqt.symm, e4]
  generalize (M4.set q (.lst (L3.map .str))) = M5 at f5 e5 e5' ⊢
  refine take_i (by decide) (by decide) (hc.fr f5) fun l o5 l0 l1 hc5 => ?_
  obtain ⟨l, rfl⟩ := Int.eq_ofNat_of_zero_le l0
  have f6 := f5.set hc5
  have e6 : (M5.set a o5) q = some (.lst (L3.map .str)) := by rw [set_ne hqa.1, e5]
  have e6' : (M5.set a o5) t = some (.lst (ns.map .str)) := by rw [set_ne hta.1, e5']
  generalize M5.set a o5 = M6 at f6 e6 e6' ⊢
  have ec6 : cut (L3.map D.str) none (some (l : Int)) = (L3.take l).map .str := by simp only [cut_to _ (Int.natCast_nonneg _), Int.toNat_natCast, List.map_take]
  simp [e6, -List.map_take, ec6]
  intro y hy
  have hya := f6.none hy
  have f7 := f6.fresh (o := .lst ((L3.take l).map .str)) hy
  have hyt : y ≠ t := fun e => by rw [e, e6'] at hy; cases hy
  have e7 : (M6.set y (.lst ((L3.take l).map .str))) y = some (.lst ((L3.take l).map .str)) := set_same
  have e7' : (M6.set y (.lst ((L3.take l).map .str))) t = some (.lst (ns.map .str)) := by rw [set_ne hyt.symm, e6']
  have hls : L3.take l ∈ allL := by
    have : ∀ l, l < 4 → L3.take l ∈ allL := by decide +kernel
    exact this l (by omega)
  generalize M6.set y (.lst ((L3.take l).map .str)) = M7 at f7 e7 e7' ⊢
  generalize L3.take l = ls at hls e7 ⊢
  refine go ?_
  simp [e7']
  intro z hz
  have hza := f7.none hz
  have hzt : z ≠ t := fun e => by rw [e, e7'] at hz; cases hz
  have hzy : z ≠ y := fun e => by rw [e, e7] at hz; cases hz
  have hn := allN_ne ns hmem
  have hlen := allL_le ls hls
  refine comp_ind (fun acc xs m => ∃ (rs : List (Str × D)) (qs : List Str), acc = rs.map dProc ∧ xs = qs.map .str ∧ rs.map Prod.fst ++ qs = ns ∧ (∀ r ∈ rs, WB ns ls 5 r.2) ∧ Fr a b M m ∧ m t = some (.lst (ns.map .str)) ∧ m y = some (.lst (ls.map .str)) ∧ m z = some (.lst acc)) ?_ ?_ _ [] _
    ⟨[], ns, rfl, rfl, rfl, by simp, f7.fresh hz, by rw [set_ne (Ne.symm hzt)]; exact e7', by rw [set_ne (Ne.symm hzy)]; exact e7, set_same⟩
  · rintro x xs acc m ⟨rs, qs, rfl, hx, hrq, hw, f, e, ey, ez⟩
    obtain ⟨q, qs, rfl⟩ : ∃ q qs', qs = q :: qs' := by cases qs with
      | nil => simp at hx
      | cons q qs => exact ⟨q, qs, rfl⟩
    simp at hx
    obtain ⟨rfl, rfl⟩ := hx
    have hl2 : rs.length + (qs.length + 1) = ns.length := by rw [← hrq]; simp
    refine ⟨e, by have := sizeLine_ge; simp; omega, fun T hT => ?_⟩
    simp [CE_law_program_1]
    refine take_i (by decide) (by decide) (hc.fr f) fun d o6 d0 d1 hc6 => ?_
    obtain ⟨d, rfl⟩ := Int.eq_ofNat_of_zero_le d0
    have f' := f.set hc6
    have e' : (m.set a o6) t = some (.lst (ns.map .str)) := by rw [set_ne hta.1]; exact e
    have ey' : (m.set a o6) y = some (.lst (ls.map .str)) := by rw [set_ne hya.1]; exact ey
    have ez' : (m.set a o6) z = some (.lst (rs.map dProc)) := by rw [set_ne hza.1]; exact ez
    generalize m.set a o6 = m6 at f' e' ey' ez' ⊢
    simp
    rw [show (1 : Int) + (d : Int) = ((1 + d : Nat) : Int) by omega]
    refine body_i (hc.fr f') hta.1 e' hn.1 (by omega) hya.1 ey' (by omega) (by omega) fun g o hd hc3 => ?_
    have f'' := f'.set hc3
    refine hT _ _ (by rw [set_ne hza.1]; exact ez') ⟨rs ++ [(q, g)], qs, by simp [dProc], rfl, by simp [← hrq], ?_, f''.upd hza.2 hza.1, ?_, ?_, set_same⟩
    · intro r hr
      rcases List.mem_append.mp hr with hr | hr
      · exact hw r hr
      · simp at hr; subst hr; exact hd.mono (by omega)
    · rw [set_ne (Ne.symm hzt), set_ne hta.1]; exact e'
    · rw [set_ne (Ne.symm hzy), set_ne hya.1]; exact ey'
  · rintro acc m ⟨rs, qs, rfl, hx, hrq, hw, f, e, ey, ez⟩
    have : qs = [] := by simpa using hx.symm
    subst this
    simp at hrq
    refine ⟨e, ?_⟩
    simp [ez]
    obtain ⟨o, c, l⟩ := f.le
    subst hrq
    exact ⟨_, l, hq rs o ⟨hmem, ls, hls, hw⟩ c⟩
/-- c's number below one of these -/
theorem pick_i {E : XW} {M : Sto} {Q : KD} {a b : Addr} {vals : List Int} (hv : ∀ v ∈ vals, 0 < v ∧ v < 1073741824) (h0 : vals ≠ []) (h1 : vals.length ≤ 100) (hc : CSt M a b) (hq : ∀ v d M', v ∈ vals → 0 ≤ d → d < v → Fr a b M M' → Q (.int d) M') :
    ∀ p, M p = none → S_law_take E [.ref a, .int vals.length] (M.set p (.lst (vals.map .int))) fun y M2 => subO (M2 p) y fun d => S_law_take E [.ref a, d] M2 Q := by
  intro p hp
  have hl : 0 < vals.length := by cases vals; exact absurd rfl h0; simp
  refine take_i (by omega) (by omega) (hc.fresh hp) fun d o d0 d1 hc1 => ?_
  have f1 := (hc.refl.fresh (o := .lst (vals.map .int)) hp).set hc1
  rw [set_ne (hc.pa hp), set_same]
  obtain ⟨v, hm, he⟩ := atI_map (xs := vals) (f := .int) d0 d1
  simp [-atI_s, he]
  have := hv v hm
  exact take_i this.1 this.2 (hc.fr f1) fun d' o' e0 e1 hc2 => hq v d' _ hm e0 e1 (f1.set hc2)
end DL

set_option Elab.async false
set_option linter.all false
set_option maxRecDepth 100000
/-! G2S: what the program's fractions and the law's comparing ask and tell -/
namespace DL
open PySem
def S_common_divisor : FD := fn2 fun x y _ M Q => ∃ n d : Int, x = .int n ∧ y = .int d ∧ Q (.int (Int.gcd n d)) M
def S_ratio : FD := fn2 fun x y _ M Q => ∃ n d : Int, x = .int n ∧ y = .int d ∧ 0 < d ∧ Sm 8999 d ∧ Q (dF (fr n d)) M
def S_plus : FD := fn2 fun x y _ M Q => ∃ a b : Int × Int, x = dF a ∧ y = dF b ∧ 0 < a.2 ∧ 0 < b.2 ∧ Sm 4000 a.1 ∧ Sm 4000 a.2 ∧ Sm 4000 b.1 ∧ Sm 4000 b.2 ∧ Q (dF (fr (a.1 * b.2 + b.1 * a.2) (a.2 * b.2))) M
def S_times : FD := fn2 fun x y _ M Q => ∃ a b : Int × Int, x = dF a ∧ y = dF b ∧ 0 < a.2 ∧ 0 < b.2 ∧ Sm 4000 a.1 ∧ Sm 4000 a.2 ∧ Sm 4000 b.1 ∧ Sm 4000 b.2 ∧ Q (dF (fr (a.1 * b.1) (a.2 * b.2))) M
/-- data of ints, texts and tuples -/
def alk : Nat → D → Prop
  | 0, _ => False
  | n + 1, d => (∃ i, d = .int i) ∨ (∃ s, d = .str s) ∨ (∃ xs, d = .tup xs ∧ xs.length ≤ 100000 ∧ ∀ x ∈ xs, alk n x)
def S_law_alike (n : Nat) : FD := fn2 fun x y _ M Q => x = y ∧ alk n x ∧ Q (.bl true) M
abbrev S_law : FD := lawS
end DL

set_option Elab.async false
set_option linter.all false
set_option maxRecDepth 100000
/-! mirrors of the text's defs (printed by gen.py) -/
namespace DL
open PySem
abbrev g_ZERO : D := (.tup [(.int 0), (.int 1)])
abbrev g_ONE : D := (.tup [(.int 1), (.int 1)])
def WC_common_divisor_1 : WT :=
  (tCmp cNe (eVar 1) (eC (.int 0)))
def WB_common_divisor_1 : WS :=
  (sAsg (eTup [(eVar 1), (eBin opMod (eVar 0) (eVar 1))]) (gTup [gName 0, gName 1]))
def T_common_divisor_1 : WS :=
  (sRet (eVar 0))
def B_common_divisor : WS :=
  (sSeq (sAsg (eTup [(eAbs (eVar 0)), (eAbs (eVar 1))]) (gTup [gName 0, gName 1])) (sSeq (sWhile WC_common_divisor_1 WB_common_divisor_1) T_common_divisor_1))
def T_ratio_1 : WS :=
  (sRet (eTup [(eVar 0), (eVar 1)]))
def T_ratio_2 : WS :=
  (sSeq (sIf (tCmp cNe (eVar 1) (eC (.int 1))) (sSeq (sAsg (eCall S_common_divisor [(eVar 0), (eVar 1)]) (gName 2)) (sAsg (eTup [(eBin opDiv (eVar 0) (eVar 2)), (eBin opDiv (eVar 1) (eVar 2))]) (gTup [gName 0, gName 1]))) sNil) T_ratio_1)
def B_ratio : WS :=
  (sSeq (sIf (tCmp cLt (eVar 1) (eC (.int 0))) (sAsg (eTup [(eNeg (eVar 0)), (eNeg (eVar 1))]) (gTup [gName 0, gName 1])) sNil) T_ratio_2)
def T_plus_1 : WS :=
  (sRet (eCall S_ratio [(eBin opAdd (eBin opMul (eSub (eVar 0) (eC (.int 0))) (eSub (eVar 1) (eC (.int 1)))) (eBin opMul (eSub (eVar 1) (eC (.int 0))) (eSub (eVar 0) (eC (.int 1))))), (eBin opMul (eSub (eVar 0) (eC (.int 1))) (eSub (eVar 1) (eC (.int 1))))]))
def B_plus : WS :=
  (sSeq (sIf (tChain cEq cEq (eSub (eVar 0) (eC (.int 1))) (eSub (eVar 1) (eC (.int 1))) (eC (.int 1))) (sRet (eTup [(eBin opAdd (eSub (eVar 0) (eC (.int 0))) (eSub (eVar 1) (eC (.int 0)))), (eC (.int 1))])) sNil) T_plus_1)
def B_times : WS :=
  (sRet (eCall S_ratio [(eBin opMul (eSub (eVar 0) (eC (.int 0))) (eSub (eVar 1) (eC (.int 0)))), (eBin opMul (eSub (eVar 0) (eC (.int 1))) (eSub (eVar 1) (eC (.int 1))))]))
def CE_law_alike_1 (n : Nat) : WE :=
  (eCall (S_law_alike n) [(eSub (eVar 0) (eVar 2)), (eSub (eVar 1) (eVar 2))])
def T_law_alike_1 (n : Nat) : WS :=
  (sRet (eAnd (eIsi (eVar 0) ["int", "str"]) (eCmp cEq (eVar 0) (eVar 1))))
def T_law_alike_2 (n : Nat) : WS :=
  (sSeq (sIf (tOr (tTru (eIsi (eVar 0) ["bool"])) (tCmp cNe (eIsi (eVar 0) ["str"]) (eIsi (eVar 1) ["str"]))) (sRet (eC (.bl false))) sNil) (T_law_alike_1 n))
def B_law_alike (n : Nat) : WS :=
  (sSeq (sIf (tTru (eIsi (eVar 1) ["tuple"])) (sRet (eAnd (eIsi (eVar 0) ["tuple"]) (eAnd (eCmp cEq (eLen (eVar 0)) (eLen (eVar 1))) (eAll (eComp (iRange1 (eLen (eVar 1))) [2] (gName 2) tYes (CE_law_alike_1 n)))))) sNil) (T_law_alike_2 n))
end DL

set_option Elab.async false
set_option linter.all false
set_option maxRecDepth 100000
set_option maxHeartbeats 4000000
namespace DL
open PySem
theorem gcd_fmod (a b : Int) : Int.gcd b (a.fmod b) = Int.gcd a b := by
  rw [Int.fmod_def, Int.gcd_sub_mul_left_right, Int.gcd_comm]
theorem ob_common_divisor : ∀ E ds M Q, S_common_divisor E ds M Q → B_common_divisor E (endsL Q) (start 2 ds) M := by
  intro E ds M Q h
  obtain ⟨x, y, rfl, n, d, rfl, rfl, hq⟩ := fn2_e h
  simp [B_common_divisor]
  refine go ?_
  refine ⟨fun m e M' => M' = M ∧ ∃ a b : Int, e = [some (.int a), some (.int b)] ∧ 0 ≤ a ∧ 0 ≤ b ∧ b.toNat = m ∧ Int.gcd a b = Int.gcd n d, ⟨_, rfl, _, _, rfl, ?_, ?_, rfl, ?_⟩, ?_⟩
  · split <;> omega
  · split <;> omega
  · have : ∀ x : Int, (if x < 0 then -x else x) = x.natAbs := fun x => by split <;> omega
    rw [this, this]; simp [Int.gcd]
  · rintro m env M' ⟨rfl, a, b, rfl, h0, h1, h2, h3⟩
    simp [WC_common_divisor_1]
    split
    · rename_i hb
      subst hb
      refine go ?_
      simp [T_common_divisor_1]
      refine ⟨M', Le.refl, ?_⟩
      rw [← h3] at hq
      simp at hq
      rw [show (a.natAbs : Int) = a by omega] at hq
      exact hq
    · rename_i hb
      have hb' : 0 < b := by omega
      have r0 := Int.emod_nonneg a (b := b) (by omega)
      have r1 := Int.emod_lt_of_pos a hb'
      simp [WB_common_divisor_1, fmod_pos hb', hb]
      exact ⟨(a % b).toNat, by omega, b, a % b, ⟨rfl, rfl⟩, h1, r0, rfl, by rw [gcd_mod hb', h3]⟩
theorem no_law_alike : ∀ E ds M Q, ¬ S_law_alike 0 E ds M Q := by
  intro E ds M Q h
  obtain ⟨x, y, rfl, rfl, ha, hq⟩ := fn2_e h
  exact ha
theorem ob_law_alike (n : Nat) : ∀ E ds M Q, S_law_alike (n + 1) E ds M Q → B_law_alike n E (endsL Q) (start 3 ds) M := by
  intro E ds M Q h
  obtain ⟨x, y, rfl, rfl, ha, hq⟩ := fn2_e h
  rcases ha with ⟨i, rfl⟩ | ⟨s, rfl⟩ | ⟨xs, rfl, hl, hx⟩
  · simp [B_law_alike, isTy, K, T_law_alike_2, T_law_alike_1]
    exact ⟨M, Le.refl, hq⟩
  · simp [B_law_alike, isTy, K, T_law_alike_2, T_law_alike_1]
    exact ⟨M, Le.refl, hq⟩
  · simp [B_law_alike, isTy]
    refine ⟨by omega, fun p hp => ?_⟩
    refine comp_map (fun _ => .bl true) (fun _ => True) (fun _ _ _ => trivial) (fun _ _ => trivial) _ [] _ ?_ ?_ set_same trivial ?_
    · intro x hxm m T _ hT
      obtain ⟨k, h0, h1, rfl⟩ := mem_rangeL hxm
      have h2 : k.toNat < xs.length := by omega
      simp [CE_law_alike_1, h0, h1, List.getElem?_eq_getElem h2]
      exact ⟨rfl, hx _ (List.getElem_mem _), hT⟩
    · have := sizeLine_ge; rw [rangeL_len]; simp; omega
    · have := asBools_map (rangeL 0 xs.length) (fun _ => true)
      rw [set_set, set_same]
      simp only [List.nil_append, lstO_lst, this, onBs_some]
      refine ⟨M, Le.refl.fresh hp, ?_⟩
      have : ((rangeL 0 xs.length).map fun _ => true).all id = true := by simp
      rw [this]; exact hq
theorem fr_one (n : Int) : fr n 1 = (n, 1) := by simp [fr]
theorem ob_ratio : ∀ E ds M Q, S_ratio E ds M Q → B_ratio E (endsL Q) (start 3 ds) M := by
  intro E ds M Q h
  obtain ⟨x, y, rfl, n, d, rfl, rfl, h0, h1, hq⟩ := fn2_e h
  have g0 := gcd_pos' (n := n) h0
  have g1 := gcd_sm (n := n) h0 h1
  simp [B_ratio, show ¬ d < 0 by omega]
  refine go ?_
  simp [T_ratio_2]
  split
  · rename_i h
    subst h
    refine go ?_
    simp [T_ratio_1]
    rw [fr_one] at hq
    exact ⟨M, Le.refl, hq⟩
  · simp [S_common_divisor]
    refine go ?_
    simp [fdiv_pos g0]
    refine ⟨by omega, g1.np (by decide), by omega, g1.np (by decide), go ?_⟩
    simp [T_ratio_1]
    exact ⟨M, Le.refl, hq⟩
theorem ob_plus : ∀ E ds M Q, S_plus E ds M Q → B_plus E (endsL Q) (start 2 ds) M := by
  intro E ds M Q h
  obtain ⟨x, y, rfl, a, b, rfl, rfl, ha, hb, h1, h2, h3, h4, hq⟩ := fn2_e h
  obtain ⟨a1, a2⟩ := a
  obtain ⟨b1, b2⟩ := b
  simp at ha hb h1 h2 h3 h4 hq
  simp [B_plus, dF]
  have gen : T_plus_1 E (endsL Q) [some (.tup [.int a1, .int a2]), some (.tup [.int b1, .int b2])] M := by
    simp [T_plus_1, S_ratio]
    exact ⟨h1.mulOk h4 (by omega), h3.mulOk h2 (by omega), h2.mulOk h4 (by omega), Int.mul_pos ha hb, (h2.mul h4).mono (by omega), M, Le.refl, hq⟩
  split
  · rename_i h
    subst h
    split
    · rename_i h
      subst h
      simp [fr_one, dF] at hq
      exact ⟨M, Le.refl, hq⟩
    · exact go gen
  · exact go gen
theorem ob_times : ∀ E ds M Q, S_times E ds M Q → B_times E (endsL Q) (start 2 ds) M := by
  intro E ds M Q h
  obtain ⟨x, y, rfl, a, b, rfl, rfl, ha, hb, h1, h2, h3, h4, hq⟩ := fn2_e h
  simp [B_times, S_ratio, dF]
  exact ⟨h1.mulOk h3 (by omega), h2.mulOk h4 (by omega), Int.mul_pos ha hb, (h2.mul h4).mono (by omega), M, Le.refl, hq⟩
end DL

set_option Elab.async false
set_option linter.all false
set_option maxRecDepth 100000
/-! G4S: what common_denominator, drawn and run ask and tell (as in K33S) -/
namespace DL
open PySem
def okDens (rs : List ((Int × Int) × D)) : Prop := ∀ r ∈ rs, 0 < r.1.2 ∧ r.1.2 < 1073741824 ∧ 0 < r.1.1 ∧ r.1.1 < 1073741824
def S_common_denominator : FD := fn1 fun x _ M Q => ∃ rs, x = .tup (rs.map dRow) ∧ okDens rs ∧ Q (.int (lcmR (rs.map Prod.fst))) M
/-- the one that is drawn -/
def drawnO : List ((Int × Int) × D) → Int → Int → Option D
  | [], _, _ => none
  | r :: rs, many, t => if t < r.1.1 * (many / r.1.2) then some r.2 else drawnO rs many (t - r.1.1 * (many / r.1.2))
def S_drawn : FD := fn3 fun x y z _ M Q => ∃ rs many t, x = .tup (rs.map dRow) ∧ y = .int many ∧ z = .int t ∧ okDens rs ∧ Q ((drawnO rs many t).getD .non) M
def told (s : Str) (word : List D) (calls : Int) (used : Nat) : D := .tup [.str s, .tup word, .int calls, .int used]
abbrev KV := List (Key × D)
/-- a run: turns left, what waits, the word, calls, numbers used, how it ends -/
inductive Go (kvs : KV) (tp : List Int) (most : Int) : Nat → List D → List D → Int → Nat → D → Prop
  | ended {n word calls used} : Go kvs tp most (n + 1) [] word calls used (told "ended" word calls used)
  | stop {n ws word calls used} : Go kvs tp most (n + 1) (dStop :: ws) word calls used (told "stopped" word calls used)
  | fin {n ws word calls used r} : Go kvs tp most n ws word calls used r → Go kvs tp most (n + 1) (dEnd :: ws) word calls used r
  | tell {n ws word calls used r s b} : Go kvs tp most n (b :: ws) (word ++ [.str s]) calls used r → Go kvs tp most (n + 1) (.tup [.str "tell", .str s, b] :: ws) word calls used r
  | calls {n ws word used p b} : Go kvs tp most (n + 1) (.tup [.str "call", .str p, b] :: ws) word most used (told "calls" word most used)
  | call {n ws word calls used r p b d} : calls ≠ most → lk kvs (.inr p) = some d → Go kvs tp most n (d :: b :: ws) word (calls + 1) used r → Go kvs tp most (n + 1) (.tup [.str "call", .str p, b] :: ws) word calls used r
  | draw1 {n ws word calls used r b} : Go kvs tp most n (b :: ws) word calls used r → Go kvs tp most (n + 1) (.tup [.str "draw", .tup [dRow ((1, 1), b)]] :: ws) word calls used r
  | tape {n ws word calls rs} : okDens rs → 1 < lcmR (rs.map Prod.fst) → Go kvs tp most (n + 1) (.tup [.str "draw", .tup (rs.map dRow)] :: ws) word calls tp.length (told "tape" word calls tp.length)
  | draw {n ws word calls used r rs t b} : okDens rs → 1 < lcmR (rs.map Prod.fst) → tp[used]? = some t → drawnO rs (lcmR (rs.map Prod.fst)) (t % lcmR (rs.map Prod.fst)) = some b → Go kvs tp most n (b :: ws) word calls (used + 1) r →
      Go kvs tp most (n + 1) (.tup [.str "draw", .tup (rs.map dRow)] :: ws) word calls used r
def kvP (rs : List (Str × D)) : KV := rs.map fun r => (.inr r.1, r.2)
def S_run : FD := fn4 fun x y z u _ M Q => ∃ rs p tp most d n r, x = .tup (rs.map dProc) ∧ y = .str p ∧ z = .tup (tp.map .int) ∧ u = .int most ∧ (rs.map Prod.fst).Nodup ∧ lk (kvP rs) (.inr p) = some d ∧ n ≤ 10000 ∧ tp.length ≤ 1000 ∧ Go (kvP rs) tp most n [d] [] 1 0 r ∧ Q r M
end DL

set_option Elab.async false
set_option linter.all false
set_option maxRecDepth 100000
/-! mirrors of the text's defs (printed by gen.py) -/
namespace DL
open PySem
def FB_common_denominator_1 : WS :=
  (sAsg (eBin opDiv (eBin opMul (eVar 1) (eSub (eVar 2) (eC (.int 1)))) (eCall S_common_divisor [(eVar 1), (eSub (eVar 2) (eC (.int 1)))])) (gName 1))
def T_common_denominator_1 : WS :=
  (sRet (eVar 1))
def B_common_denominator : WS :=
  (sSeq (sAsg (eC (.int 1)) (gName 1)) (sSeq (sFor (iVal (eVar 0)) (gTup [(gName 2), (gName 3)]) FB_common_denominator_1) T_common_denominator_1))
def T_drawn_1 : WS :=
  (sAug 2 opSub (eVar 5))
def FB_drawn_1 : WS :=
  (sSeq (sAsg (eBin opMul (eSub (eVar 3) (eC (.int 0))) (eBin opDiv (eVar 1) (eSub (eVar 3) (eC (.int 1))))) (gName 5)) (sSeq (sIf (tCmp cLt (eVar 2) (eVar 5)) (sRet (eVar 4)) sNil) T_drawn_1))
def T_drawn_2 : WS :=
  (sRet (eC .non))
def B_drawn : WS :=
  (sSeq (sFor (iVal (eVar 0)) (gTup [(gName 3), (gName 4)]) FB_drawn_1) T_drawn_2)
def WC_run_1 : WT :=
  (tCmp cEq (eVar 10) (eC (.str "")))
def WB_run_1 : WS :=
  (sIf (tCmp cEq (eSub (eVar 5) (eC (.int 0))) (eC (.str "end"))) (sIf (tTru (eVar 6)) (sAsg (ePop (eVar 6)) (gName 5)) (sAsg (eC (.str "ended")) (gName 10))) (sIf (tCmp cEq (eSub (eVar 5) (eC (.int 0))) (eC (.str "stop"))) (sAsg (eC (.str "stopped")) (gName 10)) (sIf (tCmp cEq (eSub (eVar 5) (eC (.int 0))) (eC (.str "tell"))) (sSeq (sExpr (eAppend (eVar 7) (eSub (eVar 5) (eC (.int 1))))) (sAsg (eSub (eVar 5) (eC (.int 2))) (gName 5))) (sIf (tCmp cEq (eSub (eVar 5) (eC (.int 0))) (eC (.str "call"))) (sIf (tCmp cEq (eVar 8) (eVar 3)) (sAsg (eC (.str "calls")) (gName 10)) (sSeq (sAug 8 ipAdd (eC (.int 1))) (sSeq (sExpr (eAppend (eVar 6) (eSub (eVar 5) (eC (.int 2))))) (sAsg (eSub (eVar 4) (eSub (eVar 5) (eC (.int 1)))) (gName 5))))) (sSeq (sAsg (eCall S_common_denominator [(eSub (eVar 5) (eC (.int 1)))]) (gName 11)) (sIf (tCmp cEq (eVar 11) (eC (.int 1))) (sAsg (eSub (eSub (eSub (eVar 5) (eC (.int 1))) (eC (.int 0))) (eC (.int 1))) (gName 5)) (sIf (tCmp cEq (eVar 9) (eLen (eVar 2))) (sAsg (eC (.str "tape")) (gName 10)) (sSeq (sAsg (eCall S_drawn [(eSub (eVar 5) (eC (.int 1))), (eVar 11), (eBin opMod (eSub (eVar 2) (eVar 9)) (eVar 11))]) (gName 5)) (sAug 9 ipAdd (eC (.int 1)))))))))))
def T_run_1 : WS :=
  (sRet (eTup [(eVar 10), (eTupOf (eVar 7)), (eVar 8), (eVar 9)]))
def B_run : WS :=
  (sSeq (sAsg (eDict (eVar 0)) (gName 4)) (sSeq (sAsg (eSub (eVar 4) (eVar 1)) (gName 5)) (sSeq (sAsg (eLst []) (gName 6)) (sSeq (sAsg (eLst []) (gName 7)) (sSeq (sAsg (eC (.int 1)) (gName 8)) (sSeq (sAsg (eC (.int 0)) (gName 9)) (sSeq (sAsg (eC (.str "")) (gName 10)) (sSeq (sWhile WC_run_1 WB_run_1) T_run_1))))))))
end DL

set_option Elab.async false
set_option linter.all false
set_option maxRecDepth 100000
set_option maxHeartbeats 4000000
/-! G4P: common_denominator, drawn, run (as in K33P) -/
namespace DL
open PySem
theorem lcm_foldl_eq (rs : List ((Int × Int) × D)) : lcmR (rs.map Prod.fst) = rs.foldl (fun f r => f * r.1.2 / (Int.gcd f r.1.2 : Int)) 1 := by
  unfold lcmR; rw [List.foldl_map]
theorem ob_common_denominator : ∀ E ds M Q, S_common_denominator E ds M Q → B_common_denominator E (endsL Q) (start 4 ds) M := by
  intro E ds M Q h
  obtain ⟨x, rfl, rs, rfl, hd, hq⟩ := fn1_e h
  simp [B_common_denominator]
  refine go ?_
  simp
  rw [lcm_foldl_eq] at hq
  refine for_ind (fun xs e m => m = M ∧ ∃ (qs : List ((Int × Int) × D)) (f : Int) (x y : Option D), xs = qs.map dRow ∧ e = [some (.tup (rs.map dRow)), some (.int f), x, y] ∧ okDens qs ∧
    qs.foldl (fun f r => f * r.1.2 / (Int.gcd f r.1.2 : Int)) f = rs.foldl (fun f r => f * r.1.2 / (Int.gcd f r.1.2 : Int)) 1) ?_ ?_ _ _ _ ⟨rfl, rs, 1, none, none, rfl, rfl, hd, rfl⟩
  · rintro x xs e m ⟨rfl, qs, f, y, z, hx, rfl, hd, hf⟩
    obtain ⟨q, qs, rfl⟩ : ∃ q qs', qs = q :: qs' := by cases qs with
      | nil => simp at hx
      | cons q qs => exact ⟨q, qs, rfl⟩
    simp at hx
    obtain ⟨rfl, rfl⟩ := hx
    refine ⟨trivial, fun N hN => ?_⟩
    have hq := hd q (.head _)
    have g0 := gcd_pos' (n := f) hq.1
    have g1 := Int.gcd_le_right f hq.1
    simp [FB_common_denominator_1, dRow, dF, S_common_divisor, fdiv_pos g0]
    refine ⟨mulOk_small (by omega), by omega, np_small (by omega), hN _ _ ⟨rfl, qs, _, _, _, rfl, rfl, fun r hr => hd r (.tail _ hr), by simpa using hf⟩⟩
  · rintro e m ⟨rfl, qs, f, y, z, hx, rfl, hd, hf⟩
    have : qs = [] := by simpa using hx.symm
    subst this
    refine ⟨trivial, go ?_⟩
    simp at hf
    simp [T_common_denominator_1]
    exact ⟨m, Le.refl, by rw [hf]; exact hq⟩
theorem drawnO_cons {r : (Int × Int) × D} {rs : List ((Int × Int) × D)} {many t : Int} : drawnO (r :: rs) many t = if t < r.1.1 * (many / r.1.2) then some r.2 else drawnO rs many (t - r.1.1 * (many / r.1.2)) := rfl
theorem ob_drawn : ∀ E ds M Q, S_drawn E ds M Q → B_drawn E (endsL Q) (start 6 ds) M := by
  intro E ds M Q h
  obtain ⟨x, y, z, rfl, rs, many, t, rfl, rfl, rfl, hd, hq⟩ := fn3_e h
  simp [B_drawn]
  refine for_ind (fun xs e m => m = M ∧ ∃ (qs : List ((Int × Int) × D)) (t' : Int) (x y z : Option D), xs = qs.map dRow ∧ e = [some (.tup (rs.map dRow)), some (.int many), some (.int t'), x, y, z] ∧ okDens qs ∧
    drawnO qs many t' = drawnO rs many t) ?_ ?_ _ _ _ ⟨rfl, rs, t, none, none, none, rfl, rfl, hd, rfl⟩
  · rintro x xs e m ⟨rfl, qs, t', y, z, u, hx, rfl, hd, hf⟩
    obtain ⟨q, qs, rfl⟩ : ∃ q qs', qs = q :: qs' := by cases qs with
      | nil => simp at hx
      | cons q qs => exact ⟨q, qs, rfl⟩
    simp at hx
    obtain ⟨rfl, rfl⟩ := hx
    refine ⟨trivial, fun N hN => ?_⟩
    have hq' := hd q (.head _)
    simp [FB_drawn_1, dRow, dF, fdiv_pos hq'.1]
    refine ⟨by omega, np_small (by omega), mulOk_small' (by omega), go ?_⟩
    rw [drawnO_cons] at hf
    simp
    split
    · rename_i ht
      rw [if_pos ht] at hf
      rw [← hf] at hq
      exact ⟨m, Le.refl, hq⟩
    · rename_i ht
      rw [if_neg ht] at hf
      refine go ?_
      simp [T_drawn_1]
      exact hN _ _ ⟨rfl, qs, _, _, _, _, rfl, rfl, fun r hr => hd r (.tail _ hr), hf⟩
  · rintro e m ⟨rfl, qs, t', y, z, u, hx, rfl, hd, hf⟩
    have : qs = [] := by simpa using hx.symm
    subst this
    refine ⟨trivial, go ?_⟩
    simp [T_drawn_2]
    rw [← hf] at hq
    exact ⟨m, Le.refl, hq⟩
theorem kvP_keys (rs : List (Str × D)) : (kvP rs).map Prod.fst = rs.map fun r => Sum.inr r.1 := by simp [kvP]
theorem pairs_prog (rs : List (Str × D)) : pairsK (rs.map dProc) = some (kvP rs) := pairsK_map rs (·.1) (·.2)
theorem dict_prog {rs : List (Str × D)} (h : (rs.map Prod.fst).Nodup) : insAll [] (kvP rs) = kvP rs := by
  rw [insAll_nodup]; rfl
  simp only [List.nil_append]
  rw [kvP_keys]
  have : (rs.map fun r => (Sum.inr r.1 : Key)) = (rs.map Prod.fst).map Sum.inr := by simp
  rw [this]
  exact List.Pairwise.map _ (fun a b h e => h (Sum.inr.inj e)) h
def runE (rs : List (Str × D)) (p : Str) (tp : List Int) (most : Int) (a b c : Addr) (body : D) (calls : Int) (used : Nat) (e : Str) (x : Option D) : Ev :=
  [some (D.tup (List.map dProc rs)), some (D.str p), some (D.tup (List.map D.int tp)), some (D.int most), some (D.ref a), some body, some (D.ref b), some (D.ref c), some (D.int calls), some (D.int used), some (D.str e), x]
def RunW (M : Sto) (rs : List (Str × D)) (p : Str) (tp : List Int) (most : Int) (a b c : Addr) (r : D) (m : Nat) (env : Ev) (M' : Sto) : Prop :=
  ∃ (body : D) (ws wd : List D) (calls : Int) (used : Nat) (e : Str) (x : Option D), env = runE rs p tp most a b c body calls used e x ∧ M' a = some (.dk (kvP rs)) ∧ M' b = some (.lst ws.reverse) ∧ M' c = some (.lst wd) ∧ Le M M' ∧
      ((e = "" ∧ Go (kvP rs) tp most m (body :: ws) wd calls used r ∧ ws.length + m ≤ 20000 ∧ wd.length + m ≤ 20000) ∨ (e ≠ "" ∧ r = told e wd calls used))
theorem ob_run : ∀ E ds M Q, S_run E ds M Q → B_run E (endsL Q) (start 12 ds) M := by
  intro E ds M Q h
  obtain ⟨x, y, z, u, rfl, rs, p, tp, most, d, n, r, rfl, rfl, rfl, rfl, hnd, hd, hn, htl, hgo, hq⟩ := fn4_e h
  simp [B_run, pairs_prog]
  intro a ha
  rw [dict_prog hnd]
  refine go ?_
  simp [hd]
  refine go ?_
  simp
  intro b hb
  refine go ?_
  simp
  intro c hc
  refine go ?_
  simp
  refine go ?_
  simp
  refine go ?_
  simp
  refine go ?_
  have hb' := set_none.mp hb
  have hc' := set_none.mp hc
  have hc'' := set_none.mp hc'.2
  have hab : a ≠ b := Ne.symm hb'.1
  have hac : a ≠ c := Ne.symm hc''.1
  have hbc : b ≠ c := Ne.symm hc'.1
  have hL : ∀ bh wd, Le M ((((M.set a (.dk (kvP rs))).set b (.lst bh))).set c (.lst wd)) := fun bh wd => ((Le.refl.fresh ha).fresh hb'.2).fresh hc''.2
  refine ⟨RunW M rs p tp most a b c r,
    ⟨n, d, [], [], 1, 0, "", none, rfl, ?_, ?_, set_same, hL _ _, .inl ⟨rfl, hgo, by simp; omega, by simp; omega⟩⟩, ?_⟩
  · rw [set_ne hac, set_ne hab, set_same]
  · rw [set_ne hbc, set_same]; rfl
  · rintro m env M' ⟨body, ws, wd, calls, used, e, x, rfl, ea, eb, ec, hl, hcase⟩
    simp [WC_run_1, runE]
    rcases hcase with ⟨rfl, hg, hl1, hl2⟩ | ⟨he, rfl⟩
    · rw [if_pos rfl]
      have fin : ∀ (s : String) (x' : Option D), s ≠ "" → 0 < m → r = told s wd calls used → ∃ m', m' < m ∧ RunW M rs p tp most a b c r m' (runE rs p tp most a b c body calls used s x') M' := by
        intro s x' hs hm hr
        exact ⟨m - 1, by omega, body, ws, wd, calls, used, s, x', rfl, ea, eb, ec, hl, .inr ⟨by simpa using hs, hr⟩⟩
      have hsz := sizeLine_ge
      have nxt : ∀ (m' : Nat) (body' : D) (ws' wd' : List D) (calls' : Int) (used' : Nat) (x' : Option D) (M'' : Sto), m' < m → M'' a = some (.dk (kvP rs)) → M'' b = some (.lst ws'.reverse) → M'' c = some (.lst wd') → Le M M'' →
          Go (kvP rs) tp most m' (body' :: ws') wd' calls' used' r → ws'.length + m' ≤ 20000 → wd'.length + m' ≤ 20000 → ∃ m', m' < m ∧ RunW M rs p tp most a b c r m' (runE rs p tp most a b c body' calls' used' "" x') M'' := by
        intro m' body' ws' wd' calls' used' x' M'' h0 h1 h2 h3 h4 h5 h6 h7
        exact ⟨m', h0, body', ws', wd', calls', used', "", x', rfl, h1, h2, h3, h4, .inl ⟨rfl, h5, h6, h7⟩⟩
      cases hg with
      | stop =>
        simp [WB_run_1]
        exact fin "stopped" _ (by decide) (by omega) rfl
      | @fin m ws word calls used r hg =>
        simp [WB_run_1, eb]
        cases ws with
        | nil =>
          simp
          cases hg
          exact fin "ended" _ (by decide) (by omega) rfl
        | cons w ws =>
          simp at hl1
          simp
          exact nxt _ _ _ _ _ _ _ _ (by omega) (by rw [set_ne hab, ea]) (by rw [set_same]) (by rw [set_ne (Ne.symm hbc), ec]) (hl.fresh hb'.2) hg (by omega) (by omega)
      | tell hg =>
        simp [WB_run_1, ec]
        refine ⟨by omega, go ?_⟩
        simp
        exact nxt _ _ _ _ _ _ _ _ (by omega) (by rw [set_ne hac, ea]) (by rw [set_ne hbc, eb]) set_same (hl.fresh hc''.2) hg (by omega) (by simp; omega)
      | calls =>
        simp [WB_run_1]
        exact fin "calls" _ (by decide) (by omega) rfl
      | call h1 h2 hg =>
        simp [WB_run_1, h1, eb]
        refine go ?_
        simp [eb]
        refine ⟨by omega, go ?_⟩
        simp
        rw [set_ne hab, ea]
        simp [h2]
        exact nxt _ _ _ _ _ _ _ _ (by omega) (by rw [set_ne hab, ea]) (by rw [set_same]; simp) (by rw [set_ne (Ne.symm hbc), ec]) (hl.fresh hb'.2) hg (by simp; omega) (by omega)
      | @draw1 m ws word calls used r b' hg =>
        simp [WB_run_1]
        refine ⟨[((1, 1), b')], rfl, by intro r hr; simp at hr; subst hr; simp, ?_⟩
        refine go ?_
        simp [lcmR]
        refine nxt _ b' _ _ _ _ _ _ (by omega) ea eb ec hl hg (by omega) (by omega)
      | tape h1 h2 =>
        simp [WB_run_1]
        refine ⟨_, rfl, h1, go ?_⟩
        have h2' := Int.ne_of_gt h2
        simp [h2']
        exact fin "tape" _ (by decide) (by omega) rfl
      | @draw m ws word calls used r qs t b' h1 h2 h3 h4 hg =>
        simp [WB_run_1]
        have hu := (List.getElem?_eq_some_iff.mp h3).1
        refine ⟨_, rfl, h1, go ?_⟩
        have h5 : lcmR (List.map Prod.fst qs) ≠ 1 := by omega
        simp [h5]
        rw [if_neg (by omega)]
        simp [hu, h3]
        refine ⟨by omega, _, _, _, rfl, rfl, rfl, h1, ?_⟩
        have h6 := (List.getElem?_eq_some_iff.mp h3).2
        rw [fmod_pos (by omega), h6, h4]
        simp only [K, put, gName_s, sAug_s, gt, onS_some, eC_s, ipAdd_int, Option.getD_some]
        refine nxt _ b' _ _ _ (used + 1) _ _ (by omega) ea eb ec hl hg (by omega) (by omega)
    · rw [if_neg he]
      refine go ?_
      simp [T_run_1, ec]
      exact ⟨M, hl, hq⟩
/-! ## the law's run -/
theorem WB.cases {ns ls : List Str} {n : Nat} {d : D} (h : WB ns ls n d) : d = dEnd ∨ d = dStop ∨ (∃ s b, s ∈ ls ∧ d = .tup [.str "tell", .str s, b] ∧ WB ns ls n b) ∨ (∃ s b, s ∈ ns ∧ d = .tup [.str "call", .str s, b] ∧ WB ns ls n b) ∨
    (∃ rs : List ((Int × Int) × D), rs.map Prod.fst ∈ cuts ∧ d = .tup [.str "draw", .tup (rs.map dRow)] ∧ ∀ r ∈ rs, WB ns ls n r.2) := by
  cases n with
  | zero => rcases h with h | h; exact .inl h; exact .inr (.inl h)
  | succ n =>
    rcases h with h | h | ⟨s, b, h1, h2, h3⟩ | ⟨s, b, h1, h2, h3⟩ | ⟨rs, h1, h2, h3⟩
    · exact .inl h
    · exact .inr (.inl h)
    · exact .inr (.inr (.inl ⟨s, b, h1, h2, h3.succ⟩))
    · exact .inr (.inr (.inr (.inl ⟨s, b, h1, h2, h3.succ⟩)))
    · exact .inr (.inr (.inr (.inr ⟨rs, h1, h2, fun r hr => (h3 r hr).succ⟩)))
theorem cuts_ok : ∀ l ∈ cuts, (∀ r ∈ l, 0 < r.2 ∧ r.2 < 1073741824 ∧ 0 < r.1 ∧ r.1 < 1073741824) ∧ 0 < lcmR l ∧ lcmR l < 1073741824 ∧ (l.map fun r => r.1 * (lcmR l / r.2)).sum = lcmR l ∧ (lcmR l = 1 → l = [(1, 1)]) := by decide +kernel
theorem okDens_cut {rs : List ((Int × Int) × D)} (h : rs.map Prod.fst ∈ cuts) : okDens rs := fun r hr => (cuts_ok _ h).1 _ (List.mem_map.mpr ⟨r, hr, rfl⟩)
theorem drawnO_some : ∀ (qs : List ((Int × Int) × D)) (many t : Int), 0 ≤ t → t < (qs.map fun r => r.1.1 * (many / r.1.2)).sum → ∃ b, drawnO qs many t = some b ∧ ∃ r ∈ qs, r.2 = b
  | [], many, t, h0, h1 => by simp at h1; omega
  | q :: qs, many, t, h0, h1 => by
    rw [drawnO_cons]
    split
    · exact ⟨q.2, rfl, q, .head _, rfl⟩
    · rw [List.map_cons, List.sum_cons] at h1
      obtain ⟨b, h2, r, hr, h3⟩ := drawnO_some qs many (t - q.1.1 * (many / q.1.2)) (by omega) (by omega)
      exact ⟨b, h2, r, .tail _ hr, h3⟩
end DL

set_option Elab.async false
set_option linter.all false
set_option maxRecDepth 100000
/-! G5S: what the second makers of programs ask and tell -/
namespace DL
open PySem
abbrev S_law_start5 : FD := S_law_start
abbrev S_law_fill5 : FD := S_law_fill
abbrev S_law_take5 : FD := S_law_take
def S_law_shuffled5 : FD := fn2 fun c x _ M Q => ∃ a b q xs, c = .ref a ∧ CSt M a b ∧ x = .ref q ∧ q ≠ a ∧ M q = some (.lst xs) ∧ xs.length ≤ 1000 ∧
  ∀ ys o p, ys.Perm xs → CO b o → p ≠ a → M p = none → Q (.ref p) ((M.set a o).set p (.lst ys))
def firsts5 : List Str := ["a", "b", "c", "d", "f", "g", "h", "i", "j", "k", "m", "n", "p", "q", "r", "t", "u", "v", "w", "x", "y", "z"]
def mids5 : List Str := ["", "x", "7", "aaa0z"]
def lets5 : List Str := ["a", "b", "c", "d"]
def coins5 : List Str := ["c1", "c2", "c3", "c4"]
/-- names in the order of their making: the k-th one -/
def nm5 (f g : Str) (k : Nat) (b : Bool) : Str := if b then coins5.getD k "" else f ++ g ++ lets5.getD k ""
/-- names as they are drawn -/
def Nm5 (ns : List Str) : Prop := ∃ f ∈ firsts5, ∃ g ∈ mids5, ∃ bs : List Bool, bs.length ≤ 4 ∧ ns.Perm (bs.mapIdx fun k b => nm5 f g k b)
def S_law_names5 : FD := fn2 fun c x _ M Q => ∃ a b, ∃ many : Nat, c = .ref a ∧ CSt M a b ∧ x = .int many ∧ 1 ≤ many ∧ many ≤ 4 ∧
  ∀ ns o p, Nm5 ns → ns.length = many → CO b o → p ≠ a → M p = none → Q (.ref p) ((M.set a o).set p (.lst (ns.map .str)))
def S_law_divisor5 : FD := fn2 fun x y _ M Q => ∃ n d : Nat, x = .int n ∧ y = .int d ∧ n ≤ 100 ∧ d ≤ 100 ∧ Q (.int (Nat.gcd n d)) M
def S_law_rows5 : FD := fn2 fun c x _ M Q => ∃ a b, ∃ many : Nat, c = .ref a ∧ CSt M a b ∧ x = .int many ∧ 2 ≤ many ∧ many ≤ 6 ∧
  ∀ rows o p, (∃ d ∈ [2, 3, 4, 5, 6, 7, 8, 9, 12], rows ∈ rowsB (min many d) d) → CO b o → p ≠ a → M p = none → Q (.ref p) ((M.set a o).set p (.lst (rows.map dF)))
def S_law_body5 (n : Nat) : FD := fn4 fun c names letters deep _ M Q => ∃ a b pn pl, ∃ ns ls : List Str, ∃ k : Nat, c = .ref a ∧ CSt M a b ∧ names = .ref pn ∧ pn ≠ a ∧ M pn = some (.lst (ns.map .str)) ∧ ns ≠ [] ∧ ns.length ≤ 100 ∧
  letters = .ref pl ∧ pl ≠ a ∧ M pl = some (.lst (ls.map .str)) ∧ ls ≠ [] ∧ ls.length ≤ 100 ∧ deep = .int k ∧ k < n ∧ ∀ d o, WB ns ls k d → CO b o → Q d (M.set a o)
def S_law_program5 : FD := fn4 fun c names letters deep _ M Q => ∃ a b pn pl, ∃ ns ls : List Str, ∃ k : Nat, c = .ref a ∧ CSt M a b ∧ names = .ref pn ∧ pn ≠ a ∧ M pn = some (.lst (ns.map .str)) ∧ ns ≠ [] ∧ ns.length ≤ 100 ∧
  letters = .ref pl ∧ pl ≠ a ∧ M pl = some (.lst (ls.map .str)) ∧ ls ≠ [] ∧ ls.length ≤ 100 ∧ deep = .int k ∧ k < 8 ∧
  ∀ (rs : List (Str × D)) o, rs.map Prod.fst = ns → (∀ r ∈ rs, WB ns ls k r.2) → CO b o → Q (.tup (rs.map dProc)) (M.set a o)
end DL

set_option Elab.async false
set_option linter.all false
set_option maxRecDepth 100000
/-! mirrors of the text's defs (printed by gen.py) -/
namespace DL
open PySem
def CE_law_start5_1 : WE :=
  (eInt (eVar 1))
def B_law_start5 : WS :=
  (sRet (eLst [(eComp (iVal (eSl (eVar 0) none (some (eC (.int 63))))) [1] (gName 1) tYes CE_law_start5_1), (eC (.int 0)), (eC (.int 0)), (eC (.int 0)), (eC (.int 20))]))
def T_law_fill5_1 : WS :=
  (sSeq (sAsg (eBin opMod (eInt (eBin opAdd (eBin opMul (eVar 1) (eC (.int 48271))) (eBin opMul (eSub (eVar 0) (eC (.int 3))) (eC (.int 69621))))) (eC (.int 2147483647))) (gName 1)) (sRet (eBin opAdd (eBin opDiv (eInt (eBin opAdd (eBin opAdd (eBin opMul (eVar 1) (eVar 1)) (eBin opMul (eSub (eVar 0) (eC (.int 3))) (eC (.int 7919)))) (eC (.int 11)))) (eC (.int 64))) (eC (.int 36028797018963968)))))
def T_law_fill5_2 : WS :=
  (sSeq (sIf (tAnd (tTru (eSub (eVar 0) (eC (.int 0)))) (tCmp cGe (eSub (eVar 0) (eC (.int 1))) (eLen (eSub (eVar 0) (eC (.int 0)))))) (sAsg (eBin opAdd (eVar 1) (eBin opMod (eInt (eSub (eSub (eVar 0) (eC (.int 0))) (eNeg (eC (.int 1))))) (eC (.int 1000003)))) (gName 1)) sNil) T_law_fill5_1)
def B_law_fill5 : WS :=
  (sSeq (sAsg (eBin opAdd (eSub (eVar 0) (eC (.int 3))) (eC (.int 1))) (gSub (eVar 0) (eC (.int 3)))) (sSeq (sAsg (eBin opAdd (eBin opMul (eSub (eVar 0) (eC (.int 3))) (eC (.int 69621))) (eC (.int 12345))) (gName 1)) (sSeq (sIf (tCmp cLt (eSub (eVar 0) (eC (.int 1))) (eLen (eSub (eVar 0) (eC (.int 0))))) (sSeq (sAsg (eMax2 (eSub (eSub (eVar 0) (eC (.int 0))) (eSub (eVar 0) (eC (.int 1)))) (eBin opSub (eBin opSub (eC (.int 0)) (eC (.int 1))) (eSub (eSub (eVar 0) (eC (.int 0))) (eSub (eVar 0) (eC (.int 1)))))) (gName 1)) (sSeq (sAsg (eBin opAdd (eSub (eVar 0) (eC (.int 1))) (eC (.int 1))) (gSub (eVar 0) (eC (.int 1)))) (sIf (tCmp cGe (eVar 1) (eBin opPow (eC (.int 10)) (eC (.int 18)))) (sRet (eVar 1)) sNil))) sNil) T_law_fill5_2)))
def T_law_take5_1 : WS :=
  (sSeq (sAsg (eBin opMod (eInt (eSub (eVar 0) (eC (.int 2)))) (eVar 1)) (gName 2)) (sSeq (sAsg (eBin opDiv (eSub (eVar 0) (eC (.int 2))) (eVar 1)) (gSub (eVar 0) (eC (.int 2)))) (sRet (eVar 2))))
def B_law_take5 : WS :=
  (sSeq (sIf (tCmp cLt (eSub (eVar 0) (eC (.int 2))) (eVar 1)) (sAsg (eCall S_law_fill5 [(eVar 0)]) (gSub (eVar 0) (eC (.int 2)))) sNil) T_law_take5_1)
def WC_law_shuffled5_1 : WT :=
  (tTru (eVar 2))
def WB_law_shuffled5_1 : WS :=
  (sExpr (eAppend (eVar 3) (ePopAt (eVar 2) (eCall S_law_take5 [(eVar 0), (eLen (eVar 2))]))))
def T_law_shuffled5_1 : WS :=
  (sRet (eVar 3))
def B_law_shuffled5 : WS :=
  (sSeq (sAsg (eLstOf (eVar 1)) (gName 2)) (sSeq (sAsg (eLst []) (gName 3)) (sSeq (sWhile WC_law_shuffled5_1 WB_law_shuffled5_1) T_law_shuffled5_1)))
def CE_law_names5_1 : WE :=
  (eBin opAdd (eVar 3) (eSub (eVar 2) (eVar 6)))
def FB_law_names5_1 : WS :=
  (sIf (tAnd (tCmp cEq (eVar 5) (eC (.int 0))) (tCmp cEq (eCall S_law_take5 [(eVar 0), (eC (.int 2))]) (eC (.int 0)))) (sAsg (eBin opAdd (eC (.str "c")) (eStrI (eBin opAdd (eVar 6) (eC (.int 1))))) (gSub (eVar 4) (eVar 6))) sNil)
def T_law_names5_1 : WS :=
  (sRet (eCall S_law_shuffled5 [(eVar 0), (eVar 4)]))
def B_law_names5 : WS :=
  (sSeq (sAsg (eC (.str "abcdefghijklmnopqrstuvwxyz")) (gName 2)) (sSeq (sAsg (eBin opAdd (eSub (eC (.str "abcdfghijkmnpqrtuvwxyz")) (eCall S_law_take5 [(eVar 0), (eC (.int 22))])) (eSub (eLst [(eC (.str "")), (eC (.str "x")), (eC (.str "7")), (eC (.str "aaa0z"))]) (eCall S_law_take5 [(eVar 0), (eC (.int 4))]))) (gName 3)) (sSeq (sAsg (eComp (iRange1 (eVar 1)) [6] (gName 6) tYes CE_law_names5_1) (gName 4)) (sSeq (sAsg (eCall S_law_take5 [(eVar 0), (eC (.int 4))]) (gName 5)) (sSeq (sFor (iRange1 (eVar 1)) (gName 6) FB_law_names5_1) T_law_names5_1)))))
def T_law_divisor5_1 : WS :=
  (sAsg (eTup [(eVar 1), (eBin opMod (eVar 0) (eVar 1))]) (gTup [gName 0, gName 1]))
def FB_law_divisor5_1 : WS :=
  (sSeq (sIf (tCmp cEq (eVar 1) (eC (.int 0))) (sRet (eVar 0)) sNil) T_law_divisor5_1)
def T_law_divisor5_2 : WS :=
  (sRet (eC (.int 1)))
def B_law_divisor5 : WS :=
  (sSeq (sFor (iRange1 (eC (.int 400))) (gName 2) FB_law_divisor5_1) T_law_divisor5_2)
def FB_law_rows5_1 : WS :=
  (sSeq (sAsg (eCall S_law_take5 [(eVar 0), (eVar 1)]) (gName 7)) (sAsg (eBin opAdd (eSub (eVar 3) (eVar 7)) (eC (.int 1))) (gSub (eVar 3) (eVar 7))))
def FB_law_rows5_2 : WS :=
  (sSeq (sAsg (eCall S_law_divisor5 [(eVar 6), (eVar 2)]) (gName 8)) (sExpr (eAppend (eVar 5) (eTup [(eBin opDiv (eVar 6) (eVar 8)), (eBin opDiv (eVar 2) (eVar 8))]))))
def T_law_rows5_1 : WS :=
  (sRet (eVar 5))
def T_law_rows5_2 : WS :=
  (sSeq (sAsg (eLst []) (gName 5)) (sSeq (sFor (iVal (eVar 3)) (gName 6) FB_law_rows5_2) T_law_rows5_1))
def B_law_rows5 : WS :=
  (sSeq (sAsg (eSub (eLst [(eC (.int 2)), (eC (.int 2)), (eC (.int 3)), (eC (.int 4)), (eC (.int 5)), (eC (.int 6)), (eC (.int 7)), (eC (.int 8)), (eC (.int 9)), (eC (.int 12))]) (eCall S_law_take5 [(eVar 0), (eC (.int 10))])) (gName 2)) (sSeq (sAsg (eMin2 (eVar 1) (eVar 2)) (gName 1)) (sSeq (sAsg (eBin opRep (eLst [(eC (.int 1))]) (eVar 1)) (gName 3)) (sSeq (sFor (iRange1 (eBin opSub (eVar 2) (eVar 1))) (gName 4) FB_law_rows5_1) T_law_rows5_2))))
def CE_law_body5_1 (n : Nat) : WE :=
  (eTup [(eVar 7), (eCall (S_law_body5 n) [(eVar 0), (eVar 1), (eVar 2), (eBin opSub (eVar 3) (eC (.int 1)))])])
def T_law_body5_1 (n : Nat) : WS :=
  (sSeq (sAsg (eIf (tCmp cGt (eVar 5) (eC (.int 1))) (eCall S_law_rows5 [(eVar 0), (eVar 5)]) (eLst [(eTup [(eC (.int 1)), (eC (.int 1))])])) (gName 6)) (sRet (eTup [(eC (.str "draw")), (eTupOf (eComp (iVal (eVar 6)) [7] (gName 7) tYes (CE_law_body5_1 n)))])))
def T_law_body5_2 (n : Nat) : WS :=
  (sSeq (sAsg (eBin opAdd (eC (.int 1)) (eCall S_law_take5 [(eVar 0), (eC (.int 3))])) (gName 5)) (sSeq (sIf (tAnd (tCmp cEq (eVar 5) (eC (.int 1))) (tCmp cGt (eCall S_law_take5 [(eVar 0), (eC (.int 3))]) (eC (.int 0)))) (sAsg (eC (.int 2)) (gName 5)) sNil) (T_law_body5_1 n)))
def T_law_body5_3 (n : Nat) : WS :=
  (sSeq (sIf (tCmp cLt (eVar 4) (eC (.int 6))) (sRet (eTup [(eC (.str "call")), (eSub (eVar 1) (eCall S_law_take5 [(eVar 0), (eLen (eVar 1))])), (eCall (S_law_body5 n) [(eVar 0), (eVar 1), (eVar 2), (eBin opSub (eVar 3) (eC (.int 1)))])])) sNil) (T_law_body5_2 n))
def T_law_body5_4 (n : Nat) : WS :=
  (sSeq (sIf (tCmp cLt (eVar 4) (eC (.int 4))) (sRet (eTup [(eC (.str "tell")), (eSub (eVar 2) (eCall S_law_take5 [(eVar 0), (eLen (eVar 2))])), (eCall (S_law_body5 n) [(eVar 0), (eVar 1), (eVar 2), (eBin opSub (eVar 3) (eC (.int 1)))])])) sNil) (T_law_body5_3 n))
def B_law_body5 (n : Nat) : WS :=
  (sSeq (sAsg (eCall S_law_take5 [(eVar 0), (eC (.int 9))]) (gName 4)) (sSeq (sIf (tOr (tCmp cEq (eVar 3) (eC (.int 0))) (tCmp cLt (eVar 4) (eC (.int 2)))) (sRet (eIf (tCmp cEq (eCall S_law_take5 [(eVar 0), (eC (.int 6))]) (eC (.int 0))) (eTup [(eC (.str "stop"))]) (eTup [(eC (.str "end"))]))) sNil) (T_law_body5_4 n)))
def CE_law_program5_1 : WE :=
  (eTup [(eVar 4), (eCall (S_law_body5 8) [(eVar 0), (eVar 1), (eVar 2), (eVar 3)])])
def B_law_program5 : WS :=
  (sRet (eTupOf (eComp (iVal (eVar 1)) [4] (gName 4) tYes CE_law_program5_1)))
end DL

set_option Elab.async false
set_option linter.all false
set_option maxRecDepth 100000
set_option maxHeartbeats 4000000
/-! G5P: the second makers of programs -/
namespace DL
open PySem
theorem ob_law_start5 : ∀ E ds M Q, S_law_start5 E ds M Q → B_law_start5 E (endsL Q) (start 2 ds) M := by
  intro E ds M Q h
  obtain ⟨x, rfl, ns, rfl, hl, hq⟩ := fn1_e h
  simp [B_law_start5]
  intro p hp q hq'
  have e : cut (ns.map D.int) none (some 63) = ns.map D.int := by
    unfold cut HT.sIx
    rw [List.length_map]
    simp
    exact List.take_of_length_le (by rw [List.length_map]; omega)
  rw [e]
  have hpq : q ≠ p := (set_none.mp hq').1
  have hq0 := (set_none.mp hq').2
  refine comp_map id (fun m => m p = some (.lst (ns.map D.int))) (fun m o h => by rw [set_ne hpq.symm]; exact h) (fun _ h => h) _ [] _ ?_ ?_ set_same ?_ ?_
  · intro x hx m T r ht
    obtain ⟨i, _, rfl⟩ := List.mem_map.mp hx
    simp [CE_law_start5_1]; exact ht
  · have := sizeLine_ge; simp; omega
  · rw [set_ne hpq.symm, set_same]
  · intro a ha
    simp only [List.nil_append, List.map_id]
    rw [set_set] at ha ⊢
    have h1 := set_none.mp ha
    have h2 := set_none.mp h1.2
    exact ⟨_, (((Le.refl.fresh hp).set).set : Le ((M.set q _).set a _) _), hq a q h1.1 h2.2 hq0⟩
theorem ob_law_fill5 : ∀ E ds M Q, S_law_fill5 E ds M Q → B_law_fill5 E (endsL Q) (start 2 ds) M := by
  intro E ds M Q h
  obtain ⟨x, rfl, a, b, rfl, hc, hq⟩ := fn1_e h
  obtain ⟨h2, ⟨xs, h5⟩, ⟨_, h4, i, j, k, l, h3, rfl⟩⟩ := hc
  have e5 : ∀ o, M.set a o b = some (.lst (xs.map .int)) := fun o => by rw [set_ne (Ne.symm h2)]; exact h5
  have hq' : ∀ (v i' j' k' l' : Int), 0 ≤ i' → ∃ M0, Le M0 (M.set a (cs b i' j' k' l')) ∧ Q (.int v) M0 := fun v i' j' k' l' hi => ⟨_, Le.refl, hq _ _ ⟨i', j', k', l', hi, rfl⟩⟩
  have tail : ∀ (v i' j' k' l' : Int), 0 ≤ i' → T_law_fill5_1 E (endsL Q) [some (.ref a), some (.int v)] (M.set a (cs b i' j' k' l')) := by
    intro v i' j' k' l' hi
    simp [T_law_fill5_1, cs, K, mulOk_small, np_small]
    refine ⟨?_, hq' _ _ _ _ _ hi⟩
    refine mulOk_small ?_
    have e1 := Int.emod_nonneg (a := v * 48271 + k' * 69621) (b := 2147483647) (by decide)
    have e2 := Int.emod_lt_of_pos (v * 48271 + k' * 69621) (b := 2147483647) (by decide)
    rw [fmod_pos (by decide)]
    omega
  have tail3 : ∀ (v i' j' k' l' : Int), 0 ≤ i' → T_law_fill5_2 E (endsL Q) [some (.ref a), some (.int v)] (M.set a (cs b i' j' k' l')) := by
    intro v i' j' k' l' hi
    simp [T_law_fill5_2, cs, e5]
    split
    · exact go (tail v i' j' k' l' hi)
    · rename_i hx
      split
      · have : 1 ≤ xs.length := by
          have : xs.length ≠ 0 := by simpa using hx
          omega
        rw [if_pos (by omega), Option.bind_some, show (-1 + (xs.length : Int)).toNat = xs.length - 1 from by omega, List.getElem?_eq_getElem (by omega)]
        simp
        exact go (tail _ i' j' k' l' hi)
      · exact go (tail _ i' j' k' l' hi)
  simp [B_law_fill5, h4, cs, K, mulOk_small, e5, h3]
  split
  · rename_i hi
    have hi' : i.toNat < xs.length := by omega
    have := tail3
    simp [cs] at this
    simp [List.getElem?_eq_getElem hi', set_set, K]
    have := sizeLine_ge
    split <;> split <;> first | exact hq' _ _ _ _ _ (by omega) | exact tail3 _ _ _ _ _ (by omega)
  · exact tail3 _ _ _ _ _ h3
theorem ob_law_take5 : ∀ E ds M Q, S_law_take5 E ds M Q → B_law_take5 E (endsL Q) (start 3 ds) M := by
  intro E ds M Q h
  obtain ⟨x, y, rfl, a, b, many, rfl, rfl, h0, h1, hc, hq⟩ := fn2_e h
  have tail : ∀ o, CO b o → T_law_take5_1 E (endsL Q) [some (.ref a), some (.int many), none] (M.set a o) := by
    intro o hc'
    obtain ⟨i, j, k, l, h2, rfl⟩ := hc'
    simp [T_law_take5_1, cs, K, fdiv_pos h0, fmod_pos h0, set_set]
    exact ⟨by omega, np_small (by omega), _, Le.refl, hq _ _ (Int.emod_nonneg _ (by omega)) (Int.emod_lt_of_pos _ h0) ⟨i, _, k, l, h2, rfl⟩⟩
  obtain ⟨h2, ⟨xs, h5⟩, ⟨_, h4, i, j, k, l, h3, rfl⟩⟩ := id hc
  simp [B_law_take5, h4, cs]
  split
  · refine ⟨a, b, rfl, hc, fun v o hc' => ?_⟩
    obtain ⟨i', j', k', l', h3', rfl⟩ := hc'
    simp [cs, set_set]
    exact go (tail _ ⟨i', v, k', l', h3', rfl⟩)
  · have : M = M.set a (cs b i j k l) := (set_self h4).symm
    rw [this]
    exact go (tail _ ⟨i, j, k, l, h3, rfl⟩)
theorem rng_cons {i n : Nat} {x : D} {xs : List D} (h : x :: xs = rangeL (i : Int) (n : Int)) : x = .int (i : Int) ∧ xs = rangeL ((i + 1 : Nat) : Int) (n : Int) ∧ i < n := by
  unfold rangeL at h
  have hl := congrArg List.length h
  simp at hl
  obtain ⟨m, hm⟩ : ∃ m, ((n : Int) - (i : Int)).toNat = m + 1 := ⟨((n : Int) - (i : Int)).toNat - 1, by omega⟩
  rw [hm, List.range_succ_eq_map] at h
  simp only [List.map_cons, List.map_map, List.cons.injEq] at h
  refine ⟨by rw [h.1]; simp, ?_, by omega⟩
  rw [h.2]
  unfold rangeL
  rw [show ((n : Int) - ((i + 1 : Nat) : Int)).toNat = m by omega]
  refine List.map_congr_left fun k _ => ?_
  simp only [Function.comp_apply]
  congr 1
  simp; omega
theorem rng_nil {i n : Nat} (h : [] = rangeL (i : Int) (n : Int)) (hi : i ≤ n) : i = n := by
  have := congrArg List.length h
  unfold rangeL at this
  simp at this; omega
theorem le_put {M M' : Sto} {p : Addr} {o : O} (h : Le M M') (e : M' p = some o) : Le (M.set p o) M' := fun x u hx => by
  by_cases hp : x = p
  · subst hp; rw [set_same] at hx; rw [e]; exact hx
  · rw [set_ne hp] at hx; exact h x u hx
theorem fr_put {M M' : Sto} {a b p : Addr} {u : O} (f : Fr a b M M') (e : M' p = some u) : ∃ o, CO b o ∧ Le ((M.set a o).set p u) M' := by
  obtain ⟨o, c, l⟩ := f.le
  exact ⟨o, c, le_put l e⟩
theorem erase_perm : ∀ {xs : List D} {i : Nat} {d : D}, xs[i]? = some d → (d :: xs.eraseIdx i).Perm xs
  | [], i, d, h => by simp at h
  | x :: xs, 0, d, h => by
    have : x = d := by simpa using h
    subst this
    exact List.Perm.refl _
  | x :: xs, i + 1, d, h => by
    have h : xs[i]? = some d := by simpa using h
    exact (List.Perm.swap x d _).trans ((erase_perm h).cons x)
def ShW (M : Sto) (a b q l f : Addr) (xs : List D) (m : Nat) (e : Ev) (M' : Sto) : Prop :=
  ∃ lf fd : List D, e = [some (.ref a), some (.ref q), some (.ref l), some (.ref f)] ∧ M' l = some (.lst lf) ∧ M' f = some (.lst fd) ∧ (fd ++ lf).Perm xs ∧ Fr a b M M' ∧ m = lf.length
theorem ob_law_shuffled5 : ∀ E ds M Q, S_law_shuffled5 E ds M Q → B_law_shuffled5 E (endsL Q) (start 4 ds) M := by
  intro E ds M Q h
  obtain ⟨x, y, rfl, a, b, q, xs, rfl, hc, rfl, hqa, eq, hl, hq⟩ := fn2_e h
  have hsz := sizeLine_ge
  simp [B_law_shuffled5, eq]
  intro l hln
  have f0 := hc.refl
  have hl1 := f0.none hln
  refine go ?_
  simp
  intro f hfn
  obtain ⟨hfl, hfM⟩ := set_none.mp hfn
  have hf1 := f0.none hfM
  refine go ?_
  refine ⟨ShW M a b q l f xs, ⟨xs.length, xs, [], rfl, by rw [set_ne hfl.symm, set_same], set_same, by simp, (f0.fresh hln).fresh hfn, rfl⟩, ?_⟩
  rintro m e M' ⟨lf, fd, rfl, el, ef, hp, fr, rfl⟩
  have hlen := hp.length_eq
  simp at hlen
  simp [WC_law_shuffled5_1, el]
  by_cases h0 : lf = []
  · subst h0
    simp [T_law_shuffled5_1]
    obtain ⟨o, c, le⟩ := fr_put fr ef
    exact ⟨_, le, hq fd o f (by simpa using hp) c hf1.1 hfM⟩
  · rw [if_neg h0]
    have hpos : 0 < lf.length := List.length_pos_iff.mpr h0
    simp [WB_law_shuffled5_1, ef, el]
    refine take_i (by omega) (by omega) (hc.fr fr) fun d o hd0 hd1 hco => ?_
    have fr2 := fr.set hco
    have el2 : (M'.set a o) l = some (.lst lf) := by rw [set_ne hl1.1]; exact el
    have ef2 : (M'.set a o) f = some (.lst fd) := by rw [set_ne hf1.1]; exact ef
    generalize M'.set a o = M2 at fr2 el2 ef2 ⊢
    simp [el2]
    refine popAtD_i hd0 hd1 (by omega) fun z hz => ?_
    simp [set_ne hfl, ef2]
    have hpz := erase_perm hz
    have hle := hpz.length_eq
    simp only [List.length_cons] at hle
    refine ⟨by omega, _, ?_, lf.eraseIdx d.toNat, fd ++ [z], rfl, by rw [set_ne hfl.symm, set_same], set_same, ?_, (fr2.upd hl1.2 hl1.1).upd hf1.2 hf1.1, rfl⟩
    · omega
    · refine List.Perm.trans ?_ hp
      rw [List.append_assoc]
      exact List.Perm.append_left fd hpz
/-! ## the greatest common divisor -/
theorem div_loop5 {Q : KD} (E : XW) (M : Sto) : ∀ (xs : List D) (a b : Nat) (t : Option D), a ≤ 100 → b + 1 ≤ xs.length → b ≤ 100 → Q (.int (Nat.gcd a b)) M →
    forL (gName 2) FB_law_divisor5_1 (fun _ => True) xs E { nx := K (T_law_divisor5_2 E (endsL Q)), rt := (endsL Q).rt, bk := (endsL Q).bk, ct := (endsL Q).ct } [some (.int a), some (.int b), t] M
  | [], a, b, t, ha, hb, _, hq => by simp at hb
  | x :: xs, a, b, t, ha, hb, hb1, hq => by
    rw [forL_cons]
    refine ⟨trivial, ?_⟩
    simp [FB_law_divisor5_1]
    by_cases h0 : b = 0
    · subst h0
      simp
      exact ⟨M, Le.refl, by simpa using hq⟩
    · rw [if_neg (by omega)]
      refine go ?_
      have hbp : 0 < b := by omega
      simp [T_law_divisor5_1]
      refine ⟨h0, go ?_⟩
      rw [fmod_pos (by omega), ← Int.natCast_emod]
      simp only [List.length_cons] at hb
      have hm := Nat.mod_lt a hbp
      refine div_loop5 E M xs b (a % b) _ hb1 (by omega) (by omega) ?_
      rw [Nat.gcd_comm b, ← Nat.gcd_rec, Nat.gcd_comm]; exact hq
theorem ob_law_divisor5 : ∀ E ds M Q, S_law_divisor5 E ds M Q → B_law_divisor5 E (endsL Q) (start 3 ds) M := by
  intro E ds M Q h
  obtain ⟨x, y, rfl, n, d, rfl, rfl, h0, h1, hq⟩ := fn2_e h
  simp [B_law_divisor5]
  have hl := rangeL_len 0 400
  exact div_loop5 E M (rangeL 0 400) n d none h0 (by omega) h1 hq
/-! ## rows -/
theorem comps_mem : ∀ (sh : List Nat) (d : Nat), (∀ s ∈ sh, 1 ≤ s) → sh.sum = d → sh ∈ comps sh.length d
  | [], d, _, h => by
    have : d = 0 := by simpa using h.symm
    subst this
    simp [comps]
  | s :: sh, d, h1, h => by
    have hs := h1 s (.head _)
    simp only [List.sum_cons] at h
    simp only [List.length_cons, comps, List.mem_flatMap, List.mem_range, List.mem_map]
    refine ⟨s - 1, by omega, sh, ?_, by rw [Nat.sub_add_cancel hs]⟩
    have := comps_mem sh (d - (s - 1 + 1)) (fun x hx => h1 x (.tail _ hx)) (by omega)
    exact this
def inc (sh : List Nat) (k : Nat) : List Nat := sh.set k (sh.getD k 0 + 1)
theorem inc_len (sh : List Nat) (k : Nat) : (inc sh k).length = sh.length := by simp [inc]
theorem inc_sum : ∀ (sh : List Nat) (k : Nat), k < sh.length → (inc sh k).sum = sh.sum + 1
  | s :: sh, 0, _ => by simp [inc]; omega
  | s :: sh, k + 1, h => by
    have := inc_sum sh k (by simpa using h)
    simp [inc] at this ⊢
    omega
theorem inc_pos (sh : List Nat) (k : Nat) (h : ∀ s ∈ sh, 1 ≤ s) : ∀ s ∈ inc sh k, 1 ≤ s := by
  intro s hs
  unfold inc at hs
  rcases List.mem_or_eq_of_mem_set hs with hs | hs
  · exact h s hs
  · omega
theorem fr_nat (s d : Nat) : fr (s : Int) (d : Int) = (((s / Nat.gcd s d : Nat) : Int), ((d / Nat.gcd s d : Nat) : Int)) := by
  unfold fr
  rw [Int.gcd_natCast_natCast]
  simp
theorem ob_law_rows5 : ∀ E ds M Q, S_law_rows5 E ds M Q → B_law_rows5 E (endsL Q) (start 9 ds) M := by
  intro E ds M Q h
  obtain ⟨x, y, rfl, a, b, many, rfl, hc, rfl, h2, h6, hq⟩ := fn2_e h
  have hsz := sizeLine_ge
  simp [B_law_rows5, -atI_s]
  intro p hp
  have hpa := hc.refl.none hp
  refine take_i (by decide) (by decide) (hc.fresh hp) fun t o h0 h1 hco => ?_
  have fr1 := (hc.refl.fresh (o := .lst [.int 2, .int 2, .int 3, .int 4, .int 5, .int 6, .int 7, .int 8, .int 9, .int 12]) hp).set hco
  have ep : ((M.set p (.lst [.int 2, .int 2, .int 3, .int 4, .int 5, .int 6, .int 7, .int 8, .int 9, .int 12])).set a o) p = some (.lst (([2, 2, 3, 4, 5, 6, 7, 8, 9, 12] : List Nat).map fun n : Nat => D.int (n : Int))) := by rw [set_ne hpa.1, set_same]; rfl
  generalize (M.set p (.lst [.int 2, .int 2, .int 3, .int 4, .int 5, .int 6, .int 7, .int 8, .int 9, .int 12])).set a o = M1 at fr1 ep ⊢
  rw [ep]
  obtain ⟨d, hd, ed⟩ := atI_map (xs := ([2, 2, 3, 4, 5, 6, 7, 8, 9, 12] : List Nat)) (f := fun n : Nat => D.int (n : Int)) h0 h1
  have hd2 : 2 ≤ d ∧ d ≤ 12 ∧ d ∈ [2, 3, 4, 5, 6, 7, 8, 9, 12] := by
    simp at hd
    rcases hd with rfl | rfl | rfl | rfl | rfl | rfl | rfl | rfl | rfl <;> simp
  have ed' : L2.atI [D.int 2, D.int 2, D.int 3, D.int 4, D.int 5, D.int 6, D.int 7, D.int 8, D.int 9, D.int 12] t = some (.int (d : Int)) := ed
  simp [-atI_s, ed']
  refine go ?_
  simp [-atI_s]
  have emin : (if d < many then (d : Int) else (many : Int)) = ((min many d : Nat) : Int) := by
    split <;> omega
  rw [emin]
  clear emin
  refine go ?_
  generalize hm : min many d = m
  have hd2' := hd2.2.2
  have hmm : 2 ≤ m ∧ m ≤ 6 ∧ m ≤ d := by omega
  simp
  intro q hq1
  have fr2 := fr1.fresh (o := .lst [.int 1]) hq1
  refine ⟨by omega, by omega, fun l hl => go ?_⟩
  have hl1 := fr2.none hl
  have fr3 := fr2.fresh (o := .lst (List.replicate m (D.int 1))) hl
  have el : ((M1.set q (.lst [.int 1])).set l (.lst (List.replicate m (D.int 1)))) l = some (.lst ((List.replicate m 1).map fun n : Nat => D.int (n : Int))) := by rw [set_same]; simp
  generalize (M1.set q (.lst [.int 1])).set l (.lst (List.replicate m (D.int 1))) = M2 at fr3 el ⊢
  simp
  refine ⟨by omega, by omega, ?_⟩
  refine for_ind (fun xs e m' => ∃ (j : Nat) (sh : List Nat) (x4 x7 : Option D), xs.length + j = d - m ∧ sh.length = m ∧ sh.sum = m + j ∧ (∀ s ∈ sh, 1 ≤ s) ∧ m' l = some (.lst (sh.map fun n : Nat => D.int (n : Int))) ∧ Fr a b M m' ∧ e = [some (.ref a), some (.int m), some (.int d), some (.ref l), x4, none, none, x7, none])
    ?_ ?_ _ _ _ ⟨0, List.replicate m 1, none, none, by rw [rangeL_len]; omega, by simp, by simp, by simp, el, fr3, rfl⟩
  · clear el fr3
    rintro x xs e m' ⟨j, sh, x4, x7, hj, hlen, hsum, hpos, el, frm, rfl⟩
    simp only [List.length_cons] at hj
    refine ⟨trivial, fun N hN => ?_⟩
    simp [FB_law_rows5_1]
    refine take_i (by omega) (by omega) (hc.fr frm) fun k o2 hk0 hk1 hco2 => go ?_
    have fr4 := frm.set hco2
    have el4 : (m'.set a o2) l = some (.lst (sh.map fun n : Nat => D.int (n : Int))) := by rw [set_ne hl1.1]; exact el
    generalize m'.set a o2 = M3 at fr4 el4 ⊢
    obtain ⟨k, rfl⟩ := Int.eq_ofNat_of_zero_le hk0
    have hkl : k < sh.length := by omega
    simp [el4, hkl]
    refine hN _ _ ⟨j + 1, inc sh k, _, _, by omega, by rw [inc_len]; exact hlen, by rw [inc_sum sh k hkl]; omega, inc_pos sh k hpos, ?_, fr4.upd hl1.2 hl1.1, rfl⟩
    rw [set_same]
    unfold inc
    rw [List.map_set]
    simp [List.getD_eq_getElem?_getD, hkl]
  · clear el fr3
    rintro e m' ⟨j, sh, x4, x7, hj, hlen, hsum, hpos, el, frm, rfl⟩
    simp only [List.length_nil, Nat.zero_add] at hj
    refine ⟨trivial, ?_⟩
    dsimp only
    refine go ?_
    have hsd : sh.sum = d := by omega
    simp [T_law_rows5_2]
    intro f hf
    have hf1 := frm.none hf
    have hlf : l ≠ f := ne_of el hf
    have el5 : (m'.set f (.lst [])) l = some (.lst (sh.map fun n : Nat => D.int (n : Int))) := by rw [set_ne hlf]; exact el
    have fr5 := frm.fresh (o := .lst []) hf
    have ef5 : (m'.set f (.lst [])) f = some (.lst []) := set_same
    generalize m'.set f (.lst []) = M4 at el5 fr5 ef5 ⊢
    refine go ?_
    simp [el5]
    refine for_ind (fun xs e m'' => ∃ (dn rs : List Nat) (x6 x8 : Option D), xs = rs.map (fun n : Nat => D.int (n : Int)) ∧ dn ++ rs = sh ∧ m'' l = some (.lst (sh.map fun n : Nat => D.int (n : Int))) ∧ m'' f = some (.lst (dn.map fun s : Nat => dF (fr (s : Int) (d : Int)))) ∧ Fr a b M m'' ∧ e = [some (.ref a), some (.int m), some (.int d), some (.ref l), x4, some (.ref f), x6, x7, x8])
      ?_ ?_ _ _ _ ⟨[], sh, none, none, rfl, rfl, el5, ef5, fr5, rfl⟩
    · clear el5 fr5 ef5
      rintro x xs e m'' ⟨dn, rs, x6, x8, hx, hd, el6, ef6, fr6, rfl⟩
      obtain ⟨s, rs, rfl⟩ : ∃ r rs', rs = r :: rs' := by
        cases rs with
        | nil => simp at hx
        | cons r rs => exact ⟨r, rs, rfl⟩
      simp only [List.map_cons, List.cons.injEq] at hx
      obtain ⟨rfl, rfl⟩ := hx
      have hdl : dn.length ≤ 6 := by have := congrArg List.length hd; simp at this; omega
      have hs1 : 1 ≤ s := hpos s (by rw [← hd]; simp)
      have hs2 : s ≤ 12 := by
        have : sh.sum = dn.sum + (s + rs.sum) := by rw [← hd]; simp
        omega
      have hg0 : 0 < Nat.gcd s d := Nat.gcd_pos_of_pos_left _ (by omega)
      have hg1 : Nat.gcd s d ≤ s := Nat.gcd_le_left _ (by omega)
      refine ⟨el6, fun N hN => ?_⟩
      simp [FB_law_rows5_2, S_law_divisor5]
      refine ⟨s, rfl, d, rfl, by omega, by omega, go ?_⟩
      have hnp : Builtin.divisionGoesByPylong (s : Int) ((Nat.gcd s d : Nat) : Int) = false := np_small (by omega)
      have hnp2 : Builtin.divisionGoesByPylong (d : Int) ((Nat.gcd s d : Nat) : Int) = false := np_small (by omega)
      have hgi : (0 : Int) < ((Nat.gcd s d : Nat) : Int) := by omega
      simp [ef6, fdiv_pos hgi, hnp, hnp2]
      refine ⟨by omega, by omega, hN _ _ ⟨dn ++ [s], rs, _, _, rfl, by simpa using hd, by rw [set_ne hlf]; exact el6, ?_, fr6.upd hf1.2 hf1.1, rfl⟩⟩
      rw [set_same]
      simp [dF, fr_nat]
    · clear el5 fr5 ef5
      rintro e m'' ⟨dn, rs, x6, x8, hx, hd2, el6, ef6, fr6, rfl⟩
      have : rs = [] := by simpa using hx.symm
      subst this
      rw [List.append_nil] at hd2
      subst hd2
      refine ⟨el6, ?_⟩
      dsimp only
      refine go ?_
      simp [T_law_rows5_1]
      obtain ⟨o, c, le⟩ := fr_put fr6 ef6
      have e2 : (dn.map fun s : Nat => dF (fr (s : Int) (d : Int))) = (dn.map fun s : Nat => fr (s : Int) (d : Int)).map dF := by rw [List.map_map]; rfl
      rw [e2] at le
      refine ⟨_, le, hq _ o f ⟨d, hd2', ?_⟩ c hf1.1 hf1.2⟩
      rw [hm]
      unfold rowsB
      refine List.mem_map.mpr ⟨dn, ?_, rfl⟩
      rw [← hlen]
      exact comps_mem dn d hpos hsd
/-! ## names -/
theorem perm_map_inv {α : Type} {f : α → D} : ∀ {ys l : List D}, ys.Perm l → ∀ xs : List α, l = xs.map f → ∃ zs : List α, ys = zs.map f ∧ zs.Perm xs := by
  intro ys l h
  induction h with
  | nil => intro xs e; exact ⟨[], rfl, by cases xs with | nil => exact .nil | cons x xs => simp at e⟩
  | cons d _ ih =>
    intro xs e
    cases xs with
    | nil => simp at e
    | cons x xs =>
      simp only [List.map_cons, List.cons.injEq] at e
      obtain ⟨zs, h1, h2⟩ := ih xs e.2
      exact ⟨x :: zs, by rw [h1, e.1]; rfl, h2.cons x⟩
  | swap d u l =>
    intro xs e
    match xs, e with
    | [], e => simp at e
    | [_], e => simp at e
    | x :: y :: xs, e =>
      simp only [List.map_cons, List.cons.injEq] at e
      exact ⟨y :: x :: xs, by simp [e.1, e.2.1, e.2.2], .swap x y xs⟩
  | trans _ _ h1 h2 =>
    intro xs e
    obtain ⟨zs, e1, p1⟩ := h2 xs e
    obtain ⟨us, e2, p2⟩ := h1 zs e1
    exact ⟨us, e2, p2.trans p1⟩
theorem firsts_at : ∀ k : Nat, k < 22 → ((Str.ofString "abcdfghijkmnpqrtuvwxyz").cps.toList[k]?).map (fun c => (⟨#[c]⟩ : Str)) = firsts5[k]? := by decide +kernel
theorem lets_at : ∀ k : Nat, k < 4 → ((Str.ofString "abcdefghijklmnopqrstuvwxyz").cps.toList[k]?).map (fun c => (⟨#[c]⟩ : Str)) = some (lets5.getD k "") := by decide +kernel
theorem coin_at : ∀ k : Nat, k < 4 → ((k : Int) + 1).natAbs.log2 < 1920 ∧ (Str.ofString "c").length + (Str.ofString ((k : Int) + 1).repr).length ≤ 100 ∧ (Str.ofString "c") ++ (Str.ofString ((k : Int) + 1).repr) = coins5.getD k "" := by decide +kernel
theorem five_len : ∀ f ∈ firsts5, ∀ g ∈ mids5, f.length + g.length ≤ 10 ∧ (f ++ g).length ≤ 10 := by decide +kernel
theorem lets_len : ∀ k < 4, (lets5.getD k "").length ≤ 10 := by decide +kernel
def row5 (f g : Str) (bs : List Bool) : List Str := bs.mapIdx fun k b => nm5 f g k b
theorem str_at {s : Str} {k : Nat} {t : Str} (h : (s.cps.toList[k]?).map (fun c => (⟨#[c]⟩ : Str)) = some t) : ∃ c, s.cps.toList[k]? = some c ∧ (⟨#[c]⟩ : Str) = t ∧ k < s.cps.toList.length := by
  cases e : s.cps.toList[k]? with
  | none => rw [e] at h; cases h
  | some c =>
    rw [e] at h
    exact ⟨c, rfl, by simpa using h, (List.getElem?_eq_some_iff.mp e).1⟩
theorem sub_strN {s : Str} {k c : Nat} {M : Sto} {q : D → Prop} (hl : s.length ≤ sizeLine) (h : s.cps.toList[k]? = some c) (hq : q (.str ⟨#[c]⟩)) : subD (.str s) (.int (k : Int)) M q := by
  have hlt := (List.getElem?_eq_some_iff.mp h).1
  rw [subD_str]
  refine ⟨hl, ?_⟩
  have e : L2.atI s.cps.toList (k : Int) = some c := by
    rw [atI_s, ixN_s, if_pos (by omega), if_pos (by omega)]
    simpa using h
  rw [e]
  exact hq
theorem row5_len (f g : Str) (bs : List Bool) : (row5 f g bs).length = bs.length := by simp [row5]
theorem row5_set (f g : Str) (bs : List Bool) (k : Nat) : ((row5 f g bs).map D.str).set k (.str (nm5 f g k true)) = (row5 f g (bs.set k true)).map D.str := by
  refine List.ext_getElem (by simp [row5]) fun j h1 h2 => ?_
  simp only [row5, List.getElem_set, List.getElem_map, List.getElem_mapIdx]
  by_cases e : k = j
  · subst e; simp
  · simp [e]
theorem ob_law_names5 : ∀ E ds M Q, S_law_names5 E ds M Q → B_law_names5 E (endsL Q) (start 7 ds) M := by
  intro E ds M Q h
  obtain ⟨x, y, rfl, a, b, many, rfl, hc, rfl, h1, h4, hq⟩ := fn2_e h
  have hsz := sizeLine_ge
  simp [B_law_names5, -atI_s]
  refine go ?_
  simp [-atI_s]
  refine take_i (by decide) (by decide) hc fun t o ht0 ht1 hco => ?_
  have fr1 := hc.refl.set hco
  generalize M.set a o = M1 at fr1 ⊢
  obtain ⟨t, rfl⟩ := Int.eq_ofNat_of_zero_le ht0
  have htl : t < 22 := by omega
  obtain ⟨f, hf⟩ : ∃ f, firsts5[t]? = some f := ⟨firsts5[t]'(by simpa [firsts5] using htl), List.getElem?_eq_getElem _⟩
  have hfm : f ∈ firsts5 := List.mem_of_getElem? hf
  obtain ⟨c1, ec, ef, el⟩ := str_at ((firsts_at t htl).trans hf)
  refine sub_strN (by decide) ec ?_
  rw [ef]
  intro p hp
  have fr2 := fr1.fresh (o := .lst [D.str "", D.str "x", D.str "7", D.str "aaa0z"]) hp
  have hp1 := fr1.none hp
  refine take_i (by decide) (by decide) (hc.fr fr2) fun u o2 hu0 hu1 hco2 => ?_
  have fr3 := fr2.set hco2
  have ep : ((M1.set p (.lst [D.str "", D.str "x", D.str "7", D.str "aaa0z"])).set a o2) p = some (.lst (mids5.map .str)) := by rw [set_ne hp1.1, set_same]; rfl
  generalize (M1.set p (.lst [D.str "", D.str "x", D.str "7", D.str "aaa0z"])).set a o2 = M2 at fr3 ep ⊢
  rw [ep]
  obtain ⟨g, hgm, eg⟩ := atI_map (xs := mids5) (f := D.str) hu0 (by simpa [mids5] using hu1)
  rw [subO_lst, at_s, eg, onS_some, opAdd_str]
  obtain ⟨hfg, hfg2⟩ := five_len f hfm g hgm
  refine ⟨by omega, go ?_⟩
  simp
  refine ⟨by omega, fun l hl => ?_⟩
  have hl1 := fr3.none hl
  refine comp_ind (fun acc xs m => ∃ j : Nat, j ≤ many ∧ xs = rangeL (j : Int) (many : Int) ∧ acc = (row5 f g (List.replicate j false)).map .str ∧ m l = some (.lst acc) ∧ Fr a b M m) ?_ ?_ _ [] _ ⟨0, by omega, rfl, rfl, set_same, fr3.fresh hl⟩
  · rintro x xs acc m ⟨j, hj, hx, rfl, el2, frm⟩
    obtain ⟨rfl, rfl, hj'⟩ := rng_cons hx
    obtain ⟨c2, ec2, ef2, el3⟩ := str_at (lets_at j (by omega))
    have hll := lets_len j (by omega)
    refine ⟨trivial, by simp [row5]; omega, fun T hT => ?_⟩
    simp only [gName_s]
    unfold CE_law_names5_1
    rw [eBin_s]
    simp [put, -subD_str]
    refine sub_strN (by decide) ec2 ?_
    rw [ef2, opAdd_str]
    refine ⟨by simp [Str.length] at *; omega, ?_⟩
    refine hT _ _ el2 ⟨j + 1, by omega, rfl, ?_, set_same, frm.upd hl1.2 hl1.1⟩
    simp [row5, List.replicate_succ', List.mapIdx_append, nm5]
  · rintro acc m ⟨j, hj, hx, rfl, el2, frm⟩
    have := rng_nil hx hj
    subst this
    refine ⟨trivial, ?_⟩
    refine go ?_
    simp
    refine take_i (by decide) (by decide) (hc.fr frm) fun kind o3 hk0 hk1 hco3 => ?_
    have fr4 := frm.set hco3
    have el4 : (m.set a o3) l = some (.lst ((row5 f g (List.replicate j false)).map .str)) := by rw [set_ne hl1.1]; exact el2
    generalize m.set a o3 = M3 at fr4 el4 ⊢
    refine go ?_
    simp
    refine ⟨by omega, ?_⟩
    refine for_ind (fun xs e m => ∃ (k : Nat) (bs : List Bool) (x6 : Option D), k ≤ j ∧ xs = rangeL (k : Int) (j : Int) ∧ bs.length = j ∧ m l = some (.lst ((row5 f g bs).map .str)) ∧ Fr a b M m ∧ e = [some (.ref a), some (.int j), some (.str "abcdefghijklmnopqrstuvwxyz"), some (.str (f ++ g)), some (.ref l), some (.int kind), x6]) ?_ ?_ _ _ _
      ⟨0, List.replicate j false, none, by omega, rfl, by simp, el4, fr4, rfl⟩
    · rintro x xs e m' ⟨k, bs, x6, hkj, hx2, hbl, el5, fr5, rfl⟩
      obtain ⟨rfl, rfl, hk'⟩ := rng_cons hx2
      refine ⟨trivial, fun N hN => ?_⟩
      simp [FB_law_names5_1]
      by_cases hkd : kind = 0
      · subst hkd
        simp
        refine take_i (by decide) (by decide) (hc.fr fr5) fun z o4 hz0 hz1 hco4 => ?_
        have fr6 := fr5.set hco4
        have el6 : (m'.set a o4) l = some (.lst ((row5 f g bs).map .str)) := by rw [set_ne hl1.1]; exact el5
        generalize m'.set a o4 = M5 at fr6 el6 ⊢
        have hkl : k < bs.length := by omega
        by_cases hz : z = 0
        · subst hz
          obtain ⟨c1', c2', c3'⟩ := coin_at k (by omega)
          simp [el6, row5_len, hkl]
          rw [c3']
          refine ⟨c1', by omega, ?_⟩
          have e5 : D.str (coins5.getD k "") = .str (nm5 f g k true) := rfl
          rw [e5, row5_set]
          exact hN _ _ ⟨k + 1, bs.set k true, _, by omega, rfl, by simpa using hbl, set_same, fr6.upd hl1.2 hl1.1, rfl⟩
        · rw [cEq_int, if_neg (by simpa using hz)]
          exact hN _ _ ⟨k + 1, bs, _, by omega, rfl, hbl, el6, fr6, rfl⟩
      · rw [if_neg (by simpa using hkd)]
        exact hN _ _ ⟨k + 1, bs, _, by omega, rfl, hbl, el5, fr5, rfl⟩
    · rintro e m' ⟨k, bs, x6, hkj, hx2, hbl, el5, fr5, rfl⟩
      have := rng_nil hx2 hkj
      subst this
      refine ⟨trivial, ?_⟩
      dsimp only
      refine go ?_
      simp [T_law_names5_1]
      refine ⟨a, b, l, _, rfl, hc.fr fr5, rfl, hl1.1, el5, by simp [row5]; omega, fun ys o5 p5 hpm hco5 hp5a hp5 => ?_⟩
      obtain ⟨zs, rfl, hz⟩ := perm_map_inv hpm _ rfl
      have fr7 := fr5.set hco5
      have hp5M := fr5.none hp5
      have fr8 := fr7.upd (u := .lst (zs.map .str)) hp5M.2 hp5a
      obtain ⟨o6, c6, le6⟩ := fr_put fr8 set_same
      exact ⟨_, le6, hq zs o6 p5 ⟨f, hfm, g, hgm, bs, by omega, hz⟩ (by rw [hz.length_eq, row5_len]; exact hbl) c6 hp5a hp5M.2⟩
/-! ## bodies, programs -/
theorem rowsB_cuts : ∀ d ∈ [2, 3, 4, 5, 6, 7, 8, 9, 12], ∀ m ∈ [2, 3], ∀ rows ∈ rowsB (min m d) d, rows ∈ cuts := by decide +kernel
theorem one_cuts : [((1 : Int), (1 : Int))] ∈ cuts := by decide +kernel
theorem body_i5 {n : Nat} {E : XW} {M : Sto} {Q : KD} {a b pn pl : Addr} {ns ls : List Str} {k : Nat} (hc : CSt M a b) (h1 : pn ≠ a) (h2 : M pn = some (.lst (ns.map .str))) (h3 : ns ≠ []) (h4 : ns.length ≤ 100)
    (h5 : pl ≠ a) (h6 : M pl = some (.lst (ls.map .str))) (h6' : ls ≠ []) (h7 : ls.length ≤ 100) (h8 : k < n) (hq : ∀ d o, WB ns ls k d → CO b o → Q d (M.set a o)) : S_law_body5 n E [.ref a, .ref pn, .ref pl, .int k] M Q :=
  ⟨a, b, pn, pl, ns, ls, k, rfl, hc, rfl, h1, h2, h3, h4, rfl, h5, h6, h6', h7, rfl, h8, hq⟩
theorem no_law_body5 : ∀ E ds M Q, ¬ S_law_body5 0 E ds M Q := by
  intro E ds M Q h
  obtain ⟨x, y, z, u, rfl, a, b, pn, pl, ns, ls, k, rfl, hc, rfl, hpn, en, hn0, hn1, rfl, hpl, el, hl0, hl1, rfl, hk, hq⟩ := fn4_e h
  omega
theorem ob_law_body5 (n : Nat) : ∀ E ds M Q, S_law_body5 (n + 1) E ds M Q → B_law_body5 n E (endsL Q) (start 8 ds) M := by
  intro E ds M Q h
  obtain ⟨x, y, z, u, rfl, a, b, pn, pl, ns, ls, k, rfl, hc, rfl, hpn, en, hn0, hn1, rfl, hpl, el, hl0, hl1, rfl, hk, hq⟩ := fn4_e h
  have hsz := sizeLine_ge
  have fin : ∀ d M', WB ns ls k d → Fr a b M M' → ∃ M0, Le M0 M' ∧ Q d M0 := by
    intro d M' hd f
    obtain ⟨o, c, l⟩ := f.le
    exact ⟨_, l, hq d o hd c⟩
  have hns : 0 < ns.length := List.length_pos_iff.mpr hn0
  have hls : 0 < ls.length := List.length_pos_iff.mpr hl0
  simp [B_law_body5]
  refine take_i (by decide) (by decide) hc fun w o h0 h1 hc1 => ?_
  have f1 := hc.refl.set hc1
  generalize M.set a o = M1 at f1 ⊢
  refine go ?_
  simp
  have leaf : S_law_take5 E [D.ref a, D.int 6] M1 fun x M1 => cEq x (D.int 0) M1 fun b => if b = true then ∃ M0, Le M0 M1 ∧ Q dStop M0 else ∃ M0, Le M0 M1 ∧ Q dEnd M0 := by
    refine take_i (by decide) (by decide) (hc.fr f1) fun d o h0 h1 hc2 => ?_
    have f2 := f1.set hc2
    rw [cEq_int]
    have l1 : WB ns ls k dStop := by cases k with | zero => exact .inr rfl | succ k => exact .inr (.inl rfl)
    have l2 : WB ns ls k dEnd := by cases k with | zero => exact .inl rfl | succ k => exact .inl rfl
    split
    · exact fin _ _ l1 f2
    · exact fin _ _ l2 f2
  have tail : 1 ≤ k → T_law_body5_4 n E (endsL Q) [some (.ref a), some (.ref pn), some (.ref pl), some (.int k), some (.int w), none, none, none] M1 := by
    intro hk1
    obtain ⟨k, rfl⟩ : ∃ j, k = j + 1 := ⟨k - 1, by omega⟩
    have ek : ((k + 1 : Nat) : Int) - 1 = (k : Int) := by omega
    -- a draw
    have rowsT : ∀ (m : Nat) (M2 : Sto) (fo : Fr a b M M2), 1 ≤ m → m ≤ 3 → T_law_body5_1 n E (endsL Q) [some (.ref a), some (.ref pn), some (.ref pl), some (.int (k + 1 : Nat)), some (.int w), some (.int m), none, none] M2 := by
      intro m M2 fo hm1 hm3
      have inner : ∀ (rows : List (Int × Int)) (M3 : Sto) (p : Addr), rows ∈ cuts → Fr a b M M3 → p ≠ a → M p = none → M3 p = some (.lst (rows.map dF)) →
          K (sRet (eTup [(eC (.str "draw")), (eTupOf (eComp (iVal (eVar 6)) [7] (gName 7) tYes (CE_law_body5_1 n)))]) E (endsL Q)) [some (.ref a), some (.ref pn), some (.ref pl), some (.int (k + 1 : Nat)), some (.int w), some (.int m), some (.ref p), none] M3 := by
        intro rows M3 p hr f2 hpa hpM e2
        refine go ?_
        simp [e2]
        intro z hz
        have hza := f2.none hz
        have hzp : z ≠ p := fun e => by rw [e, e2] at hz; cases hz
        have hlen : rows.length ≤ 3 := by
          have : ∀ l ∈ cuts, l.length ≤ 3 := by decide +kernel
          exact this _ hr
        refine comp_ind (fun acc xs m => ∃ (rs : List ((Int × Int) × D)) (qs : List (Int × Int)), acc = rs.map dRow ∧ xs = qs.map dF ∧ rs.map Prod.fst ++ qs = rows ∧ (∀ r ∈ rs, WB ns ls k r.2) ∧ Fr a b M m ∧ m p = some (.lst (rows.map dF)) ∧ m z = some (.lst acc)) ?_ ?_ _ [] _ ⟨[], rows, rfl, rfl, rfl, by simp, f2.fresh hz, by rw [set_ne (Ne.symm hzp)]; exact e2, set_same⟩
        · rintro x xs acc m ⟨rs, qs, rfl, hx, hrq, hw, f, e, ez⟩
          obtain ⟨q, qs, rfl⟩ : ∃ q qs', qs = q :: qs' := by cases qs with
            | nil => simp at hx
            | cons q qs => exact ⟨q, qs, rfl⟩
          simp at hx
          obtain ⟨rfl, rfl⟩ := hx
          have hl2 : rs.length + (qs.length + 1) = rows.length := by rw [← hrq]; simp
          refine ⟨e, by simp; omega, fun T hT => ?_⟩
          simp [CE_law_body5_1, ek]
          refine body_i5 (hc.fr f) hpn (f.at hpn en) hn0 hn1 hpl (f.at hpl el) hl0 hl1 (by omega) fun d o hd hc3 => ?_
          have f' := f.set hc3
          have e' : (m.set a o) p = some (.lst (rows.map dF)) := by rw [set_ne hpa]; exact e
          have ez' : (m.set a o) z = some (.lst (rs.map dRow)) := by rw [set_ne hza.1]; exact ez
          refine hT _ _ ez' ⟨rs ++ [(q, d)], qs, by simp [dRow], rfl, by simp [← hrq], ?_, f'.upd hza.2 hza.1, by rw [set_ne (Ne.symm hzp)]; exact e', set_same⟩
          intro r hr
          rcases List.mem_append.mp hr with hr | hr
          · exact hw r hr
          · simp at hr; subst hr; exact hd
        · rintro acc m ⟨rs, qs, rfl, hx, hrq, hw, f, e, ez⟩
          have : qs = [] := by simpa using hx.symm
          subst this
          refine ⟨e, ?_⟩
          simp [ez]
          refine fin _ _ ?_ f
          refine .inr (.inr (.inr (.inr ⟨rs, ?_, rfl, hw⟩)))
          simp at hrq; rw [hrq]; exact hr
      simp [T_law_body5_1]
      by_cases hm : 1 < m
      · rw [if_pos (by omega)]
        refine ⟨a, b, m, rfl, hc.fr fo, rfl, by omega, by omega, fun rows o p ⟨d, hd, hr⟩ hc2 hpa hp => ?_⟩
        have hrc := rowsB_cuts d hd m (by have : m = 2 ∨ m = 3 := by omega
                                          rcases this with rfl | rfl <;> simp) rows hr
        have f3 := (fo.set hc2).fresh (o := .lst (rows.map dF)) (set_none.mpr ⟨hpa, hp⟩)
        exact inner rows _ p hrc f3 hpa (fo.none hp).2 set_same
      · rw [if_neg (by omega)]
        intro p hp
        exact inner [(1, 1)] _ p one_cuts (fo.fresh hp) (fo.none hp).1 (fo.none hp).2 set_same
    simp [T_law_body5_4, -atI_s]
    by_cases hw4 : w < 4
    · rw [if_pos hw4]
      rw [f1.at hpl el]
      simp [-atI_s]
      refine take_i (by omega) (by omega) (hc.fr f1) fun d o h0 h1 hc2 => ?_
      have f2 := f1.set hc2
      rw [f2.at hpl el]
      obtain ⟨q, hm, hq⟩ := atI_map (xs := ls) (f := .str) h0 h1
      simp [-atI_s, hq, ek]
      refine body_i5 (hc.fr f2) hpn (f2.at hpn en) hn0 hn1 hpl (f2.at hpl el) hl0 hl1 (by omega) fun d o hd hc3 => ?_
      exact fin _ _ (.inr (.inr (.inl ⟨q, d, hm, rfl, hd⟩))) (f2.set hc3)
    · rw [if_neg hw4]
      refine go ?_
      simp [T_law_body5_3, -atI_s]
      by_cases hw6 : w < 6
      · rw [if_pos hw6]
        rw [f1.at hpn en]
        simp [-atI_s]
        refine take_i (by omega) (by omega) (hc.fr f1) fun d o h0 h1 hc2 => ?_
        have f2 := f1.set hc2
        rw [f2.at hpn en]
        obtain ⟨q, hm, hq⟩ := atI_map (xs := ns) (f := .str) h0 h1
        simp [-atI_s, hq, ek]
        refine body_i5 (hc.fr f2) hpn (f2.at hpn en) hn0 hn1 hpl (f2.at hpl el) hl0 hl1 (by omega) fun d o hd hc3 => ?_
        exact fin _ _ (.inr (.inr (.inr (.inl ⟨q, d, hm, rfl, hd⟩)))) (f2.set hc3)
      · rw [if_neg hw6]
        refine go ?_
        simp [T_law_body5_2]
        refine take_i (by decide) (by decide) (hc.fr f1) fun d o h0 h1 hc2 => ?_
        have f2 := f1.set hc2
        generalize M1.set a o = M2 at f2 ⊢
        obtain ⟨d, rfl⟩ := Int.eq_ofNat_of_zero_le h0
        simp
        refine go ?_
        have e1 : (1 : Int) + (d : Int) = ((1 + d : Nat) : Int) := by omega
        rw [e1]
        have fin2 : ∀ (m : Nat) (M2 : Sto), Fr a b M M2 → 1 ≤ m → m ≤ 3 → K (T_law_body5_1 n E (endsL Q)) [some (.ref a), some (.ref pn), some (.ref pl), some (.int ((k : Int) + 1)), some (.int w), some (.int m), none, none] M2 := fun m M2 fo h1 h2 => go (by simpa using rowsT m M2 fo h1 h2)
        simp
        by_cases hd0 : d = 0
        · subst hd0
          simp
          refine take_i (by decide) (by decide) (hc.fr f2) fun u o h3 h4 hc3 => ?_
          have f3 := f2.set hc3
          generalize M2.set a o = M3 at f3 ⊢
          rw [cGt_int]
          by_cases hu : 0 < u
          · rw [if_pos (by simpa using hu)]
            exact fin2 2 _ f3 (by decide) (by decide)
          · rw [if_neg (by simpa using hu)]
            exact fin2 1 _ f3 (by decide) (by decide)
        · rw [if_neg (by omega)]
          have := fin2 (1 + d) M2 f2 (by omega) (by omega)
          simpa using this
  by_cases hk0 : k = 0
  · subst hk0
    simp
    exact leaf
  · simp [hk0]
    by_cases hw2 : w < 2
    · rw [if_pos hw2]; exact leaf
    · rw [if_neg hw2]; exact go (tail (by omega))
theorem ob_law_program5 : ∀ E ds M Q, S_law_program5 E ds M Q → B_law_program5 E (endsL Q) (start 5 ds) M := by
  intro E ds M Q h
  obtain ⟨x, y, z, u, rfl, a, b, pn, pl, ns, ls, k, rfl, hc, rfl, hpn, en, hn0, hn1, rfl, hpl, el, hl0, hl1, rfl, hk, hq⟩ := fn4_e h
  have hsz := sizeLine_ge
  simp [B_law_program5, en]
  intro p hp
  have hp1 := hc.refl.none hp
  refine comp_ind (fun acc xs m => ∃ (rs : List (Str × D)) (qs : List Str), acc = rs.map dProc ∧ xs = qs.map .str ∧ rs.map Prod.fst ++ qs = ns ∧ (∀ r ∈ rs, WB ns ls k r.2) ∧ Fr a b M m ∧ m p = some (.lst acc)) ?_ ?_ _ [] _ ⟨[], ns, rfl, rfl, rfl, by simp, hc.refl.fresh hp, set_same⟩
  · rintro x xs acc m ⟨rs, qs, rfl, hx, hrq, hw, f, ep⟩
    obtain ⟨q, qs, rfl⟩ : ∃ q qs', qs = q :: qs' := by cases qs with
      | nil => simp at hx
      | cons q qs => exact ⟨q, qs, rfl⟩
    simp at hx
    obtain ⟨rfl, rfl⟩ := hx
    have hl2 : rs.length + (qs.length + 1) = ns.length := by rw [← hrq]; simp
    refine ⟨f.at hpn en, by simp; omega, fun T hT => ?_⟩
    simp [CE_law_program5_1]
    refine body_i5 (hc.fr f) hpn (f.at hpn en) hn0 hn1 hpl (f.at hpl el) hl0 hl1 hk fun d o hd hc3 => ?_
    refine hT _ _ (by rw [set_ne hp1.1]; exact ep) ⟨rs ++ [(q, d)], qs, by simp [dProc], rfl, by simp [← hrq], ?_, (f.set hc3).upd hp1.2 hp1.1, set_same⟩
    intro r hr
    rcases List.mem_append.mp hr with hr | hr
    · exact hw r hr
    · simp at hr; subst hr; exact hd
  · rintro acc m ⟨rs, qs, rfl, hx, hrq, hw, f, ep⟩
    have : qs = [] := by simpa using hx.symm
    subst this
    rw [List.append_nil] at hrq
    refine ⟨f.at hpn en, ?_⟩
    simp [ep]
    obtain ⟨o, c, le⟩ := f.le
    exact ⟨_, le, hq rs o hrq hw c⟩
end DL

set_option Elab.async false
set_option linter.all false
set_option maxRecDepth 100000
set_option maxHeartbeats 4000000
/-! G3: bodies as data of Lean; their ways; ways with the same calls and letters put together -/
namespace DL
open PySem
mutual
inductive Bd where
  | fin | stop | tell (s : Str) (b : Bd) | call (s : Str) (b : Bd) | draw (r : Rw)
inductive Rw where
  | nil | cons (q : Int × Int) (b : Bd) (r : Rw)
end
mutual
def Bd.d : Bd → D
  | .fin => dEnd
  | .stop => dStop
  | .tell s b => .tup [.str "tell", .str s, b.d]
  | .call s b => .tup [.str "call", .str s, b.d]
  | .draw r => .tup [.str "draw", .tup r.ds]
def Rw.ds : Rw → List D
  | .nil => []
  | .cons q b r => .tup [dF q, b.d] :: r.ds
end
def Rw.fs : Rw → List (Int × Int)
  | .nil => []
  | .cons q _ r => q :: r.fs
mutual
def Bd.sz : Bd → Nat
  | .fin => 1
  | .stop => 1
  | .tell _ b => b.sz + 1
  | .call _ b => b.sz + 1
  | .draw r => r.sz + 1
def Rw.sz : Rw → Nat
  | .nil => 0
  | .cons _ b r => b.sz + r.sz
end
mutual
def Bd.ok (ns ls : List Str) : Bd → Nat → Prop
  | .fin, _ => True
  | .stop, _ => True
  | .tell s b, n => s ∈ ls ∧ ∃ m, n = m + 1 ∧ b.ok ns ls m
  | .call s b, n => s ∈ ns ∧ ∃ m, n = m + 1 ∧ b.ok ns ls m
  | .draw r, n => r.fs ∈ cuts ∧ ∃ m, n = m + 1 ∧ r.ok ns ls m
def Rw.ok (ns ls : List Str) : Rw → Nat → Prop
  | .nil, _ => True
  | .cons _ b r, n => b.ok ns ls n ∧ r.ok ns ls n
end
theorem rows_rw {ns ls : List Str} {n : Nat} (f : D → Prop) (hf : ∀ d, f d → ∃ b : Bd, d = b.d ∧ b.ok ns ls n) : ∀ rs : List ((Int × Int) × D), (∀ r ∈ rs, f r.2) → ∃ w : Rw, rs.map dRow = w.ds ∧ w.fs = rs.map Prod.fst ∧ w.ok ns ls n
  | [], _ => ⟨.nil, by simp [Rw.ds], by simp [Rw.fs], by simp [Rw.ok]⟩
  | r :: rs, h => by
    obtain ⟨w, h1, h2, h3⟩ := rows_rw f hf rs fun x hx => h x (.tail _ hx)
    obtain ⟨b, hb, ho⟩ := hf _ (h r (.head _))
    exact ⟨.cons r.1 b w, by simp [Rw.ds, h1, dRow, hb], by simp [Rw.fs, h2], by simp [Rw.ok, ho, h3]⟩
theorem wb_bd {ns ls : List Str} : ∀ {n : Nat} {d : D}, WB ns ls n d → ∃ b : Bd, d = b.d ∧ b.ok ns ls n
  | 0, d, h => by
    rcases h with rfl | rfl
    · exact ⟨.fin, by simp [Bd.d], by simp [Bd.ok]⟩
    · exact ⟨.stop, by simp [Bd.d], by simp [Bd.ok]⟩
  | n + 1, d, h => by
    rcases h with rfl | rfl | ⟨s, b, h1, rfl, h3⟩ | ⟨s, b, h1, rfl, h3⟩ | ⟨rs, h1, rfl, h3⟩
    · exact ⟨.fin, by simp [Bd.d], by simp [Bd.ok]⟩
    · exact ⟨.stop, by simp [Bd.d], by simp [Bd.ok]⟩
    · obtain ⟨b', rfl, ho⟩ := wb_bd h3
      exact ⟨.tell s b', by simp [Bd.d], by simp [Bd.ok, h1, ho]⟩
    · obtain ⟨b', rfl, ho⟩ := wb_bd h3
      exact ⟨.call s b', by simp [Bd.d], by simp [Bd.ok, h1, ho]⟩
    · obtain ⟨w, e1, e2, e3⟩ := rows_rw (ns := ns) (ls := ls) (n := n) (WB ns ls n) (fun d hd => wb_bd hd) rs h3
      exact ⟨.draw w, by simp [Bd.d, e1], by simp [Bd.ok, e2, h1, e3]⟩
def dBP (r : Str × Bd) : D := .tup [.str r.1, r.2.d]
/-- programs as drawn, as data -/
def PB (ps : List (Str × Bd)) (ls : List Str) : Prop := ps.map Prod.fst ∈ allN ∧ ls ∈ allL ∧ ∀ r ∈ ps, r.2.ok (ps.map Prod.fst) ls 5
theorem procs_pb {ns ls : List Str} : ∀ rs : List (Str × D), (∀ r ∈ rs, WB ns ls 5 r.2) → ∃ ps : List (Str × Bd), rs.map dProc = ps.map dBP ∧ ps.map Prod.fst = rs.map Prod.fst ∧ ∀ r ∈ ps, r.2.ok ns ls 5
  | [], _ => ⟨[], rfl, rfl, by simp⟩
  | r :: rs, h => by
    obtain ⟨ps, h1, h2, h3⟩ := procs_pb rs fun x hx => h x (.tail _ hx)
    obtain ⟨b, hb, ho⟩ := wb_bd (h r (.head _))
    refine ⟨(r.1, b) :: ps, by simp [h1, dProc, dBP, hb], by simp [h2], fun x hx => ?_⟩
    rcases List.mem_cons.mp hx with rfl | hx
    · exact ho
    · exact h3 x hx
theorem wp_pb {rs : List (Str × D)} (h : WP rs) : ∃ ps ls, rs.map dProc = ps.map dBP ∧ PB ps ls := by
  obtain ⟨h1, ls, h2, h3⟩ := h
  obtain ⟨ps, e1, e2, e3⟩ := procs_pb rs h3
  exact ⟨ps, ls, e1, by rw [e2]; exact h1, h2, fun r hr => by rw [e2]; exact e3 r hr⟩
/-! ## ways -/
structure Wy where
  ch : Int × Int
  cs : List Str
  ls : List Str
def mulF (a b : Int × Int) : Int × Int := fr (a.1 * b.1) (a.2 * b.2)
def addF (a b : Int × Int) : Int × Int := fr (a.1 * b.2 + b.1 * a.2) (a.2 * b.2)
mutual
def Bd.ways : Bd → Wy → List Wy
  | .fin, w => [w]
  | .stop, _ => []
  | .tell s b, w => b.ways ⟨w.ch, w.cs, w.ls ++ [s]⟩
  | .call s b, w => b.ways ⟨w.ch, w.cs ++ [s], w.ls⟩
  | .draw r, w => r.ways w
def Rw.ways : Rw → Wy → List Wy
  | .nil, _ => []
  | .cons q b r, w => b.ways ⟨mulF w.ch q, w.cs, w.ls⟩ ++ r.ways w
end
def w0 : Wy := ⟨(1, 1), [], []⟩
abbrev WKey := List Str × List Str
def Wy.key (w : Wy) : WKey := (w.cs, w.ls)
def mrg (acc : List Wy) (w : Wy) : List Wy := if (acc.any fun r => decide (r.key = w.key)) = true then acc.map fun r => if r.key = w.key then ⟨addF r.ch w.ch, r.cs, r.ls⟩ else r else acc ++ [w]
def alts (ws : List Wy) : List Wy := ws.foldl mrg []
def Bd.alts (b : Bd) : List Wy := DL.alts (b.ways w0)
/-! ## fractions that stay small -/
structure Gf (N c : Int) (f : Int × Int) : Prop where
  p : 0 < f.2
  z : 0 ≤ f.1
  g : Int.gcd f.1 f.2 = 1
  d : f.2 ∣ N
  l : f.1 ≤ c * f.2
theorem fr_ok {n d : Int} (h : 0 < d) (hz : 0 ≤ n) : 0 < (fr n d).2 ∧ 0 ≤ (fr n d).1 ∧ Int.gcd (fr n d).1 (fr n d).2 = 1 ∧ ∃ g : Int, 0 < g ∧ n = g * (fr n d).1 ∧ d = g * (fr n d).2 := by
  have hg : 0 < (Int.gcd n d : Int) := by
    have := Int.gcd_pos_of_ne_zero_right n (show d ≠ 0 by omega)
    omega
  have h1 : (Int.gcd n d : Int) ∣ n := Int.gcd_dvd_left ..
  have h2 : (Int.gcd n d : Int) ∣ d := Int.gcd_dvd_right ..
  have e1 := Int.mul_ediv_cancel' h1
  have e2 := Int.mul_ediv_cancel' h2
  refine ⟨Int.ediv_pos_of_pos_of_dvd h (Int.le_of_lt hg) h2, Int.ediv_nonneg hz (Int.le_of_lt hg), ?_, _, hg, e1.symm, e2.symm⟩
  exact Int.gcd_ediv_gcd_ediv_gcd (by omega)
theorem dvd_co {a b c : Int} (h : a ∣ b * c) (hg : Int.gcd b a = 1) : a ∣ c := by
  rw [← Int.natAbs_dvd_natAbs] at h ⊢
  rw [Int.natAbs_mul] at h
  exact Nat.Coprime.dvd_of_dvd_mul_left (show Nat.Coprime a.natAbs b.natAbs by rw [Nat.coprime_comm]; exact hg) h
theorem Gf.of_fr {n d N c : Int} (h : 0 < d) (hz : 0 ≤ n) (hl : n ≤ c * d) (hd : ∃ m, n * N = d * m) : Gf N c (fr n d) := by
  obtain ⟨h1, h2, h3, g, hg, e1, e2⟩ := fr_ok (n := n) h hz
  generalize fr n d = f at *
  subst e1 e2
  refine ⟨h1, h2, h3, ?_, ?_⟩
  · obtain ⟨m, hm⟩ := hd
    rw [Int.mul_assoc, Int.mul_assoc] at hm
    have hm := Int.eq_of_mul_eq_mul_left (by omega) hm
    exact dvd_co ⟨m, hm⟩ h3
  · have : g * f.1 ≤ g * (c * f.2) := by
      rw [show g * (c * f.2) = c * (g * f.2) by rw [← Int.mul_assoc, ← Int.mul_assoc, Int.mul_comm g c]]; exact hl
    exact Int.le_of_mul_le_mul_left this hg
theorem Gf.mul {N N' : Int} {a b : Int × Int} (ha : Gf N 1 a) (hb : Gf N' 1 b) : Gf (N * N') 1 (mulF a b) := by
  refine Gf.of_fr (Int.mul_pos ha.p hb.p) (Int.mul_nonneg ha.z hb.z) ?_ ?_
  · have h1 := ha.l; have h2 := hb.l
    rw [Int.one_mul] at h1 h2 ⊢
    exact Int.mul_le_mul h1 h2 hb.z (Int.le_of_lt ha.p)
  · obtain ⟨u, hu⟩ := ha.d
    obtain ⟨v, hv⟩ := hb.d
    exact ⟨a.1 * b.1 * (u * v), by rw [hu, hv]; grind⟩
theorem Gf.add {N c c' : Int} {a b : Int × Int} (ha : Gf N c a) (hb : Gf N c' b) : Gf N (c + c') (addF a b) := by
  refine Gf.of_fr (Int.mul_pos ha.p hb.p) ?_ ?_ ?_
  · have := Int.mul_nonneg ha.z (Int.le_of_lt hb.p); have := Int.mul_nonneg hb.z (Int.le_of_lt ha.p); omega
  · have h1 := Int.mul_le_mul_of_nonneg_right ha.l (Int.le_of_lt hb.p)
    have h2 := Int.mul_le_mul_of_nonneg_right hb.l (Int.le_of_lt ha.p)
    have : (c + c') * (a.2 * b.2) = c * a.2 * b.2 + c' * b.2 * a.2 := by grind
    rw [this]; omega
  · obtain ⟨u, hu⟩ := ha.d
    obtain ⟨v, hv⟩ := hb.d
    exact ⟨a.1 * u + b.1 * v, by rw [Int.mul_add, Int.add_mul]; have : a.1 * b.2 * N = a.2 * b.2 * (a.1 * u) := by { rw [hu]; grind }
                                 have : b.1 * a.2 * N = a.2 * b.2 * (b.1 * v) := by { rw [hv]; grind }
                                 omega⟩
theorem Gf.dvd {N N' c : Int} {f : Int × Int} (h : Gf N c f) (hd : N ∣ N') : Gf N' c f := ⟨h.p, h.z, h.g, Int.dvd_trans h.d hd, h.l⟩
theorem Gf.le {N c c' : Int} {f : Int × Int} (h : Gf N c f) (hd : c ≤ c') : Gf N c' f := ⟨h.p, h.z, h.g, h.d, by have := h.l; have := Int.mul_le_mul_of_nonneg_right hd (Int.le_of_lt h.p); omega⟩
abbrev N0 : Int := 176400
theorem cuts_gf : ∀ l ∈ cuts, l.length ≤ 3 ∧ ∀ f ∈ l, 0 < f.2 ∧ 0 ≤ f.1 ∧ Int.gcd f.1 f.2 = 1 ∧ N0 % f.2 = 0 ∧ f.1 ≤ 1 * f.2 := by decide +kernel
theorem cut_gf {l : List (Int × Int)} (h : l ∈ cuts) {f : Int × Int} (hf : f ∈ l) : Gf N0 1 f := by
  obtain ⟨h1, h2, h3, h4, h5⟩ := (cuts_gf l h).2 f hf
  exact ⟨h1, h2, h3, Int.dvd_of_emod_eq_zero h4, h5⟩
theorem Gf.sm {c : Int} {f : Int × Int} (h : Gf (N0 ^ 5) c f) (hc : c ≤ 1000) : Sm 120 f.1 ∧ Sm 120 f.2 := by
  have hp := h.p
  have h2 : f.2 ≤ N0 ^ 5 := Int.le_of_dvd (by decide) h.d
  have h1 : f.1 ≤ 1000 * N0 ^ 5 := by
    have h3 := h.l
    have h4 := Int.mul_le_mul_of_nonneg_right hc (Int.le_of_lt hp)
    have : N0 ^ 5 = 170801981216778240000000000 := by decide +kernel
    omega
  have hz := h.z
  have e : N0 ^ 5 = 170801981216778240000000000 := by decide +kernel
  have e2 : (2 : Nat) ^ 120 = 1329227995784915872903807060280344576 := by decide +kernel
  exact ⟨⟨by rw [e2]; omega⟩, ⟨by rw [e2]; omega⟩⟩
end DL

set_option Elab.async false
set_option linter.all false
set_option maxRecDepth 100000
/-! G3S: what ways, alternatives_of, alternatives ask and tell -/
namespace DL
open PySem
def dW (w : Wy) : D := .tup [dF w.ch, .tup (w.cs.map .str), .tup (w.ls.map .str)]
/-- of a body as drawn -/
def BO (b : Bd) : Prop := ∃ ns ls : List Str, b.ok ns ls 5
def S_ways : FD := fn1 fun x _ M Q => ∃ b : Bd, x = b.d ∧ BO b ∧ ∀ p, M p = none → Q (.ref p) (M.set p (.lst ((b.ways w0).map dW)))
def S_alternatives_of : FD := fn1 fun x _ M Q => ∃ b : Bd, x = b.d ∧ BO b ∧ Q (.tup (b.alts.map dW)) M
def dAlt (p : Str × Bd) : D := .tup [.str p.1, .tup (p.2.alts.map dW)]
def S_alternatives : FD := fn1 fun x _ M Q => ∃ ps, x = .tup (List.map dBP ps) ∧ ps.length ≤ 100 ∧ (∀ r ∈ ps, BO r.2) ∧ Q (.tup (ps.map dAlt)) M
end DL

set_option Elab.async false
set_option linter.all false
set_option maxRecDepth 100000
/-! GK: bodies that are changed from within, where the change may fail -/
namespace DL
open PySem NdefX
mutual
/-- changed by g, from within; nothing where P fails -/
def Bd.evl (P : Bd → Bool) (g : Bd → Bd) : Bd → Option Bd
  | .fin => if P .fin then some (g .fin) else none
  | .stop => if P .stop then some (g .stop) else none
  | .tell s b => match b.evl P g with
    | some b' => if P (.tell s b') then some (g (.tell s b')) else none
    | none => none
  | .call s b => match b.evl P g with
    | some b' => if P (.call s b') then some (g (.call s b')) else none
    | none => none
  | .draw r => match r.evl P g with
    | some r' => some (.draw r')
    | none => none
def Rw.evl (P : Bd → Bool) (g : Bd → Bd) : Rw → Option Rw
  | .nil => some .nil
  | .cons q b r => match b.evl P g with
    | some b' => match r.evl P g with
      | some r' => some (.cons q b' r')
      | none => none
    | none => none
end
mutual
/-- W holds at all that is come to -/
def Bd.wok (W : Bd → Prop) (P : Bd → Bool) (g : Bd → Bd) : Bd → Prop
  | .fin => W .fin
  | .stop => W .stop
  | .tell s b => b.wok W P g ∧ ∀ b', b.evl P g = some b' → W (.tell s b')
  | .call s b => b.wok W P g ∧ ∀ b', b.evl P g = some b' → W (.call s b')
  | .draw r => r.wok W P g
def Rw.wok (W : Bd → Prop) (P : Bd → Bool) (g : Bd → Bd) : Rw → Prop
  | .nil => True
  | .cons _ b r => b.wok W P g ∧ r.wok W P g
end
/-- from M to M' nothing goes but a table's being as it was -/
structure RlOk (Rl : Sto → Sto → Prop) : Prop where
  refl : ∀ M, Rl M M
  trans : ∀ {M M' M'' : Sto}, Rl M M' → Rl M' M'' → Rl M M''
  fresh : ∀ {M M' : Sto} {p : Addr} {o : O}, Rl M M' → M p = none → (∀ q, M' p ≠ some (.code q)) → (∀ cs, o ≠ .tab cs) → Rl M (M'.set p o)
  nn : ∀ {M M' : Sto} {x : Addr}, Rl M M' → M' x = none → M x = none
  keep : ∀ {M M' : Sto} {x : Addr} {o : O}, Rl M M' → (∀ cs, o ≠ .tab cs) → M x = some o → M' x = some o
def S_changed (f : Addr) (κ : Ka) (C : FD) : FD := fn2 fun x y E M Q => ∃ (b : Bd) (W : Bd → Prop) (P : Bd → Bool) (g : Bd → Bd) (Rl : Sto → Sto → Prop), x = b.d ∧ y = .ref f ∧ M f = some κ.o ∧ M κ.F.c = some (.code κ.F.qual) ∧ b.sz ≤ 10000 ∧ RlOk Rl ∧
  b.wok W P g ∧ (∀ one M' Q', W one → Rl M M' → (P one = true → ∀ M'', Rl M' M'' → Q' (g one).d M'') → (P one = false → ∀ M'', E "LimitError" [] M'') → C E [one.d] M' Q') ∧
  (∀ b', b.evl P g = some b' → ∀ M', Rl M M' → Q b'.d M') ∧ (b.evl P g = none → ∀ M', E "LimitError" [] M')
theorem rl_le : RlOk Le where
  refl _ := .refl
  trans a b := a.trans b
  fresh a b _ _ := a.fresh b
  nn {M M' x} a e := by
    cases h : M x with
    | none => rfl
    | some u => rw [a _ _ h] at e; cases e
  keep a _ e := a _ _ e
/-- all but tables is kept -/
def KeepNT (M M' : Sto) : Prop := ∀ x o, (∀ cs, o ≠ .tab cs) → M x = some o → M' x = some o
/-- the table at P is whole: it tells code objects of the name q -/
def TabOk (P : Addr) (q : Str) (M : Sto) : Prop := ∃ cs, M P = some (.tab cs) ∧ ∀ c ∈ cs, M c = some (.code q)
def RlT (P : Addr) (q : Str) (M M' : Sto) : Prop := KeepNT M M' ∧ (TabOk P q M → TabOk P q M') ∧ ∀ x, M' x = none → M x = none
theorem rl_tab (P : Addr) (q : Str) : RlOk (RlT P q) where
  refl M := ⟨fun _ _ _ e => e, id, fun _ e => e⟩
  trans a b := ⟨fun x o n e => b.1 x o n (a.1 x o n e), fun h => b.2.1 (a.2.1 h), fun x e => a.2.2 x (b.2.2 x e)⟩
  fresh {M M' p o} a b n _ := by
    refine ⟨fun x u hn e => ?_, fun hM => ?_, fun x e => a.2.2 x (set_none.mp e).2⟩
    · rw [set_ne (ne_of e b)]; exact a.1 x u hn e
    · obtain ⟨cs, h1, h2⟩ := a.2.1 hM
      obtain ⟨cs0, h0, _⟩ := hM
      refine ⟨cs, by rw [set_ne (ne_of h0 b)]; exact h1, fun c hc => ?_⟩
      have e := h2 c hc
      have : c ≠ p := fun z => n q (z ▸ e)
      rw [set_ne this]; exact e
  nn a e := a.2.2 _ e
  keep a n e := a.1 _ _ n e
/-- a lambda was made -/
theorem RlT.lam {P : Addr} {q : Str} {M M' : Sto} {cs : List Addr} {f c : Addr} {o : O} (hP : M P = some (.tab cs)) (hc : ∀ c ∈ cs, M c = some (.code q)) (hf : M f = none) (nc : NewCode M P cs q f c M') : RlT P q M (M'.set f o) ∧ (M'.set f o) f = some o ∧ (M'.set f o) c = some (.code q) := by
  cases nc with
  | found hm =>
    refine ⟨⟨fun x u hn e => by rw [set_ne (ne_of e hf)]; exact e, fun _ => ⟨cs, by rw [set_ne (ne_of hP hf)]; exact hP, fun c' hc' => by rw [set_ne (ne_of (hc c' hc') hf)]; exact hc c' hc'⟩, fun x e => (set_none.mp e).2⟩, set_same, by rw [set_ne (ne_of (hc c hm) hf)]; exact hc c hm⟩
  | new hcn hne =>
    have hPc : P ≠ c := ne_of hP hcn
    have hPf : P ≠ f := ne_of hP hf
    refine ⟨⟨fun x u hn e => ?_, fun _ => ⟨c :: cs, by rw [set_ne hPf, set_ne hPc, set_same], fun c' hc' => ?_⟩, fun x e => (set_none.mp (set_none.mp (set_none.mp e).2).2).2⟩, set_same, by rw [set_ne hne, set_same]⟩
    · have hx : x ≠ P := fun z => by rw [z, hP] at e; cases e; exact hn _ rfl
      rw [set_ne (ne_of e hf), set_ne (ne_of e hcn), set_ne hx]; exact e
    · rcases List.mem_cons.mp hc' with rfl | hm
      · rw [set_ne hne, set_same]
      · have e := hc c' hm
        have hx : c' ≠ P := fun z => by rw [z, hP] at e; cases e
        rw [set_ne (ne_of e hf), set_ne (ne_of e hcn), set_ne hx]; exact e
/-- a def within a def, made for the first time -/
theorem sNdef_newT {P : Addr} {i : Nat} {q : Str} {s : Addr → NF → WS} {E : XW} {D' : Ends} {env : Ev} {M : Sto} (h : M P = some (.tab []))
    (k : ∀ f F M1, KeepNT M M1 → (∀ x, x ≠ P → ∀ o, M x = some o → M1 x = some o) → M1 f = some (.fn F) → M1 F.c = some (.code F.qual) → s f F E D' (put env i (.ref f)) M1) : sNdef P i q s E D' env M := by
  refine ⟨[], h, (by intro c hc; cases hc), fun f F M1 hf hq nc => ?_⟩
  cases nc with
  | found hc => cases hc
  | new hc hne =>
    have hPc : F.c ≠ P := (ne_of h hc).symm
    have hPf : f ≠ P := (ne_of h hf).symm
    have kp : ∀ x, x ≠ P → ∀ o, M x = some o → (((M.set P (.tab [F.c])).set F.c (.code q)).set f (.fn F)) x = some o := fun x hx o e => by
      rw [set_ne (ne_of e hf), set_ne (ne_of e hc), set_ne hx]; exact e
    refine k f F _ (fun x o hn e => kp x (fun z => by rw [z, h] at e; cases e; exact hn _ rfl) o e) kp set_same (by rw [set_ne hne, set_same, hq])
end DL

set_option Elab.async false
set_option linter.all false
set_option maxRecDepth 100000
/-! mirrors of the text's defs (printed by gen.py) -/
namespace DL
open PySem
def CE_changed_1 (f : Addr) (κ : Ka) (C : FD) : WE :=
  (eSub (eVar 9) (eC (.int 1)))
def CE_changed_2 (f : Addr) (κ : Ka) (C : FD) : WE :=
  (eTup [(eVar 10), (eC (.bl false))])
def CE_changed_3 (f : Addr) (κ : Ka) (C : FD) : WE :=
  (eTup [(eSub (eVar 9) (eC (.int 0))), (eVar 11)])
def WC_changed_1 (f : Addr) (κ : Ka) (C : FD) : WT :=
  (tTru (eVar 3))
def WB_changed_1 (f : Addr) (κ : Ka) (C : FD) : WS :=
  (sSeq (sAsg (ePop (eVar 3)) (gTup [(gName 4), (gName 5)])) (sIf (tCmp cIn (eSub (eVar 4) (eC (.int 0))) (eTup [(eC (.str "end")), (eC (.str "stop"))])) (sExpr (eAppend (eVar 2) (eCallK 1 f κ C [(eVar 4)]))) (sIf (tNot (tTru (eVar 5))) (sSeq (sExpr (eAppend (eVar 3) (eTup [(eVar 4), (eC (.bl true))]))) (sSeq (sAsg (eIf (tCmp cEq (eSub (eVar 4) (eC (.int 0))) (eC (.str "draw"))) (eComp (iVal (eRev (eSub (eVar 4) (eC (.int 1))))) [9] (gName 9) tYes (CE_changed_1 f κ C)) (eLst [(eSub (eVar 4) (eC (.int 2)))])) (gName 6)) (sExpr (eExtend (eVar 3) (eComp (iVal (eVar 6)) [10] (gName 10) tYes (CE_changed_2 f κ C)))))) (sIf (tCmp cEq (eSub (eVar 4) (eC (.int 0))) (eC (.str "draw"))) (sSeq (sAsg (eBin opSub (eLen (eVar 2)) (eLen (eSub (eVar 4) (eC (.int 1))))) (gName 7)) (sSeq (sAsg (eComp (iZipT (eSub (eVar 4) (eC (.int 1))) (eSl (eVar 2) (some (eVar 7)) none)) [9, 11] (gTup [(gName 9), (gName 11)]) tYes (CE_changed_3 f κ C)) (gName 8)) (sAsg (eBin opAdd (eSl (eVar 2) none (some (eVar 7))) (eLst [(eTup [(eC (.str "draw")), (eTupOf (eVar 8))])])) (gName 2)))) (sExpr (eAppend (eVar 2) (eCallK 1 f κ C [(eTup [(eSub (eVar 4) (eC (.int 0))), (eSub (eVar 4) (eC (.int 1))), (ePop (eVar 2))])])))))))
def T_changed_1 (f : Addr) (κ : Ka) (C : FD) : WS :=
  (sRet (eSub (eVar 2) (eC (.int 0))))
def B_changed (f : Addr) (κ : Ka) (C : FD) : WS :=
  (sSeq (sAsg (eLst []) (gName 2)) (sSeq (sAsg (eLst [(eTup [(eVar 0), (eC (.bl false))])]) (gName 3)) (sSeq (sWhile (WC_changed_1 f κ C) (WB_changed_1 f κ C)) (T_changed_1 f κ C))))
end DL

set_option Elab.async false
set_option linter.all false
set_option maxRecDepth 100000
/-! mirrors of the text's defs (printed by gen.py) -/
namespace DL
open PySem
def FB_ways_1 : WS :=
  (sExpr (eAppend (eVar 2) (eTup [(eVar 8), (eCall S_times [(eVar 4), (eVar 7)]), (eVar 5), (eVar 6)])))
def WC_ways_1 : WT :=
  (tTru (eVar 2))
def WB_ways_1 : WS :=
  (sSeq (sAsg (ePop (eVar 2)) (gTup [(gName 3), (gName 4), (gName 5), (gName 6)])) (sIf (tCmp cEq (eSub (eVar 3) (eC (.int 0))) (eC (.str "end"))) (sExpr (eAppend (eVar 1) (eTup [(eVar 4), (eVar 5), (eVar 6)]))) (sIf (tCmp cEq (eSub (eVar 3) (eC (.int 0))) (eC (.str "tell"))) (sExpr (eAppend (eVar 2) (eTup [(eSub (eVar 3) (eC (.int 2))), (eVar 4), (eVar 5), (eBin opAdd (eVar 6) (eTup [(eSub (eVar 3) (eC (.int 1)))]))]))) (sIf (tCmp cEq (eSub (eVar 3) (eC (.int 0))) (eC (.str "call"))) (sExpr (eAppend (eVar 2) (eTup [(eSub (eVar 3) (eC (.int 2))), (eVar 4), (eBin opAdd (eVar 5) (eTup [(eSub (eVar 3) (eC (.int 1)))])), (eVar 6)]))) (sIf (tCmp cEq (eSub (eVar 3) (eC (.int 0))) (eC (.str "draw"))) (sFor (iVal (eRev (eSub (eVar 3) (eC (.int 1))))) (gTup [(gName 7), (gName 8)]) FB_ways_1) sNil)))))
def T_ways_1 : WS :=
  (sRet (eVar 1))
def B_ways : WS :=
  (sSeq (sAsg (eLst []) (gName 1)) (sSeq (sAsg (eLst [(eTup [(eVar 0), (eC g_ONE), (eTup []), (eTup [])])]) (gName 2)) (sSeq (sWhile WC_ways_1 WB_ways_1) T_ways_1)))
def FB_alternatives_of_1 : WS :=
  (sAsg (eCall S_plus [(eGet2 (eVar 1) (eTup [(eVar 3), (eVar 4)]) (eC g_ZERO)), (eVar 2)]) (gSub (eVar 1) (eTup [(eVar 3), (eVar 4)])))
def CE_alternatives_of_1 : WE :=
  (eBin opAdd (eTup [(eSub (eVar 1) (eVar 5))]) (eVar 5))
def T_alternatives_of_1 : WS :=
  (sRet (eTupOf (eLock 1 (eComp (iKeysD (eVar 1)) [5] (gName 5) tYes CE_alternatives_of_1))))
def B_alternatives_of : WS :=
  (sSeq (sAsg eDn (gName 1)) (sSeq (sFor (iVal (eCall S_ways [(eVar 0)])) (gTup [(gName 2), (gName 3), (gName 4)]) FB_alternatives_of_1) T_alternatives_of_1))
def CE_alternatives_1 : WE :=
  (eTup [(eVar 1), (eCall S_alternatives_of [(eVar 2)])])
def B_alternatives : WS :=
  (sRet (eTupOf (eComp (iVal (eVar 0)) [1, 2] (gTup [(gName 1), (gName 2)]) tYes CE_alternatives_1)))
end DL

set_option Elab.async false
set_option linter.all false
set_option maxRecDepth 100000
set_option maxHeartbeats 4000000
/-! G3P: ways and alternatives -/
namespace DL
open PySem
def Rw.l : Rw → List ((Int × Int) × Bd)
  | .nil => []
  | .cons q b r => (q, b) :: r.l
def dRB (x : (Int × Int) × Bd) : D := .tup [dF x.1, x.2.d]
theorem rw_ds : ∀ r : Rw, r.ds = r.l.map dRB
  | .nil => by simp [Rw.ds, Rw.l]
  | .cons q b r => by simp [Rw.ds, Rw.l, dRB, rw_ds r]
theorem rw_fs : ∀ r : Rw, r.fs = r.l.map Prod.fst
  | .nil => by simp [Rw.fs, Rw.l]
  | .cons q b r => by simp [Rw.fs, Rw.l, rw_fs r]
theorem rw_ok {ns ls : List Str} {n : Nat} : ∀ r : Rw, r.ok ns ls n ↔ ∀ x ∈ r.l, x.2.ok ns ls n
  | .nil => by simp [Rw.ok, Rw.l]
  | .cons q b r => by simp [Rw.ok, Rw.l, rw_ok r]
theorem rw_sz : ∀ r : Rw, r.sz = (r.l.map fun x => x.2.sz).sum
  | .nil => by simp [Rw.sz, Rw.l]
  | .cons q b r => by simp [Rw.sz, Rw.l, rw_sz r]
def Wy.mul (w : Wy) (q : Int × Int) : Wy := ⟨mulF w.ch q, w.cs, w.ls⟩
theorem rw_ways (w : Wy) : ∀ r : Rw, r.ways w = r.l.flatMap fun x => x.2.ways (w.mul x.1)
  | .nil => by simp [Rw.ways, Rw.l]
  | .cons q b r => by simp [Rw.ways, Rw.l, rw_ways w r, Wy.mul]
/-! what ways look like -/
structure Wok (ns ls : List Str) (k : Nat) (w : Wy) : Prop where
  f : Gf (N0 ^ k) 1 w.ch
  c : w.cs.length ≤ k
  l : w.ls.length ≤ k
  cm : ∀ s ∈ w.cs, s ∈ ns
  lm : ∀ s ∈ w.ls, s ∈ ls
section
variable {ns ls : List Str} {k n : Nat} {w : Wy}
theorem N0_dvd : N0 ^ k ∣ N0 ^ (k + 1) := ⟨N0, by rw [Int.pow_succ]⟩
theorem Wok.up (h : Wok ns ls k w) : Wok ns ls (k + 1) w := ⟨h.f.dvd N0_dvd, by have := h.c; omega, by have := h.l; omega, h.cm, h.lm⟩
theorem Wok.le {m : Nat} (h : Wok ns ls k w) (hl : k ≤ m) : Wok ns ls m w := by
  induction hl with
  | refl => exact h
  | step _ ih => exact ih.up
theorem Wok.tell {s : Str} (h : Wok ns ls k w) (hs : s ∈ ls) : Wok ns ls (k + 1) ⟨w.ch, w.cs, w.ls ++ [s]⟩ :=
  ⟨h.up.f, h.up.c, by have := h.l; simp; omega, h.cm, fun x hx => by
    rcases List.mem_append.mp hx with hx | hx
    · exact h.lm x hx
    · rw [List.mem_singleton.mp hx]; exact hs⟩
theorem Wok.call {s : Str} (h : Wok ns ls k w) (hs : s ∈ ns) : Wok ns ls (k + 1) ⟨w.ch, w.cs ++ [s], w.ls⟩ :=
  ⟨h.up.f, by have := h.c; simp; omega, h.up.l, fun x hx => by
    rcases List.mem_append.mp hx with hx | hx
    · exact h.cm x hx
    · rw [List.mem_singleton.mp hx]; exact hs, h.lm⟩
theorem Wok.mul {q : Int × Int} (h : Wok ns ls k w) (hq : Gf N0 1 q) : Wok ns ls (k + 1) (w.mul q) :=
  ⟨by rw [Int.pow_succ]; exact h.f.mul hq, h.up.c, h.up.l, h.cm, h.lm⟩
end
theorem wok0 {ns ls : List Str} : Wok ns ls 0 w0 := ⟨⟨by decide, by decide, by decide, by simp [w0], by decide⟩, by simp [w0], by simp [w0], by simp [w0], by simp [w0]⟩
mutual
theorem ways_ok {ns ls : List Str} : ∀ (b : Bd) {n k : Nat} {w : Wy}, b.ok ns ls n → Wok ns ls k w → ∀ v ∈ b.ways w, Wok ns ls (k + n) v
  | .fin, n, k, w, _, h, v, hv => by simp [Bd.ways] at hv; subst hv; exact h.le (by omega)
  | .stop, n, k, w, _, h, v, hv => by simp [Bd.ways] at hv
  | .tell s b, n, k, w, ho, h, v, hv => by
    simp only [Bd.ok] at ho
    obtain ⟨hs, m, rfl, ho⟩ := ho
    simp only [Bd.ways] at hv
    rw [show k + (m + 1) = k + 1 + m by omega]
    exact ways_ok b ho (h.tell hs) v hv
  | .call s b, n, k, w, ho, h, v, hv => by
    simp only [Bd.ok] at ho
    obtain ⟨hs, m, rfl, ho⟩ := ho
    simp only [Bd.ways] at hv
    rw [show k + (m + 1) = k + 1 + m by omega]
    exact ways_ok b ho (h.call hs) v hv
  | .draw r, n, k, w, ho, h, v, hv => by
    simp only [Bd.ok] at ho
    obtain ⟨hs, m, rfl, ho⟩ := ho
    simp only [Bd.ways] at hv
    rw [show k + (m + 1) = k + 1 + m by omega]
    exact rways_ok r ho h (fun f hf => cut_gf hs hf) v hv
theorem rways_ok {ns ls : List Str} : ∀ (r : Rw) {n k : Nat} {w : Wy}, r.ok ns ls n → Wok ns ls k w → (∀ f ∈ r.fs, Gf N0 1 f) → ∀ v ∈ r.ways w, Wok ns ls (k + 1 + n) v
  | .nil, n, k, w, _, h, _, v, hv => by simp [Rw.ways] at hv
  | .cons q b r, n, k, w, ho, h, hf, v, hv => by
    simp only [Rw.ok] at ho
    simp only [Rw.ways, List.mem_append] at hv
    simp only [Rw.fs, List.mem_cons] at hf
    rcases hv with hv | hv
    · exact ways_ok b ho.1 (h.mul (hf q (.inl rfl))) v hv
    · exact rways_ok r ho.2 h (fun f hf' => hf f (.inr hf')) v hv
end
/-! Kraft -/
def wt (w : WKey) : Nat := 3 ^ (w.1.length + w.2.length)
theorem wt_pos (w : WKey) : 1 ≤ wt w := Nat.pow_pos (by decide)
def wts (ws : List Wy) : Nat := (ws.map fun w => wt w.key).sum
theorem wts_app (a b : List Wy) : wts (a ++ b) = wts a + wts b := by simp [wts]
theorem len_wts : ∀ ws : List Wy, ws.length ≤ wts ws
  | [] => by simp
  | w :: ws => by
    have h1 := len_wts ws
    have h2 := wt_pos w.key
    simp [wts] at h1 ⊢; omega
mutual
theorem ways_wt {ns ls : List Str} : ∀ (b : Bd) {n : Nat} {w : Wy}, b.ok ns ls n → wts (b.ways w) ≤ 3 ^ n * wt w.key
  | .fin, n, w, _ => by
    simp [Bd.ways, wts]
    exact Nat.le_mul_of_pos_left _ (Nat.pow_pos (by decide))
  | .stop, n, w, _ => by simp [Bd.ways, wts]
  | .tell s b, n, w, ho => by
    simp only [Bd.ok] at ho
    obtain ⟨hs, m, rfl, ho⟩ := ho
    simp only [Bd.ways]
    refine Nat.le_trans (ways_wt b ho) ?_
    simp [wt, Wy.key, Nat.pow_succ, ← Nat.add_assoc]
    rw [Nat.mul_assoc, Nat.mul_comm 3]; exact Nat.le_refl _
  | .call s b, n, w, ho => by
    simp only [Bd.ok] at ho
    obtain ⟨hs, m, rfl, ho⟩ := ho
    simp only [Bd.ways]
    refine Nat.le_trans (ways_wt b ho) ?_
    simp [wt, Wy.key]
    rw [show w.cs.length + 1 + w.ls.length = w.cs.length + w.ls.length + 1 by omega, Nat.pow_succ, Nat.pow_succ, Nat.mul_assoc, Nat.mul_comm 3]; exact Nat.le_refl _
  | .draw r, n, w, ho => by
    simp only [Bd.ok] at ho
    obtain ⟨hs, m, rfl, ho⟩ := ho
    simp only [Bd.ways]
    refine Nat.le_trans (rways_wt r ho) ?_
    have := (cuts_gf _ hs).1
    rw [Nat.pow_succ, Nat.mul_comm (3 ^ m) 3, Nat.mul_assoc]
    exact Nat.mul_le_mul_right _ this
theorem rways_wt {ns ls : List Str} : ∀ (r : Rw) {n : Nat} {w : Wy}, r.ok ns ls n → wts (r.ways w) ≤ r.fs.length * (3 ^ n * wt w.key)
  | .nil, n, w, _ => by simp [Rw.ways, wts]
  | .cons q b r, n, w, ho => by
    simp only [Rw.ok] at ho
    simp only [Rw.ways, wts_app, Rw.fs, List.length_cons]
    have h1 := ways_wt b (w := ⟨mulF w.ch q, w.cs, w.ls⟩) ho.1
    have h2 := rways_wt r (w := w) ho.2
    rw [Nat.add_mul, Nat.one_mul]
    have : wt (Wy.key ⟨mulF w.ch q, w.cs, w.ls⟩) = wt w.key := rfl
    rw [this] at h1
    omega
end
mutual
theorem sz_le {ns ls : List Str} : ∀ (b : Bd) {n : Nat}, b.ok ns ls n → 2 * b.sz + 1 ≤ 3 ^ (n + 1)
  | .fin, n, _ => by simp [Bd.sz]; have := Nat.pow_pos (a := 3) (n := n) (by decide); rw [Nat.pow_succ]; omega
  | .stop, n, _ => by simp [Bd.sz]; have := Nat.pow_pos (a := 3) (n := n) (by decide); rw [Nat.pow_succ]; omega
  | .tell s b, n, ho => by
    simp only [Bd.ok] at ho
    obtain ⟨hs, m, rfl, ho⟩ := ho
    have := sz_le b ho
    have h3 := Nat.pow_pos (a := 3) (n := m) (by decide)
    simp only [Bd.sz, Nat.pow_succ] at this ⊢; omega
  | .call s b, n, ho => by
    simp only [Bd.ok] at ho
    obtain ⟨hs, m, rfl, ho⟩ := ho
    have := sz_le b ho
    have h3 := Nat.pow_pos (a := 3) (n := m) (by decide)
    simp only [Bd.sz, Nat.pow_succ] at this ⊢; omega
  | .draw r, n, ho => by
    simp only [Bd.ok] at ho
    obtain ⟨hs, m, rfl, ho⟩ := ho
    have h1 := rsz_le r ho
    have h2 := (cuts_gf _ hs).1
    have h4 : 0 < 3 ^ (m + 1) := Nat.pow_pos (by decide)
    have h3 := Nat.mul_le_mul_right (3 ^ (m + 1) - 1) h2
    simp only [Bd.sz]
    rw [Nat.pow_succ]
    have h5 : r.fs.length * (3 ^ (m + 1) - 1) + r.fs.length = r.fs.length * 3 ^ (m + 1) := by
      rw [Nat.mul_sub, Nat.mul_one, Nat.sub_add_cancel]
      exact Nat.le_mul_of_pos_right _ h4
    omega
theorem rsz_le {ns ls : List Str} : ∀ (r : Rw) {n : Nat}, r.ok ns ls n → 2 * r.sz + r.fs.length ≤ r.fs.length * 3 ^ (n + 1)
  | .nil, n, _ => by simp [Rw.sz, Rw.fs]
  | .cons q b r, n, ho => by
    simp only [Rw.ok] at ho
    have h1 := sz_le b ho.1
    have h2 := rsz_le r ho.2
    simp only [Rw.sz, Rw.fs, List.length_cons, Nat.add_mul, Nat.one_mul]
    omega
end
theorem sz_pos : ∀ b : Bd, 1 ≤ b.sz := fun b => by
  cases b <;> simp [Bd.sz]
/-! ## putting together -/
structure Aok (ns ls : List Str) (ws as : List Wy) : Prop where
  nd : (as.map Wy.key).Nodup
  wt : wts as ≤ wts ws
  el : ∀ a ∈ as, Gf (N0 ^ 5) ws.length a.ch ∧ a.cs.length ≤ 5 ∧ a.ls.length ≤ 5 ∧ (∀ s ∈ a.cs, s ∈ ns) ∧ ∀ s ∈ a.ls, s ∈ ls
def upW (w r : Wy) : Wy := if r.key = w.key then ⟨addF r.ch w.ch, r.cs, r.ls⟩ else r
theorem upW_key (w r : Wy) : (upW w r).key = r.key := by unfold upW; split <;> rfl
theorem mrg_s (acc : List Wy) (w : Wy) : mrg acc w = if w.key ∈ acc.map Wy.key then acc.map (upW w) else acc ++ [w] := by
  unfold mrg
  by_cases h : w.key ∈ acc.map Wy.key
  · rw [if_pos h, if_pos]
    · rfl
    · obtain ⟨r, hr, e⟩ := List.mem_map.mp h
      simp only [List.any_eq_true, decide_eq_true_eq]
      exact ⟨r, hr, e⟩
  · rw [if_neg h, if_neg]
    simp only [List.any_eq_true, decide_eq_true_eq, not_exists, not_and]
    exact fun r hr e => h (List.mem_map.mpr ⟨r, hr, e⟩)
theorem Aok.step {ns ls : List Str} {ws as : List Wy} {w : Wy} (h : Aok ns ls ws as) (hw : Wok ns ls 5 w) : Aok ns ls (ws ++ [w]) (mrg as w) := by
  rw [mrg_s]
  have one : (1 : Int) ≤ ((ws ++ [w]).length : Int) := by simp; omega
  split
  · have ek : (as.map (upW w)).map Wy.key = as.map Wy.key := by
      rw [List.map_map]; exact List.map_congr_left fun r _ => upW_key w r
    refine ⟨by rw [ek]; exact h.nd, ?_, fun a ha => ?_⟩
    · have : wts (as.map (upW w)) = wts as := by
        unfold wts
        rw [List.map_map]
        congr 1
        exact List.map_congr_left fun r _ => by show DL.wt (upW w r).key = _; rw [upW_key]
      rw [this, wts_app]; have := h.wt; omega
    · obtain ⟨r, hr, rfl⟩ := List.mem_map.mp ha
      have h1 := h.el r hr
      unfold upW
      split
      · have := h1.1.add hw.f
        refine ⟨?_, h1.2⟩
        simpa using this
      · exact ⟨h1.1.le (by simp; omega), h1.2⟩
  · rename_i hn
    refine ⟨?_, by rw [wts_app, wts_app]; have := h.wt; omega, fun a ha => ?_⟩
    · rw [List.map_append, List.nodup_append]
      refine ⟨h.nd, by simp, fun a ha b hb => ?_⟩
      have : b = w.key := by simpa using hb
      subst this
      exact fun e => hn (e ▸ ha)
    · rcases List.mem_append.mp ha with ha | ha
      · have h1 := h.el a ha
        exact ⟨h1.1.le (by simp; omega), h1.2⟩
      · have : a = w := by simpa using ha
        subst this
        exact ⟨hw.f.le one, hw.c, hw.l, hw.cm, hw.lm⟩
theorem aok_fold {ns ls : List Str} : ∀ (more ws as : List Wy), Aok ns ls ws as → (∀ w ∈ more, Wok ns ls 5 w) → Aok ns ls (ws ++ more) (more.foldl mrg as)
  | [], ws, as, h, _ => by simpa using h
  | w :: more, ws, as, h, hw => by
    have := aok_fold more (ws ++ [w]) (mrg as w) (h.step (hw w (.head _))) fun v hv => hw v (.tail _ hv)
    simpa using this
theorem aok0 {ns ls : List Str} : Aok ns ls [] [] := ⟨by simp, by simp [wts], by simp⟩
theorem ways5 {ns ls : List Str} {b : Bd} (h : b.ok ns ls 5) : (∀ w ∈ b.ways w0, Wok ns ls 5 w) ∧ wts (b.ways w0) ≤ 243 ∧ (b.ways w0).length ≤ 243 := by
  have h1 := ways_wt b (w := w0) h
  have h2 : wt w0.key = 1 := by decide
  rw [h2] at h1
  have h3 := len_wts (b.ways w0)
  refine ⟨fun w hw => ?_, by omega, by omega⟩
  have := ways_ok b h (wok0 (ns := ns) (ls := ls)) w hw
  simpa using this
theorem alts5 {ns ls : List Str} {b : Bd} (h : b.ok ns ls 5) : Aok ns ls (b.ways w0) b.alts := by
  have := aok_fold (b.ways w0) [] [] (aok0 (ns := ns) (ls := ls)) (ways5 h).1
  rw [List.nil_append] at this
  exact this
end DL

set_option Elab.async false
set_option linter.all false
set_option maxRecDepth 100000
set_option maxHeartbeats 4000000
/-! GKP: changed, where the change may fail -/
namespace DL
open PySem NdefX
def Rw.wth : Rw → List Bd → Rw
  | .cons q _ r, x :: xs => .cons q x (r.wth xs)
  | _, _ => .nil
theorem len_evl {P : Bd → Bool} {g : Bd → Bd} : ∀ {r r' : Rw}, r.evl P g = some r' → r'.l.length = r.l.length
  | .nil, r', h => by simp only [Rw.evl, Option.some.injEq] at h; subst h; rfl
  | .cons q b r, r', h => by
    simp only [Rw.evl] at h
    split at h
    · split at h
      · rename_i r2 h2
        simp only [Option.some.injEq] at h; subst h
        simp [Rw.l, len_evl h2]
      · cases h
    · cases h
theorem wth_evl {P : Bd → Bool} {g : Bd → Bd} : ∀ {r r' : Rw}, r.evl P g = some r' → r.wth (r'.l.map fun x => x.2) = r'
  | .nil, r', h => by simp only [Rw.evl, Option.some.injEq] at h; subst h; simp [Rw.l, Rw.wth]
  | .cons q b r, r', h => by
    simp only [Rw.evl] at h
    split at h
    · split at h
      · rename_i r2 h2
        simp only [Option.some.injEq] at h; subst h
        simp [Rw.l, Rw.wth, wth_evl h2]
      · cases h
    · cases h
/-- what waits leads there, or fails -/
def ChE (W : Bd → Prop) (P : Bd → Bool) (g : Bd → Bd) (res : Option Bd) : List (Bd × Bool) → List Bd → Prop
  | [], dn => ∃ r, dn = [r] ∧ res = some r
  | (b, false) :: L, dn => b.wok W P g ∧ (∀ b', b.evl P g = some b' → ChE W P g res L (dn ++ [b'])) ∧ (b.evl P g = none → res = none)
  | (.tell s _, true) :: L, dn => ∃ d x, dn = d ++ [x] ∧ W (.tell s x) ∧ (P (.tell s x) = true → ChE W P g res L (d ++ [g (.tell s x)])) ∧ (P (.tell s x) = false → res = none)
  | (.call s _, true) :: L, dn => ∃ d x, dn = d ++ [x] ∧ W (.call s x) ∧ (P (.call s x) = true → ChE W P g res L (d ++ [g (.call s x)])) ∧ (P (.call s x) = false → res = none)
  | (.draw r, true) :: L, dn => ∃ d xs, dn = d ++ xs ∧ xs.length = r.l.length ∧ ChE W P g res L (d ++ [.draw (r.wth xs)])
  | (.fin, true) :: _, _ => False
  | (.stop, true) :: _, _ => False
theorem che_rows {W : Bd → Prop} {P : Bd → Bool} {g : Bd → Bd} {res : Option Bd} {L : List (Bd × Bool)} : ∀ (r : Rw) (dn : List Bd), r.wok W P g → (∀ r', r.evl P g = some r' → ChE W P g res L (dn ++ r'.l.map fun x => x.2)) → (r.evl P g = none → res = none) → ChE W P g res ((r.l.map fun x => (x.2, false)) ++ L) dn
  | .nil, dn, _, h, _ => by have := h .nil (by simp [Rw.evl]); simpa [Rw.l] using this
  | .cons q b r, dn, hm, h, hn => by
    simp only [Rw.wok] at hm
    simp only [Rw.l, List.map_cons, List.cons_append, ChE]
    refine ⟨hm.1, fun b' hb => che_rows r _ hm.2 (fun r' hr => ?_) (fun hr => hn (by simp [Rw.evl, hb, hr])), fun hb => hn (by simp [Rw.evl, hb])⟩
    have := h (.cons q b' r') (by simp [Rw.evl, hb, hr])
    simpa [Rw.l] using this
def muC : List (Bd × Bool) → Nat
  | [] => 0
  | (b, false) :: L => 2 * b.sz + muC L
  | (_, true) :: L => 1 + muC L
theorem muC_rows {L : List (Bd × Bool)} : ∀ r : Rw, muC ((r.l.map fun x => (x.2, false)) ++ L) = 2 * r.sz + muC L
  | .nil => by simp [Rw.l, Rw.sz]
  | .cons q b r => by simp only [Rw.l, Rw.sz, List.map_cons, List.cons_append, muC, muC_rows r]; omega
theorem len_muC : ∀ L : List (Bd × Bool), L.length ≤ muC L
  | [] => by simp
  | (b, false) :: L => by have := len_muC L; have := sz_pos b; simp [muC]; omega
  | (b, true) :: L => by have := len_muC L; simp [muC]; omega
theorem l_le_sz : ∀ r : Rw, r.l.length ≤ r.sz
  | .nil => by simp [Rw.l]
  | .cons q b r => by have := l_le_sz r; have := sz_pos b; simp [Rw.l, Rw.sz]; omega
def dBB (i : Bd × Bool) : D := .tup [i.1.d, .bl i.2]
def sndD : D → D
  | .tup [_, y] => y
  | d => d
def ChI (M : Sto) (Rl : Sto → Sto → Prop) (f c : Addr) (b : Bd) (W : Bd → Prop) (P : Bd → Bool) (g : Bd → Bd) (m : Nat) (e : Ev) (M' : Sto) : Prop := ∃ (L : List (Bd × Bool)) (dn : List Bd) (a : Addr) (x4 x5 x6 x7 x8 x9 x10 x11 : Option D), e = [some b.d, some (.ref f), some (.ref a), some (.ref c), x4, x5, x6, x7, x8, x9, x10, x11] ∧ M' a = some (.lst (dn.map Bd.d)) ∧ M' c = some (.lst (L.reverse.map dBB)) ∧
  a ≠ c ∧ M a = none ∧ Rl M M' ∧ ChE W P g (b.evl P g) L dn ∧ m = muC L ∧ muC L + dn.length ≤ 20001
theorem lst_nt {xs : List D} : ∀ cs, O.lst xs ≠ .tab cs := fun cs h => by cases h
theorem lst_nc {M : Sto} {p : Addr} {xs : List D} (h : M p = some (.lst xs)) : ∀ q, M p ≠ some (.code q) := fun q e => by rw [h] at e; cases e
theorem non_nc {M : Sto} {p : Addr} (h : M p = none) : ∀ q, M p ≠ some (.code q) := fun q e => by rw [h] at e; cases e
theorem ext_i {f : Addr} {κ : Ka} {C : FD} {E : XW} {D' : Ends} {m2 : Sto} {q c : Addr} {bs : List Bd} {xs : List D} {y0 y1 y2 y4 y5 y7 y8 y9 y10 y11 : Option D} (e6 : m2 q = some (.lst (bs.map Bd.d))) (e3 : m2 c = some (.lst xs)) (hqc : q ≠ c) (hl : xs.length + bs.length ≤ 100000)
    (k : ∀ p, m2 p = none → D'.nx [y0, y1, y2, some (.ref c), y4, y5, some (.ref q), y7, y8, y9, y10, y11] ((m2.set p (.lst (bs.map fun b => dBB (b, false)))).set c (.lst (xs ++ bs.map fun b => dBB (b, false))))) :
    sExpr (eExtend (eVar 3) (eComp (iVal (eVar 6)) [10] (gName 10) tYes (CE_changed_2 f κ C))) E D' [y0, y1, y2, some (.ref c), y4, y5, some (.ref q), y7, y8, y9, y10, y11] m2 := by
  have hsz := sizeLine_ge
  simp [e3, e6]
  intro p hp
  have hpq : q ≠ p := ne_of e6 hp
  have hpc : c ≠ p := ne_of e3 hp
  refine comp_map (fun d => .tup [d, .bl false]) (fun m => m q = some (.lst (bs.map Bd.d))) (fun m o h => by rw [set_ne hpq]; exact h) (fun m h => h) _ [] _ ?_ (by simp; omega) set_same (by rw [set_ne hpq]; exact e6) ?_
  · intro x hx m T hm hT
    simp [CE_changed_2]
    exact hT
  · rw [set_set, set_ne hpc, e3]
    simp
    refine ⟨by omega, ?_⟩
    have := k p hp
    simpa [dBB, Function.comp_def] using this
/-- a row with its new body -/
def rowN : D → D
  | .tup [.tup [q, _], y] => .tup [q, y]
  | d => d
theorem zip_wth : ∀ (r : Rw) (xs : List Bd), xs.length = r.l.length → (zipL r.ds (xs.map Bd.d)).map rowN = (r.wth xs).ds
  | .nil, xs, h => by simp [Rw.ds, zipL, Rw.wth]
  | .cons q b r, [], h => by simp [Rw.l] at h
  | .cons q b r, x :: xs, h => by
    have := zip_wth r xs (by simpa [Rw.l] using h)
    simp only [zipL] at this
    simp [Rw.ds, zipL, Rw.wth, rowN, this]
theorem mem_rowZ {r : Rw} {xs : List Bd} {x : D} (h : x ∈ zipL r.ds (xs.map Bd.d)) : ∃ (y : (Int × Int) × Bd) (z : Bd), x = .tup [dRB y, z.d] := by
  unfold zipL at h
  rw [rw_ds, List.zipWith_map] at h
  obtain ⟨i, hi, rfl⟩ := List.mem_iff_getElem.mp h
  rw [List.getElem_zipWith]
  exact ⟨_, _, rfl⟩
theorem ob_changed : ∀ f κ C E ds M Q, S_changed f κ C E ds M Q → B_changed f κ C E (endsL Q) (start 12 ds) M := by
  intro f κ C E ds M Q h
  obtain ⟨x, y, rfl, b, W, P, g, Rl, rfl, rfl, hf, hcd, hz, hR, hwok, hC, hq, hno⟩ := fn2_e h
  have hsz := sizeLine_ge
  have hκ : ∀ cs, κ.o ≠ .tab cs := fun cs h => by cases κ <;> cases h
  have fr : ∀ {m : Sto} {p : Addr} {xs : List D}, Rl M m → M p = none → (∀ q, m p ≠ some (.code q)) → Rl M (m.set p (.lst xs)) := fun l h n => hR.fresh l h n lst_nt
  simp [B_changed]
  intro a ha
  refine go ?_
  simp
  intro c hc
  refine go ?_
  simp
  obtain ⟨hca, hc⟩ := set_none.mp hc
  have l0 : Rl M ((M.set a (.lst [])).set c (.lst [dBB (b, false)])) := fr (fr (hR.refl M) ha (non_nc ha)) hc (non_nc (set_none.mpr ⟨hca, hc⟩))
  refine ⟨ChI M Rl f c b W P g, ⟨_, [(b, false)], [], a, none, none, none, none, none, none, none, none, rfl, by rw [set_ne hca.symm, set_same]; rfl, by rw [set_same]; simp [dBB], hca.symm, ha, l0, ⟨hwok, fun b' hb => ⟨b', rfl, hb⟩, fun hb => hb⟩, rfl, by simp [muC]; omega⟩, ?_⟩
  rintro m env M' ⟨L, dn, a, x4, x5, x6, x7, x8, x9, x10, x11, rfl, ea, ec, hac, ha, hl, hE, rfl, hmu⟩
  simp [WC_changed_1, ec]
  cases L with
  | nil =>
    simp
    refine go ?_
    simp [T_changed_1, ea]
    obtain ⟨r, rfl, hr⟩ := hE
    simp
    exact ⟨M', .refl, hq r hr M' hl⟩
  | cons i L =>
    obtain ⟨one, ready⟩ := i
    have hLl := len_muC L
    simp [WB_changed_1, ec, dBB]
    refine go ?_
    have ea1 : (M'.set c (.lst (L.map dBB).reverse)) a = some (.lst (dn.map Bd.d)) := by rw [set_ne hac, ea]
    have ec1 : (M'.set c (.lst (L.map dBB).reverse)) c = some (.lst (L.map dBB).reverse) := set_same
    have hl1 : Rl M (M'.set c (.lst (L.map dBB).reverse)) := fr hl hc (lst_nc ec)
    generalize M'.set c (.lst (L.map dBB).reverse) = m1 at ea1 ec1 hl1 ⊢
    have call : ∀ (x : Bd) (m2 : Sto) (Q' : KD), W x → Rl M m2 → (P x = true → ∀ M'', Rl m2 M'' → Q' (g x).d M'') → (P x = false → b.evl P g = none) → m2 f = some κ.o ∧ m2 κ.F.c = some (.code κ.F.qual) ∧ C E [x.d] m2 Q' :=
      fun x m2 Q' hw l ht hff => ⟨hR.keep l hκ hf, hR.keep l (fun cs h => by cases h) hcd, hC x m2 Q' hw l ht fun hp M'' => hno (hff hp) M''⟩
    cases ready with
    | false =>
      cases one with
      | fin =>
        simp [ChE, Bd.wok] at hE
        simp [muC, Bd.sz] at hmu
        simp [Bd.d, ea1, eqF, flat]
        obtain ⟨z1, z2, z3⟩ := call .fin m1 (fun y M2 => lstO (M2 a) fun xs => xs.length < sizeLine ∧ ∃ m', m' < muC ((Bd.fin, false) :: L) ∧ ChI M Rl f c b W P g m' [some b.d, some (D.ref f), some (D.ref a), some (D.ref c), some dEnd, some (D.bl false), x6, x7, x8, x9, x10, x11] (M2.set a (.lst (xs ++ [y])))) hE.1 hl1 (fun hp M'' r => by
          have ea2 := hR.keep r lst_nt ea1
          have ec2 := hR.keep r lst_nt ec1
          rw [ea2]
          simp
          refine ⟨by omega, _, ?_, L, dn ++ [g .fin], a, _, _, _, _, _, _, _, _, rfl, by rw [set_same]; simp, by rw [set_ne hac.symm, ec2]; simp, hac, ha, fr (hR.trans hl1 r) ha (lst_nc ea2), hE.2.1 _ (by simp [Bd.evl, hp]), rfl, by simp; omega⟩
          simp [muC, Bd.sz]) (fun hp => hE.2.2 (by simp [Bd.evl, hp]))
        exact ⟨z1, z2, z3⟩
      | stop =>
        simp [ChE, Bd.wok] at hE
        simp [muC, Bd.sz] at hmu
        simp [Bd.d, ea1, eqF, flat]
        obtain ⟨z1, z2, z3⟩ := call .stop m1 (fun y M2 => lstO (M2 a) fun xs => xs.length < sizeLine ∧ ∃ m', m' < muC ((Bd.stop, false) :: L) ∧ ChI M Rl f c b W P g m' [some b.d, some (D.ref f), some (D.ref a), some (D.ref c), some dStop, some (D.bl false), x6, x7, x8, x9, x10, x11] (M2.set a (.lst (xs ++ [y])))) hE.1 hl1 (fun hp M'' r => by
          have ea2 := hR.keep r lst_nt ea1
          have ec2 := hR.keep r lst_nt ec1
          rw [ea2]
          simp
          refine ⟨by omega, _, ?_, L, dn ++ [g .stop], a, _, _, _, _, _, _, _, _, rfl, by rw [set_same]; simp, by rw [set_ne hac.symm, ec2]; simp, hac, ha, fr (hR.trans hl1 r) ha (lst_nc ea2), hE.2.1 _ (by simp [Bd.evl, hp]), rfl, by simp; omega⟩
          simp [muC, Bd.sz]) (fun hp => hE.2.2 (by simp [Bd.evl, hp]))
        exact ⟨z1, z2, z3⟩
      | tell s b' =>
        simp only [ChE, Bd.wok] at hE
        simp [muC, Bd.sz] at hmu
        simp [Bd.d, ec1, eqF, flat]
        refine ⟨by omega, ?_⟩
        refine go ?_
        simp
        intro q hq1
        refine go ?_
        obtain ⟨hqc, hq1⟩ := set_none.mp hq1
        have hqM : M q = none := hR.nn hl1 hq1
        refine ext_i (bs := [b']) (by rw [set_same]; rfl) (by rw [set_ne hqc.symm, set_same]) hqc (by simp; omega) fun p hp => ?_
        obtain ⟨hpq, hp⟩ := set_none.mp hp
        obtain ⟨hpc, hp⟩ := set_none.mp hp
        have hpM : M p = none := hR.nn hl1 hp
        refine ⟨_, ?_, (b', false) :: (.tell s b', true) :: L, dn, a, _, _, _, _, _, _, _, _, rfl, ?_, ?_, hac, ha, ?_, ⟨hE.1.1, fun b'' h => ⟨dn, b'', rfl, hE.1.2 b'' h, fun hp => hE.2.1 _ (by simp [Bd.evl, h, hp]), fun hp => hE.2.2 (by simp [Bd.evl, h, hp])⟩, fun h => hE.2.2 (by simp [Bd.evl, h])⟩, rfl, ?_⟩
        · simp [muC, Bd.sz]; omega
        · rw [set_ne hac, set_ne (ne_of ea1 hp), set_ne (ne_of ea1 hq1), set_ne hac]; exact ea1
        · rw [set_same]; simp [dBB, Bd.d]
        · refine fr (fr (fr (fr hl1 hc (lst_nc ec1)) hqM ?_) hpM ?_) hc ?_
          · intro q' e; rw [set_ne hqc, hq1] at e; cases e
          · intro q' e; rw [set_ne hpq, set_ne hpc, hp] at e; cases e
          · intro q' e; rw [set_ne hpc.symm, set_ne hqc.symm, set_same] at e; cases e
        · simp [muC]; omega
      | call s b' =>
        simp only [ChE, Bd.wok] at hE
        simp [muC, Bd.sz] at hmu
        simp [Bd.d, ec1, eqF, flat]
        refine ⟨by omega, ?_⟩
        refine go ?_
        simp
        intro q hq1
        refine go ?_
        obtain ⟨hqc, hq1⟩ := set_none.mp hq1
        have hqM : M q = none := hR.nn hl1 hq1
        refine ext_i (bs := [b']) (by rw [set_same]; rfl) (by rw [set_ne hqc.symm, set_same]) hqc (by simp; omega) fun p hp => ?_
        obtain ⟨hpq, hp⟩ := set_none.mp hp
        obtain ⟨hpc, hp⟩ := set_none.mp hp
        have hpM : M p = none := hR.nn hl1 hp
        refine ⟨_, ?_, (b', false) :: (.call s b', true) :: L, dn, a, _, _, _, _, _, _, _, _, rfl, ?_, ?_, hac, ha, ?_, ⟨hE.1.1, fun b'' h => ⟨dn, b'', rfl, hE.1.2 b'' h, fun hp => hE.2.1 _ (by simp [Bd.evl, h, hp]), fun hp => hE.2.2 (by simp [Bd.evl, h, hp])⟩, fun h => hE.2.2 (by simp [Bd.evl, h])⟩, rfl, ?_⟩
        · simp [muC, Bd.sz]; omega
        · rw [set_ne hac, set_ne (ne_of ea1 hp), set_ne (ne_of ea1 hq1), set_ne hac]; exact ea1
        · rw [set_same]; simp [dBB, Bd.d]
        · refine fr (fr (fr (fr hl1 hc (lst_nc ec1)) hqM ?_) hpM ?_) hc ?_
          · intro q' e; rw [set_ne hqc, hq1] at e; cases e
          · intro q' e; rw [set_ne hpq, set_ne hpc, hp] at e; cases e
          · intro q' e; rw [set_ne hpc.symm, set_ne hqc.symm, set_same] at e; cases e
        · simp [muC]; omega
      | draw r =>
        simp only [ChE, Bd.wok] at hE
        simp [muC, Bd.sz] at hmu
        have hrl := l_le_sz r
        simp [Bd.d, ec1, eqF, flat]
        refine ⟨by omega, ?_⟩
        refine go ?_
        simp
        intro q hq1
        obtain ⟨hqc, hq1⟩ := set_none.mp hq1
        have hqM : M q = none := hR.nn hl1 hq1
        refine comp_map sndD (fun _ => True) (fun _ _ _ => trivial) (fun _ _ => trivial) _ [] _ ?_ (by simp [rw_ds]; omega) set_same trivial ?_
        · intro x hx m T _ hT
          rw [rw_ds] at hx
          obtain ⟨y, hy, rfl⟩ := List.mem_map.mp (List.mem_reverse.mp hx)
          simp [CE_changed_1, dRB]
          exact hT
        refine go ?_
        rw [set_set]
        have e2 : r.ds.reverse.map sndD = (r.l.reverse.map fun x => x.2).map Bd.d := by
          rw [rw_ds, ← List.map_reverse, List.map_map, List.map_map]; rfl
        rw [List.nil_append, e2]
        refine ext_i (bs := r.l.reverse.map fun x => x.2) (by rw [set_same]) (by rw [set_ne hqc.symm, set_same]) hqc (by simp; omega) fun p hp => ?_
        obtain ⟨hpq, hp⟩ := set_none.mp hp
        obtain ⟨hpc, hp⟩ := set_none.mp hp
        have hpM : M p = none := hR.nn hl1 hp
        refine ⟨_, ?_, (r.l.map fun x => (x.2, false)) ++ (.draw r, true) :: L, dn, a, _, _, _, _, _, _, _, _, rfl, ?_, ?_, hac, ha, ?_, che_rows r dn hE.1 (fun r' hr => ⟨dn, _, rfl, by simp [len_evl hr], by rw [wth_evl hr]; exact hE.2.1 _ (by simp [Bd.evl, hr])⟩) (fun hr => hE.2.2 (by simp [Bd.evl, hr])), rfl, ?_⟩
        · rw [muC_rows]; simp [muC, Bd.sz]; omega
        · rw [set_ne hac, set_ne (ne_of ea1 hp), set_ne (ne_of ea1 hq1), set_ne hac]; exact ea1
        · rw [set_same]; simp [dBB, Bd.d]
        · refine fr (fr (fr (fr hl1 hc (lst_nc ec1)) hqM ?_) hpM ?_) hc ?_
          · intro q' e; rw [set_ne hqc, hq1] at e; cases e
          · intro q' e; rw [set_ne hpq, set_ne hpc, hp] at e; cases e
          · intro q' e; rw [set_ne hpc.symm, set_ne hqc.symm, set_same] at e; cases e
        · rw [muC_rows]; simp [muC]; omega
    | true =>
      cases one with
      | fin => simp [ChE] at hE
      | stop => simp [ChE] at hE
      | tell s b' =>
        simp only [ChE] at hE
        obtain ⟨d, x, rfl, hW, hE1, hE2⟩ := hE
        simp [muC, Bd.sz] at hmu
        simp [Bd.d, eqF, flat, ea1]
        have l2 : Rl M (m1.set a (.lst (d.map Bd.d))) := fr hl1 ha (lst_nc ea1)
        obtain ⟨z1, z2, z3⟩ := call (.tell s x) _ (fun y M2 => lstO (M2 a) fun xs => xs.length < sizeLine ∧ ∃ m', m' < muC ((Bd.tell s b', true) :: L) ∧ ChI M Rl f c b W P g m' [some b.d, some (D.ref f), some (D.ref a), some (D.ref c), some (.tup [.str "tell", .str s, b'.d]), some (D.bl true), x6, x7, x8, x9, x10, x11] (M2.set a (.lst (xs ++ [y])))) hW l2 (fun hp M'' r => by
          have ea2 : M'' a = some (.lst (d.map Bd.d)) := hR.keep r lst_nt set_same
          have ec2 : M'' c = some (.lst (L.map dBB).reverse) := hR.keep r lst_nt (by rw [set_ne hac.symm]; exact ec1)
          rw [ea2]
          simp
          refine ⟨by omega, _, ?_, L, d ++ [g (.tell s x)], a, _, _, _, _, _, _, _, _, rfl, by rw [set_same]; simp, by rw [set_ne hac.symm, ec2]; simp, hac, ha, fr (hR.trans l2 r) ha (lst_nc ea2), hE1 hp, rfl, by simp; omega⟩
          simp [muC]) hE2
        refine ⟨hR.keep hl1 hκ hf, ?_⟩
        exact ⟨z1, z2, by simpa [Bd.d] using z3⟩
      | call s b' =>
        simp only [ChE] at hE
        obtain ⟨d, x, rfl, hW, hE1, hE2⟩ := hE
        simp [muC, Bd.sz] at hmu
        simp [Bd.d, eqF, flat, ea1]
        have l2 : Rl M (m1.set a (.lst (d.map Bd.d))) := fr hl1 ha (lst_nc ea1)
        obtain ⟨z1, z2, z3⟩ := call (.call s x) _ (fun y M2 => lstO (M2 a) fun xs => xs.length < sizeLine ∧ ∃ m', m' < muC ((Bd.call s b', true) :: L) ∧ ChI M Rl f c b W P g m' [some b.d, some (D.ref f), some (D.ref a), some (D.ref c), some (.tup [.str "call", .str s, b'.d]), some (D.bl true), x6, x7, x8, x9, x10, x11] (M2.set a (.lst (xs ++ [y])))) hW l2 (fun hp M'' r => by
          have ea2 : M'' a = some (.lst (d.map Bd.d)) := hR.keep r lst_nt set_same
          have ec2 : M'' c = some (.lst (L.map dBB).reverse) := hR.keep r lst_nt (by rw [set_ne hac.symm]; exact ec1)
          rw [ea2]
          simp
          refine ⟨by omega, _, ?_, L, d ++ [g (.call s x)], a, _, _, _, _, _, _, _, _, rfl, by rw [set_same]; simp, by rw [set_ne hac.symm, ec2]; simp, hac, ha, fr (hR.trans l2 r) ha (lst_nc ea2), hE1 hp, rfl, by simp; omega⟩
          simp [muC]) hE2
        refine ⟨hR.keep hl1 hκ hf, ?_⟩
        exact ⟨z1, z2, by simpa [Bd.d] using z3⟩
      | draw r =>
        simp only [ChE] at hE
        obtain ⟨d, xs, rfl, hxl, hE⟩ := hE
        simp [muC, Bd.sz] at hmu
        simp [Bd.d, ec1, eqF, flat, ea1]
        have hdl : r.ds.length = xs.length := by rw [rw_ds, List.length_map, hxl]
        have hrd : r.ds.length ≤ 20001 := by omega
        refine go ?_
        have em : ((d.length : Int) + xs.length - r.ds.length) = ((d.length : Nat) : Int) := by rw [hdl]; omega
        rw [em]
        generalize hds : r.ds = rds at *
        simp [ea1]
        intro p1 hp1
        have c1 : cut (List.map Bd.d d ++ List.map Bd.d xs) (some (d.length : Int)) none = xs.map Bd.d := by
          rw [cut_from _ (by omega)]
          simp
        rw [c1]
        refine zipTD_s set_same ?_
        intro p2 hp2
        obtain ⟨hp21, hp2⟩ := set_none.mp hp2
        refine comp_map rowN (fun m => m p1 = some (.lst (xs.map Bd.d))) (fun m o h => by rw [set_ne (Ne.symm hp21)]; exact h) (fun m h => h) _ [] _ ?_ (by simp [zipL]; omega) set_same (by rw [set_ne (Ne.symm hp21), set_same]) ?_
        · intro x hx m T _ hT
          obtain ⟨y, z, rfl⟩ := mem_rowZ (hds ▸ hx)
          simp [CE_changed_3, dRB]
          simpa [rowN, dRB] using hT
        rw [set_set, List.nil_append]
        have ez : (zipL rds (xs.map Bd.d)).map rowN = (r.wth xs).ds := by rw [← hds]; exact zip_wth r xs hxl
        rw [ez]
        refine go ?_
        have hap1 : a ≠ p1 := ne_of ea1 hp1
        have hap2 : a ≠ p2 := ne_of ea1 hp2
        have ea2 : ((m1.set p1 (.lst (xs.map Bd.d))).set p2 (.lst (r.wth xs).ds)) a = some (.lst ((d ++ xs).map Bd.d)) := by rw [set_ne hap2, set_ne hap1]; exact ea1
        have ep2 : ((m1.set p1 (.lst (xs.map Bd.d))).set p2 (.lst (r.wth xs).ds)) p2 = some (.lst (r.wth xs).ds) := set_same
        have ec2 : ((m1.set p1 (.lst (xs.map Bd.d))).set p2 (.lst (r.wth xs).ds)) c = some (.lst (L.map dBB).reverse) := by rw [set_ne (ne_of ec1 hp2), set_ne (ne_of ec1 hp1)]; exact ec1
        have hl2 : Rl M ((m1.set p1 (.lst (xs.map Bd.d))).set p2 (.lst (r.wth xs).ds)) := fr (fr hl1 (hR.nn hl1 hp1) (non_nc hp1)) (hR.nn hl1 hp2) (non_nc (set_none.mpr ⟨hp21, hp2⟩))
        generalize (m1.set p1 (.lst (xs.map Bd.d))).set p2 (.lst (r.wth xs).ds) = m2 at ea2 ep2 ec2 hl2 ⊢
        simp [ea2]
        intro p3 hp3
        rw [set_ne (ne_of ep2 hp3), ep2]
        simp
        intro p4 hp4
        obtain ⟨hp43, hp4⟩ := set_none.mp hp4
        rw [set_ne (Ne.symm hp43), set_same]
        have c2 : cut (List.map Bd.d d ++ List.map Bd.d xs) none (some (d.length : Int)) = d.map Bd.d := by
          rw [cut_to _ (by omega)]
          simp
        rw [c2]
        simp
        refine ⟨by omega, fun p5 hp5 => ?_⟩
        obtain ⟨hp54, hp5⟩ := set_none.mp hp5
        obtain ⟨hp53, hp5⟩ := set_none.mp hp5
        refine ⟨_, ?_, L, d ++ [.draw (r.wth xs)], p5, _, _, _, _, _, _, _, _, rfl, by rw [set_same]; simp [Bd.d], ?_, (ne_of ec2 hp5).symm, hR.nn hl2 hp5, fr (fr (fr hl2 (hR.nn hl2 hp3) (non_nc hp3)) (hR.nn hl2 hp4) (non_nc (set_none.mpr ⟨hp43, hp4⟩))) (hR.nn hl2 hp5) (non_nc (set_none.mpr ⟨hp54, set_none.mpr ⟨hp53, hp5⟩⟩)), hE, rfl, by simp; omega⟩
        · simp [muC]
        · rw [set_ne (ne_of ec2 hp5), set_ne (ne_of ec2 hp4), set_ne (ne_of ec2 hp3), ec2]; simp
end DL

set_option Elab.async false
set_option linter.all false
set_option maxRecDepth 100000
set_option maxHeartbeats 4000000
/-! GX2: as GX, of rows of any length -/
namespace DL
open PySem
/-- the one that is drawn -/
def Rw.drw : Rw → Int → Int → Option Bd
  | .nil, _, _ => none
  | .cons q b r, L, t => if t < q.1 * (L / q.2) then some b else r.drw L (t - q.1 * (L / q.2))
def Rw.hd? : Rw → Option Bd
  | .cons _ b .nil => some b
  | _ => none
structure RR where
  e : Str
  w : List Str
  c : Int
  u : Nat
def RR.d (r : RR) : D := told r.e (r.w.map .str) r.c r.u
def runB (look : Str → Option Bd) (tp : List Int) (most : Int) : Nat → List Bd → List Str → Int → Nat → Option RR
  | 0, _, _, _, _ => none
  | _ + 1, [], w, c, u => some ⟨"ended", w, c, u⟩
  | f + 1, .fin :: ws, w, c, u => runB look tp most f ws w c u
  | _ + 1, .stop :: _, w, c, u => some ⟨"stopped", w, c, u⟩
  | f + 1, .tell s b :: ws, w, c, u => runB look tp most f (b :: ws) (w ++ [s]) c u
  | f + 1, .call p b :: ws, w, c, u => if c = most then some ⟨"calls", w, c, u⟩ else match look p with
    | some d => runB look tp most f (d :: b :: ws) w (c + 1) u
    | none => none
  | f + 1, .draw r :: ws, w, c, u => if lcmR r.fs = 1 then match r.hd? with
      | some b => runB look tp most f (b :: ws) w c u
      | none => none
    else match tp[u]? with
      | none => some ⟨"tape", w, c, u⟩
      | some t => match r.drw (lcmR r.fs) (t % lcmR r.fs) with
        | some b => runB look tp most f (b :: ws) w c (u + 1)
        | none => none
mutual
def Bd.dp : Bd → Nat
  | .fin => 0
  | .stop => 0
  | .tell _ b => b.dp + 1
  | .call _ b => b.dp + 1
  | .draw r => r.dp + 1
def Rw.dp : Rw → Nat
  | .nil => 0
  | .cons _ b r => max b.dp r.dp
end
/-- a row of chances -/
def RowOk (l : List (Int × Int)) : Prop := (∀ r ∈ l, 0 < r.2 ∧ r.2 < 1073741824 ∧ 0 < r.1 ∧ r.1 < 1073741824) ∧ 0 < lcmR l ∧ lcmR l < 1073741824 ∧ (l.map fun r => r.1 * (lcmR l / r.2)).sum = lcmR l ∧ (lcmR l = 1 → l = [(1, 1)])
theorem okDens_row {rs : List ((Int × Int) × D)} (h : RowOk (rs.map Prod.fst)) : okDens rs := fun r hr => h.1 _ (List.mem_map.mpr ⟨r, hr, rfl⟩)
mutual
def Bd.wl (ns ls : List Str) : Bd → Nat → Prop
  | .fin, _ => True
  | .stop, _ => True
  | .tell s b, n => s ∈ ls ∧ ∃ m, n = m + 1 ∧ b.wl ns ls m
  | .call s b, n => s ∈ ns ∧ ∃ m, n = m + 1 ∧ b.wl ns ls m
  | .draw r, n => RowOk r.fs ∧ ∃ m, n = m + 1 ∧ r.wl ns ls m
def Rw.wl (ns ls : List Str) : Rw → Nat → Prop
  | .nil, _ => True
  | .cons _ b r, n => b.wl ns ls n ∧ r.wl ns ls n
end
theorem rw_wl {ns ls : List Str} {n : Nat} : ∀ r : Rw, r.wl ns ls n ↔ ∀ x ∈ r.l, x.2.wl ns ls n
  | .nil => by simp [Rw.wl, Rw.l]
  | .cons q b r => by simp [Rw.wl, Rw.l, rw_wl r]
mutual
theorem ok_wl {ns ls : List Str} : ∀ (b : Bd) {n : Nat}, b.ok ns ls n → b.wl ns ls n
  | .fin, n, _ => by simp [Bd.wl]
  | .stop, n, _ => by simp [Bd.wl]
  | .tell s b, n, h => by simp only [Bd.ok] at h; obtain ⟨h1, m, rfl, h⟩ := h; simp only [Bd.wl]; exact ⟨h1, m, rfl, ok_wl b h⟩
  | .call s b, n, h => by simp only [Bd.ok] at h; obtain ⟨h1, m, rfl, h⟩ := h; simp only [Bd.wl]; exact ⟨h1, m, rfl, ok_wl b h⟩
  | .draw r, n, h => by simp only [Bd.ok] at h; obtain ⟨h1, m, rfl, h⟩ := h; simp only [Bd.wl]; exact ⟨cuts_ok _ h1, m, rfl, rok_wl r h⟩
theorem rok_wl {ns ls : List Str} : ∀ (r : Rw) {n : Nat}, r.ok ns ls n → r.wl ns ls n
  | .nil, n, _ => by simp [Rw.wl]
  | .cons q b r, n, h => by simp only [Rw.ok] at h; simp only [Rw.wl]; exact ⟨ok_wl b h.1, rok_wl r h.2⟩
end
mutual
theorem dp_ok {ns ls : List Str} : ∀ (b : Bd) {n : Nat}, b.wl ns ls n → b.dp ≤ n
  | .fin, n, _ => by simp [Bd.dp]
  | .stop, n, _ => by simp [Bd.dp]
  | .tell s b, n, h => by simp only [Bd.wl] at h; obtain ⟨_, m, rfl, h⟩ := h; have := dp_ok b h; simp [Bd.dp]; omega
  | .call s b, n, h => by simp only [Bd.wl] at h; obtain ⟨_, m, rfl, h⟩ := h; have := dp_ok b h; simp [Bd.dp]; omega
  | .draw r, n, h => by simp only [Bd.wl] at h; obtain ⟨_, m, rfl, h⟩ := h; have := rdp_ok r h; simp [Bd.dp]; omega
theorem rdp_ok {ns ls : List Str} : ∀ (r : Rw) {n : Nat}, r.wl ns ls n → r.dp ≤ n
  | .nil, n, _ => by simp [Rw.dp]
  | .cons q b r, n, h => by simp only [Rw.wl] at h; have := dp_ok b h.1; have := rdp_ok r h.2; simp [Rw.dp]; omega
end
theorem hd_cut {r : Rw} (h : RowOk r.fs) (h1 : lcmR r.fs = 1) : ∃ b, r = .cons (1, 1) b .nil := by
  have e := h.2.2.2.2 h1
  match r, e with
  | .cons q b .nil, e =>
    simp [Rw.fs] at e
    exact ⟨b, by rw [e]⟩
  | .nil, e => simp [Rw.fs] at e
  | .cons q b (.cons _ _ _), e => simp [Rw.fs] at e
theorem drw_mem : ∀ {r : Rw} {L t : Int} {b : Bd}, r.drw L t = some b → ∃ q, (q, b) ∈ r.l
  | .nil, _, _, _, h => by simp [Rw.drw] at h
  | .cons q b' r, L, t, b, h => by
    unfold Rw.drw at h
    split at h
    · cases h; exact ⟨q, by simp [Rw.l]⟩
    · obtain ⟨q', h⟩ := drw_mem h
      exact ⟨q', by simp [Rw.l, h]⟩
theorem drw_some : ∀ (r : Rw) (L t : Int), 0 ≤ t → t < (r.fs.map fun q => q.1 * (L / q.2)).sum → ∃ b, r.drw L t = some b
  | .nil, L, t, h0, h1 => by simp [Rw.fs] at h1; omega
  | .cons q b r, L, t, h0, h1 => by
    unfold Rw.drw
    split
    · exact ⟨b, rfl⟩
    · simp only [Rw.fs, List.map_cons, List.sum_cons] at h1
      exact drw_some r L _ (by omega) (by omega)
theorem drw_ok {r : Rw} (h : RowOk r.fs) (t : Int) : ∃ b, r.drw (lcmR r.fs) (t % lcmR r.fs) = some b ∧ ∃ q, (q, b) ∈ r.l := by
  obtain ⟨_, h1, _, h3, _⟩ := h
  obtain ⟨b, hb⟩ := drw_some r (lcmR r.fs) (t % lcmR r.fs) (Int.emod_nonneg _ (by omega)) (by rw [h3]; exact Int.emod_lt_of_pos _ h1)
  exact ⟨b, hb, drw_mem hb⟩
theorem mem_dp : ∀ {r : Rw} {x : (Int × Int) × Bd}, x ∈ r.l → x.2.dp ≤ r.dp
  | .nil, x, h => by simp [Rw.l] at h
  | .cons q b r, x, h => by
    simp only [Rw.l, List.mem_cons] at h
    simp only [Rw.dp]
    rcases h with rfl | h
    · exact Nat.le_max_left ..
    · exact Nat.le_trans (mem_dp h) (Nat.le_max_right ..)
def dRw (r : Rw) : List ((Int × Int) × D) := r.l.map fun x => (x.1, x.2.d)
theorem dRw_ds (r : Rw) : r.ds = (dRw r).map dRow := by
  rw [rw_ds]; unfold dRw; rw [List.map_map]; rfl
theorem dRw_fs (r : Rw) : (dRw r).map Prod.fst = r.fs := by
  rw [rw_fs]; unfold dRw; rw [List.map_map]; rfl
theorem drawnO_drw : ∀ (r : Rw) (L t : Int), drawnO (dRw r) L t = (r.drw L t).map (·.d)
  | .nil, L, t => rfl
  | .cons q b r, L, t => by
    show drawnO ((q, b.d) :: dRw r) L t = _
    rw [drawnO_cons, Rw.drw]
    split
    · rfl
    · exact drawnO_drw r L _
/-- what stands in a program -/
def lkB (ps : List (Str × Bd)) (s : Str) : Option Bd := ps.lookup s
theorem lk_lkB : ∀ (ps : List (Str × Bd)) (s : Str), lk (kvP (ps.map fun p => (p.1, p.2.d))) (.inr s) = (lkB ps s).map (·.d)
  | [], s => rfl
  | (a, b) :: ps, s => by
    have ih := lk_lkB ps s
    unfold lkB at ih ⊢
    simp only [kvP] at ih
    simp only [List.map_cons, kvP, lk, List.lookup_cons]
    by_cases e : a = s
    · subst e; simp
    · have e2 : (s == a) = false := by simpa using Ne.symm e
      rw [if_neg (by simpa using e), e2]
      exact ih
/-- all that waits is well made, of depth 8 at most; its calls are told -/
def Wt (look : Str → Option Bd) (ns ls : List Str) (k : Nat) (ws : List Bd) : Prop := ∀ b ∈ ws, ∃ n ≤ k, b.wl ns ls n
structure Lkd (look : Str → Option Bd) (ns ls : List Str) (k : Nat) : Prop where
  h : ∀ p ∈ ns, ∃ d, look p = some d ∧ d.wl ns ls k
def mes (k : Nat) (ws : List Bd) (most c : Int) : Nat := (ws.map fun b => b.dp + 1).sum + (most - c).toNat * (k + 2)
def ends4 : List Str := ["ended", "stopped", "calls", "tape"]
theorem runB_go {ps : List (Str × Bd)} {ns ls : List Str} {k : Nat} {tp : List Int} {most : Int} (P : Lkd (lkB ps) ns ls k) : ∀ (f : Nat) (ws : List Bd) (w : List Str) (c : Int) (u : Nat), Wt (lkB ps) ns ls k ws → c ≤ most → u ≤ tp.length → mes k ws most c < f →
    ∃ r, runB (lkB ps) tp most f ws w c u = some r ∧ Go (kvP (ps.map fun p => (p.1, p.2.d))) tp most f (ws.map (·.d)) (w.map .str) c u r.d ∧ (∀ s ∈ r.w, s ∈ w ∨ s ∈ ls) ∧ r.e ∈ ends4
  | 0, ws, w, c, u, _, _, _, h => by omega
  | f + 1, [], w, c, u, hw, hc, hu, h => ⟨_, rfl, .ended, fun _ h => .inl h, by simp [ends4]⟩
  | f + 1, .fin :: ws, w, c, u, hw, hc, hu, h => by
    simp [mes, Bd.dp] at h
    obtain ⟨r, h1, h2, h3⟩ := runB_go P (tp := tp) (most := most) f ws w c u (fun b hb => hw b (.tail _ hb)) hc hu (by simp only [mes]; omega)
    exact ⟨r, by simp only [runB]; exact h1, by simp only [List.map_cons, Bd.d]; exact .fin h2, h3⟩
  | f + 1, .stop :: ws, w, c, u, hw, hc, hu, h => ⟨_, rfl, by simp only [List.map_cons, Bd.d]; exact .stop, fun _ h => .inl h, by simp [ends4]⟩
  | f + 1, .tell s b :: ws, w, c, u, hw, hc, hu, h => by
    simp [mes, Bd.dp] at h
    obtain ⟨n, hn, ho⟩ := hw _ (.head _)
    simp only [Bd.wl] at ho
    obtain ⟨hs, m, rfl, ho⟩ := ho
    obtain ⟨r, h1, h2, h3⟩ := runB_go P (tp := tp) (most := most) f (b :: ws) (w ++ [s]) c u (fun b' hb => by
      rcases List.mem_cons.mp hb with rfl | hb
      · exact ⟨m, by omega, ho⟩
      · exact hw b' (.tail _ hb)) hc hu (by simp [mes]; omega)
    exact ⟨r, by simp only [runB]; exact h1, by simp only [List.map_cons, Bd.d]; exact .tell (by simpa using h2), fun z hz => by
      rcases h3.1 z hz with hz | hz
      · rcases List.mem_append.mp hz with hz | hz
        · exact .inl hz
        · exact .inr (by rw [List.mem_singleton.mp hz]; exact hs)
      · exact .inr hz, h3.2⟩
  | f + 1, .call p b :: ws, w, c, u, hw, hc, hu, h => by
    simp [mes, Bd.dp] at h
    obtain ⟨n, hn, ho⟩ := hw _ (.head _)
    simp only [Bd.wl] at ho
    obtain ⟨hp, m, rfl, ho⟩ := ho
    simp only [runB]
    by_cases e : c = most
    · subst e
      rw [if_pos rfl]
      exact ⟨_, rfl, by simp only [List.map_cons, Bd.d]; exact .calls, fun _ h => .inl h, by simp [ends4]⟩
    · rw [if_neg e]
      obtain ⟨d, hd, hdo⟩ := P.h p hp
      rw [hd]
      dsimp only
      have hdd := dp_ok d hdo
      have h4 : (most - c).toNat = (most - (c + 1)).toNat + 1 := by omega
      rw [h4, Nat.add_mul, Nat.one_mul] at h
      obtain ⟨r, h1, h2, h3⟩ := runB_go P (tp := tp) (most := most) f (d :: b :: ws) w (c + 1) u (fun b' hb => by
        rcases List.mem_cons.mp hb with rfl | hb
        · exact ⟨k, by omega, hdo⟩
        · rcases List.mem_cons.mp hb with rfl | hb
          · exact ⟨m, by omega, ho⟩
          · exact hw b' (.tail _ hb)) (by omega) hu (by simp [mes]; omega)
      exact ⟨r, h1, by simp only [List.map_cons, Bd.d]; exact .call e (by rw [lk_lkB, hd]; rfl) (by simpa using h2), h3⟩
  | f + 1, .draw r' :: ws, w, c, u, hw, hc, hu, h => by
    simp [mes, Bd.dp] at h
    obtain ⟨n, hn, ho⟩ := hw _ (.head _)
    simp only [Bd.wl] at ho
    obtain ⟨hcut, m, rfl, ho⟩ := ho
    rw [rw_wl] at ho
    have hden : okDens (dRw r') := okDens_row (by rw [dRw_fs]; exact hcut)
    simp only [runB]
    have next : ∀ q b, (q, b) ∈ r'.l → Wt (lkB ps) ns ls k (b :: ws) := fun q b hq b' hb => by
      rcases List.mem_cons.mp hb with rfl | hb
      · exact ⟨m, by omega, ho _ hq⟩
      · exact hw b' (.tail _ hb)
    by_cases e1 : lcmR r'.fs = 1
    · rw [if_pos e1]
      obtain ⟨b, rfl⟩ := hd_cut hcut e1
      simp only [Rw.hd?]
      simp only [Rw.dp] at h
      obtain ⟨r, h1, h2, h3⟩ := runB_go P (tp := tp) (most := most) f (b :: ws) w c u (next (1, 1) b (by simp [Rw.l])) hc hu (by simp [mes]; omega)
      exact ⟨r, h1, by simp only [List.map_cons, Bd.d, Rw.ds]; exact .draw1 h2, h3⟩
    · rw [if_neg e1]
      have hl := hcut.2.1
      have h1l : 1 < lcmR ((dRw r').map Prod.fst) := by rw [dRw_fs]; omega
      by_cases hul : u = tp.length
      · subst hul
        rw [List.getElem?_eq_none (Nat.le_refl _)]
        refine ⟨_, rfl, ?_, fun _ h => .inl h, by simp [ends4]⟩
        simp only [List.map_cons, Bd.d]
        rw [dRw_ds]
        exact .tape hden h1l
      · have hlt : u < tp.length := by omega
        rw [List.getElem?_eq_getElem hlt]
        dsimp only
        obtain ⟨b, hb, q, hq⟩ := drw_ok hcut tp[u]
        rw [hb]
        dsimp only
        have hz := mem_dp hq
        simp only at hz
        obtain ⟨r, h1, h2, h3⟩ := runB_go P (tp := tp) (most := most) f (b :: ws) w c (u + 1) (next q b hq) hc (by omega) (by simp [mes]; omega)
        refine ⟨r, h1, ?_, h3⟩
        simp only [List.map_cons, Bd.d]
        rw [dRw_ds]
        exact .draw hden h1l (List.getElem?_eq_getElem hlt) (by rw [dRw_fs, drawnO_drw, hb]; rfl) (by simpa using h2)
theorem run_i {ps : List (Str × Bd)} {p : Str} {d : Bd} {tp : List Int} {most : Int} {f : Nat} {r : RR} {E : XW} {M : Sto} {Q : KD} (hn : (ps.map Prod.fst).Nodup) (hd : lkB ps p = some d) (hf : f ≤ 10000) (ht : tp.length ≤ 1000)
    (hg : Go (kvP (ps.map fun p => (p.1, p.2.d))) tp most f [d.d] [] 1 0 r.d) (hq : Q r.d M) : S_run E [.tup (ps.map dBP), .str p, .tup (tp.map .int), .int most] M Q := by
  refine ⟨ps.map fun p => (p.1, p.2.d), p, tp, most, d.d, f, r.d, ?_, rfl, rfl, rfl, ?_, by rw [lk_lkB, hd]; rfl, hf, ht, hg, hq⟩
  · rw [List.map_map]; rfl
  · rw [List.map_map]; exact hn
theorem lkd_of {ps : List (Str × Bd)} {ns ls : List Str} {k : Nat} (h : ∀ r ∈ ps, r.2.wl ns ls k) (hn : ps.map Prod.fst = ns ∨ ∀ s ∈ ns, s ∈ ps.map Prod.fst) : Lkd (lkB ps) ns ls k := ⟨fun p hp => by
  have hp : p ∈ ps.map Prod.fst := hn.elim (fun e => e ▸ hp) fun g => g p hp
  clear hn
  induction ps with
  | nil => simp at hp
  | cons q ps ih =>
    obtain ⟨a, b⟩ := q
    unfold lkB
    rw [List.lookup_cons]
    by_cases e : p = a
    · subst e; simp; exact h (p, b) (.head _)
    · have e2 : (p == a) = false := by simpa using e
      rw [e2]
      have hp2 : p ∈ ps.map Prod.fst := by
        rcases List.mem_cons.mp hp with h' | h'
        · exact absurd h' e
        · exact h'
      exact ih (fun r hr => h r (.tail _ hr)) hp2⟩
end DL

set_option Elab.async false
set_option linter.all false
set_option maxRecDepth 100000
set_option maxHeartbeats 4000000
/-! GR: texts of programs stay short -/
namespace DL
open PySem
mutual
/-- plain data of small ints and short texts -/
def rB : D → Bool
  | .non => true
  | .int i => decide (i.natAbs < 1000)
  | .str s => PyData.strOk s && decide (s.length ≤ 12)
  | .tup xs => rsB xs
  | _ => false
def rsB : List D → Bool
  | [] => true
  | x :: xs => rB x && rsB xs
end
mutual
def dsz : D → Nat
  | .tup xs => dszs xs + 1
  | _ => 1
def dszs : List D → Nat
  | [] => 0
  | x :: xs => dsz x + dszs xs
end
mutual
theorem rB_pl : ∀ x : D, rB x = true → plB x = true
  | .non, _ => rfl
  | .int _, _ => rfl
  | .str s, h => by simp only [rB, Bool.and_eq_true] at h; exact h.1
  | .tup xs, h => by simp only [rB] at h; simp only [plB]; exact rsB_pl xs h
  | .bl _, h => by simp [rB] at h
  | .ref _, h => by simp [rB] at h
  | .ty _, h => by simp [rB] at h
  | .lro _, h => by simp [rB] at h
theorem rsB_pl : ∀ xs : List D, rsB xs = true → plsB xs = true
  | [], _ => rfl
  | x :: xs, h => by
    simp only [rsB, Bool.and_eq_true] at h
    simp only [plsB, Bool.and_eq_true]
    exact ⟨rB_pl x h.1, rsB_pl xs h.2⟩
end
theorem int_text_p : ∀ n : Fin 1000, (Str.ofString (toString (n.val : Int))).length ≤ 5 := by decide +kernel
theorem int_text_n : ∀ n : Fin 1000, (Str.ofString (toString (-(n.val : Int)))).length ≤ 5 := by decide +kernel
theorem int_text {i : Int} (h : i.natAbs < 1000) : (Str.ofString (toString i)).length ≤ 5 := by
  rcases Int.natAbs_eq i with e | e
  · have := int_text_p ⟨i.natAbs, h⟩; rw [e]; exact this
  · have := int_text_n ⟨i.natAbs, h⟩; rw [e]; exact this
theorem tup_text (ts : List Str) : (tupleText ts).length ≤ piled ts + 3 := by
  unfold tupleText
  rw [strLen_append, strLen_append]
  have h1 : ((if (ts.length == 1) = true then ",)" else ")" : String) : Str).length ≤ 2 := by
    split <;> decide
  have h0 : ("(" : Str).length = 1 := rfl
  cases ts with
  | nil => 
    have : (Str.join ", " []).length = 0 := rfl
    rw [this, h0]; rw [piled_nil]
    omega
  | cons t r =>
    have := join_length_add (t :: r) (by simp)
    rw [h0]
    omega
mutual
theorem shown_len : ∀ x : D, rB x = true → x.py.shown.length + 2 ≤ 200 * dsz x
  | .non, _ => by simp only [D.py, PyData.shown, dsz]; decide
  | .int i, h => by
    simp only [rB, decide_eq_true_eq] at h
    simp only [D.py, PyData.shown, dsz]
    have := int_text h
    omega
  | .str s, h => by
    simp only [rB, Bool.and_eq_true, decide_eq_true_eq] at h
    simp only [D.py, PyData.shown, dsz]
    have := StrLaws.reprText_len s (fun c hc => by
      have h1 := h.1
      unfold PyData.strOk at h1
      rw [Array.all_eq_true_iff_forall_mem] at h1
      have := h1 c (by simpa using hc)
      simp at this
      omega)
    omega
  | .tup xs, h => by
    simp only [rB] at h
    simp only [D.py, PyData.shown, dsz]
    have h1 := tup_text (PyData.shownAll (D.pys xs))
    have h2 := showns_len xs h
    omega
  | .bl _, h => by simp [rB] at h
  | .ref _, h => by simp [rB] at h
  | .ty _, h => by simp [rB] at h
  | .lro _, h => by simp [rB] at h
theorem showns_len : ∀ xs : List D, rsB xs = true → piled (PyData.shownAll (D.pys xs)) ≤ 200 * dszs xs
  | [], _ => by simp [D.pys, PyData.shownAll, piled, dszs]
  | x :: xs, h => by
    simp only [rsB, Bool.and_eq_true] at h
    simp only [D.pys, PyData.shownAll, dszs]
    rw [piled_cons]
    have h1 := shown_len x h.1
    have h2 := showns_len xs h.2
    omega
end
mutual
theorem showable_r : ∀ x : D, rB x = true → x.py.showable = true
  | .non, _ => by simp [D.py, PyData.showable]
  | .int i, h => by
    simp only [rB, decide_eq_true_eq] at h
    simp only [D.py, PyData.showable, decide_eq_true_eq]
    by_cases h0 : i.natAbs = 0
    · rw [h0, Nat.log2_zero]; omega
    · exact (Nat.log2_lt h0).mpr (Nat.lt_of_lt_of_le h (Nat.le_trans (show 1000 ≤ 2 ^ 10 by decide) (Nat.pow_le_pow_right (by decide) (by decide))))
  | .str s, h => by simp [D.py, PyData.showable]
  | .tup xs, h => by
    simp only [rB] at h
    simp only [D.py, PyData.showable]
    exact showables_r xs h
  | .bl _, h => by simp [rB] at h
  | .ref _, h => by simp [rB] at h
  | .ty _, h => by simp [rB] at h
  | .lro _, h => by simp [rB] at h
theorem showables_r : ∀ xs : List D, rsB xs = true → PyData.showableAll (D.pys xs) = true
  | [], _ => by simp [D.pys, PyData.showableAll]
  | x :: xs, h => by
    simp only [rsB, Bool.and_eq_true] at h
    simp only [D.pys, PyData.showableAll, Bool.and_eq_true]
    exact ⟨showable_r x h.1, showables_r xs h.2⟩
end
theorem rep_r {xs : List D} {k : Str → Prop} (h : rB (.tup xs) = true) (hd : dpt (.tup xs) ≤ 64) (hz : dsz (.tup xs) ≤ 80000) (q : k (D.tup xs).py.shown) : repD (.tup xs) k := by
  refine ⟨?_, showable_r _ h, ?_, ⟨xs, rfl⟩, q⟩
  · unfold SeqAt.shaped
    rw [py_can _ (rB_pl _ h), py_dpt _ (rB_pl _ h)]
    simpa using hd
  · have h1 := shown_len _ h
    have h2 : sizeLine = 16777216 := rfl
    rw [h2]; omega
/-! bodies -/
theorem cuts_r : ∀ l ∈ cuts, ∀ f ∈ l, f.1.natAbs < 1000 ∧ f.2.natAbs < 1000 := by decide +kernel
def nmOk (s : Str) : Prop := PyData.strOk s = true ∧ s.length ≤ 12
theorem nm_r {s : Str} (h : nmOk s) : rB (.str s) = true := by simp [rB, h.1, h.2]
mutual
theorem bd_r {ns ls : List Str} (hn : ∀ s ∈ ns, nmOk s) (hl : ∀ s ∈ ls, nmOk s) : ∀ (b : Bd) {n : Nat}, b.ok ns ls n → rB b.d = true ∧ dsz b.d + 5 ≤ 10 * b.sz ∧ dpt b.d ≤ 3 * n + 1
  | .fin, n, _ => by refine ⟨by decide +kernel, by decide +kernel, ?_⟩; simp [Bd.d, dpt, dpts]
  | .stop, n, _ => by refine ⟨by decide +kernel, by decide +kernel, ?_⟩; simp [Bd.d, dpt, dpts]
  | .tell s b, n, h => by
    simp only [Bd.ok] at h
    obtain ⟨h1, m, rfl, h2⟩ := h
    obtain ⟨r1, r2, r3⟩ := bd_r hn hl b h2
    refine ⟨?_, ?_, ?_⟩
    · have e : rB (.str "tell") = true := by decide +kernel
      simp [Bd.d, rB, rsB] at e ⊢
      simp [e, r1, (hl s h1).1, (hl s h1).2]
    · simp [Bd.d, dsz, dszs, Bd.sz]; omega
    · simp [Bd.d, dpt, dpts]; omega
  | .call s b, n, h => by
    simp only [Bd.ok] at h
    obtain ⟨h1, m, rfl, h2⟩ := h
    obtain ⟨r1, r2, r3⟩ := bd_r hn hl b h2
    refine ⟨?_, ?_, ?_⟩
    · have e : rB (.str "call") = true := by decide +kernel
      simp [Bd.d, rB, rsB] at e ⊢
      simp [e, r1, (hn s h1).1, (hn s h1).2]
    · simp [Bd.d, dsz, dszs, Bd.sz]; omega
    · simp [Bd.d, dpt, dpts]; omega
  | .draw r, n, h => by
    simp only [Bd.ok] at h
    obtain ⟨h1, m, rfl, h2⟩ := h
    obtain ⟨r1, r2, r3⟩ := rw_r hn hl r h2 (cuts_r _ h1)
    refine ⟨?_, ?_, ?_⟩
    · have e : rB (.str "draw") = true := by decide +kernel
      simp [Bd.d, rB, rsB] at e ⊢
      simp [e, r1]
    · simp [Bd.d, dsz, dszs, Bd.sz]; omega
    · simp [Bd.d, dpt, dpts]; omega
theorem rw_r {ns ls : List Str} (hn : ∀ s ∈ ns, nmOk s) (hl : ∀ s ∈ ls, nmOk s) : ∀ (r : Rw) {n : Nat}, r.ok ns ls n → (∀ f ∈ r.fs, f.1.natAbs < 1000 ∧ f.2.natAbs < 1000) → rsB r.ds = true ∧ dszs r.ds ≤ 10 * r.sz ∧ dpts r.ds ≤ 3 * n + 2
  | .nil, n, _, _ => by simp [Rw.ds, rsB, dszs, dpts]
  | .cons q b r, n, h, hf => by
    simp only [Rw.ok] at h
    simp only [Rw.fs, List.mem_cons] at hf
    obtain ⟨r1, r2, r3⟩ := bd_r hn hl b h.1
    obtain ⟨s1, s2, s3⟩ := rw_r hn hl r h.2 fun f hf' => hf f (.inr hf')
    obtain ⟨q1, q2⟩ := hf q (.inl rfl)
    refine ⟨?_, ?_, ?_⟩
    · simp [Rw.ds, rsB, rB, dF, r1, s1, q1, q2]
    · simp [Rw.ds, dszs, dsz, dF, Rw.sz]; omega
    · simp [Rw.ds, dpts, dpt, dF]; omega
end
theorem rsB_all : ∀ {xs : List D}, (∀ x ∈ xs, rB x = true) → rsB xs = true
  | [], _ => rfl
  | x :: xs, h => by simp only [rsB, Bool.and_eq_true]; exact ⟨h x (.head _), rsB_all fun y hy => h y (.tail _ hy)⟩
theorem dszs_all {m : Nat} : ∀ {xs : List D}, (∀ x ∈ xs, dsz x ≤ m) → dszs xs ≤ xs.length * m
  | [], _ => by simp [dszs]
  | x :: xs, h => by
    have h1 := h x (.head _)
    have h2 := dszs_all (m := m) fun y hy => h y (.tail _ hy)
    simp only [dszs, List.length_cons, Nat.add_mul]; omega
theorem dpts_all {m : Nat} : ∀ {xs : List D}, (∀ x ∈ xs, dpt x ≤ m) → dpts xs ≤ m
  | [], _ => by simp [dpts]
  | x :: xs, h => by
    have h1 := h x (.head _)
    have h2 := dpts_all (m := m) fun y hy => h y (.tail _ hy)
    simp only [dpts]; omega
theorem pg_r {ns ls : List Str} {ps : List (Str × Bd)} {k : Nat} (hn : ∀ s ∈ ns, nmOk s) (hl : ∀ s ∈ ls, nmOk s) (h : ∀ r ∈ ps, nmOk r.1 ∧ r.2.ok ns ls k) (hk : k ≤ 6) (hps : ps.length ≤ 4) :
    rB (.tup (ps.map dBP)) = true ∧ dpt (.tup (ps.map dBP)) ≤ 64 ∧ dsz (.tup (ps.map dBP)) ≤ 80000 := by
  refine ⟨?_, ?_, ?_⟩
  · simp only [rB]
    refine rsB_all fun x hx => ?_
    obtain ⟨r, hr, rfl⟩ := List.mem_map.mp hx
    obtain ⟨h1, h2⟩ := h r hr
    simp [dBP, rB, rsB, (bd_r hn hl r.2 h2).1, h1.1, h1.2]
  · simp only [dpt]
    have : dpts (ps.map dBP) ≤ 3 * k + 2 := dpts_all fun x hx => by
      obtain ⟨r, hr, rfl⟩ := List.mem_map.mp hx
      have := (bd_r hn hl r.2 (h r hr).2).2.2
      simp [dBP, dpt, dpts]; omega
    omega
  · simp only [dsz]
    have h1 : dszs (ps.map dBP) ≤ (ps.map dBP).length * 12000 := dszs_all fun x hx => by
      obtain ⟨r, hr, rfl⟩ := List.mem_map.mp hx
      have h1 := (bd_r hn hl r.2 (h r hr).2).2.1
      have h2 := sz_le r.2 (h r hr).2
      have h3 : 3 ^ (k + 1) ≤ 3 ^ 7 := Nat.pow_le_pow_right (by decide) (by omega)
      have h4 : (3 : Nat) ^ 7 = 2187 := by decide
      simp [dBP, dsz, dszs]; omega
    rw [List.length_map] at h1
    have h2 := Nat.mul_le_mul_right 12000 hps
    omega
end DL

set_option Elab.async false
set_option linter.all false
set_option maxRecDepth 100000
/-! K40S: what unfolded, its helpers and the law's own defs ask and tell -/
namespace DL
open PySem NdefX
abbrev laQ : Str := "spliced.<locals>.<lambda>"
mutual
/-- how many ends -/
def Bd.en : Bd → Nat
  | .fin => 1
  | .stop => 0
  | .tell _ b => b.en
  | .call _ b => b.en
  | .draw r => r.en
def Rw.en : Rw → Nat
  | .nil => 0
  | .cons _ b r => b.en + r.en
end
mutual
/-- all names are plain -/
def Bd.so : Bd → Bool
  | .fin => true
  | .stop => true
  | .tell s b => PyData.strOk s && b.so
  | .call s b => PyData.strOk s && b.so
  | .draw r => r.so
def Rw.so : Rw → Bool
  | .nil => true
  | .cons _ b r => b.so && r.so
end
mutual
def Bd.map (g : Bd → Bd) : Bd → Bd
  | .fin => g .fin
  | .stop => g .stop
  | .tell s b => g (.tell s (b.map g))
  | .call s b => g (.call s (b.map g))
  | .draw r => .draw (r.map g)
def Rw.map (g : Bd → Bd) : Rw → Rw
  | .nil => .nil
  | .cons q b r => .cons q (b.map g) (r.map g)
end
/-- ends go on with h -/
def gE (h : Bd) : Bd → Bd
  | .fin => h
  | b => b
/-- calls of q become its body -/
def gU (q : Str) (inner : Bd) : Bd → Bd
  | .call s x => if s = q then inner.map (gE x) else .call s x
  | b => b
def pU (q : Str) (inner : Bd) : Bd → Bool
  | .call s x => if s = q then decide (inner.sz - inner.en + inner.en * x.sz ≤ 4000) else true
  | _ => true
abbrev Uf (q : Str) (inner b : Bd) : Bd := b.map (gU q inner)
def S_commands : FD := fn1 fun x _ M Q => ∃ b : Bd, x = b.d ∧ b.sz ≤ 4000000 ∧ Q (.int b.sz) M
def S_ends_of : FD := fn1 fun x _ M Q => ∃ b : Bd, x = b.d ∧ b.sz ≤ 4000000 ∧ Q (.int b.en) M
def S_need : FD := fn1 fun x E M Q => ∃ n : Int, x = .int n ∧ (n ≤ 4000 → Q .non M) ∧ (4000 < n → E "LimitError" [] M)
def C_spliced_lambda (wd : List (Option D)) : FD := fn1 fun x _ M Q => ∃ (h b : Bd), wd = [some h.d] ∧ x = b.d ∧ b.so = true ∧ Q (gE h b).d M
def S_spliced (P_spliced : Addr) : FD := fn2 fun x y _ M Q => ∃ (b h : Bd), x = b.d ∧ y = h.d ∧ b.so = true ∧ h.so = true ∧ b.sz ≤ 10000 ∧ TabOk P_spliced laQ M ∧ ∀ M', RlT P_spliced laQ M M' → Q (b.map (gE h)).d M'
def C_unfolded_change (P_spliced : Addr) (wd : List (Option D)) : FD := fn1 fun x E M Q => ∃ (inner b : Bd) (q : Str), wd = [some inner.d, some (.str q), some (.int inner.sz), some (.int inner.en)] ∧ x = b.d ∧ b.so = true ∧ inner.so = true ∧ b.sz ≤ 4000000 ∧ inner.sz ≤ 10000 ∧ TabOk P_spliced laQ M ∧
  (pU q inner b = true → ∀ M', RlT P_spliced laQ M M' → Q (gU q inner b).d M') ∧ (pU q inner b = false → ∀ M', E "LimitError" [] M')
def S_unfolded (P_spliced P_unfolded : Addr) : FD := fn3 fun x y z E M Q => ∃ (ps : List (Str × Bd)) (p q : Str) (bp bq : Bd), x = .tup (ps.map dBP) ∧ y = .str p ∧ z = .str q ∧ (ps.map Prod.fst).Nodup ∧ ps.length ≤ 100 ∧ lkB ps p = some bp ∧ lkB ps q = some bq ∧ bp.so = true ∧ bq.so = true ∧ bp.sz ≤ 400 ∧ bq.sz ≤ 400 ∧
  M P_spliced = some (.tab []) ∧ M P_unfolded = some (.tab []) ∧ P_spliced ≠ P_unfolded ∧
  ((Uf q bq bp).sz ≤ 4000 → ∀ M', KeepNT M M' → Q (.tup (ps.map fun r => dBP (r.1, if r.1 = p then Uf q bq bp else r.2))) M') ∧ (4000 < (Uf q bq bp).sz → ∀ M', E "LimitError" [] M')
def S_law_size (n : Nat) : FD := fn1 fun x _ M Q => ∃ b : Bd, x = b.d ∧ b.dp < n ∧ b.sz ≤ 10000 ∧ Q (.int b.sz) M
def S_law_ends (n : Nat) : FD := fn1 fun x _ M Q => ∃ b : Bd, x = b.d ∧ b.dp < n ∧ b.sz ≤ 10000 ∧ Q (.int b.en) M
def S_law_put (n : Nat) : FD := fn2 fun x y _ M Q => ∃ b h : Bd, x = b.d ∧ y = h.d ∧ b.dp < n ∧ n ≤ 20 ∧ b.so = true ∧ b.sz ≤ 10000 ∧ Q (b.map (gE h)).d M
def S_law_unfolded (n : Nat) : FD := fn3 fun x y z _ M Q => ∃ (b inner : Bd) (q : Str), x = b.d ∧ y = .str q ∧ z = inner.d ∧ b.dp < n ∧ inner.dp < 20 ∧ inner.so = true ∧ b.sz ≤ 10000 ∧ inner.sz ≤ 10000 ∧ Q (Uf q inner b).d M
def S_law_count (n : Nat) : FD := fn4 fun x y z u _ M Q => ∃ (b inner : Bd) (q : Str), x = b.d ∧ y = .str q ∧ z = .int inner.sz ∧ u = .int inner.en ∧ b.dp < n ∧ b.sz ≤ 10000 ∧ inner.sz ≤ 10000 ∧ Q (.int (Uf q inner b).sz) M
def S_law_large : FD := fn3 fun c names letters _ M Q => ∃ a b pn pl, ∃ (n0 n1 : Str) (ns : List Str) (l0 l1 : Str) (ls : List Str), c = .ref a ∧ CSt M a b ∧ names = .ref pn ∧ pn ≠ a ∧ M pn = some (.lst ((n0 :: n1 :: ns).map .str)) ∧ letters = .ref pl ∧ pl ≠ a ∧ M pl = some (.lst ((l0 :: l1 :: ls).map .str)) ∧
  ∀ (ps : List (Str × Bd)) (b0 b1 : Bd) o, ps.Perm [(n0, b0), (n1, b1)] → b0.wl [n1] [l1] 16 → b1.wl [] [l0] 2 → b0.sz ≤ 20 → b1.sz ≤ 20 → ((∀ s ∈ [n1, l0, l1], nmOk s) → rB b0.d = true ∧ rB b1.d = true) → CO b o → Q (.tup (ps.map dBP)) (M.set a o)
abbrev S_law2 (P1 P2 : Addr) : FD := lawST [P1, P2]
end DL

set_option Elab.async false
set_option linter.all false
set_option maxRecDepth 100000
set_option maxHeartbeats 4000000
/-! K40L: sizes and names of unfolded bodies -/
namespace DL
open PySem
mutual
theorem so_pl : ∀ b : Bd, b.so = true → plB b.d = true
  | .fin, _ => by decide +kernel
  | .stop, _ => by decide +kernel
  | .tell s b, h => by
    simp only [Bd.so, Bool.and_eq_true] at h
    have e : PyData.strOk "tell" = true := by decide +kernel
    simp [Bd.d, plB, plsB, e, h.1, so_pl b h.2]
  | .call s b, h => by
    simp only [Bd.so, Bool.and_eq_true] at h
    have e : PyData.strOk "call" = true := by decide +kernel
    simp [Bd.d, plB, plsB, e, h.1, so_pl b h.2]
  | .draw r, h => by
    simp only [Bd.so] at h
    have e : PyData.strOk "draw" = true := by decide +kernel
    simp [Bd.d, plB, plsB, e, rso_pl r h]
theorem rso_pl : ∀ r : Rw, r.so = true → plsB r.ds = true
  | .nil, _ => by simp [Rw.ds, plsB]
  | .cons q b r, h => by
    simp only [Rw.so, Bool.and_eq_true] at h
    simp [Rw.ds, plsB, plB, dF, so_pl b h.1, rso_pl r h.2]
end
mutual
theorem so_gE {h : Bd} (hh : h.so = true) : ∀ b : Bd, b.so = true → (b.map (gE h)).so = true
  | .fin, _ => by simp [Bd.map, gE, hh]
  | .stop, _ => by simp [Bd.map, gE, Bd.so]
  | .tell s b, k => by simp only [Bd.so, Bool.and_eq_true] at k; simp [Bd.map, gE, Bd.so, k.1, so_gE hh b k.2]
  | .call s b, k => by simp only [Bd.so, Bool.and_eq_true] at k; simp [Bd.map, gE, Bd.so, k.1, so_gE hh b k.2]
  | .draw r, k => by simp only [Bd.so] at k; simp [Bd.map, Bd.so, rso_gE hh r k]
theorem rso_gE {h : Bd} (hh : h.so = true) : ∀ r : Rw, r.so = true → (r.map (gE h)).so = true
  | .nil, _ => by simp [Rw.map, Rw.so]
  | .cons q b r, k => by simp only [Rw.so, Bool.and_eq_true] at k; simp [Rw.map, Rw.so, so_gE hh b k.1, rso_gE hh r k.2]
end
mutual
theorem evl_all (g : Bd → Bd) : ∀ b : Bd, b.evl (fun _ => true) g = some (b.map g)
  | .fin => by simp [Bd.evl, Bd.map]
  | .stop => by simp [Bd.evl, Bd.map]
  | .tell s b => by simp [Bd.evl, Bd.map, evl_all g b]
  | .call s b => by simp [Bd.evl, Bd.map, evl_all g b]
  | .draw r => by simp [Bd.evl, Bd.map, revl_all g r]
theorem revl_all (g : Bd → Bd) : ∀ r : Rw, r.evl (fun _ => true) g = some (r.map g)
  | .nil => by simp [Rw.evl, Rw.map]
  | .cons q b r => by simp [Rw.evl, Rw.map, evl_all g b, revl_all g r]
end
mutual
theorem wok_gE {h : Bd} (hh : h.so = true) : ∀ b : Bd, b.so = true → b.wok (fun b => b.so = true) (fun _ => true) (gE h)
  | .fin, _ => by simp [Bd.wok, Bd.so]
  | .stop, _ => by simp [Bd.wok, Bd.so]
  | .tell s b, k => by
    simp only [Bd.so, Bool.and_eq_true] at k
    simp only [Bd.wok]
    refine ⟨wok_gE hh b k.2, fun b' e => ?_⟩
    rw [evl_all, Option.some.injEq] at e
    subst e
    simp [Bd.so, k.1, so_gE hh b k.2]
  | .call s b, k => by
    simp only [Bd.so, Bool.and_eq_true] at k
    simp only [Bd.wok]
    refine ⟨wok_gE hh b k.2, fun b' e => ?_⟩
    rw [evl_all, Option.some.injEq] at e
    subst e
    simp [Bd.so, k.1, so_gE hh b k.2]
  | .draw r, k => by simp only [Bd.so] at k; simp only [Bd.wok]; exact rwok_gE hh r k
theorem rwok_gE {h : Bd} (hh : h.so = true) : ∀ r : Rw, r.so = true → r.wok (fun b => b.so = true) (fun _ => true) (gE h)
  | .nil, _ => by simp [Rw.wok]
  | .cons q b r, k => by simp only [Rw.so, Bool.and_eq_true] at k; simp only [Rw.wok]; exact ⟨wok_gE hh b k.1, rwok_gE hh r k.2⟩
end
/-! sizes -/
mutual
theorem en_le : ∀ b : Bd, b.en ≤ b.sz
  | .fin => by simp [Bd.en, Bd.sz]
  | .stop => by simp [Bd.en, Bd.sz]
  | .tell s b => by have := en_le b; simp [Bd.en, Bd.sz]; omega
  | .call s b => by have := en_le b; simp [Bd.en, Bd.sz]; omega
  | .draw r => by have := ren_le r; simp [Bd.en, Bd.sz]; omega
theorem ren_le : ∀ r : Rw, r.en ≤ r.sz
  | .nil => by simp [Rw.en, Rw.sz]
  | .cons q b r => by have := en_le b; have := ren_le r; simp [Rw.en, Rw.sz]; omega
end
mutual
theorem sz_gE (h : Bd) : ∀ b : Bd, (b.map (gE h)).sz + b.en = b.sz + b.en * h.sz
  | .fin => by simp [Bd.map, gE, Bd.en, Bd.sz]; omega
  | .stop => by simp [Bd.map, gE, Bd.en, Bd.sz]
  | .tell s b => by have := sz_gE h b; simp [Bd.map, gE, Bd.en, Bd.sz]; omega
  | .call s b => by have := sz_gE h b; simp [Bd.map, gE, Bd.en, Bd.sz]; omega
  | .draw r => by have := rsz_gE h r; simp [Bd.map, Bd.en, Bd.sz]; omega
theorem rsz_gE (h : Bd) : ∀ r : Rw, (r.map (gE h)).sz + r.en = r.sz + r.en * h.sz
  | .nil => by simp [Rw.map, Rw.en, Rw.sz]
  | .cons q b r => by
    have h1 := sz_gE h b
    have h2 := rsz_gE h r
    simp only [Rw.map, Rw.en, Rw.sz, Nat.add_mul]; omega
end
theorem sz_gE' (h b : Bd) : (b.map (gE h)).sz = b.sz - b.en + b.en * h.sz := by
  have h1 := sz_gE h b
  have h2 := en_le b
  omega
section
variable {q : Str} {inner : Bd}
mutual
/-- what does not fail is the unfolded body; its size -/
theorem evl_U : ∀ (b b' : Bd), b.evl (pU q inner) (gU q inner) = some b' → b' = Uf q inner b ∧ b'.sz ≤ 4000 * b.sz
  | .fin, b', e => by simp [Bd.evl, pU] at e; subst e; simp [Uf, Bd.map, gU, Bd.sz]
  | .stop, b', e => by simp [Bd.evl, pU] at e; subst e; simp [Uf, Bd.map, gU, Bd.sz]
  | .tell s b, b', e => by
    simp only [Bd.evl] at e
    split at e
    · rename_i b2 h2
      obtain ⟨h3, h4⟩ := evl_U b b2 h2
      simp [pU] at e
      subst e h3
      simp [Uf, Bd.map, gU, Bd.sz] at h4 ⊢; omega
    · cases e
  | .call s b, b', e => by
    simp only [Bd.evl] at e
    split at e
    · rename_i b2 h2
      obtain ⟨h3, h4⟩ := evl_U b b2 h2
      split at e
      · rename_i hp
        simp only [Option.some.injEq] at e
        subst e h3
        refine ⟨by simp [Uf, Bd.map], ?_⟩
        simp only [pU] at hp
        simp only [gU]
        split
        · rename_i hs
          rw [if_pos hs] at hp
          simp only [decide_eq_true_eq] at hp
          rw [sz_gE']
          simp only [Bd.sz]; omega
        · simp only [Bd.sz]; omega
      · cases e
    · cases e
  | .draw r, b', e => by
    simp only [Bd.evl] at e
    split at e
    · rename_i r2 h2
      obtain ⟨h3, h4⟩ := revl_U r r2 h2
      simp only [Option.some.injEq] at e
      subst e h3
      refine ⟨by simp [Uf, Bd.map], ?_⟩
      simp only [Bd.sz]; omega
    · cases e
theorem revl_U : ∀ (r r' : Rw), r.evl (pU q inner) (gU q inner) = some r' → r' = r.map (gU q inner) ∧ r'.sz ≤ 4000 * r.sz
  | .nil, r', e => by simp [Rw.evl] at e; subst e; simp [Rw.map, Rw.sz]
  | .cons x b r, r', e => by
    simp only [Rw.evl] at e
    split at e
    · rename_i b2 h2
      split at e
      · rename_i r2 h3
        simp only [Option.some.injEq] at e
        obtain ⟨a1, a2⟩ := evl_U b b2 h2
        obtain ⟨c1, c2⟩ := revl_U r r2 h3
        subst e a1 c1
        refine ⟨by simp [Rw.map], ?_⟩
        simp only [Rw.sz] at *; omega
      · cases e
    · cases e
end
mutual
/-- what fails is too large -/
theorem evl_n (hi : inner.sz ≤ 4000) : ∀ b : Bd, b.evl (pU q inner) (gU q inner) = none → 1 ≤ inner.en ∧ 4000 < (Uf q inner b).sz
  | .fin, e => by simp [Bd.evl, pU] at e
  | .stop, e => by simp [Bd.evl, pU] at e
  | .tell s b, e => by
    simp only [Bd.evl] at e
    split at e
    · simp [pU] at e
    · rename_i h2
      obtain ⟨h3, h4⟩ := evl_n hi b h2
      simp only [Uf, Bd.map, gU, Bd.sz] at h4 ⊢
      exact ⟨h3, by omega⟩
  | .call s b, e => by
    simp only [Bd.evl] at e
    split at e
    · rename_i b2 h2
      obtain ⟨h3, h4⟩ := evl_U b b2 h2
      split at e
      · cases e
      · rename_i hp
        simp only [pU] at hp
        subst h3
        simp only [Uf, Bd.map, gU] at hp ⊢
        split at hp
        · rename_i hs
          simp only [decide_eq_true_eq] at hp
          rw [if_pos hs, sz_gE']
          refine ⟨?_, by omega⟩
          cases h0 : inner.en with
          | zero => rw [h0] at hp; omega
          | succ n => omega
        · simp at hp
    · rename_i h2
      obtain ⟨h3, h4⟩ := evl_n hi b h2
      refine ⟨h3, ?_⟩
      simp only [Uf, Bd.map, gU] at h4 ⊢
      split
      · rw [sz_gE']
        have := Nat.le_mul_of_pos_left (Bd.map (gU q inner) b).sz h3
        omega
      · simp only [Bd.sz]; omega
  | .draw r, e => by
    simp only [Bd.evl] at e
    split at e
    · cases e
    · rename_i h2
      obtain ⟨h3, h4⟩ := revl_n hi r h2
      simp only [Uf, Bd.map, Bd.sz] at h4 ⊢
      exact ⟨h3, by omega⟩
theorem revl_n (hi : inner.sz ≤ 4000) : ∀ r : Rw, r.evl (pU q inner) (gU q inner) = none → 1 ≤ inner.en ∧ 4000 < (r.map (gU q inner)).sz
  | .nil, e => by simp [Rw.evl] at e
  | .cons x b r, e => by
    simp only [Rw.evl] at e
    split at e
    · split at e
      · cases e
      · rename_i h3
        obtain ⟨a1, a2⟩ := revl_n hi r h3
        simp only [Rw.map, Rw.sz]
        exact ⟨a1, by omega⟩
    · rename_i h2
      obtain ⟨a1, a2⟩ := evl_n hi b h2
      simp only [Uf] at a2
      simp only [Rw.map, Rw.sz]
      exact ⟨a1, by omega⟩
end
mutual
theorem so_U (hi : inner.so = true) : ∀ b : Bd, b.so = true → (Uf q inner b).so = true
  | .fin, _ => by simp [Uf, Bd.map, gU, Bd.so]
  | .stop, _ => by simp [Uf, Bd.map, gU, Bd.so]
  | .tell s b, k => by simp only [Bd.so, Bool.and_eq_true] at k; have := so_U hi b k.2; simp only [Uf, Bd.map, gU, Bd.so, k.1, Bool.true_and]; exact this
  | .call s b, k => by
    simp only [Bd.so, Bool.and_eq_true] at k
    have := so_U hi b k.2
    simp only [Uf, Bd.map, gU]
    split
    · exact so_gE this inner hi
    · simp only [Bd.so, k.1, Bool.true_and]; exact this
  | .draw r, k => by simp only [Bd.so] at k; simp only [Uf, Bd.map, Bd.so]; exact rso_U hi r k
theorem rso_U (hi : inner.so = true) : ∀ r : Rw, r.so = true → (r.map (gU q inner)).so = true
  | .nil, _ => by simp [Rw.map, Rw.so]
  | .cons x b r, k => by simp only [Rw.so, Bool.and_eq_true] at k; simp only [Rw.map, Rw.so, Bool.and_eq_true]; exact ⟨so_U hi b k.1, rso_U hi r k.2⟩
end
mutual
theorem wok_U (hi : inner.so = true) : ∀ b : Bd, b.so = true → b.sz ≤ 900 → b.wok (fun x => x.so = true ∧ x.sz ≤ 4000000) (pU q inner) (gU q inner)
  | .fin, _, _ => by simp [Bd.wok, Bd.so, Bd.sz]
  | .stop, _, _ => by simp [Bd.wok, Bd.so, Bd.sz]
  | .tell s b, k, hz => by
    simp only [Bd.so, Bool.and_eq_true] at k
    simp only [Bd.sz] at hz
    simp only [Bd.wok]
    refine ⟨wok_U hi b k.2 (by omega), fun b' e => ?_⟩
    obtain ⟨rfl, h2⟩ := evl_U b b' e
    simp only [Bd.so, k.1, so_U hi b k.2, Bd.sz]
    exact ⟨rfl, by omega⟩
  | .call s b, k, hz => by
    simp only [Bd.so, Bool.and_eq_true] at k
    simp only [Bd.sz] at hz
    simp only [Bd.wok]
    refine ⟨wok_U hi b k.2 (by omega), fun b' e => ?_⟩
    obtain ⟨rfl, h2⟩ := evl_U b b' e
    simp only [Bd.so, k.1, so_U hi b k.2, Bd.sz]
    exact ⟨rfl, by omega⟩
  | .draw r, k, hz => by
    simp only [Bd.so] at k
    simp only [Bd.sz] at hz
    simp only [Bd.wok]
    exact rwok_U hi r k (by omega)
theorem rwok_U (hi : inner.so = true) : ∀ r : Rw, r.so = true → r.sz ≤ 900 → r.wok (fun x => x.so = true ∧ x.sz ≤ 4000000) (pU q inner) (gU q inner)
  | .nil, _, _ => by simp [Rw.wok]
  | .cons x b r, k, hz => by
    simp only [Rw.so, Bool.and_eq_true] at k
    simp only [Rw.sz] at hz
    simp only [Rw.wok]
    exact ⟨wok_U hi b k.1 (by omega), rwok_U hi r k.2 (by omega)⟩
end
end
end DL

set_option Elab.async false
set_option linter.all false
set_option maxRecDepth 100000
set_option maxHeartbeats 4000000
/-! K40R: runs of unfolded programs -/
namespace DL
open PySem
theorem fs_map (g : Bd → Bd) : ∀ r : Rw, (r.map g).fs = r.fs
  | .nil => by simp [Rw.map, Rw.fs]
  | .cons q b r => by simp [Rw.map, Rw.fs, fs_map g r]
theorem drw_map (g : Bd → Bd) : ∀ (r : Rw) (L t : Int), (r.map g).drw L t = (r.drw L t).map (·.map g)
  | .nil, L, t => by simp [Rw.map, Rw.drw]
  | .cons q b r, L, t => by
    simp only [Rw.map, Rw.drw]
    split
    · rfl
    · exact drw_map g r _ _
theorem hd_map (g : Bd → Bd) : ∀ (r : Rw), (r.map g).hd? = (r.hd?).map (·.map g)
  | .nil => by simp [Rw.map, Rw.hd?]
  | .cons q b .nil => by simp [Rw.map, Rw.hd?]
  | .cons q b (.cons q' b' r) => by simp [Rw.map, Rw.hd?]
section
variable {q : Str} {inner : Bd}
/-- a body and how it stands in the unfolded program; what waits behind it and is put in there -/
inductive Hu (q : Str) (inner : Bd) : Bd → Bd → Option Bd → Prop
  | plain {b} : Hu q inner b b none
  | unf {b} : Hu q inner b (Uf q inner b) none
  | mrg {b} (x) : Hu q inner b (b.map (gE (Uf q inner x))) (some x)
inductive SR (q : Str) (inner : Bd) : List Bd → List Bd → Prop
  | nil : SR q inner [] []
  | cons {b b' k ws ws'} : Hu q inner b b' k → SR q inner ws ws' → SR q inner (b :: (k.toList ++ ws)) (b' :: ws')
theorem Hu.tell {s : Str} {b b' : Bd} {k : Option Bd} (h : Hu q inner (.tell s b) b' k) : ∃ b1, b' = .tell s b1 ∧ Hu q inner b b1 k := by
  cases h with
  | plain => exact ⟨b, rfl, .plain⟩
  | unf => exact ⟨Uf q inner b, by simp [Uf, Bd.map, gU], .unf⟩
  | mrg x => exact ⟨_, by simp only [Bd.map, gE], .mrg x⟩
theorem Hu.stop {b' : Bd} {k : Option Bd} (h : Hu q inner .stop b' k) : b' = .stop := by
  cases h with
  | plain => rfl
  | unf => simp [Uf, Bd.map, gU]
  | mrg x => simp [Bd.map, gE]
theorem Hu.fin {b' : Bd} {k : Option Bd} (h : Hu q inner .fin b' k) : (k = none ∧ b' = .fin) ∨ ∃ x, k = some x ∧ b' = Uf q inner x := by
  cases h with
  | plain => exact .inl ⟨rfl, rfl⟩
  | unf => exact .inl ⟨rfl, by simp [Uf, Bd.map, gU]⟩
  | mrg x => exact .inr ⟨x, rfl, by simp only [Bd.map, gE]⟩
theorem Hu.call {s : Str} {b b' : Bd} {k : Option Bd} (h : Hu q inner (.call s b) b' k) : (∃ b1, b' = .call s b1 ∧ Hu q inner b b1 k) ∨ (s = q ∧ k = none ∧ b' = inner.map (gE (Uf q inner b))) := by
  cases h with
  | plain => exact .inl ⟨b, rfl, .plain⟩
  | unf =>
    by_cases e : s = q
    · exact .inr ⟨e, rfl, by simp only [Uf, Bd.map, gU, e, if_pos]⟩
    · exact .inl ⟨Uf q inner b, by simp only [Uf, Bd.map, gU, e, if_false], .unf⟩
  | mrg x => exact .inl ⟨_, by simp only [Bd.map, gE], .mrg x⟩
theorem Hu.draw {r : Rw} {b' : Bd} {k : Option Bd} (h : Hu q inner (.draw r) b' k) : ∃ r', b' = .draw r' ∧ r'.fs = r.fs ∧ (∀ L t b, r.drw L t = some b → ∃ b1, r'.drw L t = some b1 ∧ Hu q inner b b1 k) ∧ ∀ b, r.hd? = some b → ∃ b1, r'.hd? = some b1 ∧ Hu q inner b b1 k := by
  cases h with
  | plain => exact ⟨r, rfl, rfl, fun L t b e => ⟨b, e, .plain⟩, fun b e => ⟨b, e, .plain⟩⟩
  | unf => exact ⟨r.map (gU q inner), by simp only [Uf, Bd.map], fs_map _ r, fun L t b e => ⟨Uf q inner b, by rw [drw_map, e]; rfl, .unf⟩, fun b e => ⟨Uf q inner b, by rw [hd_map, e]; rfl, .unf⟩⟩
  | mrg x => exact ⟨r.map (gE (Uf q inner x)), by simp only [Bd.map], fs_map _ r, fun L t b e => ⟨_, by rw [drw_map, e]; rfl, .mrg x⟩, fun b e => ⟨_, by rw [hd_map, e]; rfl, .mrg x⟩⟩
theorem sr_inv {b : Bd} {ws ws' : List Bd} (h : SR q inner (b :: ws) ws') : ∃ (b' : Bd) (k : Option Bd) (vs vs' : List Bd), Hu q inner b b' k ∧ SR q inner vs vs' ∧ ws = k.toList ++ vs ∧ ws' = b' :: vs' := by
  cases h with
  | cons h1 h2 => exact ⟨_, _, _, _, h1, h2, rfl, rfl⟩
theorem run_un {look look' : Str → Option Bd} {tp : List Int} {most : Int} (hq : look q = some inner) (hS : ∀ s d, look s = some d → look' s = some d ∨ look' s = some (Uf q inner d)) : ∀ (n : Nat) (ws ws' : List Bd) (w : List Str) (c c' : Int) (u m : Nat) (r : RR),
    SR q inner ws ws' → c' ≤ c → c ≤ most → n ≤ m → runB look tp most n ws w c u = some r → r.e ≠ "calls" → ∃ r', runB look' tp most m ws' w c' u = some r' ∧ r'.e = r.e ∧ r'.w = r.w ∧ r'.u = r.u ∧ r'.c ≤ r.c
  | 0, ws, ws', w, c, c', u, m, r, hs, hc, hm, hn, h, hne => by simp [runB] at h
  | n + 1, [], ws', w, c, c', u, m + 1, r, hs, hc, hm, hn, h, hne => by
    cases hs
    simp only [runB, Option.some.injEq] at h ⊢
    subst h
    exact ⟨_, rfl, rfl, rfl, rfl, hc⟩
  | n + 1, b :: ws, ws', w, c, c', u, m + 1, r, hs, hc, hm, hn, h, hne => by
    obtain ⟨b', k, vs, vs', h1, h2, rfl, rfl⟩ := sr_inv hs
    cases b with
    | fin =>
      simp only [runB] at h
      rcases h1.fin with ⟨rfl, rfl⟩ | ⟨x, rfl, rfl⟩
      · simp only [runB]
        exact run_un hq hS n vs vs' w c c' u m r h2 hc hm (by omega) h hne
      · exact run_un hq hS n (x :: vs) (Uf q inner x :: vs') w c c' u (m + 1) r (SR.cons (k := none) .unf h2) hc hm (by omega) h hne
    | stop =>
      have := h1.stop
      subst this
      simp only [runB, Option.some.injEq] at h ⊢
      subst h
      exact ⟨_, rfl, rfl, rfl, rfl, hc⟩
    | tell s b =>
      obtain ⟨b1, rfl, h3⟩ := h1.tell
      simp only [runB] at h ⊢
      exact run_un hq hS n _ _ _ c c' u m r (.cons h3 h2) hc hm (by omega) h hne
    | call s b =>
      simp only [runB] at h
      split at h
      · simp only [Option.some.injEq] at h
        subst h
        exact absurd rfl hne
      · rename_i hcm
        rcases h1.call with ⟨b1, rfl, h3⟩ | ⟨e, rfl, rfl⟩
        · simp only [runB]
          rw [if_neg (by omega)]
          cases hd : look s with
          | none => rw [hd] at h; cases h
          | some d =>
            rw [hd] at h
            rcases hS s d hd with e | e
            · rw [e]
              exact run_un hq hS n (d :: b :: (k.toList ++ vs)) (d :: b1 :: vs') w (c + 1) (c' + 1) u m r (SR.cons (k := none) .plain (.cons h3 h2)) (by omega) (by omega) (by omega) h hne
            · rw [e]
              exact run_un hq hS n (d :: b :: (k.toList ++ vs)) (Uf q inner d :: b1 :: vs') w (c + 1) (c' + 1) u m r (SR.cons (k := none) .unf (.cons h3 h2)) (by omega) (by omega) (by omega) h hne
        · rw [e, hq] at h
          exact run_un hq hS n (inner :: b :: vs) (inner.map (gE (Uf q inner b)) :: vs') w (c + 1) c' u (m + 1) r (SR.cons (.mrg b) h2) (by omega) (by omega) (by omega) h hne
    | draw r0 =>
      obtain ⟨r1, rfl, hfs, hdr, hhd⟩ := h1.draw
      simp only [runB, hfs] at h ⊢
      split at h
      · rename_i e1
        rw [if_pos e1]
        split at h
        · rename_i b hb
          obtain ⟨b1, e2, h3⟩ := hhd b hb
          rw [e2]
          exact run_un hq hS n _ _ w c c' u m r (.cons h3 h2) hc hm (by omega) h hne
        · cases h
      · rename_i e1
        rw [if_neg e1]
        split at h
        · rename_i ht
          simp only [Option.some.injEq] at h ⊢
          subst h
          exact ⟨_, rfl, rfl, rfl, rfl, hc⟩
        · rename_i t ht
          split at h
          · rename_i b hb
            obtain ⟨b1, e2, h3⟩ := hdr _ _ b hb
            rw [e2]
            exact run_un hq hS n _ _ w c c' _ m r (.cons h3 h2) hc hm (by omega) h hne
          · cases h
  | n + 1, _, _, _, _, _, _, 0, _, _, _, _, hn, _, _ => by omega
/-- calls begun are no more than may be -/
theorem run_c {look : Str → Option Bd} {tp : List Int} {most : Int} : ∀ (n : Nat) (ws : List Bd) (w : List Str) (c : Int) (u : Nat) (r : RR), c ≤ most → runB look tp most n ws w c u = some r → r.c ≤ most ∧ (r.e = "calls" → r.c = most)
  | 0, ws, w, c, u, r, hm, h => by simp [runB] at h
  | n + 1, [], w, c, u, r, hm, h => by
    simp only [runB, Option.some.injEq] at h
    subst h
    exact ⟨hm, fun h => absurd (show ("ended" : Str) = "calls" from h) (by decide +kernel)⟩
  | n + 1, .fin :: ws, w, c, u, r, hm, h => by simp only [runB] at h; exact run_c n ws w c u r hm h
  | n + 1, .stop :: ws, w, c, u, r, hm, h => by
    simp only [runB, Option.some.injEq] at h
    subst h
    exact ⟨hm, fun h => absurd (show ("stopped" : Str) = "calls" from h) (by decide +kernel)⟩
  | n + 1, .tell s b :: ws, w, c, u, r, hm, h => by simp only [runB] at h; exact run_c n _ _ c u r hm h
  | n + 1, .call s b :: ws, w, c, u, r, hm, h => by
    simp only [runB] at h
    split at h
    · rename_i e
      simp only [Option.some.injEq] at h
      subst h
      exact ⟨hm, fun _ => e⟩
    · split at h
      · exact run_c n _ _ _ u r (by omega) h
      · cases h
  | n + 1, .draw r0 :: ws, w, c, u, r, hm, h => by
    simp only [runB] at h
    split at h
    · split at h
      · exact run_c n _ _ c u r hm h
      · cases h
    · split at h
      · simp only [Option.some.injEq] at h
        subst h
        exact ⟨hm, fun h => absurd (show ("tape" : Str) = "calls" from h) (by decide +kernel)⟩
      · split at h
        · exact run_c n _ _ c _ r hm h
        · cases h
end
end DL

set_option Elab.async false
set_option linter.all false
set_option maxRecDepth 100000
/-! mirrors of the text's defs (printed by gen.py) -/
namespace DL
open PySem
abbrev g_MOST_COMMANDS : D := (.int 4000)
def CE_commands_1 : WE :=
  (eSub (eVar 4) (eC (.int 1)))
def WC_commands_1 : WT :=
  (tTru (eVar 2))
def WB_commands_1 : WS :=
  (sSeq (sAsg (ePop (eVar 2)) (gName 3)) (sSeq (sAug 1 ipAdd (eC (.int 1))) (sIf (tCmp cIn (eSub (eVar 3) (eC (.int 0))) (eTup [(eC (.str "tell")), (eC (.str "call"))])) (sExpr (eAppend (eVar 2) (eSub (eVar 3) (eC (.int 2))))) (sIf (tCmp cEq (eSub (eVar 3) (eC (.int 0))) (eC (.str "draw"))) (sExpr (eExtend (eVar 2) (eComp (iVal (eSub (eVar 3) (eC (.int 1)))) [4] (gName 4) tYes CE_commands_1))) sNil))))
def T_commands_1 : WS :=
  (sRet (eVar 1))
def B_commands : WS :=
  (sSeq (sAsg (eC (.int 0)) (gName 1)) (sSeq (sAsg (eLst [(eVar 0)]) (gName 2)) (sSeq (sWhile WC_commands_1 WB_commands_1) T_commands_1)))
def B_need : WS :=
  (sIf (tCmp cGt (eVar 0) (eC g_MOST_COMMANDS)) (sRaise "LimitError") sNil)
def CE_ends_of_1 : WE :=
  (eSub (eVar 4) (eC (.int 1)))
def WC_ends_of_1 : WT :=
  (tTru (eVar 2))
def WB_ends_of_1 : WS :=
  (sSeq (sAsg (ePop (eVar 2)) (gName 3)) (sIf (tCmp cEq (eSub (eVar 3) (eC (.int 0))) (eC (.str "end"))) (sAug 1 ipAdd (eC (.int 1))) (sIf (tCmp cIn (eSub (eVar 3) (eC (.int 0))) (eTup [(eC (.str "tell")), (eC (.str "call"))])) (sExpr (eAppend (eVar 2) (eSub (eVar 3) (eC (.int 2))))) (sIf (tCmp cEq (eSub (eVar 3) (eC (.int 0))) (eC (.str "draw"))) (sExpr (eExtend (eVar 2) (eComp (iVal (eSub (eVar 3) (eC (.int 1)))) [4] (gName 4) tYes CE_ends_of_1))) sNil))))
def T_ends_of_1 : WS :=
  (sRet (eVar 1))
def B_ends_of : WS :=
  (sSeq (sAsg (eC (.int 0)) (gName 1)) (sSeq (sAsg (eLst [(eVar 0)]) (gName 2)) (sSeq (sWhile WC_ends_of_1 WB_ends_of_1) T_ends_of_1)))
def LE_spliced : WE :=
  (eIf (tCmp cEqW (eVar 0) (eTup [(eC (.str "end"))])) (eVar 1) (eVar 0))
def B_spliced (P_spliced : Addr) (lb : Expr) : WS :=
  (sRet (eCallL P_spliced "spliced.<locals>.<lambda>" [1] lb S_changed C_spliced_lambda (eVar 0)))
def BN_unfolded_change (P_spliced : Addr) : WS :=
  (sSeq (sIf (tOr (tCmp cNe (eSub (eVar 0) (eC (.int 0))) (eC (.str "call"))) (tCmp cNe (eSub (eVar 0) (eC (.int 1))) (eVar 2))) (sRet (eVar 0)) sNil) (sSeq (sExpr (eCall S_need [(eBin opAdd (eBin opSub (eVar 3) (eVar 4)) (eBin opMul (eVar 4) (eCall S_commands [(eSub (eVar 0) (eC (.int 2)))])))])) (sRet (eCall (S_spliced P_spliced) [(eVar 1), (eSub (eVar 0) (eC (.int 2)))]))))
def B_unfolded (P_spliced P_unfolded : Addr) : WS :=
  (sSeq (sAsg (eDict (eVar 0)) (gName 4)) (sSeq (sAsg (eSub (eVar 4) (eVar 2)) (gName 5)) (sSeq (sAsg (eTup [(eCall S_commands [(eVar 5)]), (eCall S_ends_of [(eVar 5)])]) (gTup [(gName 7), (gName 8)])) (sNdef P_unfolded 3 "unfolded.<locals>.change" fun f F => (sSeq (sAsg (eCallO [5, 2, 7, 8] (fun wd => S_changed f (.d F) (C_unfolded_change P_spliced wd)) [(eSub (eVar 4) (eVar 1)), (eVar 3)]) (gName 6)) (sSeq (sExpr (eCall S_need [(eCall S_commands [(eVar 6)])])) (sRet (eTupOf (eComp (iVal (eVar 0)) [9, 10] (gTup [(gName 9), (gName 10)]) tYes (eTup [(eVar 9), (eIf (tCmp cEq (eVar 9) (eVar 1)) (eVar 6) (eVar 10))]))))))))))
def CE_law_size_1 (n : Nat) : WE :=
  (eCall (S_law_size n) [(eSub (eVar 1) (eC (.int 1)))])
def T_law_size_1 (n : Nat) : WS :=
  (sRet (eBin opAdd (eC (.int 1)) (eCall (S_law_size n) [(eSub (eVar 0) (eC (.int 2)))])))
def T_law_size_2 (n : Nat) : WS :=
  (sSeq (sIf (tCmp cEq (eSub (eVar 0) (eC (.int 0))) (eC (.str "draw"))) (sRet (eBin opAdd (eC (.int 1)) (eSum (eComp (iVal (eSub (eVar 0) (eC (.int 1)))) [1] (gName 1) tYes (CE_law_size_1 n))))) sNil) (T_law_size_1 n))
def B_law_size (n : Nat) : WS :=
  (sSeq (sIf (tCmp cIn (eSub (eVar 0) (eC (.int 0))) (eTup [(eC (.str "end")), (eC (.str "stop"))])) (sRet (eC (.int 1))) sNil) (T_law_size_2 n))
def CE_law_ends_1 (n : Nat) : WE :=
  (eCall (S_law_ends n) [(eSub (eVar 1) (eC (.int 1)))])
def T_law_ends_1 (n : Nat) : WS :=
  (sRet (eIf (tCmp cEq (eLen (eVar 0)) (eC (.int 1))) (eInt (eCmp cEq (eSub (eVar 0) (eC (.int 0))) (eC (.str "end")))) (eCall (S_law_ends n) [(eSub (eVar 0) (eC (.int 2)))])))
def B_law_ends (n : Nat) : WS :=
  (sSeq (sIf (tCmp cEq (eSub (eVar 0) (eC (.int 0))) (eC (.str "draw"))) (sRet (eSum (eComp (iVal (eSub (eVar 0) (eC (.int 1)))) [1] (gName 1) tYes (CE_law_ends_1 n)))) sNil) (T_law_ends_1 n))
def CE_law_put_1 (n : Nat) : WE :=
  (eTup [(eSub (eVar 2) (eC (.int 0))), (eCall (S_law_put n) [(eSub (eVar 2) (eC (.int 1))), (eVar 1)])])
def T_law_put_1 (n : Nat) : WS :=
  (sRet (eTup [(eSub (eVar 0) (eC (.int 0))), (eSub (eVar 0) (eC (.int 1))), (eCall (S_law_put n) [(eSub (eVar 0) (eC (.int 2))), (eVar 1)])]))
def T_law_put_2 (n : Nat) : WS :=
  (sSeq (sIf (tCmp cEq (eSub (eVar 0) (eC (.int 0))) (eC (.str "draw"))) (sRet (eTup [(eC (.str "draw")), (eTupOf (eComp (iVal (eSub (eVar 0) (eC (.int 1)))) [2] (gName 2) tYes (CE_law_put_1 n)))])) sNil) (T_law_put_1 n))
def T_law_put_3 (n : Nat) : WS :=
  (sSeq (sIf (tCmp cEq (eSub (eVar 0) (eC (.int 0))) (eC (.str "stop"))) (sRet (eVar 0)) sNil) (T_law_put_2 n))
def B_law_put (n : Nat) : WS :=
  (sSeq (sIf (tCmp cEq (eVar 0) (eTup [(eC (.str "end"))])) (sRet (eVar 1)) sNil) (T_law_put_3 n))
def CE_law_unfolded_1 (n : Nat) : WE :=
  (eTup [(eSub (eVar 4) (eC (.int 0))), (eCall (S_law_unfolded n) [(eSub (eVar 4) (eC (.int 1))), (eVar 1), (eVar 2)])])
def T_law_unfolded_1 (n : Nat) : WS :=
  (sRet (eTup [(eSub (eVar 0) (eC (.int 0))), (eSub (eVar 0) (eC (.int 1))), (eVar 3)]))
def T_law_unfolded_2 (n : Nat) : WS :=
  (sSeq (sAsg (eCall (S_law_unfolded n) [(eSub (eVar 0) (eC (.int 2))), (eVar 1), (eVar 2)]) (gName 3)) (sSeq (sIf (tAnd (tCmp cEq (eSub (eVar 0) (eC (.int 0))) (eC (.str "call"))) (tCmp cEq (eSub (eVar 0) (eC (.int 1))) (eVar 1))) (sRet (eCall (S_law_put 20) [(eVar 2), (eVar 3)])) sNil) (T_law_unfolded_1 n)))
def T_law_unfolded_3 (n : Nat) : WS :=
  (sSeq (sIf (tCmp cEq (eSub (eVar 0) (eC (.int 0))) (eC (.str "draw"))) (sRet (eTup [(eC (.str "draw")), (eTupOf (eComp (iVal (eSub (eVar 0) (eC (.int 1)))) [4] (gName 4) tYes (CE_law_unfolded_1 n)))])) sNil) (T_law_unfolded_2 n))
def B_law_unfolded (n : Nat) : WS :=
  (sSeq (sIf (tCmp cEq (eLen (eVar 0)) (eC (.int 1))) (sRet (eVar 0)) sNil) (T_law_unfolded_3 n))
def CE_law_count_1 (n : Nat) : WE :=
  (eCall (S_law_count n) [(eSub (eVar 5) (eC (.int 1))), (eVar 1), (eVar 2), (eVar 3)])
def T_law_count_1 (n : Nat) : WS :=
  (sRet (eBin opAdd (eC (.int 1)) (eVar 4)))
def T_law_count_2 (n : Nat) : WS :=
  (sSeq (sAsg (eCall (S_law_count n) [(eSub (eVar 0) (eC (.int 2))), (eVar 1), (eVar 2), (eVar 3)]) (gName 4)) (sSeq (sIf (tAnd (tCmp cEq (eSub (eVar 0) (eC (.int 0))) (eC (.str "call"))) (tCmp cEq (eSub (eVar 0) (eC (.int 1))) (eVar 1))) (sRet (eBin opAdd (eBin opSub (eVar 2) (eVar 3)) (eBin opMul (eVar 3) (eVar 4)))) sNil) (T_law_count_1 n)))
def T_law_count_3 (n : Nat) : WS :=
  (sSeq (sIf (tCmp cEq (eSub (eVar 0) (eC (.int 0))) (eC (.str "draw"))) (sRet (eBin opAdd (eC (.int 1)) (eSum (eComp (iVal (eSub (eVar 0) (eC (.int 1)))) [5] (gName 5) tYes (CE_law_count_1 n))))) sNil) (T_law_count_2 n))
def B_law_count (n : Nat) : WS :=
  (sSeq (sIf (tCmp cEq (eLen (eVar 0)) (eC (.int 1))) (sRet (eC (.int 1))) sNil) (T_law_count_3 n))
def CE_law_large_1 : WE :=
  (eTup [(eVar 7), (eTup [(eC (.str "end"))])])
def FB_law_large_1 : WS :=
  (sSeq (sAsg (eTup [(eC (.str "call")), (eSub (eVar 1) (eC (.int 1))), (eVar 5)]) (gName 5)) (sIf (tCmp cEq (eCall S_law_take5 [(eVar 0), (eC (.int 5))]) (eC (.int 0))) (sAsg (eTup [(eC (.str "tell")), (eSub (eVar 2) (eC (.int 1))), (eVar 5)]) (gName 5)) sNil))
def T_law_large_1 : WS :=
  (sRet (eTupOf (eCall S_law_shuffled5 [(eVar 0), (eLst [(eTup [(eSub (eVar 1) (eC (.int 0))), (eVar 5)]), (eTup [(eSub (eVar 1) (eC (.int 1))), (eVar 4)])])])))
def T_law_large_2 : WS :=
  (sSeq (sAsg (eTup [(eC (.str "end"))]) (gName 5)) (sSeq (sFor (iRange1 (eBin opAdd (eC (.int 3)) (eCall S_law_take5 [(eVar 0), (eC (.int 6))]))) (gName 6) FB_law_large_1) T_law_large_1))
def B_law_large : WS :=
  (sSeq (sAsg (eBin opAdd (eC (.int 2)) (eCall S_law_take5 [(eVar 0), (eC (.int 5))])) (gName 3)) (sSeq (sAsg (eTup [(eC (.str "draw")), (eTupOf (eComp (iVal (eCall S_law_rows5 [(eVar 0), (eVar 3)])) [7] (gName 7) tYes CE_law_large_1))]) (gName 4)) (sSeq (sIf (tCmp cEq (eCall S_law_take5 [(eVar 0), (eC (.int 2))]) (eC (.int 0))) (sAsg (eTup [(eC (.str "tell")), (eSub (eVar 2) (eC (.int 0))), (eVar 4)]) (gName 4)) sNil) T_law_large_2)))
def CE_law_1 (P_spliced P_unfolded : Addr) : WE :=
  (eTup [(eVar 13), (eIf (tCmp cEq (eVar 13) (eVar 16)) (eVar 6) (eSub (eVar 4) (eVar 13)))])
def CE_law_2 (P_spliced P_unfolded : Addr) : WE :=
  (eCall S_law_take5 [(eVar 1), (eC (.int 840))])
def T_law_1 (P_spliced P_unfolded : Addr) : WS :=
  (sIf (tCmp cGt (eSub (eVar 15) (eC (.int 2))) (eSub (eVar 14) (eC (.int 2)))) (sRet (eC (.bl false))) sNil)
def FB_law_1 (P_spliced P_unfolded : Addr) : WS :=
  (sSeq (sAsg (eTupOf (eComp (iRange1 (eCall S_law_take5 [(eVar 1), (eC (.int 30))])) [18] (gName 18) tYes (CE_law_2 P_spliced P_unfolded))) (gName 12)) (sSeq (sAsg (eSub (eVar 2) (eCall S_law_take5 [(eVar 1), (eC (.int 2))])) (gName 13)) (sSeq (sAsg (eCall S_run [(eVar 8), (eVar 13), (eVar 12), (eC (.int 60))]) (gName 14)) (sSeq (sAsg (eCall S_run [(eVar 11), (eVar 13), (eVar 12), (eC (.int 60))]) (gName 15)) (sSeq (sIf (tAnd (tCmp cNe (eSub (eVar 14) (eC (.int 0))) (eC (.str "calls"))) (tCmp cNe (eTup [(eSub (eVar 15) (eC (.int 0))), (eSub (eVar 15) (eC (.int 1))), (eSub (eVar 15) (eC (.int 3)))]) (eTup [(eSub (eVar 14) (eC (.int 0))), (eSub (eVar 14) (eC (.int 1))), (eSub (eVar 14) (eC (.int 3)))]))) (sRet (eC (.bl false))) sNil) (T_law_1 P_spliced P_unfolded))))))
def T_law_2 (P_spliced P_unfolded : Addr) : WS :=
  (sRet (eC (.bl true)))
def T_law_3 (P_spliced P_unfolded : Addr) : WS :=
  (sSeq (sFor (iRange1 (eC (.int 4))) (gName 7) (FB_law_1 P_spliced P_unfolded)) (T_law_2 P_spliced P_unfolded))
def T_law_4 (P_spliced P_unfolded : Addr) : WS :=
  (sSeq (sAsg (eCall (S_law_unfolded 20) [(eSub (eVar 4) (eVar 16)), (eVar 17), (eSub (eVar 4) (eVar 17))]) (gName 6)) (sSeq (sIf (tCmp cNe (eReprW (eVar 11)) (eReprW (eTupOf (eComp (iVal (eVar 8)) [13, 19] (gTup [(gName 13), (gName 19)]) tYes (CE_law_1 P_spliced P_unfolded))))) (sRet (eC (.bl false))) sNil) (T_law_3 P_spliced P_unfolded)))
def T_law_5 (P_spliced P_unfolded : Addr) : WS :=
  (sSeq (sAsg (eDict (eVar 8)) (gName 4)) (sSeq (sAsg (eTup [(eCall (S_law_size 20) [(eSub (eVar 4) (eVar 17))]), (eCall (S_law_ends 20) [(eSub (eVar 4) (eVar 17))])]) (gTup [gName 9, gName 10])) (sSeq (sAsg (eCall (S_law_count 20) [(eSub (eVar 4) (eVar 16)), (eVar 17), (eVar 9), (eVar 10)]) (gName 5)) (sSeq (sTryC 11 (S_unfolded P_spliced P_unfolded) [(eVar 8), (eVar 16), (eVar 17)] "LimitError" (sRet (eCmp cGt (eVar 5) (eC (.int 4000))))) (sSeq (sIf (tCmp cGt (eVar 5) (eC (.int 4000))) (sRet (eC (.bl false))) sNil) (T_law_4 P_spliced P_unfolded))))))
def B_law (P_spliced P_unfolded : Addr) : WS :=
  (sSeq (sAsg (eCall S_law_start5 [(eVar 0)]) (gName 1)) (sSeq (sAsg (eCall S_law_names5 [(eVar 1), (eBin opAdd (eC (.int 2)) (eCall S_law_take5 [(eVar 1), (eC (.int 3))]))]) (gName 2)) (sSeq (sAsg (eCall S_law_names5 [(eVar 1), (eC (.int 3))]) (gName 3)) (sSeq (sIf (tCmp cEq (eCall S_law_take5 [(eVar 1), (eC (.int 5))]) (eC (.int 0))) (sSeq (sAsg (eCall S_law_large [(eVar 1), (eVar 2), (eVar 3)]) (gName 8)) (sAsg (eTup [(eSub (eVar 2) (eC (.int 0))), (eSub (eVar 2) (eC (.int 1)))]) (gTup [(gName 16), (gName 17)]))) (sSeq (sAsg (eCall S_law_program5 [(eVar 1), (eVar 2), (eVar 3), (eBin opAdd (eC (.int 2)) (eCall S_law_take5 [(eVar 1), (eC (.int 4))]))]) (gName 8)) (sAsg (eTup [(eSub (eVar 2) (eCall S_law_take5 [(eVar 1), (eLen (eVar 2))])), (eSub (eVar 2) (eCall S_law_take5 [(eVar 1), (eLen (eVar 2))]))]) (gTup [(gName 16), (gName 17)])))) (T_law_5 P_spliced P_unfolded)))))
end DL

set_option Elab.async false
set_option linter.all false
set_option maxRecDepth 100000
set_option maxHeartbeats 4000000
/-! K40P: commands, ends, need, spliced, unfolded; the law's own defs -/
namespace DL
open PySem NdefX
theorem ob_need : ∀ E ds M Q, S_need E ds M Q → B_need E (endsL Q) (start 1 ds) M := by
  intro E ds M Q h
  obtain ⟨x, rfl, n, rfl, h1, h2⟩ := fn1_e h
  simp [B_need]
  split
  · exact h2 (by assumption)
  · exact ⟨M, .refl, h1 (by omega)⟩
def muB (L : List Bd) : Nat := (L.map Bd.sz).sum
theorem muB_rows {L : List Bd} : ∀ r : Rw, muB ((r.l.map fun x => x.2) ++ L) = r.sz + muB L
  | .nil => by simp [Rw.l, Rw.sz, muB]
  | .cons q b r => by
    have := muB_rows (L := L) r
    simp only [Rw.l, Rw.sz, List.map_cons, List.cons_append, muB] at this ⊢
    simp only [List.sum_cons]; omega
theorem len_muB : ∀ L : List Bd, L.length ≤ muB L
  | [] => by simp
  | b :: L => by
    have h1 := len_muB L; have h2 := sz_pos b
    unfold muB at h1 ⊢
    simp only [List.length_cons, List.map_cons, List.sum_cons]; omega
def enB (L : List Bd) : Nat := (L.map Bd.en).sum
theorem enB_rows {L : List Bd} : ∀ r : Rw, enB ((r.l.map fun x => x.2).reverse ++ L) = r.en + enB L
  | .nil => by simp [Rw.l, Rw.en, enB]
  | .cons q b r => by
    have := enB_rows (L := b :: L) r
    simp [Rw.l, Rw.en, enB] at this ⊢
    omega
theorem muB_rev {L : List Bd} (r : Rw) : muB ((r.l.map fun x => x.2).reverse ++ L) = r.sz + muB L := by
  have := muB_rows (L := L) r
  simp [muB] at this ⊢
  omega
def CmI (M : Sto) (c : Addr) (b : Bd) (f : List Bd → Nat) (tot : Nat) (m : Nat) (e : Ev) (M' : Sto) : Prop := ∃ (L : List Bd) (k : Nat) (x3 x4 : Option D), e = [some b.d, some (.int k), some (.ref c), x3, x4] ∧ M' c = some (.lst (L.reverse.map Bd.d)) ∧ Le M M' ∧ k + f L = tot ∧ muB L ≤ 4000000 ∧ m = muB L
/-- the loop of commands: what waits is a list of bodies -/
theorem ob_commands : ∀ E ds M Q, S_commands E ds M Q → B_commands E (endsL Q) (start 5 ds) M := by
  intro E ds M Q h
  obtain ⟨x, rfl, b, rfl, hz, hq⟩ := fn1_e h
  have hsz : sizeLine = 16777216 := rfl
  simp [B_commands]
  refine go ?_
  simp
  intro c hc
  refine go ?_
  simp
  refine ⟨CmI M c b muB b.sz, ⟨_, [b], 0, none, none, rfl, by rw [set_same]; rfl, Le.refl.fresh hc, by simp [muB], by simp [muB]; omega, rfl⟩, ?_⟩
  rintro m env M' ⟨L, k, x3, x4, rfl, ec, hl, hk, hL4, rfl⟩
  simp [WC_commands_1, ec]
  cases L with
  | nil =>
    simp
    refine go ?_
    simp [T_commands_1]
    simp [muB] at hk
    exact ⟨M, hl, by rw [hk]; exact hq⟩
  | cons one L =>
    have hLl := len_muB L
    simp [WB_commands_1, ec]
    refine go ?_
    simp
    refine go ?_
    have ec1 : (M'.set c (.lst (L.map Bd.d).reverse)) c = some (.lst (L.map Bd.d).reverse) := set_same
    have hl1 : Le M (M'.set c (.lst (L.map Bd.d).reverse)) := hl.fresh hc
    generalize M'.set c (.lst (L.map Bd.d).reverse) = m1 at ec1 hl1 ⊢
    have e1 : ((k : Int) + 1) = ((k + 1 : Nat) : Int) := by omega
    have hmu : muB (one :: L) = one.sz + muB L := by simp [muB]
    rw [hmu] at hk hL4 ⊢
    rw [e1]
    cases one with
    | fin =>
      simp [Bd.d, eqF, flat]
      simp [Bd.sz] at hk hL4 ⊢
      exact ⟨muB L, by omega, L, k + 1, _, _, rfl, by rw [ec1]; simp, hl1, by omega, by omega, rfl⟩
    | stop =>
      simp [Bd.d, eqF, flat]
      simp [Bd.sz] at hk hL4 ⊢
      exact ⟨muB L, by omega, L, k + 1, _, _, rfl, by rw [ec1]; simp, hl1, by omega, by omega, rfl⟩
    | tell s b' =>
      simp [Bd.d, eqF, flat, ec1]
      simp [Bd.sz] at hk hL4 ⊢
      have hm2 : muB (b' :: L) = b'.sz + muB L := by simp [muB]
      refine ⟨by omega, muB (b' :: L), by omega, b' :: L, k + 1, _, _, rfl, by rw [set_same]; simp, hl1.fresh hc, by omega, by omega, rfl⟩
    | call s b' =>
      simp [Bd.d, eqF, flat, ec1]
      simp [Bd.sz] at hk hL4 ⊢
      have hm2 : muB (b' :: L) = b'.sz + muB L := by simp [muB]
      refine ⟨by omega, muB (b' :: L), by omega, b' :: L, k + 1, _, _, rfl, by rw [set_same]; simp, hl1.fresh hc, by omega, by omega, rfl⟩
    | draw r =>
      have hrl := l_le_sz r
      simp [Bd.d, eqF, flat, ec1]
      simp [Bd.sz] at hk hL4 ⊢
      intro q hq1
      have hqc : c ≠ q := ne_of ec1 hq1
      have hqM : M q = none := by
        cases hm : M q with
        | none => rfl
        | some u => rw [hl1 _ _ hm] at hq1; cases hq1
      refine comp_map sndD (fun _ => True) (fun _ _ _ => trivial) (fun _ _ => trivial) _ [] _ ?_ (by simp [rw_ds]; omega) set_same trivial ?_
      · intro x hx m T _ hT
        rw [rw_ds] at hx
        obtain ⟨y, hy, rfl⟩ := List.mem_map.mp hx
        simp [CE_commands_1, dRB]
        exact hT
      rw [set_set, set_ne hqc, ec1]
      have e2 : r.ds.map sndD = (r.l.map fun x => x.2).map Bd.d := by
        rw [rw_ds, List.map_map, List.map_map]; rfl
      simp [e2]
      refine ⟨by omega, muB ((r.l.map fun x => x.2).reverse ++ L), by rw [muB_rev]; omega, (r.l.map fun x => x.2).reverse ++ L, k + 1, _, _, rfl, by rw [set_same]; simp [Function.comp_def], (hl1.fresh hqM).fresh hc, by rw [muB_rev]; omega, by rw [muB_rev]; omega, rfl⟩
theorem ob_ends_of : ∀ E ds M Q, S_ends_of E ds M Q → B_ends_of E (endsL Q) (start 5 ds) M := by
  intro E ds M Q h
  obtain ⟨x, rfl, b, rfl, hz, hq⟩ := fn1_e h
  have hsz : sizeLine = 16777216 := rfl
  simp [B_ends_of]
  refine go ?_
  simp
  intro c hc
  refine go ?_
  simp
  refine ⟨CmI M c b enB b.en, ⟨_, [b], 0, none, none, rfl, by rw [set_same]; rfl, Le.refl.fresh hc, by simp [enB], by simp [muB]; omega, rfl⟩, ?_⟩
  rintro m env M' ⟨L, k, x3, x4, rfl, ec, hl, hk, hL4, rfl⟩
  simp [WC_ends_of_1, ec]
  cases L with
  | nil =>
    simp
    refine go ?_
    simp [T_ends_of_1]
    simp [enB] at hk
    exact ⟨M, hl, by rw [hk]; exact hq⟩
  | cons one L =>
    have hLl := len_muB L
    simp [WB_ends_of_1, ec]
    refine go ?_
    have ec1 : (M'.set c (.lst (L.map Bd.d).reverse)) c = some (.lst (L.map Bd.d).reverse) := set_same
    have hl1 : Le M (M'.set c (.lst (L.map Bd.d).reverse)) := hl.fresh hc
    generalize M'.set c (.lst (L.map Bd.d).reverse) = m1 at ec1 hl1 ⊢
    have e1 : ((k : Int) + 1) = ((k + 1 : Nat) : Int) := by omega
    have hmu : muB (one :: L) = one.sz + muB L := by simp [muB]
    have hen : enB (one :: L) = one.en + enB L := by simp [enB]
    rw [hmu] at hL4 ⊢
    rw [hen] at hk
    cases one with
    | fin =>
      simp [Bd.d, eqF, flat]
      rw [e1]
      simp [Bd.sz, Bd.en] at hk hL4 ⊢
      exact ⟨muB L, by omega, L, k + 1, _, _, rfl, by rw [ec1]; simp, hl1, by omega, by omega, rfl⟩
    | stop =>
      simp [Bd.d, eqF, flat]
      simp [Bd.sz, Bd.en] at hk hL4 ⊢
      exact ⟨muB L, by omega, L, k, _, _, rfl, by rw [ec1]; simp, hl1, by omega, by omega, rfl⟩
    | tell s b' =>
      simp [Bd.d, eqF, flat, ec1]
      simp [Bd.sz, Bd.en] at hk hL4 ⊢
      have hm2 : muB (b' :: L) = b'.sz + muB L := by simp [muB]
      have hm3 : enB (b' :: L) = b'.en + enB L := by simp [enB]
      refine ⟨by omega, muB (b' :: L), by omega, b' :: L, k, _, _, rfl, by rw [set_same]; simp, hl1.fresh hc, by omega, by omega, rfl⟩
    | call s b' =>
      simp [Bd.d, eqF, flat, ec1]
      simp [Bd.sz, Bd.en] at hk hL4 ⊢
      have hm2 : muB (b' :: L) = b'.sz + muB L := by simp [muB]
      have hm3 : enB (b' :: L) = b'.en + enB L := by simp [enB]
      refine ⟨by omega, muB (b' :: L), by omega, b' :: L, k, _, _, rfl, by rw [set_same]; simp, hl1.fresh hc, by omega, by omega, rfl⟩
    | draw r =>
      have hrl := l_le_sz r
      simp [Bd.d, eqF, flat, ec1]
      simp [Bd.sz, Bd.en] at hk hL4 ⊢
      intro q hq1
      have hqc : c ≠ q := ne_of ec1 hq1
      have hqM : M q = none := by
        cases hm : M q with
        | none => rfl
        | some u => rw [hl1 _ _ hm] at hq1; cases hq1
      refine comp_map sndD (fun _ => True) (fun _ _ _ => trivial) (fun _ _ => trivial) _ [] _ ?_ (by simp [rw_ds]; omega) set_same trivial ?_
      · intro x hx m T _ hT
        rw [rw_ds] at hx
        obtain ⟨y, hy, rfl⟩ := List.mem_map.mp hx
        simp [CE_ends_of_1, dRB]
        exact hT
      rw [set_set, set_ne hqc, ec1]
      have e2 : r.ds.map sndD = (r.l.map fun x => x.2).map Bd.d := by
        rw [rw_ds, List.map_map, List.map_map]; rfl
      simp [e2]
      refine ⟨by omega, muB ((r.l.map fun x => x.2).reverse ++ L), by rw [muB_rev]; omega, (r.l.map fun x => x.2).reverse ++ L, k, _, _, rfl, by rw [set_same]; simp [Function.comp_def], (hl1.fresh hqM).fresh hc, by rw [enB_rows]; omega, by rw [muB_rev]; omega, rfl⟩
end DL

set_option Elab.async false
set_option linter.all false
set_option maxRecDepth 100000
set_option maxHeartbeats 4000000
/-! K40N: the law's sizes, ends, puttings, unfoldings, counts -/
namespace DL
open PySem NdefX
theorem rsum (f : Bd → Nat) : ∀ r : Rw, (r.l.map fun x => ((f x.2 : Nat) : Int)).sum = (((r.l.map fun x => f x.2).sum : Nat) : Int)
  | .nil => rfl
  | .cons q b r => by
    have := rsum f r
    simp only [Rw.l, List.map_cons, List.sum_cons, this]; omega
theorem ren_sum : ∀ r : Rw, r.en = (r.l.map fun x => x.2.en).sum
  | .nil => by simp [Rw.en, Rw.l]
  | .cons q b r => by simp [Rw.en, Rw.l, ren_sum r]
theorem mem_szl : ∀ {r : Rw} {x : (Int × Int) × Bd}, x ∈ r.l → x.2.sz ≤ r.sz
  | .nil, x, h => by simp [Rw.l] at h
  | .cons q b r, x, h => by
    simp only [Rw.l, List.mem_cons] at h
    simp only [Rw.sz]
    rcases h with rfl | h
    · exact Nat.le_add_right ..
    · have := mem_szl h; omega
theorem mem_so : ∀ {r : Rw} {x : (Int × Int) × Bd}, r.so = true → x ∈ r.l → x.2.so = true
  | .nil, x, _, h => by simp [Rw.l] at h
  | .cons q b r, x, hs, h => by
    simp only [Rw.l, List.mem_cons] at h
    simp only [Rw.so, Bool.and_eq_true] at hs
    rcases h with rfl | h
    · exact hs.1
    · exact mem_so hs.2 h
theorem map_lr (g : Bd → Bd) : ∀ r : Rw, (r.map g).l = r.l.map fun x => (x.1, x.2.map g)
  | .nil => by simp [Rw.map, Rw.l]
  | .cons q b r => by simp [Rw.map, Rw.l, map_lr g r]
theorem no_law_size : ∀ E ds M Q, ¬ S_law_size 0 E ds M Q := by
  intro E ds M Q h
  obtain ⟨x, rfl, b, rfl, hb, _⟩ := fn1_e h
  omega
theorem no_law_ends : ∀ E ds M Q, ¬ S_law_ends 0 E ds M Q := by
  intro E ds M Q h
  obtain ⟨x, rfl, b, rfl, hb, _⟩ := fn1_e h
  omega
theorem no_law_put : ∀ E ds M Q, ¬ S_law_put 0 E ds M Q := by
  intro E ds M Q h
  obtain ⟨x, y, rfl, b, h, rfl, rfl, hb, _⟩ := fn2_e h
  omega
theorem no_law_unfolded : ∀ E ds M Q, ¬ S_law_unfolded 0 E ds M Q := by
  intro E ds M Q h
  obtain ⟨x, y, z, rfl, b, inner, q, rfl, rfl, rfl, hb, _⟩ := fn3_e h
  omega
theorem no_law_count : ∀ E ds M Q, ¬ S_law_count 0 E ds M Q := by
  intro E ds M Q h
  obtain ⟨x, y, z, u, rfl, b, inner, q, rfl, rfl, rfl, rfl, hb, _⟩ := fn4_e h
  omega
theorem ob_law_size (n : Nat) : ∀ E ds M Q, S_law_size (n + 1) E ds M Q → B_law_size n E (endsL Q) (start 2 ds) M := by
  intro E ds M Q h
  obtain ⟨x, rfl, b, rfl, hb, hz, hq⟩ := fn1_e h
  have hsz : sizeLine = 16777216 := rfl
  simp [B_law_size]
  cases b with
  | fin => simp [Bd.d, eqF, flat]; exact ⟨M, .refl, by simpa [Bd.sz] using hq⟩
  | stop => simp [Bd.d, eqF, flat]; exact ⟨M, .refl, by simpa [Bd.sz] using hq⟩
  | tell s b' =>
    simp [Bd.d, eqF, flat]
    refine go ?_
    simp [T_law_size_2]
    refine go ?_
    simp [T_law_size_1]
    simp only [Bd.sz, Bd.dp] at hz hb hq
    refine ⟨b', rfl, by omega, by omega, ?_⟩
    simp
    exact ⟨M, .refl, by have e : (1 : Int) + b'.sz = ((b'.sz + 1 : Nat) : Int) := by omega
                        rw [e]; exact hq⟩
  | call s b' =>
    simp [Bd.d, eqF, flat]
    refine go ?_
    simp [T_law_size_2]
    refine go ?_
    simp [T_law_size_1]
    simp only [Bd.sz, Bd.dp] at hz hb hq
    refine ⟨b', rfl, by omega, by omega, ?_⟩
    simp
    exact ⟨M, .refl, by have e : (1 : Int) + b'.sz = ((b'.sz + 1 : Nat) : Int) := by omega
                        rw [e]; exact hq⟩
  | draw r =>
    have hrl := l_le_sz r
    simp only [Bd.sz, Bd.dp] at hz hb hq
    simp [Bd.d, eqF, flat]
    refine go ?_
    simp [T_law_size_2]
    intro p hp
    refine comp_ind (fun acc xs m' => ∃ dn rs : List ((Int × Int) × Bd), acc = dn.map (fun x => .int x.2.sz) ∧ xs = rs.map dRB ∧ dn ++ rs = r.l ∧ m' = M.set p (.lst acc)) ?_ ?_ _ [] _ ⟨[], r.l, rfl, rw_ds r, rfl, rfl⟩
    · rintro x xs acc m' ⟨dn, rs, rfl, hx, hd, rfl⟩
      obtain ⟨z, rs, rfl⟩ : ∃ q rs', rs = q :: rs' := by
        cases rs with
        | nil => simp at hx
        | cons q rs => exact ⟨q, rs, rfl⟩
      simp at hx
      obtain ⟨rfl, rfl⟩ := hx
      have hmem : z ∈ r.l := hd ▸ by simp
      have hdl : dn.length ≤ r.l.length := by rw [← hd]; simp
      have h1 := mem_dp hmem
      have h2 := mem_szl hmem
      refine ⟨trivial, by simp; omega, fun T hT => ?_⟩
      simp [CE_law_size_1, dRB]
      exact ⟨z.2, rfl, by omega, by omega, hT _ _ set_same ⟨dn ++ [z], rs, by simp, rfl, by simpa using hd, by rw [set_set]⟩⟩
    · rintro acc m' ⟨dn, rs, rfl, hx, hd, rfl⟩
      have : rs = [] := by simpa using hx.symm
      subst this
      rw [List.append_nil] at hd
      subst hd
      refine ⟨trivial, ?_⟩
      rw [set_same, lstO_lst, asInts_map r.l fun x => ((x.2.sz : Nat) : Int), onIs_some]
      refine ⟨M, Le.refl.fresh hp, ?_⟩
      rw [rsum, ← rw_sz]
      have e : (1 : Int) + r.sz = ((r.sz + 1 : Nat) : Int) := by omega
      rw [e]; exact hq
theorem ob_law_ends (n : Nat) : ∀ E ds M Q, S_law_ends (n + 1) E ds M Q → B_law_ends n E (endsL Q) (start 2 ds) M := by
  intro E ds M Q h
  obtain ⟨x, rfl, b, rfl, hb, hz, hq⟩ := fn1_e h
  have hsz : sizeLine = 16777216 := rfl
  simp [B_law_ends]
  cases b with
  | fin => simp [Bd.d]; refine go ?_; simp [T_law_ends_1]; exact ⟨M, .refl, by simpa [Bd.en] using hq⟩
  | stop => simp [Bd.d]; refine go ?_; simp [T_law_ends_1]; exact ⟨M, .refl, by simpa [Bd.en] using hq⟩
  | tell s b' =>
    simp [Bd.d]
    refine go ?_
    simp [T_law_ends_1]
    simp only [Bd.sz, Bd.dp, Bd.en] at hz hb hq
    exact ⟨b', rfl, by omega, by omega, M, .refl, hq⟩
  | call s b' =>
    simp [Bd.d]
    refine go ?_
    simp [T_law_ends_1]
    simp only [Bd.sz, Bd.dp, Bd.en] at hz hb hq
    exact ⟨b', rfl, by omega, by omega, M, .refl, hq⟩
  | draw r =>
    have hrl := l_le_sz r
    simp only [Bd.sz, Bd.dp, Bd.en] at hz hb hq
    simp [Bd.d]
    intro p hp
    refine comp_ind (fun acc xs m' => ∃ dn rs : List ((Int × Int) × Bd), acc = dn.map (fun x => .int x.2.en) ∧ xs = rs.map dRB ∧ dn ++ rs = r.l ∧ m' = M.set p (.lst acc)) ?_ ?_ _ [] _ ⟨[], r.l, rfl, rw_ds r, rfl, rfl⟩
    · rintro x xs acc m' ⟨dn, rs, rfl, hx, hd, rfl⟩
      obtain ⟨z, rs, rfl⟩ : ∃ q rs', rs = q :: rs' := by
        cases rs with
        | nil => simp at hx
        | cons q rs => exact ⟨q, rs, rfl⟩
      simp at hx
      obtain ⟨rfl, rfl⟩ := hx
      have hmem : z ∈ r.l := hd ▸ by simp
      have hdl : dn.length ≤ r.l.length := by rw [← hd]; simp
      have h1 := mem_dp hmem
      have h2 := mem_szl hmem
      refine ⟨trivial, by simp; omega, fun T hT => ?_⟩
      simp [CE_law_ends_1, dRB]
      exact ⟨z.2, rfl, by omega, by omega, hT _ _ set_same ⟨dn ++ [z], rs, by simp, rfl, by simpa using hd, by rw [set_set]⟩⟩
    · rintro acc m' ⟨dn, rs, rfl, hx, hd, rfl⟩
      have : rs = [] := by simpa using hx.symm
      subst this
      rw [List.append_nil] at hd
      subst hd
      refine ⟨trivial, ?_⟩
      rw [set_same, lstO_lst, asInts_map r.l fun x => ((x.2.en : Nat) : Int), onIs_some]
      refine ⟨M, Le.refl.fresh hp, ?_⟩
      rw [rsum, ← ren_sum]
      exact hq
mutual
theorem dpt_dp : ∀ b : Bd, dpt b.d ≤ 3 * b.dp + 1
  | .fin => by simp [Bd.d, dpt, dpts]
  | .stop => by simp [Bd.d, dpt, dpts]
  | .tell s b => by have := dpt_dp b; simp [Bd.d, dpt, dpts, Bd.dp]; omega
  | .call s b => by have := dpt_dp b; simp [Bd.d, dpt, dpts, Bd.dp]; omega
  | .draw r => by have := rdpt_dp r; simp [Bd.d, dpt, dpts, Bd.dp]; omega
theorem rdpt_dp : ∀ r : Rw, dpts r.ds ≤ 3 * r.dp + 2
  | .nil => by simp [Rw.ds, dpts]
  | .cons q b r => by
    have h1 := dpt_dp b
    have h2 := rdpt_dp r
    simp [Rw.ds, dpts, dpt, dF, Rw.dp]; omega
end
theorem bd_end {b : Bd} : b.d = dEnd ↔ b = .fin := by
  constructor
  · intro h
    cases b <;> simp [Bd.d] at h <;> first | rfl | (exact absurd h (by decide +kernel)) | skip
  · rintro rfl; simp [Bd.d]
theorem ob_law_put (n : Nat) : ∀ E ds M Q, S_law_put (n + 1) E ds M Q → B_law_put n E (endsL Q) (start 3 ds) M := by
  intro E ds M Q h
  obtain ⟨x, y, rfl, b, bh, rfl, rfl, hb, hn, hs, hz, hq⟩ := fn2_e h
  have hsz : sizeLine = 16777216 := rfl
  simp [B_law_put]
  refine cEq_pl (so_pl b hs) (by decide +kernel) (by have := dpt_dp b; omega) (by decide +kernel) ?_
  by_cases hf : b = .fin
  · rw [if_pos (by simpa using bd_end.mpr hf)]
    subst hf
    exact ⟨M, .refl, by simpa [Bd.map, gE] using hq⟩
  rw [if_neg (by simpa using fun z => hf (bd_end.mp z))]
  refine go ?_
  simp [T_law_put_3]
  cases b with
  | fin => exact absurd rfl hf
  | stop => simp [Bd.d]; exact ⟨M, .refl, by simpa [Bd.map, gE, Bd.d] using hq⟩
  | tell s b' =>
    simp [Bd.d]
    refine go ?_
    simp [T_law_put_2]
    refine go ?_
    simp [T_law_put_1]
    simp only [Bd.sz, Bd.dp, Bd.so, Bool.and_eq_true] at hz hb hs
    refine ⟨b', bh, rfl, rfl, by omega, by omega, hs.2, by omega, M, .refl, ?_⟩
    simpa [Bd.map, gE, Bd.d] using hq
  | call s b' =>
    simp [Bd.d]
    refine go ?_
    simp [T_law_put_2]
    refine go ?_
    simp [T_law_put_1]
    simp only [Bd.sz, Bd.dp, Bd.so, Bool.and_eq_true] at hz hb hs
    refine ⟨b', bh, rfl, rfl, by omega, by omega, hs.2, by omega, M, .refl, ?_⟩
    simpa [Bd.map, gE, Bd.d] using hq
  | draw r =>
    have hrl := l_le_sz r
    simp only [Bd.sz, Bd.dp, Bd.so] at hz hb hs
    simp [Bd.d]
    refine go ?_
    simp [T_law_put_2]
    intro p hp
    refine comp_ind (fun acc xs m' => ∃ dn rs : List ((Int × Int) × Bd), acc = dn.map (fun x => dRB (x.1, x.2.map (gE bh))) ∧ xs = rs.map dRB ∧ dn ++ rs = r.l ∧ m' = M.set p (.lst acc)) ?_ ?_ _ [] _ ⟨[], r.l, rfl, rw_ds r, rfl, rfl⟩
    · rintro x xs acc m' ⟨dn, rs, rfl, hx, hd, rfl⟩
      obtain ⟨z, rs, rfl⟩ : ∃ q rs', rs = q :: rs' := by
        cases rs with
        | nil => simp at hx
        | cons q rs => exact ⟨q, rs, rfl⟩
      simp at hx
      obtain ⟨rfl, rfl⟩ := hx
      have hmem : z ∈ r.l := hd ▸ by simp
      have hdl : dn.length ≤ r.l.length := by rw [← hd]; simp
      have h1 := mem_dp hmem
      have h2 := mem_szl hmem
      refine ⟨trivial, by simp; omega, fun T hT => ?_⟩
      simp [CE_law_put_1, dRB]
      refine ⟨z.2, bh, rfl, rfl, by omega, by omega, mem_so hs hmem, by omega, ?_⟩
      exact hT _ _ set_same ⟨dn ++ [z], rs, by simp [dRB], rfl, by simpa using hd, by rw [set_set]⟩
    · rintro acc m' ⟨dn, rs, rfl, hx, hd, rfl⟩
      have : rs = [] := by simpa using hx.symm
      subst this
      rw [List.append_nil] at hd
      subst hd
      refine ⟨trivial, ?_⟩
      rw [set_same]
      simp
      refine ⟨M, Le.refl.fresh hp, ?_⟩
      simpa [Bd.map, Bd.d, rw_ds, map_lr, Function.comp_def] using hq
theorem ob_law_unfolded (n : Nat) : ∀ E ds M Q, S_law_unfolded (n + 1) E ds M Q → B_law_unfolded n E (endsL Q) (start 5 ds) M := by
  intro E ds M Q h
  obtain ⟨x, y, z, rfl, b, inner, q, rfl, rfl, rfl, hb, hi, his, hz, hiz, hq⟩ := fn3_e h
  have hsz : sizeLine = 16777216 := rfl
  simp [B_law_unfolded]
  cases b with
  | fin => simp [Bd.d]; exact ⟨M, .refl, by simpa [Uf, Bd.map, gU, Bd.d] using hq⟩
  | stop => simp [Bd.d]; exact ⟨M, .refl, by simpa [Uf, Bd.map, gU, Bd.d] using hq⟩
  | tell s b' =>
    simp [Bd.d]
    refine go ?_
    simp [T_law_unfolded_3]
    refine go ?_
    simp [T_law_unfolded_2]
    simp only [Bd.sz, Bd.dp] at hz hb
    refine ⟨b', inner, q, rfl, rfl, rfl, by omega, hi, his, by omega, hiz, go ?_⟩
    simp
    refine go ?_
    simp [T_law_unfolded_1]
    refine ⟨M, .refl, ?_⟩
    simpa [Uf, Bd.map, gU, Bd.d] using hq
  | call s b' =>
    simp [Bd.d]
    refine go ?_
    simp [T_law_unfolded_3]
    refine go ?_
    simp [T_law_unfolded_2]
    simp only [Bd.sz, Bd.dp] at hz hb
    refine ⟨b', inner, q, rfl, rfl, rfl, by omega, hi, his, by omega, hiz, go ?_⟩
    simp
    by_cases e : s = q
    · simp [e]
      refine ⟨inner, Uf q inner b', rfl, rfl, hi, by omega, his, hiz, M, .refl, ?_⟩
      simpa [Uf, Bd.map, gU, e] using hq
    · simp [e]
      refine go ?_
      simp [T_law_unfolded_1]
      refine ⟨M, .refl, ?_⟩
      simpa [Uf, Bd.map, gU, e, Bd.d] using hq
  | draw r =>
    have hrl := l_le_sz r
    simp only [Bd.sz, Bd.dp] at hz hb
    simp [Bd.d]
    refine go ?_
    simp [T_law_unfolded_3]
    intro p hp
    refine comp_ind (fun acc xs m' => ∃ dn rs : List ((Int × Int) × Bd), acc = dn.map (fun x => dRB (x.1, Uf q inner x.2)) ∧ xs = rs.map dRB ∧ dn ++ rs = r.l ∧ m' = M.set p (.lst acc)) ?_ ?_ _ [] _ ⟨[], r.l, rfl, rw_ds r, rfl, rfl⟩
    · rintro x xs acc m' ⟨dn, rs, rfl, hx, hd, rfl⟩
      obtain ⟨z, rs, rfl⟩ : ∃ q rs', rs = q :: rs' := by
        cases rs with
        | nil => simp at hx
        | cons q rs => exact ⟨q, rs, rfl⟩
      simp at hx
      obtain ⟨rfl, rfl⟩ := hx
      have hmem : z ∈ r.l := hd ▸ by simp
      have hdl : dn.length ≤ r.l.length := by rw [← hd]; simp
      have h1 := mem_dp hmem
      have h2 := mem_szl hmem
      refine ⟨trivial, by simp; omega, fun T hT => ?_⟩
      simp [CE_law_unfolded_1, dRB]
      refine ⟨z.2, inner, q, rfl, rfl, rfl, by omega, hi, his, by omega, hiz, ?_⟩
      exact hT _ _ set_same ⟨dn ++ [z], rs, by simp [dRB], rfl, by simpa using hd, by rw [set_set]⟩
    · rintro acc m' ⟨dn, rs, rfl, hx, hd, rfl⟩
      have : rs = [] := by simpa using hx.symm
      subst this
      rw [List.append_nil] at hd
      subst hd
      refine ⟨trivial, ?_⟩
      rw [set_same]
      simp
      refine ⟨M, Le.refl.fresh hp, ?_⟩
      simpa [Uf, Bd.map, Bd.d, rw_ds, map_lr, Function.comp_def] using hq
theorem ob_law_count (n : Nat) : ∀ E ds M Q, S_law_count (n + 1) E ds M Q → B_law_count n E (endsL Q) (start 6 ds) M := by
  intro E ds M Q h
  obtain ⟨x, y, z, u, rfl, b, inner, q, rfl, rfl, rfl, rfl, hb, hz, hiz, hq⟩ := fn4_e h
  have hsz : sizeLine = 16777216 := rfl
  simp [B_law_count]
  cases b with
  | fin => simp [Bd.d]; exact ⟨M, .refl, by simpa [Uf, Bd.map, gU, Bd.sz] using hq⟩
  | stop => simp [Bd.d]; exact ⟨M, .refl, by simpa [Uf, Bd.map, gU, Bd.sz] using hq⟩
  | tell s b' =>
    simp [Bd.d]
    refine go ?_
    simp [T_law_count_3]
    refine go ?_
    simp [T_law_count_2]
    simp only [Bd.sz, Bd.dp] at hz hb
    refine ⟨b', inner, q, rfl, rfl, rfl, rfl, by omega, by omega, hiz, go ?_⟩
    simp
    refine go ?_
    simp [T_law_count_1]
    refine ⟨M, .refl, ?_⟩
    have e : (1 : Int) + (Uf q inner b').sz = (((Uf q inner b').sz + 1 : Nat) : Int) := by omega
    rw [e]
    simpa [Uf, Bd.map, gU, Bd.sz] using hq
  | call s b' =>
    simp [Bd.d]
    refine go ?_
    simp [T_law_count_3]
    refine go ?_
    simp [T_law_count_2]
    simp only [Bd.sz, Bd.dp] at hz hb
    refine ⟨b', inner, q, rfl, rfl, rfl, rfl, by omega, by omega, hiz, go ?_⟩
    simp
    by_cases e : s = q
    · simp [e]
      have hen := en_le inner
      refine ⟨mulOk_small' (by omega), M, .refl, ?_⟩
      have hv : ((inner.sz : Int) - inner.en + inner.en * (Uf q inner b').sz) = ((inner.sz - inner.en + inner.en * (Uf q inner b').sz : Nat) : Int) := by
        rw [Int.natCast_add, Int.natCast_mul, Int.natCast_sub hen]
      rw [hv, ← sz_gE']
      simpa [Uf, Bd.map, gU, e] using hq
    · simp [e]
      refine go ?_
      simp [T_law_count_1]
      refine ⟨M, .refl, ?_⟩
      have e' : (1 : Int) + (Uf q inner b').sz = (((Uf q inner b').sz + 1 : Nat) : Int) := by omega
      rw [e']
      simpa [Uf, Bd.map, gU, e, Bd.sz] using hq
  | draw r =>
    have hrl := l_le_sz r
    simp only [Bd.sz, Bd.dp] at hz hb
    simp [Bd.d]
    refine go ?_
    simp [T_law_count_3]
    intro p hp
    refine comp_ind (fun acc xs m' => ∃ dn rs : List ((Int × Int) × Bd), acc = dn.map (fun x => .int (Uf q inner x.2).sz) ∧ xs = rs.map dRB ∧ dn ++ rs = r.l ∧ m' = M.set p (.lst acc)) ?_ ?_ _ [] _ ⟨[], r.l, rfl, rw_ds r, rfl, rfl⟩
    · rintro x xs acc m' ⟨dn, rs, rfl, hx, hd, rfl⟩
      obtain ⟨z, rs, rfl⟩ : ∃ q rs', rs = q :: rs' := by
        cases rs with
        | nil => simp at hx
        | cons q rs => exact ⟨q, rs, rfl⟩
      simp at hx
      obtain ⟨rfl, rfl⟩ := hx
      have hmem : z ∈ r.l := hd ▸ by simp
      have hdl : dn.length ≤ r.l.length := by rw [← hd]; simp
      have h1 := mem_dp hmem
      have h2 := mem_szl hmem
      refine ⟨trivial, by simp; omega, fun T hT => ?_⟩
      simp [CE_law_count_1, dRB]
      refine ⟨z.2, inner, q, rfl, rfl, rfl, rfl, by omega, by omega, hiz, ?_⟩
      exact hT _ _ set_same ⟨dn ++ [z], rs, by simp, rfl, by simpa using hd, by rw [set_set]⟩
    · rintro acc m' ⟨dn, rs, rfl, hx, hd, rfl⟩
      have : rs = [] := by simpa using hx.symm
      subst this
      rw [List.append_nil] at hd
      subst hd
      refine ⟨trivial, ?_⟩
      rw [set_same, lstO_lst, asInts_map r.l fun x => (((Uf q inner x.2).sz : Nat) : Int), onIs_some]
      refine ⟨M, Le.refl.fresh hp, ?_⟩
      have e2 : (r.map (gU q inner)).sz = (r.l.map fun x => (Uf q inner x.2).sz).sum := by rw [rw_sz, map_lr, List.map_map]; rfl
      have e3 := rsum (fun b => (Uf q inner b).sz) r
      rw [e3, ← e2]
      have e : (1 : Int) + (r.map (gU q inner)).sz = (((r.map (gU q inner)).sz + 1 : Nat) : Int) := by omega
      rw [e]
      simpa [Uf, Bd.map, Bd.sz] using hq
end DL

set_option Elab.async false
set_option linter.all false
set_option maxRecDepth 100000
set_option maxHeartbeats 4000000
/-! K40Q: spliced, unfolded -/
namespace DL
open PySem NdefX
theorem canLay_so {b : Bd} (h : b.so = true) : b.d.py.canLay0 = true := py_can _ (so_pl b h)
theorem obl_spliced : ∀ wd E ds M Q, wd.length = [("behind" : Str)].length → C_spliced_lambda wd E ds M Q → LE_spliced E (ds.map some ++ (wd ++ List.replicate (2 - ds.length - wd.length) none)) M (fun d M' => ∃ M0, Le M0 M' ∧ Q d M0) := by
  intro wd E ds M Q _ h
  obtain ⟨x, rfl, hh, b, rfl, rfl, hb, hq⟩ := fn1_e h
  simp [LE_spliced]
  have e : PyData.eqv b.d.py (D.tup [D.str "end"]).py = decide (b.d = dEnd) := py_eqv _ _ (so_pl b hb) (by decide +kernel)
  refine ⟨canLay_so hb, by decide +kernel, by decide +kernel, ?_⟩
  rw [e]
  dsimp only
  have hd : b.d = dEnd ↔ b = .fin := by
    constructor
    · intro h
      cases b <;> simp [Bd.d] at h <;> first | rfl | (exact absurd h (by decide +kernel)) | skip
    · rintro rfl; simp [Bd.d]
  by_cases hf : b = .fin
  · rw [if_pos (by simpa using hd.mpr hf)]
    subst hf
    exact ⟨M, .refl, by simpa [gE] using hq⟩
  · rw [if_neg (by simpa using fun z => hf (hd.mp z))]
    refine ⟨M, .refl, ?_⟩
    have : gE hh b = b := by cases b <;> first | rfl | exact absurd rfl hf
    rw [this] at hq
    exact hq
theorem ob_spliced (P_spliced : Addr) (lb : Expr) : ∀ E ds M Q, S_spliced P_spliced E ds M Q → B_spliced P_spliced lb E (endsL Q) (start 2 ds) M := by
  intro E ds M Q h
  obtain ⟨x, y, rfl, b, bh, rfl, rfl, hb, hh, hz, ⟨cs, hP, hcs⟩, hq⟩ := fn2_e h
  unfold B_spliced
  rw [sRet_s]
  refine ⟨cs, hP, hcs, fun f F M2 hf hqn nc => ?_⟩
  obtain ⟨r1, r2, r3⟩ := RlT.lam (o := .lam F lb) hP hcs hf nc
  have hR := rl_tab P_spliced laQ
  refine ⟨b, fun x => x.so = true, fun _ => true, gE bh, RlT P_spliced laQ, rfl, rfl, r2, by rw [show (Ka.l F lb).F = F from rfl, hqn]; exact r3, hz, hR, wok_gE hh b hb, fun one M' Q' hw _ ht _ => ⟨bh, one, rfl, rfl, hw, ht rfl M' (hR.refl M')⟩, fun b' e M' hM' => ?_, fun e => by rw [evl_all] at e; cases e⟩
  rw [evl_all, Option.some.injEq] at e
  subst e
  exact ⟨M', .refl, hq M' (hR.trans r1 hM')⟩
theorem obn_unfolded_change (P_spliced : Addr) : ∀ wd E ds M Q, wd.length = ["inner", "called", "plain", "ends"].length → C_unfolded_change P_spliced wd E ds M Q → BN_unfolded_change P_spliced E (endsL Q) (ds.map some ++ (wd ++ List.replicate (5 - ds.length - wd.length) none)) M := by
  intro wd E ds M Q _ h
  obtain ⟨x, rfl, inner, b, q, rfl, rfl, hb, hi, hz, hiz, ht, h1, h2⟩ := fn1_e h
  have hR := rl_tab P_spliced laQ
  have same : gU q inner b = b → pU q inner b = true → ∃ M0, Le M0 M ∧ Q b.d M0 := fun e1 e2 => ⟨M, .refl, by have := h1 e2 M (hR.refl M); rwa [e1] at this⟩
  simp [BN_unfolded_change]
  cases b with
  | call s x =>
    simp [Bd.d]
    by_cases e : s = q
    · subst e
      simp
      refine go ?_
      simp only [Bd.so, Bool.and_eq_true] at hb
      simp only [Bd.sz] at hz
      simp
      refine ⟨x, rfl, by omega, ?_⟩
      have hen := en_le inner
      simp
      refine ⟨mulOk_small' (by omega), ?_⟩
      have hv : ((inner.sz : Int) - inner.en + inner.en * x.sz) = ((inner.sz - inner.en + inner.en * x.sz : Nat) : Int) := by
        rw [Int.natCast_add, Int.natCast_mul, Int.natCast_sub hen]
      rw [hv]
      refine ⟨_, rfl, fun hle => go ?_, fun hlt => ?_⟩
      · have hp : pU s inner (.call s x) = true := by simp only [pU, if_pos]; exact decide_eq_true (by omega)
        simp
        refine ⟨inner, x, rfl, rfl, hi, hb.2, hiz, ht, fun M' hM' => ⟨M', .refl, ?_⟩⟩
        have := h1 hp M' hM'
        simpa [gU] using this
      · have hp : pU s inner (.call s x) = false := by simp only [pU, if_pos]; exact decide_eq_false (by omega)
        exact h2 hp M
    · simp [e]
      exact same (by simp [gU, e]) (by simp [pU, e])
  | _ =>
    simp [Bd.d]
    exact same rfl rfl
theorem KeepNT.refl {M : Sto} : KeepNT M M := fun _ _ _ e => e
theorem KeepNT.trans {M M' M'' : Sto} (a : KeepNT M M') (b : KeepNT M' M'') : KeepNT M M'' := fun x o n e => b x o n (a x o n e)
theorem KeepNT.fresh {M M' : Sto} {p : Addr} {o : O} (a : KeepNT M M') (h : M' p = none) : KeepNT M (M'.set p o) := fun x u n e => by
  have := a x u n e
  rw [set_ne (ne_of this h)]; exact this
theorem ob_unfolded (P_spliced P_unfolded : Addr) : ∀ E ds M Q, S_unfolded P_spliced P_unfolded E ds M Q → B_unfolded P_spliced P_unfolded E (endsL Q) (start 11 ds) M := by
  intro E ds M Q h
  obtain ⟨x, y, z, rfl, ps, p, q, bp, bq, rfl, rfl, rfl, hnd, hpl, hlp, hlq, hso, hsi, hzp, hzq, hP1, hP2, hne, hq1, hq2⟩ := fn3_e h
  have hsz : sizeLine = 16777216 := rfl
  have e1 : pairsK (ps.map dBP) = some (ps.map fun x => (.inr x.1, x.2.d)) := pairsK_map ps (fun x => x.1) (fun x => x.2.d)
  have e2 : insAll [] (ps.map fun x => ((Sum.inr x.1 : Key), x.2.d)) = ps.map fun x => (.inr x.1, x.2.d) := by
    rw [insAll_nodup]
    · rfl
    · rw [List.nil_append, List.map_map]
      have : ((Prod.fst : Key × D → Key) ∘ fun x : Str × Bd => ((Sum.inr x.1 : Key), x.2.d)) = (fun s : Str => (Sum.inr s : Key)) ∘ Prod.fst := rfl
      rw [this, ← List.map_map]
      exact List.pairwise_map.mpr (hnd.imp fun h e => h (by cases e; rfl))
  have hlk : ∀ s b, lkB ps s = some b → lk (ps.map fun x => ((Sum.inr x.1 : Key), x.2.d)) (.inr s) = some b.d := fun s b h => by
    have := lk_lkB ps s
    rw [h] at this
    simpa [kvP, Function.comp_def] using this
  unfold B_unfolded
  rw [sSeq_s, sAsg_s]
  simp [e1, e2]
  intro pd hpd
  refine go ?_
  have k0 : KeepNT M (M.set pd (.dk (ps.map fun x => ((Sum.inr x.1 : Key), x.2.d)))) := KeepNT.refl.fresh hpd
  have hA1 : (M.set pd (.dk (ps.map fun x => ((Sum.inr x.1 : Key), x.2.d)))) P_spliced = some (.tab []) := by rw [set_ne (ne_of hP1 hpd)]; exact hP1
  have hA2 : (M.set pd (.dk (ps.map fun x => ((Sum.inr x.1 : Key), x.2.d)))) P_unfolded = some (.tab []) := by rw [set_ne (ne_of hP2 hpd)]; exact hP2
  have hd0 : (M.set pd (.dk (ps.map fun x => ((Sum.inr x.1 : Key), x.2.d)))) pd = some (.dk (ps.map fun x => ((Sum.inr x.1 : Key), x.2.d))) := set_same
  generalize M.set pd (.dk (ps.map fun x => ((Sum.inr x.1 : Key), x.2.d))) = m0 at k0 hA1 hA2 hd0 ⊢
  simp [hd0, hlk q bq hlq]
  refine go ?_
  simp
  refine ⟨bq, rfl, by omega, bq, rfl, by omega, ?_⟩
  simp
  refine go ?_
  refine sNdef_newT hA2 fun f F m1 k1 k1' hf hc => ?_
  have hB1 : m1 P_spliced = some (.tab []) := k1' _ hne _ hA1
  have hd1 : m1 pd = some (.dk (ps.map fun x => ((Sum.inr x.1 : Key), x.2.d))) := k1 _ _ (fun cs h => by cases h) hd0
  have hR := rl_tab P_spliced laQ
  simp [hd1, hlk p bp hlp]
  refine ⟨bp, fun x => x.so = true ∧ x.sz ≤ 4000000, pU q bq, gU q bq, RlT P_spliced laQ, rfl, rfl, hf, hc, by omega, hR, wok_U hsi bp hso (by omega), fun one M' Q' hw r ht hff => ?_, fun b' hb' M' r => ?_, fun hb' M' => ?_⟩
  · exact ⟨bq, one, q, rfl, rfl, hw.1, hsi, hw.2, by omega, r.2.1 ⟨[], hB1, by simp⟩, ht, hff⟩
  · obtain ⟨rfl, hzb⟩ := evl_U bp b' hb'
    refine go ?_
    simp
    refine ⟨Uf q bq bp, rfl, by omega, ?_⟩
    refine ⟨_, rfl, fun hle => go ?_, fun hlt => hq2 (by omega) _⟩
    have k2 : KeepNT M M' := (k0.trans k1).trans r.1
    simp
    intro y hy
    refine comp_ind (fun acc xs m => ∃ dn rs : List (Str × Bd), acc = dn.map (fun r => dBP (r.1, if r.1 = p then Uf q bq bp else r.2)) ∧ xs = rs.map dBP ∧ dn ++ rs = ps ∧ m = M'.set y (.lst acc)) ?_ ?_ _ [] _ ⟨[], ps, rfl, rfl, rfl, rfl⟩
    · rintro x xs acc m ⟨dn, rs, rfl, hx, hd, rfl⟩
      obtain ⟨r, rs, rfl⟩ : ∃ q rs', rs = q :: rs' := by
        cases rs with
        | nil => simp at hx
        | cons q rs => exact ⟨q, rs, rfl⟩
      simp at hx
      obtain ⟨rfl, rfl⟩ := hx
      have hdl : dn.length ≤ 100 := by have := congrArg List.length hd; simp at this; omega
      refine ⟨trivial, by simp; omega, fun T hT => ?_⟩
      simp [dBP]
      have := hT (dBP (r.1, if r.1 = p then Uf q bq bp else r.2)) _ set_same ⟨dn ++ [r], rs, by simp, rfl, by simpa using hd, by rw [set_set]⟩
      by_cases e : r.1 = p
      · rw [if_pos e]
        simpa [dBP, e] using this
      · rw [if_neg e]
        simpa [dBP, e] using this
    · rintro acc m ⟨dn, rs, rfl, hx, hd, rfl⟩
      have : rs = [] := by simpa using hx.symm
      subst this
      rw [List.append_nil] at hd
      subst hd
      refine ⟨trivial, ?_⟩
      rw [set_same]
      simp
      exact ⟨M', Le.refl.fresh hy, hq1 (by omega) M' k2⟩
  · exact hq2 (evl_n (by omega) bp hb').2 M'
end DL

set_option Elab.async false
set_option linter.all false
set_option maxRecDepth 100000
set_option maxHeartbeats 4000000
/-! K40V: depths, names, texts of unfolded programs -/
namespace DL
open PySem
def allBs : Nat → List (List Bool)
  | 0 => [[]]
  | n + 1 => [] :: ((allBs n).flatMap fun l => [true :: l, false :: l])
theorem mem_allBs : ∀ (n : Nat) (bs : List Bool), bs.length ≤ n → bs ∈ allBs n
  | 0, [], _ => by simp [allBs]
  | n + 1, [], _ => by simp [allBs]
  | n + 1, b :: bs, h => by
    simp only [allBs, List.mem_cons, List.mem_flatMap]
    right
    refine ⟨bs, mem_allBs n bs (by simpa using h), ?_⟩
    cases b <;> simp
instance (s : Str) : Decidable (nmOk s) := inferInstanceAs (Decidable (_ ∧ _))
theorem nm5_all : ∀ f ∈ firsts5, ∀ g ∈ mids5, ∀ bs ∈ allBs 4, (bs.mapIdx fun k b => nm5 f g k b).Nodup ∧ ∀ s ∈ bs.mapIdx fun k b => nm5 f g k b, nmOk s := by decide +kernel
theorem nm5_f {ns : List Str} (h : Nm5 ns) : ns.Nodup ∧ ∀ s ∈ ns, nmOk s := by
  obtain ⟨f, hf, g, hg, bs, hb, hp⟩ := h
  obtain ⟨h1, h2⟩ := nm5_all f hf g hg bs (mem_allBs 4 bs hb)
  exact ⟨hp.nodup_iff.mpr h1, fun s hs => h2 s (hp.mem_iff.mp hs)⟩
/-! wl -/
mutual
theorem wl_up {ns ns' ls ls' : List Str} (hn : ∀ s ∈ ns, s ∈ ns') (hl : ∀ s ∈ ls, s ∈ ls') : ∀ (b : Bd) {n m : Nat}, b.wl ns ls n → n ≤ m → b.wl ns' ls' m
  | .fin, n, m, _, _ => by simp [Bd.wl]
  | .stop, n, m, _, _ => by simp [Bd.wl]
  | .tell s b, n, m, h, hm => by
    simp only [Bd.wl] at h ⊢
    obtain ⟨h1, k, rfl, h2⟩ := h
    exact ⟨hl s h1, m - 1, by omega, wl_up hn hl b h2 (by omega)⟩
  | .call s b, n, m, h, hm => by
    simp only [Bd.wl] at h ⊢
    obtain ⟨h1, k, rfl, h2⟩ := h
    exact ⟨hn s h1, m - 1, by omega, wl_up hn hl b h2 (by omega)⟩
  | .draw r, n, m, h, hm => by
    simp only [Bd.wl] at h ⊢
    obtain ⟨h1, k, rfl, h2⟩ := h
    exact ⟨h1, m - 1, by omega, rwl_up hn hl r h2 (by omega)⟩
theorem rwl_up {ns ns' ls ls' : List Str} (hn : ∀ s ∈ ns, s ∈ ns') (hl : ∀ s ∈ ls, s ∈ ls') : ∀ (r : Rw) {n m : Nat}, r.wl ns ls n → n ≤ m → r.wl ns' ls' m
  | .nil, n, m, _, _ => by simp [Rw.wl]
  | .cons q b r, n, m, h, hm => by
    simp only [Rw.wl] at h ⊢
    exact ⟨wl_up hn hl b h.1 hm, rwl_up hn hl r h.2 hm⟩
end
mutual
theorem wl_gE {ns ls : List Str} {h : Bd} {k : Nat} (hh : h.wl ns ls k) : ∀ (b : Bd) {n : Nat}, b.wl ns ls n → (b.map (gE h)).wl ns ls (n + k)
  | .fin, n, _ => by simp only [Bd.map, gE]; exact wl_up (fun _ h => h) (fun _ h => h) h hh (by omega)
  | .stop, n, _ => by simp [Bd.map, gE, Bd.wl]
  | .tell s b, n, hb => by
    simp only [Bd.wl] at hb
    obtain ⟨h1, m, rfl, h2⟩ := hb
    simp only [Bd.map, gE, Bd.wl]
    exact ⟨h1, m + k, by omega, wl_gE hh b h2⟩
  | .call s b, n, hb => by
    simp only [Bd.wl] at hb
    obtain ⟨h1, m, rfl, h2⟩ := hb
    simp only [Bd.map, gE, Bd.wl]
    exact ⟨h1, m + k, by omega, wl_gE hh b h2⟩
  | .draw r, n, hb => by
    simp only [Bd.wl] at hb
    obtain ⟨h1, m, rfl, h2⟩ := hb
    simp only [Bd.map, Bd.wl]
    exact ⟨by rw [fs_map]; exact h1, m + k, by omega, rwl_gE hh r h2⟩
theorem rwl_gE {ns ls : List Str} {h : Bd} {k : Nat} (hh : h.wl ns ls k) : ∀ (r : Rw) {n : Nat}, r.wl ns ls n → (r.map (gE h)).wl ns ls (n + k)
  | .nil, n, _ => by simp [Rw.map, Rw.wl]
  | .cons q b r, n, hb => by
    simp only [Rw.wl] at hb
    simp only [Rw.map, Rw.wl]
    exact ⟨wl_gE hh b hb.1, rwl_gE hh r hb.2⟩
end
section
variable {ns ls : List Str} {q : Str} {inner : Bd} {k : Nat}
mutual
theorem wl_U (hi : inner.wl ns ls k) : ∀ (b : Bd) {n : Nat}, b.wl ns ls n → (Uf q inner b).wl ns ls (n * (1 + k))
  | .fin, n, _ => by simp [Uf, Bd.map, gU, Bd.wl]
  | .stop, n, _ => by simp [Uf, Bd.map, gU, Bd.wl]
  | .tell s b, n, hb => by
    simp only [Bd.wl] at hb
    obtain ⟨h1, m, rfl, h2⟩ := hb
    simp only [Uf, Bd.map, gU, Bd.wl]
    have := wl_U hi b h2
    refine ⟨h1, m * (1 + k) + k, by rw [Nat.add_mul]; omega, ?_⟩
    exact wl_up (fun _ h => h) (fun _ h => h) _ this (by omega)
  | .call s b, n, hb => by
    simp only [Bd.wl] at hb
    obtain ⟨h1, m, rfl, h2⟩ := hb
    have := wl_U hi b h2
    simp only [Uf, Bd.map, gU]
    split
    · have h3 := wl_gE this inner hi
      exact wl_up (fun _ h => h) (fun _ h => h) _ h3 (by rw [Nat.add_mul]; omega)
    · simp only [Bd.wl]
      refine ⟨h1, m * (1 + k) + k, by rw [Nat.add_mul]; omega, ?_⟩
      exact wl_up (fun _ h => h) (fun _ h => h) _ this (by omega)
  | .draw r, n, hb => by
    simp only [Bd.wl] at hb
    obtain ⟨h1, m, rfl, h2⟩ := hb
    have := rwl_U hi r h2
    simp only [Uf, Bd.map, Bd.wl]
    refine ⟨by rw [fs_map]; exact h1, m * (1 + k) + k, by rw [Nat.add_mul]; omega, ?_⟩
    exact rwl_up (fun _ h => h) (fun _ h => h) _ this (by omega)
theorem rwl_U (hi : inner.wl ns ls k) : ∀ (r : Rw) {n : Nat}, r.wl ns ls n → (r.map (gU q inner)).wl ns ls (n * (1 + k))
  | .nil, n, _ => by simp [Rw.map, Rw.wl]
  | .cons x b r, n, hb => by
    simp only [Rw.wl] at hb
    simp only [Rw.map, Rw.wl]
    exact ⟨wl_U hi b hb.1, rwl_U hi r hb.2⟩
end
/-! rB -/
mutual
theorem rB_so : ∀ b : Bd, rB b.d = true → b.so = true
  | .fin, _ => by simp [Bd.so]
  | .stop, _ => by simp [Bd.so]
  | .tell s b, h => by
    simp only [Bd.d, rB, rsB, Bool.and_eq_true] at h
    simp [Bd.so, h.2.1.1, rB_so b h.2.2.1]
  | .call s b, h => by
    simp only [Bd.d, rB, rsB, Bool.and_eq_true] at h
    simp [Bd.so, h.2.1.1, rB_so b h.2.2.1]
  | .draw r, h => by
    simp only [Bd.d, rB, rsB, Bool.and_eq_true] at h
    simp only [Bd.so]; exact rrB_so r h.2.1
theorem rrB_so : ∀ r : Rw, rsB r.ds = true → r.so = true
  | .nil, _ => by simp [Rw.so]
  | .cons q b r, h => by
    simp only [Rw.ds, rB, rsB, Bool.and_eq_true] at h
    simp [Rw.so, rB_so b h.1.2.1, rrB_so r h.2]
end
mutual
theorem rB_gE {h : Bd} (hh : rB h.d = true) : ∀ b : Bd, rB b.d = true → rB (b.map (gE h)).d = true
  | .fin, _ => by simpa [Bd.map, gE] using hh
  | .stop, k => by simpa [Bd.map, gE] using k
  | .tell s b, k => by
    simp only [Bd.d, rB, rsB, Bool.and_eq_true] at k
    simp only [Bd.map, gE, Bd.d, rB, rsB, Bool.and_eq_true]
    exact ⟨k.1, k.2.1, rB_gE hh b k.2.2.1, trivial⟩
  | .call s b, k => by
    simp only [Bd.d, rB, rsB, Bool.and_eq_true] at k
    simp only [Bd.map, gE, Bd.d, rB, rsB, Bool.and_eq_true]
    exact ⟨k.1, k.2.1, rB_gE hh b k.2.2.1, trivial⟩
  | .draw r, k => by
    simp only [Bd.d, rB, rsB, Bool.and_eq_true] at k
    simp only [Bd.map, Bd.d, rB, rsB, Bool.and_eq_true]
    exact ⟨k.1, rrB_gE hh r k.2.1, trivial⟩
theorem rrB_gE {h : Bd} (hh : rB h.d = true) : ∀ r : Rw, rsB r.ds = true → rsB (r.map (gE h)).ds = true
  | .nil, _ => by simp [Rw.map, Rw.ds, rsB]
  | .cons q b r, k => by
    simp only [Rw.ds, rB, rsB, Bool.and_eq_true] at k
    simp only [Rw.map, Rw.ds, rB, rsB, Bool.and_eq_true]
    exact ⟨⟨k.1.1, rB_gE hh b k.1.2.1, trivial⟩, rrB_gE hh r k.2⟩
end
mutual
theorem rB_U (hi : rB inner.d = true) : ∀ b : Bd, rB b.d = true → rB (Uf q inner b).d = true
  | .fin, k => by simpa [Uf, Bd.map, gU] using k
  | .stop, k => by simpa [Uf, Bd.map, gU] using k
  | .tell s b, k => by
    simp only [Bd.d, rB, rsB, Bool.and_eq_true] at k
    have := rB_U hi b k.2.2.1
    simp only [Uf] at this
    simp only [Uf, Bd.map, gU, Bd.d, rB, rsB, Bool.and_eq_true]
    exact ⟨k.1, k.2.1, this, trivial⟩
  | .call s b, k => by
    simp only [Bd.d, rB, rsB, Bool.and_eq_true] at k
    have := rB_U hi b k.2.2.1
    simp only [Uf] at this
    simp only [Uf, Bd.map, gU]
    split
    · exact rB_gE this inner hi
    · simp only [Bd.d, rB, rsB, Bool.and_eq_true]
      exact ⟨k.1, k.2.1, this, trivial⟩
  | .draw r, k => by
    simp only [Bd.d, rB, rsB, Bool.and_eq_true] at k
    simp only [Uf, Bd.map, Bd.d, rB, rsB, Bool.and_eq_true]
    exact ⟨k.1, rrB_U hi r k.2.1, trivial⟩
theorem rrB_U (hi : rB inner.d = true) : ∀ r : Rw, rsB r.ds = true → rsB (r.map (gU q inner)).ds = true
  | .nil, _ => by simp [Rw.map, Rw.ds, rsB]
  | .cons x b r, k => by
    simp only [Rw.ds, rB, rsB, Bool.and_eq_true] at k
    have := rB_U hi b k.1.2.1
    simp only [Uf] at this
    simp only [Rw.map, Rw.ds, rB, rsB, Bool.and_eq_true]
    exact ⟨⟨k.1.1, this, trivial⟩, rrB_U hi r k.2⟩
end
end
mutual
theorem dsz_sz : ∀ b : Bd, dsz b.d + 5 ≤ 10 * b.sz
  | .fin => by simp [Bd.d, dsz, dszs, Bd.sz]
  | .stop => by simp [Bd.d, dsz, dszs, Bd.sz]
  | .tell s b => by have := dsz_sz b; simp [Bd.d, dsz, dszs, Bd.sz]; omega
  | .call s b => by have := dsz_sz b; simp [Bd.d, dsz, dszs, Bd.sz]; omega
  | .draw r => by have := rdsz_sz r; simp [Bd.d, dsz, dszs, Bd.sz]; omega
theorem rdsz_sz : ∀ r : Rw, dszs r.ds ≤ 10 * r.sz
  | .nil => by simp [Rw.ds, dszs]
  | .cons q b r => by have h1 := dsz_sz b; have h2 := rdsz_sz r; simp [Rw.ds, dszs, dsz, dF, Rw.sz]; omega
end
theorem repW_r {xs : List D} {k : Str → Prop} (h : rB (.tup xs) = true) (hd : dpt (.tup xs) ≤ 190) (hz : dsz (.tup xs) ≤ 80000) (q : k (D.tup xs).py.shown) : repW (.tup xs) k := by
  refine ⟨py_can _ (rB_pl _ h), by rw [py_dpt _ (rB_pl _ h)]; exact hd, showable_r _ h, ?_, ⟨xs, rfl⟩, q⟩
  have h1 := shown_len _ h
  have h2 : sizeLine = 16777216 := rfl
  rw [h2]; omega
end DL

set_option Elab.async false
set_option linter.all false
set_option maxRecDepth 100000
set_option maxHeartbeats 4000000
/-! K40W: the law -/
namespace DL
open PySem
instance (l : List (Int × Int)) : Decidable (RowOk l) := by unfold RowOk; infer_instance
theorem rowsB_row : ∀ d ∈ [2, 3, 4, 5, 6, 7, 8, 9, 12], ∀ m ∈ [2, 3, 4, 5, 6], ∀ rows ∈ rowsB (min m d) d, RowOk rows ∧ rows.length ≤ 6 ∧ ∀ f ∈ rows, f.1.natAbs < 1000 ∧ f.2.natAbs < 1000 := by decide +kernel
def rwF : List (Int × Int) → Rw
  | [] => .nil
  | q :: l => .cons q .fin (rwF l)
theorem rwF_fs : ∀ l, (rwF l).fs = l
  | [] => by simp [rwF, Rw.fs]
  | q :: l => by simp [rwF, Rw.fs, rwF_fs l]
theorem rwF_ds : ∀ l, (rwF l).ds = l.map fun q => .tup [dF q, dEnd]
  | [] => by simp [rwF, Rw.ds]
  | q :: l => by simp [rwF, Rw.ds, rwF_ds l, Bd.d]
theorem rwF_wl {ns ls : List Str} {n : Nat} : ∀ l, (rwF l).wl ns ls n
  | [] => by simp [rwF, Rw.wl]
  | q :: l => by simp [rwF, Rw.wl, rwF_wl l, Bd.wl]
theorem rwF_sz : ∀ l, (rwF l).sz = l.length
  | [] => by simp [rwF, Rw.sz]
  | q :: l => by simp [rwF, Rw.sz, rwF_sz l, Bd.sz]; omega
theorem rwF_r : ∀ l : List (Int × Int), (∀ f ∈ l, f.1.natAbs < 1000 ∧ f.2.natAbs < 1000) → rsB (rwF l).ds = true
  | [], _ => by simp [rwF, Rw.ds, rsB]
  | q :: l, h => by
    have h1 := h q (.head _)
    have h2 := rwF_r l fun f hf => h f (.tail _ hf)
    have e : PyData.strOk "end" = true := by decide +kernel
    have e2 : (Str.ofString "end").length ≤ 12 := by decide
    simp [rwF, Rw.ds, rsB, rB, dF, Bd.d, h1, h2, e, e2]
structure Lg (n1 l0 l1 : Str) (b0 b1 : Bd) : Prop where
  w0 : b0.wl [n1] [l1] 16
  w1 : b1.wl [] [l0] 2
  s0 : b0.sz ≤ 20
  s1 : b1.sz ≤ 20
theorem rB_tell {s : Str} {b : Bd} (h : nmOk s) (hb : rB b.d = true) : rB (Bd.tell s b).d = true := by
  have e : PyData.strOk "tell" = true := by decide +kernel
  have e2 : (Str.ofString "tell").length ≤ 12 := by decide
  simp [Bd.d, rB, rsB, e, e2, h.1, h.2, hb]
theorem rB_call {s : Str} {b : Bd} (h : nmOk s) (hb : rB b.d = true) : rB (Bd.call s b).d = true := by
  have e : PyData.strOk "call" = true := by decide +kernel
  have e2 : (Str.ofString "call").length ≤ 12 := by decide
  simp [Bd.d, rB, rsB, e, e2, h.1, h.2, hb]
theorem rB_draw {r : Rw} (hb : rsB r.ds = true) : rB (Bd.draw r).d = true := by
  have e : PyData.strOk "draw" = true := by decide +kernel
  have e2 : (Str.ofString "draw").length ≤ 12 := by decide
  simp [Bd.d, rB, rsB, e, e2, hb]
theorem rB_fin : rB Bd.fin.d = true := by decide +kernel
theorem rB_stop : rB Bd.stop.d = true := by decide +kernel
theorem ob_law_large : ∀ E ds M Q, S_law_large E ds M Q → B_law_large E (endsL Q) (start 8 ds) M := by
  intro E ds M Q h
  obtain ⟨x, y, z, rfl, a, b, pn, pl, n0, n1, ns, l0, l1, ls, rfl, hc, rfl, hpn, en, rfl, hpl, el, hq⟩ := fn3_e h
  have hsz := sizeLine_ge
  have u0 : (0 : Int) < (ns.length : Int) + 1 + 1 := by omega
  have u1 : (1 : Int) < (ns.length : Int) + 1 + 1 := by omega
  have v0 : (0 : Int) < (ls.length : Int) + 1 + 1 := by omega
  have v1 : (1 : Int) < (ls.length : Int) + 1 + 1 := by omega
  simp [B_law_large]
  refine take_i (by decide) (by decide) hc fun d o d0 d1 hc1 => ?_
  obtain ⟨d, rfl⟩ := Int.eq_ofNat_of_zero_le d0
  have f1 := hc.refl.set hc1
  generalize M.set a o = m1 at f1 ⊢
  simp
  refine go ?_
  simp
  refine ⟨a, b, 2 + d, rfl, hc.fr f1, by simp, by omega, by omega, fun rows o p hr hco hpa hp => ?_⟩
  obtain ⟨dd, hdd, hrows⟩ := hr
  have hmm : 2 + d ∈ [2, 3, 4, 5, 6] := by simp; omega
  obtain ⟨hrow, hrl, hrs⟩ := rowsB_row dd hdd (2 + d) hmm rows hrows
  have f2 := (f1.set hco).fresh (o := .lst (rows.map dF)) (set_none.mpr ⟨hpa, hp⟩)
  have e2 : ((m1.set a o).set p (.lst (rows.map dF))) p = some (.lst (rows.map dF)) := set_same
  generalize (m1.set a o).set p (.lst (rows.map dF)) = m2 at f2 e2 ⊢
  simp [e2]
  intro q hq2
  have hpq := ne_of e2 hq2
  refine comp_map (fun d => .tup [d, dEnd]) (fun m => m p = some (.lst (rows.map dF))) (fun m o h => by rw [set_ne hpq]; exact h) (fun _ h => h) _ [] _ ?_ (by simp; omega) set_same (by rw [set_ne hpq]; exact e2) ?_
  · intro x hx m T _ hT
    simp [CE_law_large_1]
    exact hT
  rw [set_set, set_same, List.nil_append, lstO_lst]
  have e3 : (rows.map dF).map (fun d => D.tup [d, dEnd]) = (rwF rows).ds := by rw [rwF_ds, List.map_map]; rfl
  rw [e3]
  have f3 := f2.fresh (o := .lst (rwF rows).ds) hq2
  generalize m2.set q (.lst (rwF rows).ds) = m3 at f3 ⊢
  refine go ?_
  -- the inner body
  have step : ∀ (b1 : Bd) (m4 : Sto) , Fr a b M m4 → b1.wl [] [l0] 2 → b1.sz ≤ 20 → ((∀ s ∈ [n1, l0, l1], nmOk s) → rB b1.d = true) → T_law_large_2 E (endsL Q) [some (.ref a), some (.ref pn), some (.ref pl), some (.int (2 + (d : Int))), some b1.d, none, none, none] m4 := by
    intro b1 m4 f4 hw1 hs1 hr1
    simp [T_law_large_2]
    refine go ?_
    simp
    refine take_i (by decide) (by decide) (hc.fr f4) fun t o t0 t1 hct => ?_
    obtain ⟨t, rfl⟩ := Int.eq_ofNat_of_zero_le t0
    have f5 := f4.set hct
    generalize m4.set a o = m5 at f5 ⊢
    have e5 : (3 : Int) + (t : Int) = ((3 + t : Nat) : Int) := by omega
    simp
    refine ⟨by omega, by omega, ?_⟩
    rw [e5]
    refine for_ind (fun xs e m => ∃ (i : Nat) (b0 : Bd) (x6 x7 : Option D), xs = rangeL (i : Int) ((3 + t : Nat) : Int) ∧ i ≤ 3 + t ∧ e = [some (.ref a), some (.ref pn), some (.ref pl), some (.int (2 + (d : Int))), some b1.d, some b0.d, x6, x7] ∧ Fr a b M m ∧ b0.wl [n1] [l1] (2 * i) ∧ b0.sz ≤ 2 * i + 1 ∧ ((∀ s ∈ [n1, l0, l1], nmOk s) → rB b0.d = true)) ?_ ?_ _ _ _
      ⟨0, .fin, _, _, by simp, by omega, rfl, f5, by simp [Bd.wl], by simp [Bd.sz], fun _ => rB_fin⟩
    · rintro x xs e m ⟨i, b0, x6, x7, hx, hi, rfl, f, hw, hs, hr0⟩
      obtain ⟨rfl, rfl, hlt⟩ := rng_cons hx
      refine ⟨trivial, fun N hN => ?_⟩
      have en' := f.at hpn en
      have el' := f.at hpl el
      simp [FB_law_large_1, en', u1]
      refine go ?_
      simp
      refine take_i (by decide) (by decide) (hc.fr f) fun t2 o t0 t1 hct => ?_
      have f' := f.set hct
      have el2 := f'.at hpl el
      generalize m.set a o = m' at f' el2 ⊢
      have hw2 : (Bd.call n1 b0).wl [n1] [l1] (2 * i + 1) := by simp only [Bd.wl]; exact ⟨by simp, 2 * i, rfl, hw⟩
      simp only [cEq_int, decide_eq_true_eq]
      split
      · simp [el2, v1]
        refine hN _ _ ⟨i + 1, .tell l1 (.call n1 b0), some (.int i), x7, rfl, by omega, by simp [Bd.d], f', ?_, by simp [Bd.sz]; omega, fun h => rB_tell (h l1 (by simp)) (rB_call (h n1 (by simp)) (hr0 h))⟩
        simp only [Bd.wl] at hw2 ⊢
        exact ⟨by simp, 2 * i + 1, by omega, hw2⟩
      · refine hN _ _ ⟨i + 1, .call n1 b0, some (.int i), x7, rfl, by omega, by simp [Bd.d], f', ?_, by simp [Bd.sz]; omega, fun h => rB_call (h n1 (by simp)) (hr0 h)⟩
        exact wl_up (fun _ h => h) (fun _ h => h) _ hw2 (by omega)
    · rintro e m ⟨i, b0, x6, x7, hx, hi, rfl, f, hw, hs, hr0⟩
      have := rng_nil hx hi
      subst this
      refine ⟨trivial, ?_⟩
      dsimp only
      refine go ?_
      have en' := f.at hpn en
      simp [T_law_large_1, en', u0, u1]
      intro y hy
      obtain ⟨hya, hyM⟩ := f.none hy
      have f6 := f.fresh (o := .lst [.tup [.str n0, b0.d], .tup [.str n1, b1.d]]) hy
      refine ⟨a, b, y, _, rfl, hc.fr f6, rfl, hya, set_same, by simp, fun ys o p hperm hco hpa hp => ?_⟩
      obtain ⟨ps, rfl, hps⟩ := perm_map_inv (f := dBP) hperm [(n0, b0), (n1, b1)] rfl
      simp only [itD_ref]
      rw [set_same]
      simp
      have f7 := (f6.set hco).fresh (o := .lst (ps.map dBP)) (set_none.mpr ⟨hpa, hp⟩)
      obtain ⟨o', ho', l'⟩ := f7.le
      exact ⟨_, l', hq ps b0 b1 o' hps (wl_up (fun _ h => h) (fun _ h => h) _ hw (by omega)) hw1 (by omega) hs1 (fun h => ⟨hr0 h, hr1 h⟩) ho'⟩
  have hwd : (Bd.draw (rwF rows)).wl [] [l0] 1 := by simp only [Bd.wl]; exact ⟨by rw [rwF_fs]; exact hrow, 0, rfl, rwF_wl rows⟩
  have hsd : (Bd.draw (rwF rows)).sz ≤ 7 := by simp only [Bd.sz, rwF_sz]; omega
  simp
  refine take_i (by decide) (by decide) (hc.fr f3) fun t o t0 t1 hct => ?_
  have f4 := f3.set hct
  have el4 := f4.at hpl el
  generalize m3.set a o = m4 at f4 el4 ⊢
  simp only [cEq_int, decide_eq_true_eq]
  split
  · simp [el4, v0]
    refine go ?_
    have := step (.tell l0 (.draw (rwF rows))) m4 f4 (by simp only [Bd.wl] at hwd ⊢; exact ⟨by simp, 1, rfl, hwd⟩) (by simp only [Bd.sz] at hsd ⊢; omega) (fun h => rB_tell (h l0 (by simp)) (rB_draw (rwF_r rows hrs)))
    simpa [Bd.d] using this
  · refine go ?_
    have := step (.draw (rwF rows)) m4 f4 (wl_up (fun _ h => h) (fun _ h => h) _ hwd (by omega)) (by omega) (fun _ => rB_draw (rwF_r rows hrs))
    simpa [Bd.d] using this
structure P40 (ns ls : List Str) (ps : List (Str × Bd)) (p q : Str) (bp bq : Bd) : Prop where
  nd : (ps.map Prod.fst).Nodup
  len : ps.length ≤ 4
  sub : ∀ s ∈ ns, s ∈ ps.map Prod.fst
  ok : ∀ r ∈ ps, r.2.wl ns ls 16 ∧ r.2.sz ≤ 400 ∧ rB r.2.d = true ∧ nmOk r.1
  ll : ∀ s ∈ ls, nmOk s
  hp : lkB ps p = some bp
  hq : lkB ps q = some bq
  dd : ∃ m n, bp.wl ns ls m ∧ bq.wl ns ls n ∧ m * (1 + n) ≤ 48 ∧ m ≤ 16 ∧ n ≤ 16
def p40 (ps : List (Str × Bd)) (p q : Str) (bp bq : Bd) : List (Str × Bd) := ps.map fun r => (r.1, if r.1 = p then Uf q bq bp else r.2)
theorem lkd_wl {ps : List (Str × Bd)} {ns ls : List Str} {k : Nat} (h : ∀ r ∈ ps, r.2.wl ns ls k) (hn : ∀ s ∈ ns, s ∈ ps.map Prod.fst) : Lkd (lkB ps) ns ls k := lkd_of h (.inr hn)
theorem lkB_in {ps : List (Str × Bd)} {s : Str} {d : Bd} (h : lkB ps s = some d) : (s, d) ∈ ps := by
  induction ps with
  | nil => simp [lkB] at h
  | cons x ps ih =>
    obtain ⟨a, b⟩ := x
    unfold lkB at h ih
    rw [List.lookup_cons] at h
    by_cases e : s = a
    · subst e; simp at h; subst h; exact .head _
    · have e2 : (s == a) = false := by simpa using e
      rw [e2] at h
      exact .tail _ (ih h)
theorem lkB_p40 {ps : List (Str × Bd)} {p q : Str} {bp bq : Bd} (hp : lkB ps p = some bp) : ∀ s d, lkB ps s = some d → lkB (p40 ps p q bp bq) s = some d ∨ lkB (p40 ps p q bp bq) s = some (Uf q bq d) := by
  intro s d h
  have key : ∀ qs : List (Str × Bd), lkB (qs.map fun r => (r.1, if r.1 = p then Uf q bq bp else r.2)) s = (lkB qs s).map fun b => if s = p then Uf q bq bp else b := by
    intro qs
    induction qs with
    | nil => rfl
    | cons x qs ih =>
      obtain ⟨a, b⟩ := x
      unfold lkB at ih ⊢
      simp only [List.map_cons, List.lookup_cons]
      by_cases e : s = a
      · subst e; simp
      · have e2 : (s == a) = false := by simpa using e
        rw [e2]; exact ih
  unfold p40
  rw [key, h]
  by_cases e : s = p
  · subst e
    rw [hp] at h
    cases h
    right; simp
  · left; simp [e]
section
variable {ns ls : List Str} {ps : List (Str × Bd)} {p q : Str} {bp bq : Bd}
theorem P40.u (C : P40 ns ls ps p q bp bq) : ∀ r ∈ p40 ps p q bp bq, r.2.wl ns ls 48 := by
  intro r hr
  obtain ⟨x, hx, rfl⟩ := List.mem_map.mp hr
  obtain ⟨m, n, h1, h2, h3, h4, h5⟩ := C.dd
  dsimp only
  split
  · exact wl_up (fun _ h => h) (fun _ h => h) _ (wl_U h2 bp h1) h3
  · exact wl_up (fun _ h => h) (fun _ h => h) _ (C.ok x hx).1 (by omega)
theorem p40_fst : (p40 ps p q bp bq).map Prod.fst = ps.map Prod.fst := by
  unfold p40; rw [List.map_map]; rfl
theorem P40.run (C : P40 ns ls ps p q bp bq) {s : Str} (hs : s ∈ ns) (tp : List Int) : ∃ (r r2 : RR) (d d2 : Bd), lkB ps s = some d ∧ lkB (p40 ps p q bp bq) s = some d2 ∧
    Go (kvP (ps.map fun p => (p.1, p.2.d))) tp 60 4000 [d.d] [] 1 0 r.d ∧ Go (kvP ((p40 ps p q bp bq).map fun p => (p.1, p.2.d))) tp 60 4000 [d2.d] [] 1 0 r2.d ∧
    (∀ s ∈ r.w, s ∈ [] ∨ s ∈ ls) ∧ r.e ∈ ends4 ∧ (r.e ≠ "calls" → r2.e = r.e ∧ r2.w = r.w ∧ r2.u = r.u) ∧ r2.c ≤ r.c := by
  have K1 : Lkd (lkB ps) ns ls 48 := lkd_wl (fun r hr => wl_up (fun _ h => h) (fun _ h => h) _ (C.ok r hr).1 (by omega)) C.sub
  have K2 : Lkd (lkB (p40 ps p q bp bq)) ns ls 48 := lkd_wl C.u (by rw [p40_fst]; exact C.sub)
  obtain ⟨d, hd, hdo⟩ := K1.h s hs
  obtain ⟨d2, hd2, hdo2⟩ := K2.h s hs
  have hms : ∀ {b : Bd}, b.wl ns ls 48 → mes 48 [b] 60 1 < 4000 := fun {b} h => by
    have := dp_ok b h
    simp [mes]; omega
  have wt : ∀ {look : Str → Option Bd} {b : Bd}, b.wl ns ls 48 → Wt look ns ls 48 [b] := fun {look b} h x hx => by
    rw [List.mem_singleton.mp hx]
    exact ⟨48, Nat.le_refl _, h⟩
  obtain ⟨r, r1, g1, w1, e1⟩ := runB_go K1 (tp := tp) (most := 60) 4000 [d] [] 1 0 (wt hdo) (by omega) (by omega) (hms hdo)
  obtain ⟨r2, r3, g2, w2, e2⟩ := runB_go K2 (tp := tp) (most := 60) 4000 [d2] [] 1 0 (wt hdo2) (by omega) (by omega) (hms hdo2)
  have hS := lkB_p40 (q := q) (bq := bq) C.hp
  obtain ⟨c1, c2⟩ := run_c 4000 [d] [] 1 0 r (by omega) r1
  obtain ⟨c3, c4⟩ := run_c 4000 [d2] [] 1 0 r2 (by omega) r3
  refine ⟨r, r2, d, d2, hd, hd2, g1, g2, w1, e1, ?_, ?_⟩
  · intro hne
    have hsr : SR q bq [d] [d2] := by
      rcases hS s d hd with e | e
      · rw [hd2] at e; cases e
        exact SR.cons (k := none) .plain .nil
      · rw [hd2] at e; cases e
        exact SR.cons (k := none) .unf .nil
    obtain ⟨r', q1, q2, q3, q4, q5⟩ := run_un C.hq hS 4000 [d] [d2] [] 1 1 0 4000 r hsr (by omega) (by omega) (by omega) r1 hne
    rw [r3] at q1
    cases q1
    exact ⟨q2, q3, q4⟩
  · by_cases hne : r.e = "calls"
    · rw [c2 hne]; exact c3
    · have hsr : SR q bq [d] [d2] := by
        rcases hS s d hd with e | e
        · rw [hd2] at e; cases e
          exact SR.cons (k := none) .plain .nil
        · rw [hd2] at e; cases e
          exact SR.cons (k := none) .unf .nil
      obtain ⟨r', q1, q2, q3, q4, q5⟩ := run_un C.hq hS 4000 [d] [d2] [] 1 1 0 4000 r hsr (by omega) (by omega) (by omega) r1 hne
      rw [r3] at q1
      cases q1
      exact q5
theorem cEq_self {x : D} {M : Sto} {k : Bool → Prop} (h : plB x = true ∧ dpt x ≤ 64) (q : k true) : cEq x x M k := cEq_pl h.1 h.1 h.2 h.2 (by simpa using q)
theorem pls_strs : ∀ {xs : List Str}, (∀ s ∈ xs, PyData.strOk s = true) → plsB (xs.map .str) = true
  | [], _ => rfl
  | x :: xs, h => by
    simp only [List.map_cons, plsB, plB, Bool.and_eq_true]
    exact ⟨h x (.head _), pls_strs fun s hs => h s (.tail _ hs)⟩
theorem dpts_strs : ∀ xs : List Str, dpts (xs.map .str) = 0
  | [] => rfl
  | x :: xs => by simp [dpts, dpt, dpts_strs xs]
def E40 (x0 : Option D) (a pn : Addr) (ps : List (Str × Bd)) (p q : Str) (bp bq : Bd) (x3 x4 x5 x6 x7 x9 x10 x12 x13 x14 x15 x16 x17 x18 x19 : Option D) : Ev :=
  [x0, some (.ref a), some (.ref pn), x3, x4, x5, x6, x7, some (.tup (ps.map dBP)), x9, x10, some (.tup ((p40 ps p q bp bq).map dBP)), x12, x13, x14, x15, x16, x17, x18, x19]
structure S40 (a b pn : Addr) (n0 n1 : Str) (ns : List Str) (m : Sto) : Prop where
  c : CSt m a b
  na : pn ≠ a
  en : m pn = some (.lst ((n0 :: n1 :: ns).map .str))
theorem S40.fr {a b pn : Addr} {n0 n1 : Str} {ns : List Str} {m m' : Sto} (S : S40 a b pn n0 n1 ns m) (f : Fr a b m m') : S40 a b pn n0 n1 ns m' := ⟨S.c.fr f, S.na, f.at S.na S.en⟩
theorem S40.upd {a b pn z : Addr} {n0 n1 : Str} {ns : List Str} {m : Sto} {o : O} (S : S40 a b pn n0 n1 ns m) (h1 : pn ≠ z) (h3 : z ≠ a) (h4 : z ≠ b) : S40 a b pn n0 n1 ns (m.set z o) :=
  ⟨⟨S.c.ne, by obtain ⟨xs, e⟩ := S.c.xs; exact ⟨xs, by rw [set_ne h4.symm]; exact e⟩, by obtain ⟨u, e, c⟩ := S.c.o; exact ⟨u, by rw [set_ne h3.symm]; exact e, c⟩⟩, S.na, by rw [set_ne h1]; exact S.en⟩
theorem S40.fresh {a b pn z : Addr} {n0 n1 : Str} {ns : List Str} {m : Sto} {o : O} (S : S40 a b pn n0 n1 ns m) (h : m z = none) : S40 a b pn n0 n1 ns (m.set z o) := S.upd (ne_of S.en h) (S.c.pa h) (S.c.pb h)
theorem body40 {P1 P2 : Addr} {E : XW} {D' : Ends} {x0 x3 x4 x5 x6 x7 x9 x10 x12 x13 x14 x15 x16 x17 x18 x19 : Option D} {a b pn : Addr} {n0 n1 : Str} {nr : List Str} {m : Sto} (C : P40 ns ls ps p q bp bq) (h0 : n0 ∈ ns) (h1 : n1 ∈ ns) (S : S40 a b pn n0 n1 nr m)
    (hnx : ∀ x12 x13 x14 x15 x16 x17 x18 x19 m', S40 a b pn n0 n1 nr m' → D'.nx (E40 x0 a pn ps p q bp bq x3 x4 x5 x6 x7 x9 x10 x12 x13 x14 x15 x16 x17 x18 x19) m') :
    FB_law_1 P1 P2 E D' (E40 x0 a pn ps p q bp bq x3 x4 x5 x6 x7 x9 x10 x12 x13 x14 x15 x16 x17 x18 x19) m := by
  have hsz := sizeLine_ge
  have u0 : (0 : Int) < (nr.length : Int) + 1 + 1 := by omega
  have u1 : (1 : Int) < (nr.length : Int) + 1 + 1 := by omega
  unfold E40
  simp [FB_law_1]
  refine take_i (by decide) (by decide) S.c fun d o d0 d1 hc1 => ?_
  have S1 := S.fr (S.c.refl.set hc1)
  generalize m.set a o = m1 at S1 ⊢
  obtain ⟨n, rfl⟩ := Int.eq_ofNat_of_zero_le d0
  have hn : n < 30 := by omega
  simp
  first | refine ⟨by omega, by omega, fun z hz => ?_⟩ | refine ⟨by omega, fun z hz => ?_⟩ | (intro z hz)
  have hza : z ≠ a := S1.c.pa hz
  have hzb : z ≠ b := S1.c.pb hz
  have hzn : pn ≠ z := ne_of S1.en hz
  refine comp_ind (fun acc xs m' => ∃ (tp : List Int) (i : Nat), acc = tp.map .int ∧ xs = rangeL (i : Int) (n : Int) ∧ tp.length = i ∧ i ≤ n ∧ m' z = some (.lst acc) ∧ S40 a b pn n0 n1 nr m') ?_ ?_ _ [] _ ⟨[], 0, rfl, rfl, rfl, by omega, set_same, S1.fresh hz⟩
  · rintro x xs acc m' ⟨tp, i, rfl, hx, hti, hin, eq, S'⟩
    obtain ⟨rfl, rfl, hlt⟩ := rng_cons hx
    refine ⟨trivial, by simp; omega, fun T hT => ?_⟩
    simp [CE_law_2]
    refine take_i (by decide) (by decide) S'.c fun t o _ _ hc2 => ?_
    have e' : (m'.set a o) z = some (.lst (tp.map .int)) := by rw [set_ne hza]; exact eq
    exact hT _ _ e' ⟨tp ++ [t], i + 1, by simp, rfl, by simp [hti], by omega, set_same, (S'.fr (S'.c.refl.set hc2)).upd hzn hza hzb⟩
  rintro acc m' ⟨tp, i, rfl, hx, hti, hin, eq, S'⟩
  have hin' := rng_nil hx hin
  subst hin'
  refine ⟨trivial, ?_⟩
  rw [eq, lstO_lst]
  refine go ?_
  simp [S'.en]
  refine take_i (by decide) (by decide) S'.c fun d o d0 d1 hc1 => ?_
  have S2 := S'.fr (S'.c.refl.set hc1)
  generalize m'.set a o = m2 at S2 ⊢
  have htl : tp.length ≤ 1000 := by omega
  -- one of the first two names
  have fin : ∀ s ∈ ns, ∀ m3, S40 a b pn n0 n1 nr m3 → (sSeq (sAsg (eCall S_run [(eVar 8), (eVar 13), (eVar 12), (eC (.int 60))]) (gName 14)) (sSeq (sAsg (eCall S_run [(eVar 11), (eVar 13), (eVar 12), (eC (.int 60))]) (gName 15)) (sSeq (sIf (tAnd (tCmp cNe (eSub (eVar 14) (eC (.int 0))) (eC (.str "calls"))) (tCmp cNe (eTup [(eSub (eVar 15) (eC (.int 0))), (eSub (eVar 15) (eC (.int 1))), (eSub (eVar 15) (eC (.int 3)))]) (eTup [(eSub (eVar 14) (eC (.int 0))), (eSub (eVar 14) (eC (.int 1))), (eSub (eVar 14) (eC (.int 3)))]))) (sRet (eC (.bl false))) sNil) (T_law_1 P1 P2)))) E D'
      [x0, some (.ref a), some (.ref pn), x3, x4, x5, x6, x7, some (.tup (ps.map dBP)), x9, x10, some (.tup ((p40 ps p q bp bq).map dBP)), some (.tup (tp.map .int)), some (.str s), x14, x15, x16, x17, x18, x19] m3 := by
    intro s hs m3 S3
    obtain ⟨r, r2, d, d2, k1, k2, g1, g2, w1, e1, a1, a2⟩ := C.run hs tp
    have hnd2 : ((p40 ps p q bp bq).map Prod.fst).Nodup := by rw [p40_fst]; exact C.nd
    have sub0 : ∀ {z : RR} {M : Sto} {k : D → Prop}, subD z.d (.int 0) M k = k (.str z.e) := fun {z M k} => by simp [RR.d, told]
    have sub1 : ∀ {z : RR} {M : Sto} {k : D → Prop}, subD z.d (.int 1) M k = k (.tup (z.w.map .str)) := fun {z M k} => by simp [RR.d, told]
    have sub2 : ∀ {z : RR} {M : Sto} {k : D → Prop}, subD z.d (.int 2) M k = k (.int z.c) := fun {z M k} => by simp [RR.d, told]
    have sub3 : ∀ {z : RR} {M : Sto} {k : D → Prop}, subD z.d (.int 3) M k = k (.int z.u) := fun {z M k} => by simp [RR.d, told]
    have last : T_law_1 P1 P2 E D' [x0, some (.ref a), some (.ref pn), x3, x4, x5, x6, x7, some (.tup (ps.map dBP)), x9, x10, some (.tup ((p40 ps p q bp bq).map dBP)), some (.tup (tp.map .int)), some (.str s), some r.d, some r2.d, x16, x17, x18, x19] m3 := by
      simp [T_law_1]
      rw [sub2, sub2]
      simp
      rw [if_neg (by omega)]
      exact hnx _ _ _ _ _ _ _ _ m3 S3
    simp
    refine run_i C.nd k1 (by decide) htl g1 (go ?_)
    simp
    refine run_i hnd2 k2 (by decide) htl g2 (go ?_)
    simp
    rw [sub0]
    simp
    by_cases hne : r.e = "calls"
    · simp [hne]
      exact go last
    · obtain ⟨b1, b2, b3⟩ := a1 hne
      simp [hne]
      rw [sub0, sub1, sub3, sub0, sub1, sub3, b1, b2, b3]
      refine cEq_self ?_ ?_
      · have h1 : ∀ s ∈ r.w, PyData.strOk s = true := fun s hs => by
          rcases w1 s hs with h | h
          · cases h
          · exact (C.ll s h).1
        have h4 : PyData.strOk r.e = true := (show ∀ s ∈ ends4, PyData.strOk s = true by decide +kernel) _ e1
        refine ⟨by simp [plB, plsB, pls_strs h1, h4], by simp [dpt, dpts, dpts_strs]⟩
      · simp
        exact go last
  have hd : d = 0 ∨ d = 1 := by omega
  simp [S2.en]
  rcases hd with rfl | rfl
  · simp [u0]
    exact go (by simpa using fin n0 h0 m2 S2)
  · simp [u1]
    exact go (by simpa using fin n1 h1 m2 S2)
end
end DL

set_option Elab.async false
set_option linter.all false
set_option maxRecDepth 100000
set_option maxHeartbeats 4000000
/-! K40X: the law's end -/
namespace DL
open PySem
theorem lkB_nd {s : Str} {d : Bd} : ∀ {ps : List (Str × Bd)}, (ps.map Prod.fst).Nodup → (s, d) ∈ ps → lkB ps s = some d
  | (a, b) :: ps, hn, h => by
    rw [List.map_cons, List.nodup_cons] at hn
    unfold lkB
    rw [List.lookup_cons]
    rcases List.mem_cons.mp h with h | h
    · cases h; simp
    · have e : s ≠ a := fun e => hn.1 (e ▸ List.mem_map.mpr ⟨_, h, rfl⟩)
      have e2 : (s == a) = false := by simpa using e
      rw [e2]
      exact lkB_nd hn.2 h
section
variable {ns ls : List Str} {ps : List (Str × Bd)} {p q : Str} {bp bq : Bd}
theorem st43 {P1 P2 : Addr} {E : XW} {Q : KD} {x0 x3 x4 x5 x6 x7 x9 x10 x12 x13 x14 x15 x16 x17 x18 x19 : Option D} {a b pn : Addr} {n0 n1 : Str} {nr : List Str} {m : Sto} (C : P40 ns ls ps p q bp bq) (h0 : n0 ∈ ns) (h1 : n1 ∈ ns) (S : S40 a b pn n0 n1 nr m) (hq : ∀ M', Q (.bl true) M') :
    T_law_3 P1 P2 E (endsL Q) (E40 x0 a pn ps p q bp bq x3 x4 x5 x6 x7 x9 x10 x12 x13 x14 x15 x16 x17 x18 x19) m := by
  unfold E40
  simp [T_law_3]
  refine for_ind (fun xs e m => ∃ x7 x12 x13 x14 x15 x16 x17 x18 x19 : Option D, e = E40 x0 a pn ps p q bp bq x3 x4 x5 x6 x7 x9 x10 x12 x13 x14 x15 x16 x17 x18 x19 ∧ S40 a b pn n0 n1 nr m) ?_ ?_ _ _ _ ⟨_, _, _, _, _, _, _, _, _, rfl, S⟩
  · rintro x xs e m ⟨x7, x12, x13, x14, x15, x16, x17, x18, x19, rfl, S⟩
    refine ⟨trivial, fun N hN => ?_⟩
    rw [gName_s]
    exact body40 (x7 := some x) C h0 h1 S fun x12 x13 x14 x15 x16 x17 x18 x19 m' S' => hN _ _ ⟨some x, x12, x13, x14, x15, x16, x17, x18, x19, rfl, S'⟩
  · rintro e m ⟨x7, x12, x13, x14, x15, x16, x17, x18, x19, rfl, S⟩
    refine ⟨trivial, ?_⟩
    dsimp only
    refine go ?_
    simp [T_law_2]
    exact ⟨_, .refl, hq _⟩
theorem P40.rep (C : P40 ns ls ps p q bp bq) (hz : (Uf q bq bp).sz ≤ 4000) : rB (.tup ((p40 ps p q bp bq).map dBP)) = true ∧ dpt (.tup ((p40 ps p q bp bq).map dBP)) ≤ 190 ∧ dsz (.tup ((p40 ps p q bp bq).map dBP)) ≤ 80000 := by
  have hl : (p40 ps p q bp bq).length ≤ 4 := by have := C.len; simpa [p40] using this
  have hrp := (C.ok _ (lkB_in C.hp)).2.2.1
  have hrq := (C.ok _ (lkB_in C.hq)).2.2.1
  have key : ∀ r ∈ p40 ps p q bp bq, nmOk r.1 ∧ rB r.2.d = true ∧ r.2.dp ≤ 48 := fun r hr => by
    have hd := dp_ok _ (C.u r hr)
    obtain ⟨x, hx, rfl⟩ := List.mem_map.mp hr
    refine ⟨(C.ok x hx).2.2.2, ?_, hd⟩
    dsimp only
    split
    · exact rB_U hrq bp hrp
    · exact (C.ok x hx).2.2.1
  refine ⟨?_, ?_, ?_⟩
  · simp only [rB]
    refine rsB_all fun x hx => ?_
    obtain ⟨r, hr, rfl⟩ := List.mem_map.mp hx
    obtain ⟨h1, h2, h3⟩ := key r hr
    simp [dBP, rB, rsB, h1.1, h1.2, h2]
  · simp only [dpt]
    have : dpts ((p40 ps p q bp bq).map dBP) ≤ 146 := dpts_all fun x hx => by
      obtain ⟨r, hr, rfl⟩ := List.mem_map.mp hx
      obtain ⟨h1, h2, h3⟩ := key r hr
      have := dpt_dp r.2
      simp [dBP, dpt, dpts]; omega
    omega
  · simp only [dsz]
    have e : dszs ((p40 ps p q bp bq).map dBP) ≤ ps.length * 4003 + 40000 := by
      have hnd := C.nd
      have hok : ∀ r ∈ ps, r.2.sz ≤ 400 := fun r hr => (C.ok r hr).2.1
      clear key hl hrp hrq C
      unfold p40
      induction ps with
      | nil => simp [dszs]
      | cons x l ih =>
        have hx := hok x (.head _)
        have d1 := dsz_sz x.2
        rw [List.map_cons, List.nodup_cons] at hnd
        by_cases e : x.1 = p
        · have rest : dszs ((l.map fun r => (r.1, if r.1 = p then Uf q bq bp else r.2)).map dBP) ≤ l.length * 4003 := by
            have h0 : ∀ y ∈ (l.map fun r => (r.1, if r.1 = p then Uf q bq bp else r.2)).map dBP, dsz y ≤ 4003 := fun y hy => by
              obtain ⟨r, hr, rfl⟩ := List.mem_map.mp hy
              obtain ⟨z, hz', rfl⟩ := List.mem_map.mp hr
              have hne : z.1 ≠ p := fun h => hnd.1 (by rw [e, ← h]; exact List.mem_map.mpr ⟨z, hz', rfl⟩)
              rw [if_neg hne]
              have d2 := dsz_sz z.2
              have h2 := hok z (.tail _ hz')
              simp [dBP, dsz, dszs]; omega
            have := dszs_all h0
            simpa using this
          have d3 := dsz_sz (Uf q bq bp)
          have hcons : dszs (((x :: l).map fun r => (r.1, if r.1 = p then Uf q bq bp else r.2)).map dBP) = dsz (dBP (x.1, Uf q bq bp)) + dszs ((l.map fun r => (r.1, if r.1 = p then Uf q bq bp else r.2)).map dBP) := by simp [dszs, e]
          rw [hcons]
          have d4 : dsz (dBP (x.1, Uf q bq bp)) = dsz (Uf q bq bp).d + 2 := by simp [dBP, dsz, dszs]; omega
          rw [d4]
          simp only [List.length_cons, Nat.add_mul]; omega
        · have := ih hnd.2 fun r hr => hok r (.tail _ hr)
          have hcons : dszs (((x :: l).map fun r => (r.1, if r.1 = p then Uf q bq bp else r.2)).map dBP) = dsz (dBP (x.1, x.2)) + dszs ((l.map fun r => (r.1, if r.1 = p then Uf q bq bp else r.2)).map dBP) := by simp [dszs, e]
          rw [hcons]
          have d4 : dsz (dBP (x.1, x.2)) = dsz x.2.d + 2 := by simp [dBP, dsz, dszs]; omega
          rw [d4]
          simp only [List.length_cons, Nat.add_mul]; omega
    have := C.len
    have h5 := Nat.mul_le_mul_right 4003 this
    omega
theorem unf_i {E : XW} {P1 P2 : Addr} {M : Sto} {Q : KD} (hnd : (ps.map Prod.fst).Nodup) (hpl : ps.length ≤ 100) (h1 : lkB ps p = some bp) (h2 : lkB ps q = some bq) (h3 : bp.so = true) (h4 : bq.so = true) (h5 : bp.sz ≤ 400) (h6 : bq.sz ≤ 400) (hP1 : M P1 = some (.tab [])) (hP2 : M P2 = some (.tab [])) (hne : P1 ≠ P2)
    (hq1 : (Uf q bq bp).sz ≤ 4000 → ∀ M', KeepNT M M' → Q (.tup (ps.map fun r => dBP (r.1, if r.1 = p then Uf q bq bp else r.2))) M') (hq2 : 4000 < (Uf q bq bp).sz → ∀ M', E "LimitError" [] M') : S_unfolded P1 P2 E [.tup (ps.map dBP), .str p, .str q] M Q :=
  ⟨ps, p, q, bp, bq, rfl, rfl, rfl, hnd, hpl, h1, h2, h3, h4, h5, h6, hP1, hP2, hne, hq1, hq2⟩
theorem st45 {P1 P2 : Addr} {E : XW} {Q : KD} {x0 x3 x4 x5 x6 x7 x9 x10 x11 x12 x13 x14 x15 x18 x19 : Option D} {a b pn : Addr} {n0 n1 : Str} {nr : List Str} {m : Sto} (C : P40 ns ls ps p q bp bq) (h0 : n0 ∈ ns) (h1 : n1 ∈ ns) (S : S40 a b pn n0 n1 nr m) (hP1 : m P1 = some (.tab [])) (hP2 : m P2 = some (.tab [])) (hne : P1 ≠ P2) (hq : ∀ M', Q (.bl true) M') :
    T_law_5 P1 P2 E (endsL Q) [x0, some (.ref a), some (.ref pn), x3, x4, x5, x6, x7, some (.tup (ps.map dBP)), x9, x10, x11, x12, x13, x14, x15, some (.str p), some (.str q), x18, x19] m := by
  have hsz := sizeLine_ge
  have e1 : pairsK (ps.map dBP) = some (ps.map fun x => (.inr x.1, x.2.d)) := pairsK_map ps (fun x => x.1) (fun x => x.2.d)
  have e2 : insAll [] (ps.map fun x => ((Sum.inr x.1 : Key), x.2.d)) = ps.map fun x => (.inr x.1, x.2.d) := by
    rw [insAll_nodup]
    · rfl
    · rw [List.nil_append, List.map_map]
      have : ((Prod.fst : Key × D → Key) ∘ fun x : Str × Bd => ((Sum.inr x.1 : Key), x.2.d)) = (fun s : Str => (Sum.inr s : Key)) ∘ Prod.fst := rfl
      rw [this, ← List.map_map]
      exact List.pairwise_map.mpr (C.nd.imp fun h e => h (by cases e; rfl))
  have hlk : ∀ s b, lkB ps s = some b → lk (ps.map fun x => ((Sum.inr x.1 : Key), x.2.d)) (.inr s) = some b.d := fun s b h => by
    have := lk_lkB ps s
    rw [h] at this
    simpa [kvP, Function.comp_def] using this
  have hkp := hlk p bp C.hp
  have hkq := hlk q bq C.hq
  obtain ⟨w1, z1, r1, o1⟩ := C.ok _ (lkB_in C.hp)
  obtain ⟨w2, z2, r2, o2⟩ := C.ok _ (lkB_in C.hq)
  simp only at w1 z1 r1 w2 z2 r2
  have d1 := dp_ok _ w1
  have d2 := dp_ok _ w2
  have s1 := rB_so _ r1
  have s2 := rB_so _ r2
  simp [T_law_5, e1, e2]
  intro pd hpd
  refine go ?_
  have S1 := S.fresh (o := .dk (ps.map fun x => ((Sum.inr x.1 : Key), x.2.d))) hpd
  have hA1 : (m.set pd (.dk (ps.map fun x => ((Sum.inr x.1 : Key), x.2.d)))) P1 = some (.tab []) := by rw [set_ne (ne_of hP1 hpd)]; exact hP1
  have hA2 : (m.set pd (.dk (ps.map fun x => ((Sum.inr x.1 : Key), x.2.d)))) P2 = some (.tab []) := by rw [set_ne (ne_of hP2 hpd)]; exact hP2
  have hd : (m.set pd (.dk (ps.map fun x => ((Sum.inr x.1 : Key), x.2.d)))) pd = some (.dk (ps.map fun x => ((Sum.inr x.1 : Key), x.2.d))) := set_same
  generalize m.set pd (.dk (ps.map fun x => ((Sum.inr x.1 : Key), x.2.d))) = m1 at S1 hA1 hA2 hd ⊢
  simp [hd, hkq]
  refine ⟨bq, rfl, by omega, by omega, ?_⟩
  simp [hd, hkq]
  refine ⟨bq, rfl, by omega, by omega, ?_⟩
  simp
  refine go ?_
  simp [hd, hkp]
  refine ⟨bp, bq, q, rfl, rfl, rfl, rfl, by omega, by omega, by omega, go ?_⟩
  simp
  refine unf_i C.nd (by have := C.len; omega) C.hp C.hq s1 s2 z1 z2 hA1 hA2 hne (fun hle m2 k2 => go ?_) (fun hlt m2 => ?_)
  · have hd2 : m2 pd = some (.dk (ps.map fun x => ((Sum.inr x.1 : Key), x.2.d))) := k2 _ _ (fun cs h => by cases h) hd
    have S2 : S40 a b pn n0 n1 nr m2 := by
      obtain ⟨o, ho, hco⟩ := S1.c.o
      obtain ⟨xs, hxs⟩ := S1.c.xs
      refine ⟨⟨S1.c.ne, ⟨xs, k2 _ _ (fun cs h => by cases h) hxs⟩, ⟨o, k2 _ _ (fun cs h => ?_) ho, hco⟩⟩, S1.na, k2 _ _ (fun cs h => by cases h) S1.en⟩
      obtain ⟨_, _, _, _, _, e⟩ := hco
      rw [e] at h; cases h
    simp
    rw [if_neg (by omega)]
    refine go ?_
    simp [T_law_4, hd2, hkp, hkq]
    refine ⟨bp, bq, q, rfl, rfl, rfl, by omega, by omega, s2, by omega, by omega, go ?_⟩
    obtain ⟨q1, q2, q3⟩ := C.rep hle
    have e8 : (ps.map fun r => dBP (r.1, if r.1 = p then Uf q bq bp else r.2)) = (p40 ps p q bp bq).map dBP := by unfold p40; rw [List.map_map]; rfl
    rw [e8]
    simp
    refine repW_r q1 q2 q3 ?_
    intro y hy
    have hyd := ne_of hd2 hy
    refine comp_ind (fun acc xs m => ∃ dn rs : List (Str × Bd), acc = (p40 dn p q bp bq).map dBP ∧ xs = rs.map dBP ∧ dn ++ rs = ps ∧ m = m2.set y (.lst acc)) ?_ ?_ _ [] _ ⟨[], ps, rfl, rfl, rfl, rfl⟩
    · rintro x xs acc m ⟨dn, rs, rfl, hx, hdn, rfl⟩
      obtain ⟨r, rs, rfl⟩ : ∃ q rs', rs = q :: rs' := by
        cases rs with
        | nil => simp at hx
        | cons q rs => exact ⟨q, rs, rfl⟩
      simp at hx
      obtain ⟨rfl, rfl⟩ := hx
      have hlen := C.len
      have hdl : dn.length ≤ 4 := by have := congrArg List.length hdn; simp at this; omega
      have hmem : r ∈ ps := hdn ▸ by simp
      refine ⟨trivial, by simp [p40]; omega, fun T hT => ?_⟩
      simp [CE_law_1, dBP]
      have := hT (dBP (r.1, if r.1 = p then Uf q bq bp else r.2)) _ set_same ⟨dn ++ [r], rs, by simp [p40], rfl, by simpa using hdn, by rw [set_set]⟩
      by_cases e : r.1 = p
      · rw [if_pos e]
        simpa [dBP, e] using this
      · rw [if_neg e]
        have hlr : lkB ps r.1 = some r.2 := lkB_nd C.nd hmem
        rw [set_ne hyd, hd2]
        simp [hlk r.1 r.2 hlr]
        simpa [dBP, e] using this
    · rintro acc m ⟨dn, rs, rfl, hx, hdn, rfl⟩
      have : rs = [] := by simpa using hx.symm
      subst this
      rw [List.append_nil] at hdn
      subst hdn
      refine ⟨trivial, ?_⟩
      rw [set_same]
      simp
      refine repW_r q1 q2 q3 ?_
      simp
      refine go ?_
      exact st43 C h0 h1 (S2.fresh hy) hq
  · refine ⟨rfl, ?_⟩
    exact ⟨m2, .refl, by rw [decide_eq_true (by omega)]; exact hq m2⟩
end
theorem CSt.tab {M : Sto} {a b P : Addr} (h : CSt M a b) (hP : M P = some (.tab [])) : P ≠ a ∧ P ≠ b := by
  obtain ⟨o, e, c⟩ := h.o
  obtain ⟨xs, e2⟩ := h.xs
  obtain ⟨_, _, _, _, _, rfl⟩ := c
  refine ⟨fun z => ?_, fun z => ?_⟩
  · subst z; rw [hP] at e; cases e
  · subst z; rw [hP] at e2; cases e2
theorem ob_law (P1 P2 : Addr) : ∀ E ds M Q, S_law2 P1 P2 E ds M Q → B_law P1 P2 E (endsL Q) (start 20 ds) M := by
  intro E ds M Q ⟨h, hnd, hT⟩
  obtain ⟨x, rfl, ⟨sc, rfl, hl, hb⟩, hq⟩ := fn1_e h
  have hsz := sizeLine_ge
  have hP12 : P1 ≠ P2 := by simpa using hnd
  have hP1 : M P1 = some (.tab []) := hT P1 (by simp)
  have hP2 : M P2 = some (.tab []) := hT P2 (by simp)
  simp [B_law]
  refine ⟨sc, rfl, hl, fun a b hab ha hb => ?_⟩
  have hc : CSt ((M.set b (.lst (sc.map .int))).set a (cs b 0 0 0 20)) a b := ⟨hab, ⟨sc, by rw [set_ne hab.symm, set_same]⟩, _, set_same, 0, 0, 0, 20, by decide, rfl⟩
  have hA1 : ((M.set b (.lst (sc.map .int))).set a (cs b 0 0 0 20)) P1 = some (.tab []) := by rw [set_ne (ne_of hP1 ha), set_ne (ne_of hP1 hb)]; exact hP1
  have hA2 : ((M.set b (.lst (sc.map .int))).set a (cs b 0 0 0 20)) P2 = some (.tab []) := by rw [set_ne (ne_of hP2 ha), set_ne (ne_of hP2 hb)]; exact hP2
  generalize ((M.set b (.lst (sc.map .int))).set a (cs b 0 0 0 20)) = M0 at hc hA1 hA2 ⊢
  have hPa1 := (hc.tab hA1).1
  have hPa2 := (hc.tab hA2).1
  refine go ?_
  simp
  refine take_i (by decide) (by decide) hc fun d o h0 h1 hc1 => ?_
  obtain ⟨d, rfl⟩ := Int.eq_ofNat_of_zero_le h0
  have f1 := hc.refl.set hc1
  generalize M0.set a o = m1 at f1 ⊢
  refine ⟨a, b, 2 + d, rfl, hc.fr f1, by simp, by omega, by omega, fun ns o pn hns hnl hco hpa hp => ?_⟩
  obtain ⟨hndn, hnn⟩ := nm5_f hns
  obtain ⟨n0, n1, nr, rfl⟩ : ∃ n0 n1 nr, ns = n0 :: n1 :: nr := by
    match ns, hnl with
    | n0 :: n1 :: nr, _ => exact ⟨n0, n1, nr, rfl⟩
    | [x], h => simp at h; omega
    | [], h => simp at h; omega
  have f2 := (f1.set hco).fresh (o := .lst ((n0 :: n1 :: nr).map .str)) (set_none.mpr ⟨hpa, hp⟩)
  have S2 : S40 a b pn n0 n1 nr ((m1.set a o).set pn (.lst ((n0 :: n1 :: nr).map .str))) := ⟨hc.fr f2, hpa, set_same⟩
  generalize (m1.set a o).set pn (.lst ((n0 :: n1 :: nr).map .str)) = m2 at f2 S2 ⊢
  refine go ?_
  simp
  refine ⟨a, b, 3, rfl, S2.c, rfl, by omega, by omega, fun ls o2 pl hls hll hco2 hpl hpl0 => ?_⟩
  obtain ⟨_, hln⟩ := nm5_f hls
  have f23 : Fr a b m2 ((m2.set a o2).set pl (.lst (ls.map .str))) := (S2.c.refl.set hco2).fresh (set_none.mpr ⟨hpl, hpl0⟩)
  have f3 := f2.trans f23
  have S3 := S2.fr f23
  have el : ((m2.set a o2).set pl (.lst (ls.map .str))) pl = some (.lst (ls.map .str)) := set_same
  generalize (m2.set a o2).set pl (.lst (ls.map .str)) = m3 at f3 S3 el ⊢
  refine go ?_
  simp
  refine take_i (by decide) (by decide) S3.c fun t o3 t0 t1 hc3 => ?_
  have f34 := S3.c.refl.set hc3
  have f4 := f3.trans f34
  have S4 := S3.fr f34
  have el4 := f34.at hpl el
  generalize m3.set a o3 = m4 at f4 S4 el4 ⊢
  have u0 : (0 : Int) < (nr.length : Int) + 1 + 1 := by omega
  have u1 : (1 : Int) < (nr.length : Int) + 1 + 1 := by omega
  simp only [cEq_int, decide_eq_true_eq]
  split
  · -- a large one
    obtain ⟨l0, l1, l2, rfl⟩ : ∃ l0 l1 l2, ls = [l0, l1, l2] := by
      match ls, hll with
      | [l0, l1, l2], _ => exact ⟨l0, l1, l2, rfl⟩
    refine ⟨a, b, pn, pl, n0, n1, nr, l0, l1, [l2], rfl, S4.c, rfl, hpa, S4.en, rfl, hpl, el4, fun ps b0 b1 o5 hperm hw0 hw1 hs0 hs1 hr hco5 => go ?_⟩
    have f5 := f4.set hco5
    have S5 := S4.fr (S4.c.refl.set hco5)
    generalize m4.set a o5 = m5 at f5 S5 ⊢
    simp [S5.en, u0, u1]
    refine go ?_
    have hne : n0 ≠ n1 := by
      intro e
      rw [List.nodup_cons] at hndn
      exact hndn.1 (by rw [e]; simp)
    obtain ⟨r0, r1⟩ := hr (by
      intro s hs
      simp at hs
      rcases hs with rfl | rfl | rfl
      · exact hnn _ (by simp)
      · exact hln _ (by simp)
      · exact hln _ (by simp))
    have hpn : (ps.map Prod.fst).Perm [n0, n1] := hperm.map Prod.fst
    have hnd2 : (ps.map Prod.fst).Nodup := hpn.nodup_iff.mpr (by simp [hne])
    have hmem : ∀ r ∈ ps, r = (n0, b0) ∨ r = (n1, b1) := fun r hr => by simpa using hperm.mem_iff.mp hr
    have C : P40 [n0, n1] [l0, l1, l2] ps n0 n1 b0 b1 := {
      nd := hnd2
      len := by rw [hperm.length_eq]; simp
      sub := fun s hs => hpn.mem_iff.mpr hs
      ok := fun r hr => by
        rcases hmem r hr with rfl | rfl
        · exact ⟨wl_up (by simp) (by simp) _ hw0 (by omega), by simp only; omega, r0, hnn _ (by simp)⟩
        · exact ⟨wl_up (by simp) (by simp) _ hw1 (by omega), by simp only; omega, r1, hnn _ (by simp)⟩
      ll := hln
      hp := lkB_nd hnd2 (hperm.mem_iff.mpr (by simp))
      hq := lkB_nd hnd2 (hperm.mem_iff.mpr (by simp))
      dd := ⟨16, 2, wl_up (by simp) (by simp) _ hw0 (by omega), wl_up (by simp) (by simp) _ hw1 (by omega), by omega, by omega, by omega⟩ }
    exact st45 C (by simp) (by simp) S5 (f5.at hPa1 hA1) (f5.at hPa2 hA2) hP12 hq
  · refine take_i (by decide) (by decide) S4.c fun t2 o5 t0 t1 hc5 => ?_
    obtain ⟨t2, rfl⟩ := Int.eq_ofNat_of_zero_le t0
    have f45 := S4.c.refl.set hc5
    have f5 := f4.trans f45
    have S5 := S4.fr f45
    have el5 := f45.at hpl el4
    generalize m4.set a o5 = m5 at f5 S5 el5 ⊢
    simp
    refine ⟨a, b, pn, pl, n0 :: n1 :: nr, ls, 2 + t2, rfl, S5.c, rfl, hpa, S5.en, by simp, by simp at hnl ⊢; omega, rfl, hpl, el5, by intro e; rw [e] at hll; simp at hll, by omega, by simp, by omega, fun rs o6 hrs hwb hco6 => go ?_⟩
    obtain ⟨ps, ep, hps, hok⟩ := procs_pb (ns := n0 :: n1 :: nr) (ls := ls) rs fun r hr => (hwb r hr).mono (by omega)
    rw [ep]
    have f6 := f5.set hco6
    have S6 := S5.fr (S5.c.refl.set hco6)
    generalize m5.set a o6 = m6 at f6 S6 ⊢
    have hn4 : nr.length ≤ 2 := by simp at hnl; omega
    simp [S6.en]
    refine take_i (by omega) (by omega) S6.c fun i o7 i0 i1 hc7 => ?_
    obtain ⟨i, rfl⟩ := Int.eq_ofNat_of_zero_le i0
    have f67 := S6.c.refl.set hc7
    have f7 := f6.trans f67
    have S7 := S6.fr f67
    generalize m6.set a o7 = m7 at f7 S7 ⊢
    have hi : i < (n0 :: n1 :: nr).length := by simp; omega
    obtain ⟨p, hp0⟩ : ∃ p, (n0 :: n1 :: nr)[i]? = some p := ⟨_, List.getElem?_eq_getElem hi⟩
    have hpm := List.mem_of_getElem? hp0
    have hp0' : (D.str n0 :: D.str n1 :: nr.map D.str)[i]? = some (.str p) := by
      have : ((n0 :: n1 :: nr).map D.str)[i]? = some (.str p) := by rw [List.getElem?_map, hp0]; rfl
      exact this
    simp [S7.en, hp0']
    rw [if_pos (by simp at hi ⊢; omega)]
    simp [hp0']
    refine take_i (by omega) (by omega) S7.c fun j o8 j0 j1 hc8 => ?_
    obtain ⟨j, rfl⟩ := Int.eq_ofNat_of_zero_le j0
    have f78 := S7.c.refl.set hc8
    have f8 := f7.trans f78
    have S8 := S7.fr f78
    generalize m7.set a o8 = m8 at f8 S8 ⊢
    have hj : j < (n0 :: n1 :: nr).length := by simp; omega
    obtain ⟨q, hq0⟩ : ∃ q, (n0 :: n1 :: nr)[j]? = some q := ⟨_, List.getElem?_eq_getElem hj⟩
    have hqm := List.mem_of_getElem? hq0
    have hq0' : (D.str n0 :: D.str n1 :: nr.map D.str)[j]? = some (.str q) := by
      have : ((n0 :: n1 :: nr).map D.str)[j]? = some (.str q) := by rw [List.getElem?_map, hq0]; rfl
      exact this
    simp [S8.en, hq0']
    rw [if_pos (by simp at hj ⊢; omega)]
    simp [hq0']
    refine go ?_
    have hpn : ps.map Prod.fst = n0 :: n1 :: nr := hps.trans hrs
    have hwl : ∀ r ∈ ps, r.2.wl (n0 :: n1 :: nr) ls 5 := fun r hr => ok_wl _ (hok r hr)
    have hlk : ∀ s ∈ n0 :: n1 :: nr, ∃ d, lkB ps s = some d ∧ d.wl (n0 :: n1 :: nr) ls 5 := fun s hs => by
      have L := lkd_wl hwl fun s hs => hpn ▸ hs
      exact L.h s hs
    obtain ⟨bp, hbp, wp⟩ := hlk p hpm
    obtain ⟨bq, hbq, wq⟩ := hlk q hqm
    have C : P40 (n0 :: n1 :: nr) ls ps p q bp bq := {
      nd := hpn ▸ hndn
      len := by have := congrArg List.length hpn; simp at this; omega
      sub := fun s hs => hpn ▸ hs
      ok := fun r hr => by
        have h3 := sz_le _ (hok r hr)
        have h4 : r.1 ∈ n0 :: n1 :: nr := hpn ▸ List.mem_map.mpr ⟨r, hr, rfl⟩
        exact ⟨wl_up (fun _ h => h) (fun _ h => h) _ (hwl r hr) (by omega), by omega, (bd_r hnn hln r.2 (hok r hr)).1, hnn _ h4⟩
      ll := hln
      hp := hbp
      hq := hbq
      dd := ⟨5, 5, wp, wq, by omega, by omega, by omega⟩ }
    exact st45 C (by simp) (by simp) S8 (f8.at hPa1 hA1) (f8.at hPa2 hA2) hP12 hq
end DL

set_option Elab.async false
set_option linter.all false
set_option maxRecDepth 100000
set_option maxHeartbeats 8000000
/-! derivations (printed by gen.py) -/
namespace DL
open PySem PySem.Spec PyProof.Rows L2 NdefX LamX
def top (i : Nat) : Stmt := PySem.Challenge.pw_hazardry_k40_unfolded_programs.main.body.getD i (.Pass ⟨0, 0, 0, 0⟩)
structure Tx (K : PySem.W.Frag) (mg : Str → Option Value) : Prop where
  m_abs : mg "abs" = none
  m_dict : mg "dict" = none
  m_int : mg "int" = none
  m_len : mg "len" = none
  m_list : mg "list" = none
  m_max : mg "max" = none
  m_min : mg "min" = none
  m_range : mg "range" = none
  m_repr : mg "repr" = none
  m_str : mg "str" = none
  m_sum : mg "sum" = none
  m_tuple : mg "tuple" = none
  m_zip : mg "zip" = none
  g_MOST_COMMANDS : GRep K mg "MOST_COMMANDS" g_MOST_COMMANDS
abbrev s_common_divisor : Stmt := top 4
theorem sc_common_divisor : FnScope ["first", "second"] ["first", "second"] (defScope s_common_divisor) := ⟨rfl, rfl, rfl, by decide +kernel, rfl, by decide +kernel, by decide +kernel⟩
abbrev s_common_denominator : Stmt := top 6
theorem sc_common_denominator : FnScope ["rows", "found", "fraction", "body"] ["rows"] (defScope s_common_denominator) := ⟨rfl, rfl, rfl, by decide +kernel, rfl, by decide +kernel, by decide +kernel⟩
abbrev s_drawn : Stmt := top 7
theorem sc_drawn : FnScope ["rows", "many", "number", "fraction", "body", "share"] ["rows", "many", "number"] (defScope s_drawn) := ⟨rfl, rfl, rfl, by decide +kernel, rfl, by decide +kernel, by decide +kernel⟩
abbrev s_run : Stmt := top 8
theorem sc_run : FnScope ["program", "procedure", "tape", "most", "bodies", "body", "behind", "word", "calls", "used", "end", "many"] ["program", "procedure", "tape", "most"] (defScope s_run) := ⟨rfl, rfl, rfl, by decide +kernel, rfl, by decide +kernel, by decide +kernel⟩
abbrev s_commands : Stmt := top 11
theorem sc_commands : FnScope ["body", "found", "left", "one", "row"] ["body"] (defScope s_commands) := ⟨rfl, rfl, rfl, by decide +kernel, rfl, by decide +kernel, by decide +kernel⟩
abbrev s_need : Stmt := top 12
theorem sc_need : FnScope ["many"] ["many"] (defScope s_need) := ⟨rfl, rfl, rfl, by decide +kernel, rfl, by decide +kernel, by decide +kernel⟩
abbrev s_ends_of : Stmt := top 13
theorem sc_ends_of : FnScope ["body", "found", "left", "one", "row"] ["body"] (defScope s_ends_of) := ⟨rfl, rfl, rfl, by decide +kernel, rfl, by decide +kernel, by decide +kernel⟩
abbrev s_changed : Stmt := top 14
theorem sc_changed : FnScope ["body", "change", "done", "left", "one", "ready", "inner", "many", "rows", "row", "part", "new"] ["body", "change"] (defScope s_changed) := ⟨rfl, rfl, rfl, by decide +kernel, rfl, by decide +kernel, by decide +kernel⟩
abbrev s_spliced : Stmt := top 15
theorem sc_spliced : FnScope ["body", "behind"] ["body", "behind"] (defScope s_spliced) := ⟨rfl, rfl, rfl, by decide +kernel, rfl, by decide +kernel, by decide +kernel⟩
abbrev la_spliced : Expr := argE 1 (retE ((defBody s_spliced).getD 0 (.Pass ⟨0, 0, 0, 0⟩)))
theorem nsl_spliced : NScope ["one", "behind"] ["one"] ["behind"] (laScope la_spliced) := nscope_by (by decide +kernel)
theorem ndl_spliced : ndefB (defScope s_spliced) (laScope la_spliced) ["behind"] = true := by decide +kernel
abbrev s_unfolded : Stmt := top 16
theorem sc_unfolded : FnScope ["program", "procedure", "called", "change", "bodies", "inner", "body", "plain", "ends", "name", "other"] ["program", "procedure", "called"] (defScope s_unfolded) := ⟨rfl, rfl, rfl, by decide +kernel, rfl, by decide +kernel, by decide +kernel⟩
abbrev ns_unfolded_change : Stmt := (defBody s_unfolded).getD 3 (.Pass ⟨0, 0, 0, 0⟩)
theorem nsc_unfolded_change : NScope ["one", "inner", "called", "plain", "ends"] ["one"] ["inner", "called", "plain", "ends"] (C8.fnScope ns_unfolded_change) := nscope_by (by decide +kernel)
theorem ndb_unfolded_change : ndefB (defScope s_unfolded) (C8.fnScope ns_unfolded_change) ["inner", "called", "plain", "ends"] = true := by decide +kernel
abbrev s_law_start5 : Stmt := top 18
theorem sc_law_start5 : FnScope ["script", "cell"] ["script"] (defScope s_law_start5) := ⟨rfl, rfl, rfl, by decide +kernel, rfl, by decide +kernel, by decide +kernel⟩
abbrev s_law_fill5 : Stmt := top 19
theorem sc_law_fill5 : FnScope ["c", "number"] ["c"] (defScope s_law_fill5) := ⟨rfl, rfl, rfl, by decide +kernel, rfl, by decide +kernel, by decide +kernel⟩
abbrev s_law_take5 : Stmt := top 20
theorem sc_law_take5 : FnScope ["c", "many", "digit"] ["c", "many"] (defScope s_law_take5) := ⟨rfl, rfl, rfl, by decide +kernel, rfl, by decide +kernel, by decide +kernel⟩
abbrev s_law_shuffled5 : Stmt := top 21
theorem sc_law_shuffled5 : FnScope ["c", "items", "left", "found"] ["c", "items"] (defScope s_law_shuffled5) := ⟨rfl, rfl, rfl, by decide +kernel, rfl, by decide +kernel, by decide +kernel⟩
abbrev s_law_names5 : Stmt := top 22
theorem sc_law_names5 : FnScope ["c", "many", "letters", "first", "found", "kind", "k"] ["c", "many"] (defScope s_law_names5) := ⟨rfl, rfl, rfl, by decide +kernel, rfl, by decide +kernel, by decide +kernel⟩
abbrev s_law_divisor5 : Stmt := top 23
theorem sc_law_divisor5 : FnScope ["a", "b", "turn"] ["a", "b"] (defScope s_law_divisor5) := ⟨rfl, rfl, rfl, by decide +kernel, rfl, by decide +kernel, by decide +kernel⟩
abbrev s_law_rows5 : Stmt := top 24
theorem sc_law_rows5 : FnScope ["c", "many", "d", "shares", "turn", "found", "share", "k", "both"] ["c", "many"] (defScope s_law_rows5) := ⟨rfl, rfl, rfl, by decide +kernel, rfl, by decide +kernel, by decide +kernel⟩
abbrev s_law_body5 : Stmt := top 25
theorem sc_law_body5 : FnScope ["c", "names", "letters", "deep", "kind", "many", "fractions", "one"] ["c", "names", "letters", "deep"] (defScope s_law_body5) := ⟨rfl, rfl, rfl, by decide +kernel, rfl, by decide +kernel, by decide +kernel⟩
abbrev s_law_program5 : Stmt := top 26
theorem sc_law_program5 : FnScope ["c", "names", "letters", "deep", "name"] ["c", "names", "letters", "deep"] (defScope s_law_program5) := ⟨rfl, rfl, rfl, by decide +kernel, rfl, by decide +kernel, by decide +kernel⟩
abbrev s_law_size : Stmt := top 27
theorem sc_law_size : FnScope ["body", "row"] ["body"] (defScope s_law_size) := ⟨rfl, rfl, rfl, by decide +kernel, rfl, by decide +kernel, by decide +kernel⟩
abbrev s_law_ends : Stmt := top 28
theorem sc_law_ends : FnScope ["body", "row"] ["body"] (defScope s_law_ends) := ⟨rfl, rfl, rfl, by decide +kernel, rfl, by decide +kernel, by decide +kernel⟩
abbrev s_law_put : Stmt := top 29
theorem sc_law_put : FnScope ["body", "behind", "row"] ["body", "behind"] (defScope s_law_put) := ⟨rfl, rfl, rfl, by decide +kernel, rfl, by decide +kernel, by decide +kernel⟩
abbrev s_law_unfolded : Stmt := top 30
theorem sc_law_unfolded : FnScope ["body", "q", "inner", "behind", "row"] ["body", "q", "inner"] (defScope s_law_unfolded) := ⟨rfl, rfl, rfl, by decide +kernel, rfl, by decide +kernel, by decide +kernel⟩
abbrev s_law_count : Stmt := top 31
theorem sc_law_count : FnScope ["body", "q", "plain", "ends", "behind", "row"] ["body", "q", "plain", "ends"] (defScope s_law_count) := ⟨rfl, rfl, rfl, by decide +kernel, rfl, by decide +kernel, by decide +kernel⟩
abbrev s_law_large : Stmt := top 32
theorem sc_law_large : FnScope ["c", "names", "letters", "many", "inner", "body", "turn", "one"] ["c", "names", "letters"] (defScope s_law_large) := ⟨rfl, rfl, rfl, by decide +kernel, rfl, by decide +kernel, by decide +kernel⟩
abbrev s_law : Stmt := top 33
theorem sc_law : FnScope ["script", "c", "names", "letters", "bodies", "many", "body", "turn", "program", "plain", "ends", "told", "tape", "name", "first", "second", "p", "q", "k", "other"] ["script"] (defScope s_law) := ⟨rfl, rfl, rfl, by decide +kernel, rfl, by decide +kernel, by decide +kernel⟩
section
variable {P : Program} {w : World} {K : PySem.W.Frag} {mg : Str → Option Value} {base : Heap} {CA : String → Addr}
theorem ok_common_divisor (T : Tx K mg) {f : Addr} {fd : FuncData} (F : Fun K "common_divisor" "common_divisor" s_common_divisor f fd) : FnOk P w K mg base CX0 1 f fd ["first", "second"] (spOf ⟨P, w, K, CA⟩ S_common_divisor) :=
  fn_l F sc_common_divisor len2 (gb := B_common_divisor) (fun cdv A outer s H E hr =>
    (ss_cons (s_par 0 1 rfl sc_common_divisor.nd (by decide) (d_abs T.m_abs (d_var 0)) (d_abs T.m_abs (d_var 1)) rfl)
    (ss_cons (s_while PassesOwn.never (t_cmp (op_neA hr) neS (d_var 1) d_int (nomark _)) (ss_one (s_par 0 1 rfl sc_common_divisor.nd (by decide) (d_var 1) (d_mod (d_var 0) (d_var 1)) rfl)))
    (ss_one (s_ret (d_var 0)))))) ob_common_divisor
theorem ok_common_denominator (T : Tx K mg) {f : Addr} {fd : FuncData} (F : Fun K "common_denominator" "common_denominator" s_common_denominator f fd) (D_common_divisor : FnD ⟨P, w, K, CA⟩ mg base CX0 1 "common_divisor" S_common_divisor) : FnOk P w K mg base CX0 2 f fd ["rows"] (spOf ⟨P, w, K, CA⟩ S_common_denominator) :=
  fn_l F sc_common_denominator len1 (gb := B_common_denominator) (fun cdv A outer s H E hr =>
    (ss_cons (s_set 1 sc_common_denominator.nd d_int)
    (ss_cons (s_for (vs := [2, 3]) PassesOwn.never rfl (i_val (d_var 0)) (g_tup rfl (gs_cons (g_name 2 sc_common_denominator.nd (by decide)) (gs_cons (g_name 3 sc_common_denominator.nd (by decide)) gs_nil))) (ss_one (s_set 1 sc_common_denominator.nd (d_div (d_mul (d_var 1) (d_sub_ hr (d_var 2) d_int)) (d_call D_common_divisor hr (by decide) passN (a_cons (d_var 1) (a_cons (d_sub_ hr (d_var 2) d_int) SAs.nil)))))))
    (ss_one (s_ret (d_var 1)))))) ob_common_denominator
theorem ok_drawn (T : Tx K mg) {f : Addr} {fd : FuncData} (F : Fun K "drawn" "drawn" s_drawn f fd) : FnOk P w K mg base CX0 1 f fd ["rows", "many", "number"] (spOf ⟨P, w, K, CA⟩ S_drawn) :=
  fn_l F sc_drawn len3 (gb := B_drawn) (fun cdv A outer s H E hr =>
    (ss_cons (s_for (vs := [3, 4]) PassesOwn.never rfl (i_val (d_var 0)) (g_tup rfl (gs_cons (g_name 3 sc_drawn.nd (by decide)) (gs_cons (g_name 4 sc_drawn.nd (by decide)) gs_nil))) (ss_cons (s_set 5 sc_drawn.nd (d_mul (d_sub_ hr (d_var 3) d_int) (d_div (d_var 1) (d_sub_ hr (d_var 3) d_int))))
    (ss_cons (s_if (t_cmp op_lt ltS (d_var 2) (d_var 5) (nomark _)) (ss_one (s_ret (d_var 4))) ss_nil)
    (ss_one (s_augSub 2 sc_drawn.nd (d_var 5))))))
    (ss_one (s_ret d_non)))) ob_drawn
theorem ok_run (T : Tx K mg) {f : Addr} {fd : FuncData} (F : Fun K "run" "run" s_run f fd) (D_common_denominator : FnD ⟨P, w, K, CA⟩ mg base CX0 2 "common_denominator" S_common_denominator) (D_drawn : FnD ⟨P, w, K, CA⟩ mg base CX0 1 "drawn" S_drawn) : FnOk P w K mg base CX0 3 f fd ["program", "procedure", "tape", "most"] (spOf ⟨P, w, K, CA⟩ S_run) :=
  fn_l F sc_run len4 (gb := B_run) (fun cdv A outer s H E hr =>
    (ss_cons (s_set 4 sc_run.nd (d_dict rfl T.m_dict (d_var 0)))
    (ss_cons (s_set 5 sc_run.nd (d_sub_ hr (d_var 4) (d_var 1)))
    (ss_cons (s_set 6 sc_run.nd (d_lst SAs.nil))
    (ss_cons (s_set 7 sc_run.nd (d_lst SAs.nil))
    (ss_cons (s_set 8 sc_run.nd d_int)
    (ss_cons (s_set 9 sc_run.nd d_int)
    (ss_cons (s_set 10 sc_run.nd d_str)
    (ss_cons (s_while PassesOwn.never (t_cmp (op_eqA hr) eqS (d_var 10) d_str (nomark _)) (ss_one (s_if (t_cmp (op_eqA hr) eqS (d_sub_ hr (d_var 5) d_int) d_str (nomark _)) (ss_one (s_if (t_tru (d_var 6)) (ss_one (s_set 5 sc_run.nd (d_pop (d_var 6)))) (ss_one (s_set 10 sc_run.nd d_str)))) (ss_one (s_if (t_cmp (op_eqA hr) eqS (d_sub_ hr (d_var 5) d_int) d_str (nomark _)) (ss_one (s_set 10 sc_run.nd d_str)) (ss_one (s_if (t_cmp (op_eqA hr) eqS (d_sub_ hr (d_var 5) d_int) d_str (nomark _)) (ss_cons (s_expr (d_append (d_var 7) (d_sub_ hr (d_var 5) d_int)))
    (ss_one (s_set 5 sc_run.nd (d_sub_ hr (d_var 5) d_int)))) (ss_one (s_if (t_cmp (op_eqA hr) eqS (d_sub_ hr (d_var 5) d_int) d_str (nomark _)) (ss_one (s_if (t_cmp (op_eqA hr) eqS (d_var 8) (d_var 3) (nomark _)) (ss_one (s_set 10 sc_run.nd d_str)) (ss_cons (s_augAdd 8 sc_run.nd d_int)
    (ss_cons (s_expr (d_append (d_var 6) (d_sub_ hr (d_var 5) d_int)))
    (ss_one (s_set 5 sc_run.nd (d_sub_ hr (d_var 4) (d_sub_ hr (d_var 5) d_int)))))))) (ss_cons (s_set 11 sc_run.nd (d_call D_common_denominator hr (by decide) passN (a_cons (d_sub_ hr (d_var 5) d_int) SAs.nil)))
    (ss_one (s_if (t_cmp (op_eqA hr) eqS (d_var 11) d_int (nomark _)) (ss_one (s_set 5 sc_run.nd (d_sub_ hr (d_sub_ hr (d_sub_ hr (d_var 5) d_int) d_int) d_int))) (ss_one (s_if (t_cmp (op_eqA hr) eqS (d_var 9) (d_len T.m_len (d_var 2)) (nomark _)) (ss_one (s_set 10 sc_run.nd d_str)) (ss_cons (s_set 5 sc_run.nd (d_call D_drawn hr (by decide) passN (a_cons (d_sub_ hr (d_var 5) d_int) (a_cons (d_var 11) (a_cons (d_mod (d_sub_ hr (d_var 2) (d_var 9)) (d_var 11)) SAs.nil)))))
    (ss_one (s_augAdd 9 sc_run.nd d_int)))))))))))))))))
    (ss_one (s_ret (d_tup (a_cons (d_var 10) (a_cons (d_tupOf T.m_tuple (d_var 7)) (a_cons (d_var 8) (a_cons (d_var 9) SAs.nil)))))))))))))))) ob_run
theorem ok_commands (T : Tx K mg) {f : Addr} {fd : FuncData} (F : Fun K "commands" "commands" s_commands f fd) : FnOk P w K mg base CX0 1 f fd ["body"] (spOf ⟨P, w, K, CA⟩ S_commands) :=
  fn_l F sc_commands len1 (gb := B_commands) (fun cdv A outer s H E hr =>
    (ss_cons (s_set 1 sc_commands.nd d_int)
    (ss_cons (s_set 2 sc_commands.nd (d_lst (a_cons (d_var 0) SAs.nil)))
    (ss_cons (s_while PassesOwn.never (t_tru (d_var 2)) (ss_cons (s_set 3 sc_commands.nd (d_pop (d_var 2)))
    (ss_cons (s_augAdd 1 sc_commands.nd d_int)
    (ss_one (s_if (t_cmp (op_inA hr) inS (d_sub_ hr (d_var 3) d_int) (d_tup (a_cons d_str (a_cons d_str SAs.nil))) (by rfl)) (ss_one (s_expr (d_append (d_var 2) (d_sub_ hr (d_var 3) d_int)))) (ss_one (s_if (t_cmp (op_eqA hr) eqS (d_sub_ hr (d_var 3) d_int) d_str (nomark _)) (ss_one (s_expr (d_extend (d_var 2) (d_comp (own := [("row", 4)]) rfl sc_commands.nd (i_val (d_sub_ hr (d_var 3) d_int)) (blk_by (N := ["body", "found", "left", "one", "row"]) (sc := defScope s_commands) rfl rfl (own := [("row", 4)]) (by decide +kernel)) (fun _ _ _ _ _ => (g_name 4 sc_commands.nd (by decide))) (fun _ _ _ _ _ => ts_nil) (fun _ _ _ _ _ => (d_sub_ hr (d_var 4) d_int)))))) ss_nil)))))))
    (ss_one (s_ret (d_var 1))))))) ob_commands
theorem ok_need (T : Tx K mg) {f : Addr} {fd : FuncData} (F : Fun K "need" "need" s_need f fd) {A_LimitError : Addr} (X_LimitError : ExcK K mg "LimitError" A_LimitError) (hCA_LimitError : CA "LimitError" = A_LimitError) : FnOk P w K mg base (CXx P w) 1 f fd ["many"] (spOf ⟨P, w, K, CA⟩ S_need) :=
  fn_lX F sc_need len1 (gb := B_need) (fun cdv A outer s H E hr =>
    (ss_one (s_if (t_cmp op_gt gtS (d_var 0) (d_glob T.g_MOST_COMMANDS) (nomark _)) (ss_one (s_raise0 X_LimitError hCA_LimitError rfl tk1)) ss_nil))) ob_need
theorem ok_ends_of (T : Tx K mg) {f : Addr} {fd : FuncData} (F : Fun K "ends_of" "ends_of" s_ends_of f fd) : FnOk P w K mg base CX0 1 f fd ["body"] (spOf ⟨P, w, K, CA⟩ S_ends_of) :=
  fn_l F sc_ends_of len1 (gb := B_ends_of) (fun cdv A outer s H E hr =>
    (ss_cons (s_set 1 sc_ends_of.nd d_int)
    (ss_cons (s_set 2 sc_ends_of.nd (d_lst (a_cons (d_var 0) SAs.nil)))
    (ss_cons (s_while PassesOwn.never (t_tru (d_var 2)) (ss_cons (s_set 3 sc_ends_of.nd (d_pop (d_var 2)))
    (ss_one (s_if (t_cmp (op_eqA hr) eqS (d_sub_ hr (d_var 3) d_int) d_str (nomark _)) (ss_one (s_augAdd 1 sc_ends_of.nd d_int)) (ss_one (s_if (t_cmp (op_inA hr) inS (d_sub_ hr (d_var 3) d_int) (d_tup (a_cons d_str (a_cons d_str SAs.nil))) (by rfl)) (ss_one (s_expr (d_append (d_var 2) (d_sub_ hr (d_var 3) d_int)))) (ss_one (s_if (t_cmp (op_eqA hr) eqS (d_sub_ hr (d_var 3) d_int) d_str (nomark _)) (ss_one (s_expr (d_extend (d_var 2) (d_comp (own := [("row", 4)]) rfl sc_ends_of.nd (i_val (d_sub_ hr (d_var 3) d_int)) (blk_by (N := ["body", "found", "left", "one", "row"]) (sc := defScope s_ends_of) rfl rfl (own := [("row", 4)]) (by decide +kernel)) (fun _ _ _ _ _ => (g_name 4 sc_ends_of.nd (by decide))) (fun _ _ _ _ _ => ts_nil) (fun _ _ _ _ _ => (d_sub_ hr (d_var 4) d_int)))))) ss_nil))))))))
    (ss_one (s_ret (d_var 1))))))) ob_ends_of
theorem ok_changed (T : Tx K mg) {fa : Addr} {fd : FuncData} (F0 : Fun K "changed" "changed" s_changed fa fd) : ∀ kc, 1 ≤ kc → FnOkK ⟨P, w, K, CA⟩ mg base (CXx P w) (kc + 1) kc fa fd ["body", "change"] S_changed := fun kc _ =>
  fn_fK F0 sc_changed (fun _ _ _ => len2) (gb := B_changed) (fun cdv A outer s H E hr f κ pc fr ws wd C Fn cap hw =>
    (ss_cons (s_set 2 sc_changed.nd (d_lst SAs.nil))
    (ss_cons (s_set 3 sc_changed.nd (d_lst (a_cons (d_tup (a_cons (d_var 0) (a_cons d_bl SAs.nil))) SAs.nil)))
    (ss_cons (s_while pown1 (t_tru (d_var 3)) (ss_cons (s_asg (vs := [4, 5]) (d_pop (d_var 3)) (g_tup rfl (gs_cons (g_name 4 sc_changed.nd (by decide)) (gs_cons (g_name 5 sc_changed.nd (by decide)) gs_nil))))
    (ss_one (s_if (t_cmp (op_inA hr) inS (d_sub_ hr (d_var 4) d_int) (d_tup (a_cons d_str (a_cons d_str SAs.nil))) (by rfl)) (ss_one (s_expr (d_append (d_var 2) (d_callk 1 Fn cap hw hr (Nat.le_refl _) pass1 (a_cons (d_var 4) SAs.nil))))) (ss_one (s_if (t_not (t_tru (d_var 5))) (ss_cons (s_expr (d_append (d_var 3) (d_tup (a_cons (d_var 4) (a_cons d_bl SAs.nil)))))
    (ss_cons (s_set 6 sc_changed.nd (d_ifE (t_cmp (op_eqA hr) eqS (d_sub_ hr (d_var 4) d_int) d_str (nomark _)) (d_comp (own := [("row", 9)]) rfl sc_changed.nd (i_val (d_rev (d_sub_ hr (d_var 4) d_int))) (blk_by (N := ["body", "change", "done", "left", "one", "ready", "inner", "many", "rows", "row", "part", "new"]) (sc := defScope s_changed) rfl rfl (own := [("row", 9)]) (by decide +kernel)) (fun _ _ _ _ _ => (g_name 9 sc_changed.nd (by decide))) (fun _ _ _ _ _ => ts_nil) (fun _ _ _ _ _ => (d_sub_ hr (d_var 9) d_int))) (d_lst (a_cons (d_sub_ hr (d_var 4) d_int) SAs.nil))))
    (ss_one (s_expr (d_extend (d_var 3) (d_comp (own := [("part", 10)]) rfl sc_changed.nd (i_val (d_var 6)) (blk_by (N := ["body", "change", "done", "left", "one", "ready", "inner", "many", "rows", "row", "part", "new"]) (sc := defScope s_changed) rfl rfl (own := [("part", 10)]) (by decide +kernel)) (fun _ _ _ _ _ => (g_name 10 sc_changed.nd (by decide))) (fun _ _ _ _ _ => ts_nil) (fun _ _ _ _ _ => (d_tup (a_cons (d_var 10) (a_cons d_bl SAs.nil)))))))))) (ss_one (s_if (t_cmp (op_eqA hr) eqS (d_sub_ hr (d_var 4) d_int) d_str (nomark _)) (ss_cons (s_set 7 sc_changed.nd (d_sub (d_len T.m_len (d_var 2)) (d_len T.m_len (d_sub_ hr (d_var 4) d_int))))
    (ss_cons (s_setComp (own := [("row", 9), ("new", 11)]) 8 rfl sc_changed.nd (sw_true rfl rfl rfl (by decide +kernel)) (i_zipT T.m_zip (d_sub_ hr (d_var 4) d_int) (d_slice (d_var 2) (o_some (d_var 7)) o_none)) (blk_by (N := ["body", "change", "done", "left", "one", "ready", "inner", "many", "rows", "row", "part", "new"]) (sc := defScope s_changed) rfl rfl (own := [("row", 9), ("new", 11)]) (by decide +kernel)) (fun _ _ _ _ _ => (g_tup rfl (gs_cons (g_name 9 sc_changed.nd (by decide)) (gs_cons (g_name 11 sc_changed.nd (by decide)) gs_nil)))) (fun _ _ _ _ _ => ts_nil) (fun _ _ _ _ _ => (d_tup (a_cons (d_sub_ hr (d_var 9) d_int) (a_cons (d_var 11) SAs.nil)))))
    (ss_one (s_set 2 sc_changed.nd (d_add (d_slice (d_var 2) o_none (o_some (d_var 7))) (d_lst (a_cons (d_tup (a_cons d_str (a_cons (d_tupOf T.m_tuple (d_var 8)) SAs.nil))) SAs.nil))))))) (ss_one (s_expr (d_append (d_var 2) (d_callk 1 Fn cap hw hr (Nat.le_refl _) pass1 (a_cons (d_tup (a_cons (d_sub_ hr (d_var 4) d_int) (a_cons (d_sub_ hr (d_var 4) d_int) (a_cons (d_pop (d_var 2)) SAs.nil)))) SAs.nil)))))))))))))
    (ss_one (s_ret (d_sub_ hr (d_var 2) d_int))))))) ob_changed
theorem fnl_spliced (T : Tx K mg) (cl : List (Str × Addr)) (c' : Addr) : FnK ⟨P, w, K, CA⟩ mg base CX0 1 (.l (laNF la_spliced "spliced.<locals>.<lambda>" cl c') (laBody la_spliced)) ["one"] ["behind"] C_spliced_lambda :=
  lok_d (k := 0) (ge := LE_spliced) nsl_spliced (fun _ _ us hl => match us, hl with | [_], _ => rfl) (fun wd => len1) (fun f A outer s H E hr => (d_ifE (t_cmp (op_eqW hr) eqWS (d_var 0) (d_tup (a_cons d_str SAs.nil)) (nomark _)) (d_var 1) (d_var 0))) obl_spliced
theorem ok_spliced (T : Tx K mg) {f cc P_spliced : Addr} {fd : FuncData} (F : Fun K "spliced" "spliced" s_spliced f fd) (hco : fd.code = .ref cc) (TB : TabB base mg cc P_spliced) (D_changed : FnDK ⟨P, w, K, CA⟩ mg base (CXx P w) "changed" S_changed) : FnOk P w K mg base (CXx P w) 3 f fd ["body", "behind"] (spOf ⟨P, w, K, CA⟩ (S_spliced P_spliced)) :=
  fn_lTX F hco sc_spliced len2 (gb := B_spliced P_spliced (laBody la_spliced)) (fun cdv hcd A outer s H E hr =>
    (ss_one (s_ret (d_callL [1] D_changed rfl TB hcd rfl rfl (ndef_free ndl_spliced) (fun cl c' => (fnl_spliced (P := P) (w := w) (base := base) (CA := CA) T cl c').up (Nat.le_refl _)) (fun ok => Caps.made ok (ndef_free ndl_spliced) (ndef_fr ndl_spliced) rfl) (fun _ => rfl) hr (by decide) (by decide) pass1 (d_var 0))))) (ob_spliced P_spliced (laBody la_spliced))
theorem fnc_unfolded_change (T : Tx K mg) {P_spliced : Addr} (D_need : FnD ⟨P, w, K, CA⟩ mg base (CXx P w) 1 "need" S_need) (D_spliced : FnD ⟨P, w, K, CA⟩ mg base (CXx P w) 3 "spliced" (S_spliced P_spliced)) (D_commands : FnD ⟨P, w, K, CA⟩ mg base CX0 1 "commands" S_commands) (cl : List (Str × Addr)) (c' : Addr) : FnK ⟨P, w, K, CA⟩ mg base (CXx P w) 4 (.d (.of ns_unfolded_change "change" "unfolded.<locals>.change" cl c')) ["one"] ["inner", "called", "plain", "ends"] (C_unfolded_change P_spliced) :=
  nok_dX (k := 3) (gb := BN_unfolded_change P_spliced) nsc_unfolded_change (fun _ _ _ us hl => match us, hl with | [_], _ => rfl) (fun wd => len1) (fun f A outer s H E hr => (ss_cons (s_if (t_w (w_or (t_cmp (op_neA hr) neS (d_sub_ hr (d_var 0) d_int) d_str (nomark _)) (w_or1 (t_cmp (op_neA hr) neS (d_sub_ hr (d_var 0) d_int) (d_var 2) (nomark _))))) (ss_one (s_ret (d_var 0))) ss_nil)
    (ss_cons (s_expr (d_call D_need hr (by decide) pass1n (a_cons (d_add (d_sub (d_var 3) (d_var 4)) (d_mul (d_var 4) (d_call D_commands hr (by decide) passN (a_cons (d_sub_ hr (d_var 0) d_int) SAs.nil)))) SAs.nil)))
    (ss_one (s_ret (d_call D_spliced hr (by decide) pass1n (a_cons (d_var 1) (a_cons (d_sub_ hr (d_var 0) d_int) SAs.nil)))))))) (obn_unfolded_change P_spliced)
theorem ok_unfolded (T : Tx K mg) {f cc P_spliced P_unfolded : Addr} {fd : FuncData} (F : Fun K "unfolded" "unfolded" s_unfolded f fd) (hco : fd.code = .ref cc) (TB : TabB base mg cc P_unfolded) (D_changed : FnDK ⟨P, w, K, CA⟩ mg base (CXx P w) "changed" S_changed) (D_need : FnD ⟨P, w, K, CA⟩ mg base (CXx P w) 1 "need" S_need) (D_commands : FnD ⟨P, w, K, CA⟩ mg base CX0 1 "commands" S_commands) (D_ends_of : FnD ⟨P, w, K, CA⟩ mg base CX0 1 "ends_of" S_ends_of) (D_spliced : FnD ⟨P, w, K, CA⟩ mg base (CXx P w) 3 "spliced" (S_spliced P_spliced)) : FnOk P w K mg base (CXx P w) 6 f fd ["program", "procedure", "called"] (spOf ⟨P, w, K, CA⟩ (S_unfolded P_spliced P_unfolded)) :=
  fn_lTX F hco sc_unfolded len3 (gb := B_unfolded P_spliced P_unfolded) (fun cdv hcd A outer s H E hr =>
    (ss_cons (s_set 4 sc_unfolded.nd (d_dict rfl T.m_dict (d_var 0)))
    (ss_cons (s_set 5 sc_unfolded.nd (d_sub_ hr (d_var 4) (d_var 2)))
    (ss_cons (s_asg (vs := [7, 8]) (d_tup (a_cons (d_call D_commands hr (by decide) passN (a_cons (d_var 5) SAs.nil)) (a_cons (d_call D_ends_of hr (by decide) passN (a_cons (d_var 5) SAs.nil)) SAs.nil))) (g_tup rfl (gs_cons (g_name 7 sc_unfolded.nd (by decide)) (gs_cons (g_name 8 sc_unfolded.nd (by decide)) gs_nil))))
    (s_ndef 3 rfl TB hcd rfl (ndef_free ndb_unfolded_change) rfl rfl rfl sc_unfolded.nd rfl (by first | exact .inl rfl | exact .inr rfl) (.inl rfl) fun f c' =>
    (ss_cons (s_set 6 sc_unfolded.nd (d_callO f [5, 2, 7, 8] D_changed (fnc_unfolded_change (P := P) (w := w) (base := base) (CA := CA) T D_need D_spliced D_commands _ c') (fun ok => Caps.made ok (ndef_free ndb_unfolded_change) (ndef_fr ndb_unfolded_change) rfl) (fun _ => rfl) hr (by decide) (by decide) pass1 (a_cons (d_sub_ hr (d_var 4) (d_var 1)) (a_cons (d_var 3) SAs.nil))))
    (ss_cons (s_expr (d_call D_need hr (by decide) pass1 (a_cons (d_call D_commands hr (by decide) passN (a_cons (d_var 6) SAs.nil)) SAs.nil)))
    (ss_one (s_ret (d_tupOf T.m_tuple (d_comp (own := [("name", 9), ("other", 10)]) rfl sc_unfolded.nd (i_val (d_var 0)) (blk_by (N := ["program", "procedure", "called", "change", "bodies", "inner", "body", "plain", "ends", "name", "other"]) (sc := defScope s_unfolded) rfl rfl (own := [("name", 9), ("other", 10)]) (by decide +kernel)) (fun _ _ _ _ _ => (g_tup rfl (gs_cons (g_name 9 sc_unfolded.nd (by decide)) (gs_cons (g_name 10 sc_unfolded.nd (by decide)) gs_nil)))) (fun _ _ _ _ _ => ts_nil) (fun _ _ _ _ _ => (d_tup (a_cons (d_var 9) (a_cons (d_ifE (t_cmp (op_eqA hr) eqS (d_var 9) (d_var 1) (nomark _)) (d_var 6) (d_var 10)) SAs.nil))))))))))))))) (ob_unfolded P_spliced P_unfolded)
theorem ok_law_start5 (T : Tx K mg) {f : Addr} {fd : FuncData} (F : Fun K "_law_start" "_law_start" s_law_start5 f fd) : FnOk P w K mg base CX0 1 f fd ["script"] (spOf ⟨P, w, K, CA⟩ S_law_start5) :=
  fn_l F sc_law_start5 len1 (gb := B_law_start5) (fun cdv A outer s H E hr =>
    (ss_one (s_ret (d_lst (a_cons (d_comp (own := [("cell", 1)]) rfl sc_law_start5.nd (i_val (d_slice (d_var 0) o_none (o_some d_int))) (blk_by (N := ["script", "cell"]) (sc := defScope s_law_start5) rfl rfl (own := [("cell", 1)]) (by decide +kernel)) (fun _ _ _ _ _ => (g_name 1 sc_law_start5.nd (by decide))) (fun _ _ _ _ _ => ts_nil) (fun _ _ _ _ _ => (d_intC T.m_int (d_var 1)))) (a_cons d_int (a_cons d_int (a_cons d_int (a_cons d_int SAs.nil))))))))) ob_law_start5
theorem ok_law_fill5 (T : Tx K mg) {f : Addr} {fd : FuncData} (F : Fun K "_law_fill" "_law_fill" s_law_fill5 f fd) : FnOk P w K mg base CX0 1 f fd ["c"] (spOf ⟨P, w, K, CA⟩ S_law_fill5) :=
  fn_l F sc_law_fill5 len1 (gb := B_law_fill5) (fun cdv A outer s H E hr =>
    (ss_cons (s_asg (vs := []) (d_add (d_sub_ hr (d_var 0) d_int) d_int) (g_sub hr (d_var 0) d_int))
    (ss_cons (s_set 1 sc_law_fill5.nd (d_add (d_mul (d_sub_ hr (d_var 0) d_int) d_int) d_int))
    (ss_cons (s_if (t_cmp op_lt ltS (d_sub_ hr (d_var 0) d_int) (d_len T.m_len (d_sub_ hr (d_var 0) d_int)) (nomark _)) (ss_cons (s_set 1 sc_law_fill5.nd (d_max2 rfl T.m_max (d_sub_ hr (d_sub_ hr (d_var 0) d_int) (d_sub_ hr (d_var 0) d_int)) (d_sub (d_sub d_int d_int) (d_sub_ hr (d_sub_ hr (d_var 0) d_int) (d_sub_ hr (d_var 0) d_int)))))
    (ss_cons (s_asg (vs := []) (d_add (d_sub_ hr (d_var 0) d_int) d_int) (g_sub hr (d_var 0) d_int))
    (ss_one (s_if (t_cmp op_ge geS (d_var 1) (d_pow d_int d_int) (nomark _)) (ss_one (s_ret (d_var 1))) ss_nil)))) ss_nil)
    (ss_cons (s_if (t_w (w_and (t_tru (d_sub_ hr (d_var 0) d_int)) (w_and1 (t_cmp op_ge geS (d_sub_ hr (d_var 0) d_int) (d_len T.m_len (d_sub_ hr (d_var 0) d_int)) (nomark _))))) (ss_one (s_set 1 sc_law_fill5.nd (d_add (d_var 1) (d_mod (d_intC T.m_int (d_sub_ hr (d_sub_ hr (d_var 0) d_int) (d_neg d_int))) d_int)))) ss_nil)
    (ss_cons (s_set 1 sc_law_fill5.nd (d_mod (d_intC T.m_int (d_add (d_mul (d_var 1) d_int) (d_mul (d_sub_ hr (d_var 0) d_int) d_int))) d_int))
    (ss_one (s_ret (d_add (d_div (d_intC T.m_int (d_add (d_add (d_mul (d_var 1) (d_var 1)) (d_mul (d_sub_ hr (d_var 0) d_int) d_int)) d_int)) d_int) d_int))))))))) ob_law_fill5
theorem ok_law_take5 (T : Tx K mg) {f : Addr} {fd : FuncData} (F : Fun K "_law_take" "_law_take" s_law_take5 f fd) (D_law_fill5 : FnD ⟨P, w, K, CA⟩ mg base CX0 1 "_law_fill" S_law_fill5) : FnOk P w K mg base CX0 2 f fd ["c", "many"] (spOf ⟨P, w, K, CA⟩ S_law_take5) :=
  fn_l F sc_law_take5 len2 (gb := B_law_take5) (fun cdv A outer s H E hr =>
    (ss_cons (s_if (t_cmp op_lt ltS (d_sub_ hr (d_var 0) d_int) (d_var 1) (nomark _)) (ss_one (s_asg (vs := []) (d_call D_law_fill5 hr (by decide) passN (a_cons (d_var 0) SAs.nil)) (g_sub hr (d_var 0) d_int))) ss_nil)
    (ss_cons (s_set 2 sc_law_take5.nd (d_mod (d_intC T.m_int (d_sub_ hr (d_var 0) d_int)) (d_var 1)))
    (ss_cons (s_asg (vs := []) (d_div (d_sub_ hr (d_var 0) d_int) (d_var 1)) (g_sub hr (d_var 0) d_int))
    (ss_one (s_ret (d_var 2))))))) ob_law_take5
theorem ok_law_shuffled5 (T : Tx K mg) {f : Addr} {fd : FuncData} (F : Fun K "_law_shuffled" "_law_shuffled" s_law_shuffled5 f fd) (D_law_take5 : FnD ⟨P, w, K, CA⟩ mg base CX0 2 "_law_take" S_law_take5) : FnOk P w K mg base CX0 3 f fd ["c", "items"] (spOf ⟨P, w, K, CA⟩ S_law_shuffled5) :=
  fn_l F sc_law_shuffled5 len2 (gb := B_law_shuffled5) (fun cdv A outer s H E hr =>
    (ss_cons (s_set 2 sc_law_shuffled5.nd (d_lstOf rfl T.m_list (d_var 1)))
    (ss_cons (s_set 3 sc_law_shuffled5.nd (d_lst SAs.nil))
    (ss_cons (s_while PassesOwn.never (t_tru (d_var 2)) (ss_one (s_expr (d_append (d_var 3) (d_popAt (d_var 2) (d_call D_law_take5 hr (by decide) passN (a_cons (d_var 0) (a_cons (d_len T.m_len (d_var 2)) SAs.nil))))))))
    (ss_one (s_ret (d_var 3))))))) ob_law_shuffled5
theorem ok_law_names5 (T : Tx K mg) {f : Addr} {fd : FuncData} (F : Fun K "_law_names" "_law_names" s_law_names5 f fd) (D_law_take5 : FnD ⟨P, w, K, CA⟩ mg base CX0 2 "_law_take" S_law_take5) (D_law_shuffled5 : FnD ⟨P, w, K, CA⟩ mg base CX0 3 "_law_shuffled" S_law_shuffled5) : FnOk P w K mg base CX0 4 f fd ["c", "many"] (spOf ⟨P, w, K, CA⟩ S_law_names5) :=
  fn_l F sc_law_names5 len2 (gb := B_law_names5) (fun cdv A outer s H E hr =>
    (ss_cons (s_set 2 sc_law_names5.nd d_str)
    (ss_cons (s_set 3 sc_law_names5.nd (d_add (d_sub_ hr d_str (d_call D_law_take5 hr (by decide) passN (a_cons (d_var 0) (a_cons d_int SAs.nil)))) (d_sub_ hr (d_lst (a_cons d_str (a_cons d_str (a_cons d_str (a_cons d_str SAs.nil))))) (d_call D_law_take5 hr (by decide) passN (a_cons (d_var 0) (a_cons d_int SAs.nil))))))
    (ss_cons (s_setComp (own := [("k", 6)]) 4 rfl sc_law_names5.nd (sw_true rfl rfl rfl (by decide +kernel)) (i_range1 T.m_range (d_var 1)) (blk_by (N := ["c", "many", "letters", "first", "found", "kind", "k"]) (sc := defScope s_law_names5) rfl rfl (own := [("k", 6)]) (by decide +kernel)) (fun _ _ _ _ _ => (g_name 6 sc_law_names5.nd (by decide))) (fun _ _ _ _ _ => ts_nil) (fun _ _ _ _ _ => (d_add (d_var 3) (d_sub_ hr (d_var 2) (d_var 6)))))
    (ss_cons (s_set 5 sc_law_names5.nd (d_call D_law_take5 hr (by decide) passN (a_cons (d_var 0) (a_cons d_int SAs.nil))))
    (ss_cons (s_for (vs := [6]) PassesOwn.never rfl (i_range1 T.m_range (d_var 1)) (g_name 6 sc_law_names5.nd (by decide)) (ss_one (s_if (t_w (w_and (t_cmp (op_eqA hr) eqS (d_var 5) d_int (nomark _)) (w_and1 (t_cmp (op_eqA hr) eqS (d_call D_law_take5 hr (by decide) passN (a_cons (d_var 0) (a_cons d_int SAs.nil))) d_int (nomark _))))) (ss_one (s_asg (vs := []) (d_add d_str (d_strI T.m_str (d_add (d_var 6) d_int))) (g_sub hr (d_var 4) (d_var 6)))) ss_nil)))
    (ss_one (s_ret (d_call D_law_shuffled5 hr (by decide) passN (a_cons (d_var 0) (a_cons (d_var 4) SAs.nil))))))))))) ob_law_names5
theorem ok_law_divisor5 (T : Tx K mg) {f : Addr} {fd : FuncData} (F : Fun K "_law_divisor" "_law_divisor" s_law_divisor5 f fd) : FnOk P w K mg base CX0 1 f fd ["a", "b"] (spOf ⟨P, w, K, CA⟩ S_law_divisor5) :=
  fn_l F sc_law_divisor5 len2 (gb := B_law_divisor5) (fun cdv A outer s H E hr =>
    (ss_cons (s_for (vs := [2]) PassesOwn.never rfl (i_range1 T.m_range d_int) (g_name 2 sc_law_divisor5.nd (by decide)) (ss_cons (s_if (t_cmp (op_eqA hr) eqS (d_var 1) d_int (nomark _)) (ss_one (s_ret (d_var 0))) ss_nil)
    (ss_one (s_par 0 1 rfl sc_law_divisor5.nd (by decide) (d_var 1) (d_mod (d_var 0) (d_var 1)) rfl))))
    (ss_one (s_ret d_int)))) ob_law_divisor5
theorem ok_law_rows5 (T : Tx K mg) {f : Addr} {fd : FuncData} (F : Fun K "_law_rows" "_law_rows" s_law_rows5 f fd) (D_law_take5 : FnD ⟨P, w, K, CA⟩ mg base CX0 2 "_law_take" S_law_take5) (D_law_divisor5 : FnD ⟨P, w, K, CA⟩ mg base CX0 1 "_law_divisor" S_law_divisor5) : FnOk P w K mg base CX0 3 f fd ["c", "many"] (spOf ⟨P, w, K, CA⟩ S_law_rows5) :=
  fn_l F sc_law_rows5 len2 (gb := B_law_rows5) (fun cdv A outer s H E hr =>
    (ss_cons (s_set 2 sc_law_rows5.nd (d_sub_ hr (d_lst (a_cons d_int (a_cons d_int (a_cons d_int (a_cons d_int (a_cons d_int (a_cons d_int (a_cons d_int (a_cons d_int (a_cons d_int (a_cons d_int SAs.nil))))))))))) (d_call D_law_take5 hr (by decide) passN (a_cons (d_var 0) (a_cons d_int SAs.nil)))))
    (ss_cons (s_set 1 sc_law_rows5.nd (d_min2 rfl T.m_min (d_var 1) (d_var 2)))
    (ss_cons (s_set 3 sc_law_rows5.nd (d_rep (d_lst (a_cons d_int SAs.nil)) (d_var 1)))
    (ss_cons (s_for (vs := [4]) PassesOwn.never rfl (i_range1 T.m_range (d_sub (d_var 2) (d_var 1))) (g_name 4 sc_law_rows5.nd (by decide)) (ss_cons (s_set 7 sc_law_rows5.nd (d_call D_law_take5 hr (by decide) passN (a_cons (d_var 0) (a_cons (d_var 1) SAs.nil))))
    (ss_one (s_asg (vs := []) (d_add (d_sub_ hr (d_var 3) (d_var 7)) d_int) (g_sub hr (d_var 3) (d_var 7))))))
    (ss_cons (s_set 5 sc_law_rows5.nd (d_lst SAs.nil))
    (ss_cons (s_for (vs := [6]) PassesOwn.never rfl (i_val (d_var 3)) (g_name 6 sc_law_rows5.nd (by decide)) (ss_cons (s_set 8 sc_law_rows5.nd (d_call D_law_divisor5 hr (by decide) passN (a_cons (d_var 6) (a_cons (d_var 2) SAs.nil))))
    (ss_one (s_expr (d_append (d_var 5) (d_tup (a_cons (d_div (d_var 6) (d_var 8)) (a_cons (d_div (d_var 2) (d_var 8)) SAs.nil))))))))
    (ss_one (s_ret (d_var 5)))))))))) ob_law_rows5
theorem ok_law_body5 (T : Tx K mg) {f : Addr} {fd : FuncData} (F : Fun K "_law_body" "_law_body" s_law_body5 f fd) (hm : mg "_law_body" = some (.ref f)) (hb : Binds K fd ["c", "names", "letters", "deep"] []) (D_law_take5 : FnD ⟨P, w, K, CA⟩ mg base CX0 2 "_law_take" S_law_take5) (D_law_rows5 : FnD ⟨P, w, K, CA⟩ mg base CX0 3 "_law_rows" S_law_rows5) : ∀ n : Nat, FnOk P w K mg base CX0 (3 + n) f fd ["c", "names", "letters", "deep"] (spOf ⟨P, w, K, CA⟩ (S_law_body5 n))
  | 0 => fn_none no_law_body5
  | n + 1 => by
    have D_self := FnOk.d (ok_law_body5 T F hm hb D_law_take5 D_law_rows5 n) hm F.kp hb
    exact fn_l F sc_law_body5 len4 (gb := B_law_body5 n) (fun cdv A outer s H E hr =>
    (ss_cons (s_set 4 sc_law_body5.nd (d_call D_law_take5 hr (Nat.le_add_right_of_le (by decide)) passN (a_cons (d_var 0) (a_cons d_int SAs.nil))))
    (ss_cons (s_if (t_w (w_or (t_cmp (op_eqA hr) eqS (d_var 3) d_int (nomark _)) (w_or1 (t_cmp op_lt ltS (d_var 4) d_int (nomark _))))) (ss_one (s_ret (d_ifE (t_cmp (op_eqA hr) eqS (d_call D_law_take5 hr (Nat.le_add_right_of_le (by decide)) passN (a_cons (d_var 0) (a_cons d_int SAs.nil))) d_int (nomark _)) (d_tup (a_cons d_str SAs.nil)) (d_tup (a_cons d_str SAs.nil))))) ss_nil)
    (ss_cons (s_if (t_cmp op_lt ltS (d_var 4) d_int (nomark _)) (ss_one (s_ret (d_tup (a_cons d_str (a_cons (d_sub_ hr (d_var 2) (d_call D_law_take5 hr (Nat.le_add_right_of_le (by decide)) passN (a_cons (d_var 0) (a_cons (d_len T.m_len (d_var 2)) SAs.nil)))) (a_cons (d_call D_self hr (Nat.le_refl _) passN (a_cons (d_var 0) (a_cons (d_var 1) (a_cons (d_var 2) (a_cons (d_sub (d_var 3) d_int) SAs.nil))))) SAs.nil)))))) ss_nil)
    (ss_cons (s_if (t_cmp op_lt ltS (d_var 4) d_int (nomark _)) (ss_one (s_ret (d_tup (a_cons d_str (a_cons (d_sub_ hr (d_var 1) (d_call D_law_take5 hr (Nat.le_add_right_of_le (by decide)) passN (a_cons (d_var 0) (a_cons (d_len T.m_len (d_var 1)) SAs.nil)))) (a_cons (d_call D_self hr (Nat.le_refl _) passN (a_cons (d_var 0) (a_cons (d_var 1) (a_cons (d_var 2) (a_cons (d_sub (d_var 3) d_int) SAs.nil))))) SAs.nil)))))) ss_nil)
    (ss_cons (s_set 5 sc_law_body5.nd (d_add d_int (d_call D_law_take5 hr (Nat.le_add_right_of_le (by decide)) passN (a_cons (d_var 0) (a_cons d_int SAs.nil)))))
    (ss_cons (s_if (t_w (w_and (t_cmp (op_eqA hr) eqS (d_var 5) d_int (nomark _)) (w_and1 (t_cmp op_gt gtS (d_call D_law_take5 hr (Nat.le_add_right_of_le (by decide)) passN (a_cons (d_var 0) (a_cons d_int SAs.nil))) d_int (nomark _))))) (ss_one (s_set 5 sc_law_body5.nd d_int)) ss_nil)
    (ss_cons (s_set 6 sc_law_body5.nd (d_ifE (t_cmp op_gt gtS (d_var 5) d_int (nomark _)) (d_call D_law_rows5 hr (Nat.le_add_right_of_le (by decide)) passN (a_cons (d_var 0) (a_cons (d_var 5) SAs.nil))) (d_lst (a_cons (d_tup (a_cons d_int (a_cons d_int SAs.nil))) SAs.nil))))
    (ss_one (s_ret (d_tup (a_cons d_str (a_cons (d_tupOf T.m_tuple (d_comp (own := [("one", 7)]) rfl sc_law_body5.nd (i_val (d_var 6)) (blk_by (N := ["c", "names", "letters", "deep", "kind", "many", "fractions", "one"]) (sc := defScope s_law_body5) rfl rfl (own := [("one", 7)]) (by decide +kernel)) (fun _ _ _ _ _ => (g_name 7 sc_law_body5.nd (by decide))) (fun _ _ _ _ _ => ts_nil) (fun _ _ _ _ _ => (d_tup (a_cons (d_var 7) (a_cons (d_call D_self hr (Nat.le_refl _) passN (a_cons (d_var 0) (a_cons (d_var 1) (a_cons (d_var 2) (a_cons (d_sub (d_var 3) d_int) SAs.nil))))) SAs.nil)))))) SAs.nil))))))))))))) (ob_law_body5 n)
theorem ok_law_program5 (T : Tx K mg) {f : Addr} {fd : FuncData} (F : Fun K "_law_program" "_law_program" s_law_program5 f fd) (D_law_body5 : FnD ⟨P, w, K, CA⟩ mg base CX0 11 "_law_body" (S_law_body5 8)) : FnOk P w K mg base CX0 12 f fd ["c", "names", "letters", "deep"] (spOf ⟨P, w, K, CA⟩ S_law_program5) :=
  fn_l F sc_law_program5 len4 (gb := B_law_program5) (fun cdv A outer s H E hr =>
    (ss_one (s_ret (d_tupOf T.m_tuple (d_comp (own := [("name", 4)]) rfl sc_law_program5.nd (i_val (d_var 1)) (blk_by (N := ["c", "names", "letters", "deep", "name"]) (sc := defScope s_law_program5) rfl rfl (own := [("name", 4)]) (by decide +kernel)) (fun _ _ _ _ _ => (g_name 4 sc_law_program5.nd (by decide))) (fun _ _ _ _ _ => ts_nil) (fun _ _ _ _ _ => (d_tup (a_cons (d_var 4) (a_cons (d_call D_law_body5 hr (by decide) passN (a_cons (d_var 0) (a_cons (d_var 1) (a_cons (d_var 2) (a_cons (d_var 3) SAs.nil))))) SAs.nil))))))))) ob_law_program5
theorem ok_law_size (T : Tx K mg) {f : Addr} {fd : FuncData} (F : Fun K "_law_size" "_law_size" s_law_size f fd) (hm : mg "_law_size" = some (.ref f)) (hb : Binds K fd ["body"] []) : ∀ n : Nat, FnOk P w K mg base CX0 (0 + n) f fd ["body"] (spOf ⟨P, w, K, CA⟩ (S_law_size n))
  | 0 => fn_none no_law_size
  | n + 1 => by
    have D_self := FnOk.d (ok_law_size T F hm hb n) hm F.kp hb
    exact fn_l F sc_law_size len1 (gb := B_law_size n) (fun cdv A outer s H E hr =>
    (ss_cons (s_if (t_cmp (op_inA hr) inS (d_sub_ hr (d_var 0) d_int) (d_tup (a_cons d_str (a_cons d_str SAs.nil))) (by rfl)) (ss_one (s_ret d_int)) ss_nil)
    (ss_cons (s_if (t_cmp (op_eqA hr) eqS (d_sub_ hr (d_var 0) d_int) d_str (nomark _)) (ss_one (s_ret (d_add d_int (d_sum rfl T.m_sum (d_comp (own := [("row", 1)]) rfl sc_law_size.nd (i_val (d_sub_ hr (d_var 0) d_int)) (blk_by (N := ["body", "row"]) (sc := defScope s_law_size) rfl rfl (own := [("row", 1)]) (by decide +kernel)) (fun _ _ _ _ _ => (g_name 1 sc_law_size.nd (by decide))) (fun _ _ _ _ _ => ts_nil) (fun _ _ _ _ _ => (d_call D_self hr (Nat.le_refl _) passN (a_cons (d_sub_ hr (d_var 1) d_int) SAs.nil)))))))) ss_nil)
    (ss_one (s_ret (d_add d_int (d_call D_self hr (Nat.le_refl _) passN (a_cons (d_sub_ hr (d_var 0) d_int) SAs.nil)))))))) (ob_law_size n)
theorem ok_law_ends (T : Tx K mg) {f : Addr} {fd : FuncData} (F : Fun K "_law_ends" "_law_ends" s_law_ends f fd) (hm : mg "_law_ends" = some (.ref f)) (hb : Binds K fd ["body"] []) : ∀ n : Nat, FnOk P w K mg base CX0 (0 + n) f fd ["body"] (spOf ⟨P, w, K, CA⟩ (S_law_ends n))
  | 0 => fn_none no_law_ends
  | n + 1 => by
    have D_self := FnOk.d (ok_law_ends T F hm hb n) hm F.kp hb
    exact fn_l F sc_law_ends len1 (gb := B_law_ends n) (fun cdv A outer s H E hr =>
    (ss_cons (s_if (t_cmp (op_eqA hr) eqS (d_sub_ hr (d_var 0) d_int) d_str (nomark _)) (ss_one (s_ret (d_sum rfl T.m_sum (d_comp (own := [("row", 1)]) rfl sc_law_ends.nd (i_val (d_sub_ hr (d_var 0) d_int)) (blk_by (N := ["body", "row"]) (sc := defScope s_law_ends) rfl rfl (own := [("row", 1)]) (by decide +kernel)) (fun _ _ _ _ _ => (g_name 1 sc_law_ends.nd (by decide))) (fun _ _ _ _ _ => ts_nil) (fun _ _ _ _ _ => (d_call D_self hr (Nat.le_refl _) passN (a_cons (d_sub_ hr (d_var 1) d_int) SAs.nil))))))) ss_nil)
    (ss_one (s_ret (d_ifE (t_cmp (op_eqA hr) eqS (d_len T.m_len (d_var 0)) d_int (nomark _)) (d_intC T.m_int (d_cmp (op_eqA hr) eqS (d_sub_ hr (d_var 0) d_int) d_str (nomark _))) (d_call D_self hr (Nat.le_refl _) passN (a_cons (d_sub_ hr (d_var 0) d_int) SAs.nil))))))) (ob_law_ends n)
theorem ok_law_put (T : Tx K mg) {f : Addr} {fd : FuncData} (F : Fun K "_law_put" "_law_put" s_law_put f fd) (hm : mg "_law_put" = some (.ref f)) (hb : Binds K fd ["body", "behind"] []) : ∀ n : Nat, FnOk P w K mg base CX0 (0 + n) f fd ["body", "behind"] (spOf ⟨P, w, K, CA⟩ (S_law_put n))
  | 0 => fn_none no_law_put
  | n + 1 => by
    have D_self := FnOk.d (ok_law_put T F hm hb n) hm F.kp hb
    exact fn_l F sc_law_put len2 (gb := B_law_put n) (fun cdv A outer s H E hr =>
    (ss_cons (s_if (t_cmp (op_eqA hr) eqS (d_var 0) (d_tup (a_cons d_str SAs.nil)) (nomark _)) (ss_one (s_ret (d_var 1))) ss_nil)
    (ss_cons (s_if (t_cmp (op_eqA hr) eqS (d_sub_ hr (d_var 0) d_int) d_str (nomark _)) (ss_one (s_ret (d_var 0))) ss_nil)
    (ss_cons (s_if (t_cmp (op_eqA hr) eqS (d_sub_ hr (d_var 0) d_int) d_str (nomark _)) (ss_one (s_ret (d_tup (a_cons d_str (a_cons (d_tupOf T.m_tuple (d_comp (own := [("row", 2)]) rfl sc_law_put.nd (i_val (d_sub_ hr (d_var 0) d_int)) (blk_by (N := ["body", "behind", "row"]) (sc := defScope s_law_put) rfl rfl (own := [("row", 2)]) (by decide +kernel)) (fun _ _ _ _ _ => (g_name 2 sc_law_put.nd (by decide))) (fun _ _ _ _ _ => ts_nil) (fun _ _ _ _ _ => (d_tup (a_cons (d_sub_ hr (d_var 2) d_int) (a_cons (d_call D_self hr (Nat.le_refl _) passN (a_cons (d_sub_ hr (d_var 2) d_int) (a_cons (d_var 1) SAs.nil))) SAs.nil)))))) SAs.nil))))) ss_nil)
    (ss_one (s_ret (d_tup (a_cons (d_sub_ hr (d_var 0) d_int) (a_cons (d_sub_ hr (d_var 0) d_int) (a_cons (d_call D_self hr (Nat.le_refl _) passN (a_cons (d_sub_ hr (d_var 0) d_int) (a_cons (d_var 1) SAs.nil))) SAs.nil)))))))))) (ob_law_put n)
theorem ok_law_unfolded (T : Tx K mg) {f : Addr} {fd : FuncData} (F : Fun K "_law_unfolded" "_law_unfolded" s_law_unfolded f fd) (hm : mg "_law_unfolded" = some (.ref f)) (hb : Binds K fd ["body", "q", "inner"] []) (D_law_put : FnD ⟨P, w, K, CA⟩ mg base CX0 20 "_law_put" (S_law_put 20)) : ∀ n : Nat, FnOk P w K mg base CX0 (20 + n) f fd ["body", "q", "inner"] (spOf ⟨P, w, K, CA⟩ (S_law_unfolded n))
  | 0 => fn_none no_law_unfolded
  | n + 1 => by
    have D_self := FnOk.d (ok_law_unfolded T F hm hb D_law_put n) hm F.kp hb
    exact fn_l F sc_law_unfolded len3 (gb := B_law_unfolded n) (fun cdv A outer s H E hr =>
    (ss_cons (s_if (t_cmp (op_eqA hr) eqS (d_len T.m_len (d_var 0)) d_int (nomark _)) (ss_one (s_ret (d_var 0))) ss_nil)
    (ss_cons (s_if (t_cmp (op_eqA hr) eqS (d_sub_ hr (d_var 0) d_int) d_str (nomark _)) (ss_one (s_ret (d_tup (a_cons d_str (a_cons (d_tupOf T.m_tuple (d_comp (own := [("row", 4)]) rfl sc_law_unfolded.nd (i_val (d_sub_ hr (d_var 0) d_int)) (blk_by (N := ["body", "q", "inner", "behind", "row"]) (sc := defScope s_law_unfolded) rfl rfl (own := [("row", 4)]) (by decide +kernel)) (fun _ _ _ _ _ => (g_name 4 sc_law_unfolded.nd (by decide))) (fun _ _ _ _ _ => ts_nil) (fun _ _ _ _ _ => (d_tup (a_cons (d_sub_ hr (d_var 4) d_int) (a_cons (d_call D_self hr (Nat.le_refl _) passN (a_cons (d_sub_ hr (d_var 4) d_int) (a_cons (d_var 1) (a_cons (d_var 2) SAs.nil)))) SAs.nil)))))) SAs.nil))))) ss_nil)
    (ss_cons (s_set 3 sc_law_unfolded.nd (d_call D_self hr (Nat.le_refl _) passN (a_cons (d_sub_ hr (d_var 0) d_int) (a_cons (d_var 1) (a_cons (d_var 2) SAs.nil)))))
    (ss_cons (s_if (t_w (w_and (t_cmp (op_eqA hr) eqS (d_sub_ hr (d_var 0) d_int) d_str (nomark _)) (w_and1 (t_cmp (op_eqA hr) eqS (d_sub_ hr (d_var 0) d_int) (d_var 1) (nomark _))))) (ss_one (s_ret (d_call D_law_put hr (Nat.le_add_right_of_le (by decide)) passN (a_cons (d_var 2) (a_cons (d_var 3) SAs.nil))))) ss_nil)
    (ss_one (s_ret (d_tup (a_cons (d_sub_ hr (d_var 0) d_int) (a_cons (d_sub_ hr (d_var 0) d_int) (a_cons (d_var 3) SAs.nil))))))))))) (ob_law_unfolded n)
theorem ok_law_count (T : Tx K mg) {f : Addr} {fd : FuncData} (F : Fun K "_law_count" "_law_count" s_law_count f fd) (hm : mg "_law_count" = some (.ref f)) (hb : Binds K fd ["body", "q", "plain", "ends"] []) : ∀ n : Nat, FnOk P w K mg base CX0 (0 + n) f fd ["body", "q", "plain", "ends"] (spOf ⟨P, w, K, CA⟩ (S_law_count n))
  | 0 => fn_none no_law_count
  | n + 1 => by
    have D_self := FnOk.d (ok_law_count T F hm hb n) hm F.kp hb
    exact fn_l F sc_law_count len4 (gb := B_law_count n) (fun cdv A outer s H E hr =>
    (ss_cons (s_if (t_cmp (op_eqA hr) eqS (d_len T.m_len (d_var 0)) d_int (nomark _)) (ss_one (s_ret d_int)) ss_nil)
    (ss_cons (s_if (t_cmp (op_eqA hr) eqS (d_sub_ hr (d_var 0) d_int) d_str (nomark _)) (ss_one (s_ret (d_add d_int (d_sum rfl T.m_sum (d_comp (own := [("row", 5)]) rfl sc_law_count.nd (i_val (d_sub_ hr (d_var 0) d_int)) (blk_by (N := ["body", "q", "plain", "ends", "behind", "row"]) (sc := defScope s_law_count) rfl rfl (own := [("row", 5)]) (by decide +kernel)) (fun _ _ _ _ _ => (g_name 5 sc_law_count.nd (by decide))) (fun _ _ _ _ _ => ts_nil) (fun _ _ _ _ _ => (d_call D_self hr (Nat.le_refl _) passN (a_cons (d_sub_ hr (d_var 5) d_int) (a_cons (d_var 1) (a_cons (d_var 2) (a_cons (d_var 3) SAs.nil))))))))))) ss_nil)
    (ss_cons (s_set 4 sc_law_count.nd (d_call D_self hr (Nat.le_refl _) passN (a_cons (d_sub_ hr (d_var 0) d_int) (a_cons (d_var 1) (a_cons (d_var 2) (a_cons (d_var 3) SAs.nil))))))
    (ss_cons (s_if (t_w (w_and (t_cmp (op_eqA hr) eqS (d_sub_ hr (d_var 0) d_int) d_str (nomark _)) (w_and1 (t_cmp (op_eqA hr) eqS (d_sub_ hr (d_var 0) d_int) (d_var 1) (nomark _))))) (ss_one (s_ret (d_add (d_sub (d_var 2) (d_var 3)) (d_mul (d_var 3) (d_var 4))))) ss_nil)
    (ss_one (s_ret (d_add d_int (d_var 4))))))))) (ob_law_count n)
theorem ok_law_large (T : Tx K mg) {f : Addr} {fd : FuncData} (F : Fun K "_law_large" "_law_large" s_law_large f fd) (D_law_take5 : FnD ⟨P, w, K, CA⟩ mg base CX0 2 "_law_take" S_law_take5) (D_law_shuffled5 : FnD ⟨P, w, K, CA⟩ mg base CX0 3 "_law_shuffled" S_law_shuffled5) (D_law_rows5 : FnD ⟨P, w, K, CA⟩ mg base CX0 3 "_law_rows" S_law_rows5) : FnOk P w K mg base CX0 4 f fd ["c", "names", "letters"] (spOf ⟨P, w, K, CA⟩ S_law_large) :=
  fn_l F sc_law_large len3 (gb := B_law_large) (fun cdv A outer s H E hr =>
    (ss_cons (s_set 3 sc_law_large.nd (d_add d_int (d_call D_law_take5 hr (by decide) passN (a_cons (d_var 0) (a_cons d_int SAs.nil)))))
    (ss_cons (s_set 4 sc_law_large.nd (d_tup (a_cons d_str (a_cons (d_tupOf T.m_tuple (d_comp (own := [("one", 7)]) rfl sc_law_large.nd (i_val (d_call D_law_rows5 hr (by decide) passN (a_cons (d_var 0) (a_cons (d_var 3) SAs.nil)))) (blk_by (N := ["c", "names", "letters", "many", "inner", "body", "turn", "one"]) (sc := defScope s_law_large) rfl rfl (own := [("one", 7)]) (by decide +kernel)) (fun _ _ _ _ _ => (g_name 7 sc_law_large.nd (by decide))) (fun _ _ _ _ _ => ts_nil) (fun _ _ _ _ _ => (d_tup (a_cons (d_var 7) (a_cons (d_tup (a_cons d_str SAs.nil)) SAs.nil)))))) SAs.nil))))
    (ss_cons (s_if (t_cmp (op_eqA hr) eqS (d_call D_law_take5 hr (by decide) passN (a_cons (d_var 0) (a_cons d_int SAs.nil))) d_int (nomark _)) (ss_one (s_set 4 sc_law_large.nd (d_tup (a_cons d_str (a_cons (d_sub_ hr (d_var 2) d_int) (a_cons (d_var 4) SAs.nil)))))) ss_nil)
    (ss_cons (s_set 5 sc_law_large.nd (d_tup (a_cons d_str SAs.nil)))
    (ss_cons (s_for (vs := [6]) PassesOwn.never rfl (i_range1 T.m_range (d_add d_int (d_call D_law_take5 hr (by decide) passN (a_cons (d_var 0) (a_cons d_int SAs.nil))))) (g_name 6 sc_law_large.nd (by decide)) (ss_cons (s_set 5 sc_law_large.nd (d_tup (a_cons d_str (a_cons (d_sub_ hr (d_var 1) d_int) (a_cons (d_var 5) SAs.nil)))))
    (ss_one (s_if (t_cmp (op_eqA hr) eqS (d_call D_law_take5 hr (by decide) passN (a_cons (d_var 0) (a_cons d_int SAs.nil))) d_int (nomark _)) (ss_one (s_set 5 sc_law_large.nd (d_tup (a_cons d_str (a_cons (d_sub_ hr (d_var 2) d_int) (a_cons (d_var 5) SAs.nil)))))) ss_nil))))
    (ss_one (s_ret (d_tupOf T.m_tuple (d_call D_law_shuffled5 hr (by decide) passN (a_cons (d_var 0) (a_cons (d_lst (a_cons (d_tup (a_cons (d_sub_ hr (d_var 1) d_int) (a_cons (d_var 5) SAs.nil))) (a_cons (d_tup (a_cons (d_sub_ hr (d_var 1) d_int) (a_cons (d_var 4) SAs.nil))) SAs.nil))) SAs.nil)))))))))))) ob_law_large
theorem ok_law (T : Tx K mg) {P_spliced P_unfolded : Addr} {f : Addr} {fd : FuncData} (F : Fun K "law" "law" s_law f fd) {A_LimitError : Addr} (X_LimitError : ExcK K mg "LimitError" A_LimitError) (hCA_LimitError : CA "LimitError" = A_LimitError) (D_law_start5 : FnD ⟨P, w, K, CA⟩ mg base CX0 1 "_law_start" S_law_start5) (D_law_names5 : FnD ⟨P, w, K, CA⟩ mg base CX0 4 "_law_names" S_law_names5) (D_law_count : FnD ⟨P, w, K, CA⟩ mg base CX0 20 "_law_count" (S_law_count 20)) (D_law_unfolded : FnD ⟨P, w, K, CA⟩ mg base CX0 40 "_law_unfolded" (S_law_unfolded 20)) (D_law_take5 : FnD ⟨P, w, K, CA⟩ mg base CX0 2 "_law_take" S_law_take5) (D_law_large : FnD ⟨P, w, K, CA⟩ mg base CX0 4 "_law_large" S_law_large) (D_law_program5 : FnD ⟨P, w, K, CA⟩ mg base CX0 12 "_law_program" S_law_program5) (D_law_size : FnD ⟨P, w, K, CA⟩ mg base CX0 20 "_law_size" (S_law_size 20)) (D_law_ends : FnD ⟨P, w, K, CA⟩ mg base CX0 20 "_law_ends" (S_law_ends 20)) (D_unfolded : FnD ⟨P, w, K, CA⟩ mg base (CXx P w) 6 "unfolded" (S_unfolded P_spliced P_unfolded)) (D_run : FnD ⟨P, w, K, CA⟩ mg base CX0 3 "run" S_run) : FnOkG P w K mg base f fd ["script"] (spOf ⟨P, w, K, CA⟩ (S_law2 P_spliced P_unfolded)) :=
  fn_lG (k := 40) F sc_law lenST ⟨rfl, by decide, by decide⟩ (gb := B_law P_spliced P_unfolded) (fun cdv A outer s H E hr hgd =>
    (ss_cons (s_set 1 sc_law.nd (d_call D_law_start5 hr (by decide) passN (a_cons (d_var 0) SAs.nil)))
    (ss_cons (s_set 2 sc_law.nd (d_call D_law_names5 hr (by decide) passN (a_cons (d_var 1) (a_cons (d_add d_int (d_call D_law_take5 hr (by decide) passN (a_cons (d_var 1) (a_cons d_int SAs.nil)))) SAs.nil))))
    (ss_cons (s_set 3 sc_law.nd (d_call D_law_names5 hr (by decide) passN (a_cons (d_var 1) (a_cons d_int SAs.nil))))
    (ss_cons (s_if (t_cmp (op_eqA hr) eqS (d_call D_law_take5 hr (by decide) passN (a_cons (d_var 1) (a_cons d_int SAs.nil))) d_int (nomark _)) (ss_cons (s_set 8 sc_law.nd (d_call D_law_large hr (by decide) passN (a_cons (d_var 1) (a_cons (d_var 2) (a_cons (d_var 3) SAs.nil)))))
    (ss_one (s_asg (vs := [16, 17]) (d_tup (a_cons (d_sub_ hr (d_var 2) d_int) (a_cons (d_sub_ hr (d_var 2) d_int) SAs.nil))) (g_tup rfl (gs_cons (g_name 16 sc_law.nd (by decide)) (gs_cons (g_name 17 sc_law.nd (by decide)) gs_nil)))))) (ss_cons (s_set 8 sc_law.nd (d_call D_law_program5 hr (by decide) passN (a_cons (d_var 1) (a_cons (d_var 2) (a_cons (d_var 3) (a_cons (d_add d_int (d_call D_law_take5 hr (by decide) passN (a_cons (d_var 1) (a_cons d_int SAs.nil)))) SAs.nil))))))
    (ss_one (s_asg (vs := [16, 17]) (d_tup (a_cons (d_sub_ hr (d_var 2) (d_call D_law_take5 hr (by decide) passN (a_cons (d_var 1) (a_cons (d_len T.m_len (d_var 2)) SAs.nil)))) (a_cons (d_sub_ hr (d_var 2) (d_call D_law_take5 hr (by decide) passN (a_cons (d_var 1) (a_cons (d_len T.m_len (d_var 2)) SAs.nil)))) SAs.nil))) (g_tup rfl (gs_cons (g_name 16 sc_law.nd (by decide)) (gs_cons (g_name 17 sc_law.nd (by decide)) gs_nil)))))))
    (ss_cons (s_set 4 sc_law.nd (d_dict rfl T.m_dict (d_var 8)))
    (ss_cons (s_par 9 10 rfl sc_law.nd (by decide) (d_call D_law_size hr (by decide) passN (a_cons (d_sub_ hr (d_var 4) (d_var 17)) SAs.nil)) (d_call D_law_ends hr (by decide) passN (a_cons (d_sub_ hr (d_var 4) (d_var 17)) SAs.nil)) rfl)
    (ss_cons (s_set 5 sc_law.nd (d_call D_law_count hr (by decide) passN (a_cons (d_sub_ hr (d_var 4) (d_var 16)) (a_cons (d_var 17) (a_cons (d_var 9) (a_cons (d_var 10) SAs.nil))))))
    (ss_cons (s_tryC 11 D_unfolded hr (by decide) X_LimitError hCA_LimitError rfl rfl sc_law.nd (fun _ _ => (a_cons (d_var 8) (a_cons (d_var 16) (a_cons (d_var 17) SAs.nil)))) (fun _ _ => (ss_one (s_ret (d_cmp op_gt gtS (d_var 5) d_int (nomark _))))))
    (ss_cons (s_if (t_cmp op_gt gtS (d_var 5) d_int (nomark _)) (ss_one (s_ret d_bl)) ss_nil)
    (ss_cons (s_set 6 sc_law.nd (d_call D_law_unfolded hr (by decide) passN (a_cons (d_sub_ hr (d_var 4) (d_var 16)) (a_cons (d_var 17) (a_cons (d_sub_ hr (d_var 4) (d_var 17)) SAs.nil)))))
    (ss_cons (s_if (t_cmp (op_neA hr) neS (d_reprW hgd hr T.m_repr (d_var 11)) (d_reprW hgd hr T.m_repr (d_tupOf T.m_tuple (d_comp (own := [("name", 13), ("other", 19)]) rfl sc_law.nd (i_val (d_var 8)) (blk_by (N := ["script", "c", "names", "letters", "bodies", "many", "body", "turn", "program", "plain", "ends", "told", "tape", "name", "first", "second", "p", "q", "k", "other"]) (sc := defScope s_law) rfl rfl (own := [("name", 13), ("other", 19)]) (by decide +kernel)) (fun _ _ _ _ _ => (g_tup rfl (gs_cons (g_name 13 sc_law.nd (by decide)) (gs_cons (g_name 19 sc_law.nd (by decide)) gs_nil)))) (fun _ _ _ _ _ => ts_nil) (fun _ _ _ _ _ => (d_tup (a_cons (d_var 13) (a_cons (d_ifE (t_cmp (op_eqA hr) eqS (d_var 13) (d_var 16) (nomark _)) (d_var 6) (d_sub_ hr (d_var 4) (d_var 13))) SAs.nil))))))) (nomark _)) (ss_one (s_ret d_bl)) ss_nil)
    (ss_cons (s_for (vs := [7]) PassesOwn.never rfl (i_range1 T.m_range d_int) (g_name 7 sc_law.nd (by decide)) (ss_cons (s_set 12 sc_law.nd (d_tupOf T.m_tuple (d_comp (own := [("k", 18)]) rfl sc_law.nd (i_range1 T.m_range (d_call D_law_take5 hr (by decide) passN (a_cons (d_var 1) (a_cons d_int SAs.nil)))) (blk_by (N := ["script", "c", "names", "letters", "bodies", "many", "body", "turn", "program", "plain", "ends", "told", "tape", "name", "first", "second", "p", "q", "k", "other"]) (sc := defScope s_law) rfl rfl (own := [("k", 18)]) (by decide +kernel)) (fun _ _ _ _ _ => (g_name 18 sc_law.nd (by decide))) (fun _ _ _ _ _ => ts_nil) (fun _ _ _ _ _ => (d_call D_law_take5 hr (by decide) passN (a_cons (d_var 1) (a_cons d_int SAs.nil)))))))
    (ss_cons (s_set 13 sc_law.nd (d_sub_ hr (d_var 2) (d_call D_law_take5 hr (by decide) passN (a_cons (d_var 1) (a_cons d_int SAs.nil)))))
    (ss_cons (s_set 14 sc_law.nd (d_call D_run hr (by decide) passN (a_cons (d_var 8) (a_cons (d_var 13) (a_cons (d_var 12) (a_cons d_int SAs.nil))))))
    (ss_cons (s_set 15 sc_law.nd (d_call D_run hr (by decide) passN (a_cons (d_var 11) (a_cons (d_var 13) (a_cons (d_var 12) (a_cons d_int SAs.nil))))))
    (ss_cons (s_if (t_w (w_and (t_cmp (op_neA hr) neS (d_sub_ hr (d_var 14) d_int) d_str (nomark _)) (w_and1 (t_cmp (op_neA hr) neS (d_tup (a_cons (d_sub_ hr (d_var 15) d_int) (a_cons (d_sub_ hr (d_var 15) d_int) (a_cons (d_sub_ hr (d_var 15) d_int) SAs.nil)))) (d_tup (a_cons (d_sub_ hr (d_var 14) d_int) (a_cons (d_sub_ hr (d_var 14) d_int) (a_cons (d_sub_ hr (d_var 14) d_int) SAs.nil)))) (nomark _))))) (ss_one (s_ret d_bl)) ss_nil)
    (ss_one (s_if (t_cmp op_gt gtS (d_sub_ hr (d_var 15) d_int) (d_sub_ hr (d_var 14) d_int) (nomark _)) (ss_one (s_ret d_bl)) ss_nil))))))))
    (ss_one (s_ret d_bl))))))))))))))) (ob_law P_spliced P_unfolded)
end
theorem all_mk {l : PySem.W.OpenLaw} {w : World} {K : PySem.W.Frag} {h : Heap} {mg : Str → Option Value} {fa : Addr} (X : K.In h) (G : h.Ns mainGlobals mg) (hfa : mg "law" = some (.ref fa)) (CA : String → Addr)
    (z_abs : PySem.W.nsIn K mainGlobals "abs" = some none)
    (z_dict : PySem.W.nsIn K mainGlobals "dict" = some none)
    (z_int : PySem.W.nsIn K mainGlobals "int" = some none)
    (z_len : PySem.W.nsIn K mainGlobals "len" = some none)
    (z_list : PySem.W.nsIn K mainGlobals "list" = some none)
    (z_max : PySem.W.nsIn K mainGlobals "max" = some none)
    (z_min : PySem.W.nsIn K mainGlobals "min" = some none)
    (z_range : PySem.W.nsIn K mainGlobals "range" = some none)
    (z_repr : PySem.W.nsIn K mainGlobals "repr" = some none)
    (z_str : PySem.W.nsIn K mainGlobals "str" = some none)
    (z_sum : PySem.W.nsIn K mainGlobals "sum" = some none)
    (z_tuple : PySem.W.nsIn K mainGlobals "tuple" = some none)
    (z_zip : PySem.W.nsIn K mainGlobals "zip" = some none)
    {t_MOST_COMMANDS : Tok} (v_MOST_COMMANDS : PySem.W.nsIn K mainGlobals "MOST_COMMANDS" = some (some (.int 4000 t_MOST_COMMANDS)))
    {A_LimitError : Addr} (gx_LimitError : PySem.W.nsIn K mainGlobals "LimitError" = some (some (.ref A_LimitError))) (xx_LimitError : PySem.W.excIn K A_LimitError [.type "ValueError", .type "Exception", .type "BaseException", .type "object"] "ValueError.__new__" = true) (kx_LimitError : PySem.W.keepIn K (.ref A_LimitError) = true) (bx_LimitError : PySem.W.subIn K (.ref A_LimitError) (.type "BaseException") = some true) (tx_LimitError : PySem.W.typeIn K (.ref A_LimitError) = some (.type "type")) (ix_LimitError : PySem.W.isClsIn K A_LimitError = true) (sx_LimitError : PySem.W.subIn K (.ref A_LimitError) (.ref A_LimitError) = some true) (hCA_LimitError : CA "LimitError" = A_LimitError)
    {f_common_divisor : Addr} {od_common_divisor an_common_divisor : Option Addr} {sl_common_divisor : Array (Option Value)} {oc_common_divisor kV_common_divisor dc_common_divisor pm_common_divisor cd_common_divisor ct_common_divisor : Value} (a_common_divisor : PySem.W.nsIn K mainGlobals "common_divisor" = some (some (.ref f_common_divisor))) (l_common_divisor : K.lookup f_common_divisor = some ⟨oc_common_divisor, od_common_divisor, .func (PySem.W.fnOf "common_divisor" "common_divisor" (defArgs s_common_divisor) (defBody s_common_divisor) (defScope s_common_divisor) .none kV_common_divisor dc_common_divisor pm_common_divisor an_common_divisor cd_common_divisor ct_common_divisor), sl_common_divisor⟩) (c_common_divisor : PySem.W.codeIn K cd_common_divisor "common_divisor" = true) (k_common_divisor : PySem.W.keepIn K (.ref f_common_divisor) = true)
    {f_common_denominator : Addr} {od_common_denominator an_common_denominator : Option Addr} {sl_common_denominator : Array (Option Value)} {oc_common_denominator kV_common_denominator dc_common_denominator pm_common_denominator cd_common_denominator ct_common_denominator : Value} (a_common_denominator : PySem.W.nsIn K mainGlobals "common_denominator" = some (some (.ref f_common_denominator))) (l_common_denominator : K.lookup f_common_denominator = some ⟨oc_common_denominator, od_common_denominator, .func (PySem.W.fnOf "common_denominator" "common_denominator" (defArgs s_common_denominator) (defBody s_common_denominator) (defScope s_common_denominator) .none kV_common_denominator dc_common_denominator pm_common_denominator an_common_denominator cd_common_denominator ct_common_denominator), sl_common_denominator⟩) (c_common_denominator : PySem.W.codeIn K cd_common_denominator "common_denominator" = true) (k_common_denominator : PySem.W.keepIn K (.ref f_common_denominator) = true)
    {f_drawn : Addr} {od_drawn an_drawn : Option Addr} {sl_drawn : Array (Option Value)} {oc_drawn kV_drawn dc_drawn pm_drawn cd_drawn ct_drawn : Value} (a_drawn : PySem.W.nsIn K mainGlobals "drawn" = some (some (.ref f_drawn))) (l_drawn : K.lookup f_drawn = some ⟨oc_drawn, od_drawn, .func (PySem.W.fnOf "drawn" "drawn" (defArgs s_drawn) (defBody s_drawn) (defScope s_drawn) .none kV_drawn dc_drawn pm_drawn an_drawn cd_drawn ct_drawn), sl_drawn⟩) (c_drawn : PySem.W.codeIn K cd_drawn "drawn" = true) (k_drawn : PySem.W.keepIn K (.ref f_drawn) = true)
    {f_run : Addr} {od_run an_run : Option Addr} {sl_run : Array (Option Value)} {oc_run kV_run dc_run pm_run cd_run ct_run : Value} (a_run : PySem.W.nsIn K mainGlobals "run" = some (some (.ref f_run))) (l_run : K.lookup f_run = some ⟨oc_run, od_run, .func (PySem.W.fnOf "run" "run" (defArgs s_run) (defBody s_run) (defScope s_run) .none kV_run dc_run pm_run an_run cd_run ct_run), sl_run⟩) (c_run : PySem.W.codeIn K cd_run "run" = true) (k_run : PySem.W.keepIn K (.ref f_run) = true)
    {f_commands : Addr} {od_commands an_commands : Option Addr} {sl_commands : Array (Option Value)} {oc_commands kV_commands dc_commands pm_commands cd_commands ct_commands : Value} (a_commands : PySem.W.nsIn K mainGlobals "commands" = some (some (.ref f_commands))) (l_commands : K.lookup f_commands = some ⟨oc_commands, od_commands, .func (PySem.W.fnOf "commands" "commands" (defArgs s_commands) (defBody s_commands) (defScope s_commands) .none kV_commands dc_commands pm_commands an_commands cd_commands ct_commands), sl_commands⟩) (c_commands : PySem.W.codeIn K cd_commands "commands" = true) (k_commands : PySem.W.keepIn K (.ref f_commands) = true)
    {f_need : Addr} {od_need an_need : Option Addr} {sl_need : Array (Option Value)} {oc_need kV_need dc_need pm_need cd_need ct_need : Value} (a_need : PySem.W.nsIn K mainGlobals "need" = some (some (.ref f_need))) (l_need : K.lookup f_need = some ⟨oc_need, od_need, .func (PySem.W.fnOf "need" "need" (defArgs s_need) (defBody s_need) (defScope s_need) .none kV_need dc_need pm_need an_need cd_need ct_need), sl_need⟩) (c_need : PySem.W.codeIn K cd_need "need" = true) (k_need : PySem.W.keepIn K (.ref f_need) = true)
    {f_ends_of : Addr} {od_ends_of an_ends_of : Option Addr} {sl_ends_of : Array (Option Value)} {oc_ends_of kV_ends_of dc_ends_of pm_ends_of cd_ends_of ct_ends_of : Value} (a_ends_of : PySem.W.nsIn K mainGlobals "ends_of" = some (some (.ref f_ends_of))) (l_ends_of : K.lookup f_ends_of = some ⟨oc_ends_of, od_ends_of, .func (PySem.W.fnOf "ends_of" "ends_of" (defArgs s_ends_of) (defBody s_ends_of) (defScope s_ends_of) .none kV_ends_of dc_ends_of pm_ends_of an_ends_of cd_ends_of ct_ends_of), sl_ends_of⟩) (c_ends_of : PySem.W.codeIn K cd_ends_of "ends_of" = true) (k_ends_of : PySem.W.keepIn K (.ref f_ends_of) = true)
    {f_changed : Addr} {od_changed an_changed : Option Addr} {sl_changed : Array (Option Value)} {oc_changed kV_changed dc_changed pm_changed cd_changed ct_changed : Value} (a_changed : PySem.W.nsIn K mainGlobals "changed" = some (some (.ref f_changed))) (l_changed : K.lookup f_changed = some ⟨oc_changed, od_changed, .func (PySem.W.fnOf "changed" "changed" (defArgs s_changed) (defBody s_changed) (defScope s_changed) .none kV_changed dc_changed pm_changed an_changed cd_changed ct_changed), sl_changed⟩) (c_changed : PySem.W.codeIn K cd_changed "changed" = true) (k_changed : PySem.W.keepIn K (.ref f_changed) = true)
    {f_spliced : Addr} {od_spliced an_spliced : Option Addr} {sl_spliced : Array (Option Value)} {oc_spliced kV_spliced dc_spliced pm_spliced cd_spliced ct_spliced : Value} (a_spliced : PySem.W.nsIn K mainGlobals "spliced" = some (some (.ref f_spliced))) (l_spliced : K.lookup f_spliced = some ⟨oc_spliced, od_spliced, .func (PySem.W.fnOf "spliced" "spliced" (defArgs s_spliced) (defBody s_spliced) (defScope s_spliced) .none kV_spliced dc_spliced pm_spliced an_spliced cd_spliced ct_spliced), sl_spliced⟩) (c_spliced : PySem.W.codeIn K cd_spliced "spliced" = true) (k_spliced : PySem.W.keepIn K (.ref f_spliced) = true)
    {cc_spliced : Addr} (e_spliced : cd_spliced = .ref cc_spliced) (t_spliced : h.get? (tabOf K cc_spliced) = some { cls := .none, data := .fields #[] }) (n_spliced : K.lookup (tabOf K cc_spliced) = none) (h_spliced : PySem.W.codeHdIn K cc_spliced (tabOf K cc_spliced) = true)
    {f_unfolded : Addr} {od_unfolded an_unfolded : Option Addr} {sl_unfolded : Array (Option Value)} {oc_unfolded kV_unfolded dc_unfolded pm_unfolded cd_unfolded ct_unfolded : Value} (a_unfolded : PySem.W.nsIn K mainGlobals "unfolded" = some (some (.ref f_unfolded))) (l_unfolded : K.lookup f_unfolded = some ⟨oc_unfolded, od_unfolded, .func (PySem.W.fnOf "unfolded" "unfolded" (defArgs s_unfolded) (defBody s_unfolded) (defScope s_unfolded) .none kV_unfolded dc_unfolded pm_unfolded an_unfolded cd_unfolded ct_unfolded), sl_unfolded⟩) (c_unfolded : PySem.W.codeIn K cd_unfolded "unfolded" = true) (k_unfolded : PySem.W.keepIn K (.ref f_unfolded) = true)
    {cc_unfolded : Addr} (e_unfolded : cd_unfolded = .ref cc_unfolded) (t_unfolded : h.get? (tabOf K cc_unfolded) = some { cls := .none, data := .fields #[] }) (n_unfolded : K.lookup (tabOf K cc_unfolded) = none) (h_unfolded : PySem.W.codeHdIn K cc_unfolded (tabOf K cc_unfolded) = true)
    {f_law_start5 : Addr} {od_law_start5 an_law_start5 : Option Addr} {sl_law_start5 : Array (Option Value)} {oc_law_start5 kV_law_start5 dc_law_start5 pm_law_start5 cd_law_start5 ct_law_start5 : Value} (a_law_start5 : PySem.W.nsIn K mainGlobals "_law_start" = some (some (.ref f_law_start5))) (l_law_start5 : K.lookup f_law_start5 = some ⟨oc_law_start5, od_law_start5, .func (PySem.W.fnOf "_law_start" "_law_start" (defArgs s_law_start5) (defBody s_law_start5) (defScope s_law_start5) .none kV_law_start5 dc_law_start5 pm_law_start5 an_law_start5 cd_law_start5 ct_law_start5), sl_law_start5⟩) (c_law_start5 : PySem.W.codeIn K cd_law_start5 "_law_start" = true) (k_law_start5 : PySem.W.keepIn K (.ref f_law_start5) = true)
    {f_law_fill5 : Addr} {od_law_fill5 an_law_fill5 : Option Addr} {sl_law_fill5 : Array (Option Value)} {oc_law_fill5 kV_law_fill5 dc_law_fill5 pm_law_fill5 cd_law_fill5 ct_law_fill5 : Value} (a_law_fill5 : PySem.W.nsIn K mainGlobals "_law_fill" = some (some (.ref f_law_fill5))) (l_law_fill5 : K.lookup f_law_fill5 = some ⟨oc_law_fill5, od_law_fill5, .func (PySem.W.fnOf "_law_fill" "_law_fill" (defArgs s_law_fill5) (defBody s_law_fill5) (defScope s_law_fill5) .none kV_law_fill5 dc_law_fill5 pm_law_fill5 an_law_fill5 cd_law_fill5 ct_law_fill5), sl_law_fill5⟩) (c_law_fill5 : PySem.W.codeIn K cd_law_fill5 "_law_fill" = true) (k_law_fill5 : PySem.W.keepIn K (.ref f_law_fill5) = true)
    {f_law_take5 : Addr} {od_law_take5 an_law_take5 : Option Addr} {sl_law_take5 : Array (Option Value)} {oc_law_take5 kV_law_take5 dc_law_take5 pm_law_take5 cd_law_take5 ct_law_take5 : Value} (a_law_take5 : PySem.W.nsIn K mainGlobals "_law_take" = some (some (.ref f_law_take5))) (l_law_take5 : K.lookup f_law_take5 = some ⟨oc_law_take5, od_law_take5, .func (PySem.W.fnOf "_law_take" "_law_take" (defArgs s_law_take5) (defBody s_law_take5) (defScope s_law_take5) .none kV_law_take5 dc_law_take5 pm_law_take5 an_law_take5 cd_law_take5 ct_law_take5), sl_law_take5⟩) (c_law_take5 : PySem.W.codeIn K cd_law_take5 "_law_take" = true) (k_law_take5 : PySem.W.keepIn K (.ref f_law_take5) = true)
    {f_law_shuffled5 : Addr} {od_law_shuffled5 an_law_shuffled5 : Option Addr} {sl_law_shuffled5 : Array (Option Value)} {oc_law_shuffled5 kV_law_shuffled5 dc_law_shuffled5 pm_law_shuffled5 cd_law_shuffled5 ct_law_shuffled5 : Value} (a_law_shuffled5 : PySem.W.nsIn K mainGlobals "_law_shuffled" = some (some (.ref f_law_shuffled5))) (l_law_shuffled5 : K.lookup f_law_shuffled5 = some ⟨oc_law_shuffled5, od_law_shuffled5, .func (PySem.W.fnOf "_law_shuffled" "_law_shuffled" (defArgs s_law_shuffled5) (defBody s_law_shuffled5) (defScope s_law_shuffled5) .none kV_law_shuffled5 dc_law_shuffled5 pm_law_shuffled5 an_law_shuffled5 cd_law_shuffled5 ct_law_shuffled5), sl_law_shuffled5⟩) (c_law_shuffled5 : PySem.W.codeIn K cd_law_shuffled5 "_law_shuffled" = true) (k_law_shuffled5 : PySem.W.keepIn K (.ref f_law_shuffled5) = true)
    {f_law_names5 : Addr} {od_law_names5 an_law_names5 : Option Addr} {sl_law_names5 : Array (Option Value)} {oc_law_names5 kV_law_names5 dc_law_names5 pm_law_names5 cd_law_names5 ct_law_names5 : Value} (a_law_names5 : PySem.W.nsIn K mainGlobals "_law_names" = some (some (.ref f_law_names5))) (l_law_names5 : K.lookup f_law_names5 = some ⟨oc_law_names5, od_law_names5, .func (PySem.W.fnOf "_law_names" "_law_names" (defArgs s_law_names5) (defBody s_law_names5) (defScope s_law_names5) .none kV_law_names5 dc_law_names5 pm_law_names5 an_law_names5 cd_law_names5 ct_law_names5), sl_law_names5⟩) (c_law_names5 : PySem.W.codeIn K cd_law_names5 "_law_names" = true) (k_law_names5 : PySem.W.keepIn K (.ref f_law_names5) = true)
    {f_law_divisor5 : Addr} {od_law_divisor5 an_law_divisor5 : Option Addr} {sl_law_divisor5 : Array (Option Value)} {oc_law_divisor5 kV_law_divisor5 dc_law_divisor5 pm_law_divisor5 cd_law_divisor5 ct_law_divisor5 : Value} (a_law_divisor5 : PySem.W.nsIn K mainGlobals "_law_divisor" = some (some (.ref f_law_divisor5))) (l_law_divisor5 : K.lookup f_law_divisor5 = some ⟨oc_law_divisor5, od_law_divisor5, .func (PySem.W.fnOf "_law_divisor" "_law_divisor" (defArgs s_law_divisor5) (defBody s_law_divisor5) (defScope s_law_divisor5) .none kV_law_divisor5 dc_law_divisor5 pm_law_divisor5 an_law_divisor5 cd_law_divisor5 ct_law_divisor5), sl_law_divisor5⟩) (c_law_divisor5 : PySem.W.codeIn K cd_law_divisor5 "_law_divisor" = true) (k_law_divisor5 : PySem.W.keepIn K (.ref f_law_divisor5) = true)
    {f_law_rows5 : Addr} {od_law_rows5 an_law_rows5 : Option Addr} {sl_law_rows5 : Array (Option Value)} {oc_law_rows5 kV_law_rows5 dc_law_rows5 pm_law_rows5 cd_law_rows5 ct_law_rows5 : Value} (a_law_rows5 : PySem.W.nsIn K mainGlobals "_law_rows" = some (some (.ref f_law_rows5))) (l_law_rows5 : K.lookup f_law_rows5 = some ⟨oc_law_rows5, od_law_rows5, .func (PySem.W.fnOf "_law_rows" "_law_rows" (defArgs s_law_rows5) (defBody s_law_rows5) (defScope s_law_rows5) .none kV_law_rows5 dc_law_rows5 pm_law_rows5 an_law_rows5 cd_law_rows5 ct_law_rows5), sl_law_rows5⟩) (c_law_rows5 : PySem.W.codeIn K cd_law_rows5 "_law_rows" = true) (k_law_rows5 : PySem.W.keepIn K (.ref f_law_rows5) = true)
    {f_law_body5 : Addr} {od_law_body5 an_law_body5 : Option Addr} {sl_law_body5 : Array (Option Value)} {oc_law_body5 kV_law_body5 dc_law_body5 pm_law_body5 cd_law_body5 ct_law_body5 : Value} (a_law_body5 : PySem.W.nsIn K mainGlobals "_law_body" = some (some (.ref f_law_body5))) (l_law_body5 : K.lookup f_law_body5 = some ⟨oc_law_body5, od_law_body5, .func (PySem.W.fnOf "_law_body" "_law_body" (defArgs s_law_body5) (defBody s_law_body5) (defScope s_law_body5) .none kV_law_body5 dc_law_body5 pm_law_body5 an_law_body5 cd_law_body5 ct_law_body5), sl_law_body5⟩) (c_law_body5 : PySem.W.codeIn K cd_law_body5 "_law_body" = true) (k_law_body5 : PySem.W.keepIn K (.ref f_law_body5) = true)
    {f_law_program5 : Addr} {od_law_program5 an_law_program5 : Option Addr} {sl_law_program5 : Array (Option Value)} {oc_law_program5 kV_law_program5 dc_law_program5 pm_law_program5 cd_law_program5 ct_law_program5 : Value} (a_law_program5 : PySem.W.nsIn K mainGlobals "_law_program" = some (some (.ref f_law_program5))) (l_law_program5 : K.lookup f_law_program5 = some ⟨oc_law_program5, od_law_program5, .func (PySem.W.fnOf "_law_program" "_law_program" (defArgs s_law_program5) (defBody s_law_program5) (defScope s_law_program5) .none kV_law_program5 dc_law_program5 pm_law_program5 an_law_program5 cd_law_program5 ct_law_program5), sl_law_program5⟩) (c_law_program5 : PySem.W.codeIn K cd_law_program5 "_law_program" = true) (k_law_program5 : PySem.W.keepIn K (.ref f_law_program5) = true)
    {f_law_size : Addr} {od_law_size an_law_size : Option Addr} {sl_law_size : Array (Option Value)} {oc_law_size kV_law_size dc_law_size pm_law_size cd_law_size ct_law_size : Value} (a_law_size : PySem.W.nsIn K mainGlobals "_law_size" = some (some (.ref f_law_size))) (l_law_size : K.lookup f_law_size = some ⟨oc_law_size, od_law_size, .func (PySem.W.fnOf "_law_size" "_law_size" (defArgs s_law_size) (defBody s_law_size) (defScope s_law_size) .none kV_law_size dc_law_size pm_law_size an_law_size cd_law_size ct_law_size), sl_law_size⟩) (c_law_size : PySem.W.codeIn K cd_law_size "_law_size" = true) (k_law_size : PySem.W.keepIn K (.ref f_law_size) = true)
    {f_law_ends : Addr} {od_law_ends an_law_ends : Option Addr} {sl_law_ends : Array (Option Value)} {oc_law_ends kV_law_ends dc_law_ends pm_law_ends cd_law_ends ct_law_ends : Value} (a_law_ends : PySem.W.nsIn K mainGlobals "_law_ends" = some (some (.ref f_law_ends))) (l_law_ends : K.lookup f_law_ends = some ⟨oc_law_ends, od_law_ends, .func (PySem.W.fnOf "_law_ends" "_law_ends" (defArgs s_law_ends) (defBody s_law_ends) (defScope s_law_ends) .none kV_law_ends dc_law_ends pm_law_ends an_law_ends cd_law_ends ct_law_ends), sl_law_ends⟩) (c_law_ends : PySem.W.codeIn K cd_law_ends "_law_ends" = true) (k_law_ends : PySem.W.keepIn K (.ref f_law_ends) = true)
    {f_law_put : Addr} {od_law_put an_law_put : Option Addr} {sl_law_put : Array (Option Value)} {oc_law_put kV_law_put dc_law_put pm_law_put cd_law_put ct_law_put : Value} (a_law_put : PySem.W.nsIn K mainGlobals "_law_put" = some (some (.ref f_law_put))) (l_law_put : K.lookup f_law_put = some ⟨oc_law_put, od_law_put, .func (PySem.W.fnOf "_law_put" "_law_put" (defArgs s_law_put) (defBody s_law_put) (defScope s_law_put) .none kV_law_put dc_law_put pm_law_put an_law_put cd_law_put ct_law_put), sl_law_put⟩) (c_law_put : PySem.W.codeIn K cd_law_put "_law_put" = true) (k_law_put : PySem.W.keepIn K (.ref f_law_put) = true)
    {f_law_unfolded : Addr} {od_law_unfolded an_law_unfolded : Option Addr} {sl_law_unfolded : Array (Option Value)} {oc_law_unfolded kV_law_unfolded dc_law_unfolded pm_law_unfolded cd_law_unfolded ct_law_unfolded : Value} (a_law_unfolded : PySem.W.nsIn K mainGlobals "_law_unfolded" = some (some (.ref f_law_unfolded))) (l_law_unfolded : K.lookup f_law_unfolded = some ⟨oc_law_unfolded, od_law_unfolded, .func (PySem.W.fnOf "_law_unfolded" "_law_unfolded" (defArgs s_law_unfolded) (defBody s_law_unfolded) (defScope s_law_unfolded) .none kV_law_unfolded dc_law_unfolded pm_law_unfolded an_law_unfolded cd_law_unfolded ct_law_unfolded), sl_law_unfolded⟩) (c_law_unfolded : PySem.W.codeIn K cd_law_unfolded "_law_unfolded" = true) (k_law_unfolded : PySem.W.keepIn K (.ref f_law_unfolded) = true)
    {f_law_count : Addr} {od_law_count an_law_count : Option Addr} {sl_law_count : Array (Option Value)} {oc_law_count kV_law_count dc_law_count pm_law_count cd_law_count ct_law_count : Value} (a_law_count : PySem.W.nsIn K mainGlobals "_law_count" = some (some (.ref f_law_count))) (l_law_count : K.lookup f_law_count = some ⟨oc_law_count, od_law_count, .func (PySem.W.fnOf "_law_count" "_law_count" (defArgs s_law_count) (defBody s_law_count) (defScope s_law_count) .none kV_law_count dc_law_count pm_law_count an_law_count cd_law_count ct_law_count), sl_law_count⟩) (c_law_count : PySem.W.codeIn K cd_law_count "_law_count" = true) (k_law_count : PySem.W.keepIn K (.ref f_law_count) = true)
    {f_law_large : Addr} {od_law_large an_law_large : Option Addr} {sl_law_large : Array (Option Value)} {oc_law_large kV_law_large dc_law_large pm_law_large cd_law_large ct_law_large : Value} (a_law_large : PySem.W.nsIn K mainGlobals "_law_large" = some (some (.ref f_law_large))) (l_law_large : K.lookup f_law_large = some ⟨oc_law_large, od_law_large, .func (PySem.W.fnOf "_law_large" "_law_large" (defArgs s_law_large) (defBody s_law_large) (defScope s_law_large) .none kV_law_large dc_law_large pm_law_large an_law_large cd_law_large ct_law_large), sl_law_large⟩) (c_law_large : PySem.W.codeIn K cd_law_large "_law_large" = true) (k_law_large : PySem.W.keepIn K (.ref f_law_large) = true)
    {f_law : Addr} {od_law an_law : Option Addr} {sl_law : Array (Option Value)} {oc_law kV_law dc_law pm_law cd_law ct_law : Value} (a_law : PySem.W.nsIn K mainGlobals "law" = some (some (.ref f_law))) (l_law : K.lookup f_law = some ⟨oc_law, od_law, .func (PySem.W.fnOf "law" "law" (defArgs s_law) (defBody s_law) (defScope s_law) .none kV_law dc_law pm_law an_law cd_law ct_law), sl_law⟩) (c_law : PySem.W.codeIn K cd_law "law" = true) (k_law : PySem.W.keepIn K (.ref f_law) = true)
    (nd : decide (List.Nodup [tabOf K cc_spliced, tabOf K cc_unfolded]) = true) :
    ∃ (fd : FuncData) (cs : List (Addr × Addr)), (cs.map (·.2)).Nodup ∧ (∀ p ∈ cs, h.get? p.2 = some { cls := .none, data := .fields #[] }) ∧ (∀ p ∈ cs, K.lookup p.2 = none) ∧ (∀ p ∈ cs, PySem.W.CodeHd h p.1 p.2) ∧ (∀ (s : Shared) (v : Value), BindsTo s fd ⟨[v], []⟩ [("script", v)]) ∧ ∀ base : Heap, K.In base → base.Ns mainGlobals mg → (∀ p ∈ cs, TabB base mg p.1 p.2) → FnOkG l.prog w K mg base fa fd ["script"] (spOf ⟨l.prog, w, K, CA⟩ (lawST (cs.map (·.2)))) := by
  have e := hfa.symm.trans (PySem.W.mg_of X G a_law)
  cases e
  have T : Tx K mg := ⟨PySem.W.mg_none_of X G z_abs, PySem.W.mg_none_of X G z_dict, PySem.W.mg_none_of X G z_int, PySem.W.mg_none_of X G z_len, PySem.W.mg_none_of X G z_list, PySem.W.mg_none_of X G z_max, PySem.W.mg_none_of X G z_min, PySem.W.mg_none_of X G z_range, PySem.W.mg_none_of X G z_repr, PySem.W.mg_none_of X G z_str, PySem.W.mg_none_of X G z_sum, PySem.W.mg_none_of X G z_tuple, PySem.W.mg_none_of X G z_zip, grep_int (PySem.W.mg_of X G v_MOST_COMMANDS)⟩
  have X_LimitError : ExcK K mg "LimitError" A_LimitError := ⟨⟨_, _, _, _, PySem.F.excBase_ValueError, xx_LimitError⟩, PySem.W.mg_of X G gx_LimitError, kx_LimitError, bx_LimitError, tx_LimitError, exm_one bx_LimitError ix_LimitError tx_LimitError sx_LimitError⟩
  have F_common_divisor := fun_mk (st := s_common_divisor) l_common_divisor c_common_divisor k_common_divisor
  have b_common_divisor := F_common_divisor.binds (ps := ["first", "second"]) fun _ _ _ _ _ _ us hl => match us, hl with | [_, _], _ => rfl
  have m_common_divisor := PySem.W.mg_of X G a_common_divisor
  have F_common_denominator := fun_mk (st := s_common_denominator) l_common_denominator c_common_denominator k_common_denominator
  have b_common_denominator := F_common_denominator.binds (ps := ["rows"]) fun _ _ _ _ _ _ us hl => match us, hl with | [_], _ => rfl
  have m_common_denominator := PySem.W.mg_of X G a_common_denominator
  have F_drawn := fun_mk (st := s_drawn) l_drawn c_drawn k_drawn
  have b_drawn := F_drawn.binds (ps := ["rows", "many", "number"]) fun _ _ _ _ _ _ us hl => match us, hl with | [_, _, _], _ => rfl
  have m_drawn := PySem.W.mg_of X G a_drawn
  have F_run := fun_mk (st := s_run) l_run c_run k_run
  have b_run := F_run.binds (ps := ["program", "procedure", "tape", "most"]) fun _ _ _ _ _ _ us hl => match us, hl with | [_, _, _, _], _ => rfl
  have m_run := PySem.W.mg_of X G a_run
  have F_commands := fun_mk (st := s_commands) l_commands c_commands k_commands
  have b_commands := F_commands.binds (ps := ["body"]) fun _ _ _ _ _ _ us hl => match us, hl with | [_], _ => rfl
  have m_commands := PySem.W.mg_of X G a_commands
  have F_need := fun_mk (st := s_need) l_need c_need k_need
  have b_need := F_need.binds (ps := ["many"]) fun _ _ _ _ _ _ us hl => match us, hl with | [_], _ => rfl
  have m_need := PySem.W.mg_of X G a_need
  have F_ends_of := fun_mk (st := s_ends_of) l_ends_of c_ends_of k_ends_of
  have b_ends_of := F_ends_of.binds (ps := ["body"]) fun _ _ _ _ _ _ us hl => match us, hl with | [_], _ => rfl
  have m_ends_of := PySem.W.mg_of X G a_ends_of
  have F_changed := fun_mk (st := s_changed) l_changed c_changed k_changed
  have b_changed := F_changed.binds (ps := ["body", "change"]) fun _ _ _ _ _ _ us hl => match us, hl with | [_, _], _ => rfl
  have m_changed := PySem.W.mg_of X G a_changed
  have F_spliced := fun_mk (st := s_spliced) l_spliced c_spliced k_spliced
  have b_spliced := F_spliced.binds (ps := ["body", "behind"]) fun _ _ _ _ _ _ us hl => match us, hl with | [_, _], _ => rfl
  have m_spliced := PySem.W.mg_of X G a_spliced
  have F_unfolded := fun_mk (st := s_unfolded) l_unfolded c_unfolded k_unfolded
  have b_unfolded := F_unfolded.binds (ps := ["program", "procedure", "called"]) fun _ _ _ _ _ _ us hl => match us, hl with | [_, _, _], _ => rfl
  have m_unfolded := PySem.W.mg_of X G a_unfolded
  have F_law_start5 := fun_mk (st := s_law_start5) l_law_start5 c_law_start5 k_law_start5
  have b_law_start5 := F_law_start5.binds (ps := ["script"]) fun _ _ _ _ _ _ us hl => match us, hl with | [_], _ => rfl
  have m_law_start5 := PySem.W.mg_of X G a_law_start5
  have F_law_fill5 := fun_mk (st := s_law_fill5) l_law_fill5 c_law_fill5 k_law_fill5
  have b_law_fill5 := F_law_fill5.binds (ps := ["c"]) fun _ _ _ _ _ _ us hl => match us, hl with | [_], _ => rfl
  have m_law_fill5 := PySem.W.mg_of X G a_law_fill5
  have F_law_take5 := fun_mk (st := s_law_take5) l_law_take5 c_law_take5 k_law_take5
  have b_law_take5 := F_law_take5.binds (ps := ["c", "many"]) fun _ _ _ _ _ _ us hl => match us, hl with | [_, _], _ => rfl
  have m_law_take5 := PySem.W.mg_of X G a_law_take5
  have F_law_shuffled5 := fun_mk (st := s_law_shuffled5) l_law_shuffled5 c_law_shuffled5 k_law_shuffled5
  have b_law_shuffled5 := F_law_shuffled5.binds (ps := ["c", "items"]) fun _ _ _ _ _ _ us hl => match us, hl with | [_, _], _ => rfl
  have m_law_shuffled5 := PySem.W.mg_of X G a_law_shuffled5
  have F_law_names5 := fun_mk (st := s_law_names5) l_law_names5 c_law_names5 k_law_names5
  have b_law_names5 := F_law_names5.binds (ps := ["c", "many"]) fun _ _ _ _ _ _ us hl => match us, hl with | [_, _], _ => rfl
  have m_law_names5 := PySem.W.mg_of X G a_law_names5
  have F_law_divisor5 := fun_mk (st := s_law_divisor5) l_law_divisor5 c_law_divisor5 k_law_divisor5
  have b_law_divisor5 := F_law_divisor5.binds (ps := ["a", "b"]) fun _ _ _ _ _ _ us hl => match us, hl with | [_, _], _ => rfl
  have m_law_divisor5 := PySem.W.mg_of X G a_law_divisor5
  have F_law_rows5 := fun_mk (st := s_law_rows5) l_law_rows5 c_law_rows5 k_law_rows5
  have b_law_rows5 := F_law_rows5.binds (ps := ["c", "many"]) fun _ _ _ _ _ _ us hl => match us, hl with | [_, _], _ => rfl
  have m_law_rows5 := PySem.W.mg_of X G a_law_rows5
  have F_law_body5 := fun_mk (st := s_law_body5) l_law_body5 c_law_body5 k_law_body5
  have b_law_body5 := F_law_body5.binds (ps := ["c", "names", "letters", "deep"]) fun _ _ _ _ _ _ us hl => match us, hl with | [_, _, _, _], _ => rfl
  have m_law_body5 := PySem.W.mg_of X G a_law_body5
  have F_law_program5 := fun_mk (st := s_law_program5) l_law_program5 c_law_program5 k_law_program5
  have b_law_program5 := F_law_program5.binds (ps := ["c", "names", "letters", "deep"]) fun _ _ _ _ _ _ us hl => match us, hl with | [_, _, _, _], _ => rfl
  have m_law_program5 := PySem.W.mg_of X G a_law_program5
  have F_law_size := fun_mk (st := s_law_size) l_law_size c_law_size k_law_size
  have b_law_size := F_law_size.binds (ps := ["body"]) fun _ _ _ _ _ _ us hl => match us, hl with | [_], _ => rfl
  have m_law_size := PySem.W.mg_of X G a_law_size
  have F_law_ends := fun_mk (st := s_law_ends) l_law_ends c_law_ends k_law_ends
  have b_law_ends := F_law_ends.binds (ps := ["body"]) fun _ _ _ _ _ _ us hl => match us, hl with | [_], _ => rfl
  have m_law_ends := PySem.W.mg_of X G a_law_ends
  have F_law_put := fun_mk (st := s_law_put) l_law_put c_law_put k_law_put
  have b_law_put := F_law_put.binds (ps := ["body", "behind"]) fun _ _ _ _ _ _ us hl => match us, hl with | [_, _], _ => rfl
  have m_law_put := PySem.W.mg_of X G a_law_put
  have F_law_unfolded := fun_mk (st := s_law_unfolded) l_law_unfolded c_law_unfolded k_law_unfolded
  have b_law_unfolded := F_law_unfolded.binds (ps := ["body", "q", "inner"]) fun _ _ _ _ _ _ us hl => match us, hl with | [_, _, _], _ => rfl
  have m_law_unfolded := PySem.W.mg_of X G a_law_unfolded
  have F_law_count := fun_mk (st := s_law_count) l_law_count c_law_count k_law_count
  have b_law_count := F_law_count.binds (ps := ["body", "q", "plain", "ends"]) fun _ _ _ _ _ _ us hl => match us, hl with | [_, _, _, _], _ => rfl
  have m_law_count := PySem.W.mg_of X G a_law_count
  have F_law_large := fun_mk (st := s_law_large) l_law_large c_law_large k_law_large
  have b_law_large := F_law_large.binds (ps := ["c", "names", "letters"]) fun _ _ _ _ _ _ us hl => match us, hl with | [_, _, _], _ => rfl
  have m_law_large := PySem.W.mg_of X G a_law_large
  have F_law := fun_mk (st := s_law) l_law c_law k_law
  have b_law := F_law.binds (ps := ["script"]) fun _ _ _ _ _ _ us hl => match us, hl with | [_], _ => rfl
  have m_law := PySem.W.mg_of X G a_law
  refine ⟨PySem.W.fnOf "law" "law" (defArgs s_law) (defBody s_law) (defScope s_law) .none kV_law dc_law pm_law an_law cd_law ct_law, [(cc_spliced, tabOf K cc_spliced), (cc_unfolded, tabOf K cc_unfolded)], of_decide_eq_true nd, List.forall_mem_cons.mpr ⟨t_spliced, List.forall_mem_cons.mpr ⟨t_unfolded, fun _ hh => nomatch hh⟩⟩, List.forall_mem_cons.mpr ⟨n_spliced, List.forall_mem_cons.mpr ⟨n_unfolded, fun _ hh => nomatch hh⟩⟩, List.forall_mem_cons.mpr ⟨PySem.W.codeHd_of_K X h_spliced, List.forall_mem_cons.mpr ⟨PySem.W.codeHd_of_K X h_unfolded, fun _ hh => nomatch hh⟩⟩, fun s v => .of_eq rfl, fun base _ _ TBs => ?_⟩ 
  have D_law_start5 := FnOk.d (ok_law_start5 (P := l.prog) (w := w) (base := base) (CA := CA) T F_law_start5) m_law_start5 k_law_start5 b_law_start5
  have D_law_fill5 := FnOk.d (ok_law_fill5 (P := l.prog) (w := w) (base := base) (CA := CA) T F_law_fill5) m_law_fill5 k_law_fill5 b_law_fill5
  have D_law_take5 := FnOk.d (ok_law_take5 (P := l.prog) (w := w) (base := base) (CA := CA) T F_law_take5 D_law_fill5) m_law_take5 k_law_take5 b_law_take5
  have D_law_shuffled5 := FnOk.d (ok_law_shuffled5 (P := l.prog) (w := w) (base := base) (CA := CA) T F_law_shuffled5 D_law_take5) m_law_shuffled5 k_law_shuffled5 b_law_shuffled5
  have D_law_names5 := FnOk.d (ok_law_names5 (P := l.prog) (w := w) (base := base) (CA := CA) T F_law_names5 D_law_take5 D_law_shuffled5) m_law_names5 k_law_names5 b_law_names5
  have D_law_count := FnOk.d (ok_law_count (P := l.prog) (w := w) (base := base) (CA := CA) T F_law_count m_law_count b_law_count 20) m_law_count k_law_count b_law_count
  have D_law_put := FnOk.d (ok_law_put (P := l.prog) (w := w) (base := base) (CA := CA) T F_law_put m_law_put b_law_put 20) m_law_put k_law_put b_law_put
  have D_law_unfolded := FnOk.d (ok_law_unfolded (P := l.prog) (w := w) (base := base) (CA := CA) T F_law_unfolded m_law_unfolded b_law_unfolded D_law_put 20) m_law_unfolded k_law_unfolded b_law_unfolded
  have D_law_divisor5 := FnOk.d (ok_law_divisor5 (P := l.prog) (w := w) (base := base) (CA := CA) T F_law_divisor5) m_law_divisor5 k_law_divisor5 b_law_divisor5
  have D_law_rows5 := FnOk.d (ok_law_rows5 (P := l.prog) (w := w) (base := base) (CA := CA) T F_law_rows5 D_law_take5 D_law_divisor5) m_law_rows5 k_law_rows5 b_law_rows5
  have D_law_large := FnOk.d (ok_law_large (P := l.prog) (w := w) (base := base) (CA := CA) T F_law_large D_law_take5 D_law_shuffled5 D_law_rows5) m_law_large k_law_large b_law_large
  have D_law_body5 := FnOk.d (ok_law_body5 (P := l.prog) (w := w) (base := base) (CA := CA) T F_law_body5 m_law_body5 b_law_body5 D_law_take5 D_law_rows5 8) m_law_body5 k_law_body5 b_law_body5
  have D_law_program5 := FnOk.d (ok_law_program5 (P := l.prog) (w := w) (base := base) (CA := CA) T F_law_program5 D_law_body5) m_law_program5 k_law_program5 b_law_program5
  have D_law_size := FnOk.d (ok_law_size (P := l.prog) (w := w) (base := base) (CA := CA) T F_law_size m_law_size b_law_size 20) m_law_size k_law_size b_law_size
  have D_law_ends := FnOk.d (ok_law_ends (P := l.prog) (w := w) (base := base) (CA := CA) T F_law_ends m_law_ends b_law_ends 20) m_law_ends k_law_ends b_law_ends
  have D_changed : FnDK ⟨l.prog, w, K, CA⟩ mg base (CXx l.prog w) "changed" S_changed := ⟨⟨_, _, _, ok_changed (P := l.prog) (w := w) (base := base) (CA := CA) T F_changed, m_changed, k_changed, b_changed⟩⟩
  have D_need := FnOk.d (ok_need (P := l.prog) (w := w) (base := base) (CA := CA) T F_need X_LimitError hCA_LimitError) m_need k_need b_need
  have D_commands := FnOk.d (ok_commands (P := l.prog) (w := w) (base := base) (CA := CA) T F_commands) m_commands k_commands b_commands
  have D_ends_of := FnOk.d (ok_ends_of (P := l.prog) (w := w) (base := base) (CA := CA) T F_ends_of) m_ends_of k_ends_of b_ends_of
  have D_spliced := FnOk.d (ok_spliced (P := l.prog) (w := w) (base := base) (CA := CA) T F_spliced e_spliced (TBs (cc_spliced, tabOf K cc_spliced) (by simp)) D_changed) m_spliced k_spliced b_spliced
  have D_unfolded := FnOk.d (ok_unfolded (P := l.prog) (w := w) (base := base) (CA := CA) T F_unfolded e_unfolded (TBs (cc_unfolded, tabOf K cc_unfolded) (by simp)) D_changed D_need D_commands D_ends_of D_spliced) m_unfolded k_unfolded b_unfolded
  have D_common_divisor := FnOk.d (ok_common_divisor (P := l.prog) (w := w) (base := base) (CA := CA) T F_common_divisor) m_common_divisor k_common_divisor b_common_divisor
  have D_common_denominator := FnOk.d (ok_common_denominator (P := l.prog) (w := w) (base := base) (CA := CA) T F_common_denominator D_common_divisor) m_common_denominator k_common_denominator b_common_denominator
  have D_drawn := FnOk.d (ok_drawn (P := l.prog) (w := w) (base := base) (CA := CA) T F_drawn) m_drawn k_drawn b_drawn
  have D_run := FnOk.d (ok_run (P := l.prog) (w := w) (base := base) (CA := CA) T F_run D_common_denominator D_drawn) m_run k_run b_run
  exact ok_law (CA := CA) T F_law X_LimitError hCA_LimitError D_law_start5 D_law_names5 D_law_count D_law_unfolded D_law_take5 D_law_large D_law_program5 D_law_size D_law_ends D_unfolded D_run
end DL

set_option Elab.async false
set_option maxRecDepth 100000
open PySem PySem.W PyProof.Rows in
set_option maxRecDepth 100000 in
set_option maxHeartbeats 0 in
theorem PySem.Challenge.cw_hazardry_k40_unfolded_programs_holds : PySem.Challenge.rw_hazardry_k40_unfolded_programs.Holds := by
  w_on; o_law; k_head; (case hw => w_witness2)
  k_fill
  refine DL.law_walkTX (l := PySem.Challenge.rw_hazardry_k40_unfolded_programs) rfl rfl (fun w h Y => PySem.W.km_in_of Y) ?F
  case F =>
    intro w mg fa h Y KX G hmg
    refine' DL.all_mk KX G hmg _ ?z_abs ?z_dict ?z_int ?z_len ?z_list ?z_max ?z_min ?z_range ?z_repr ?z_str ?z_sum ?z_tuple ?z_zip ?v_MOST_COMMANDS ?gx_LimitError ?xx_LimitError ?kx_LimitError ?bx_LimitError ?tx_LimitError ?ix_LimitError ?sx_LimitError ?hCA_LimitError ?a_common_divisor ?l_common_divisor ?c_common_divisor ?k_common_divisor ?a_common_denominator ?l_common_denominator ?c_common_denominator ?k_common_denominator ?a_drawn ?l_drawn ?c_drawn ?k_drawn ?a_run ?l_run ?c_run ?k_run ?a_commands ?l_commands ?c_commands ?k_commands ?a_need ?l_need ?c_need ?k_need ?a_ends_of ?l_ends_of ?c_ends_of ?k_ends_of ?a_changed ?l_changed ?c_changed ?k_changed ?a_spliced ?l_spliced ?c_spliced ?k_spliced ?e_spliced ?t_spliced ?n_spliced ?h_spliced ?a_unfolded ?l_unfolded ?c_unfolded ?k_unfolded ?e_unfolded ?t_unfolded ?n_unfolded ?h_unfolded ?a_law_start5 ?l_law_start5 ?c_law_start5 ?k_law_start5 ?a_law_fill5 ?l_law_fill5 ?c_law_fill5 ?k_law_fill5 ?a_law_take5 ?l_law_take5 ?c_law_take5 ?k_law_take5 ?a_law_shuffled5 ?l_law_shuffled5 ?c_law_shuffled5 ?k_law_shuffled5 ?a_law_names5 ?l_law_names5 ?c_law_names5 ?k_law_names5 ?a_law_divisor5 ?l_law_divisor5 ?c_law_divisor5 ?k_law_divisor5 ?a_law_rows5 ?l_law_rows5 ?c_law_rows5 ?k_law_rows5 ?a_law_body5 ?l_law_body5 ?c_law_body5 ?k_law_body5 ?a_law_program5 ?l_law_program5 ?c_law_program5 ?k_law_program5 ?a_law_size ?l_law_size ?c_law_size ?k_law_size ?a_law_ends ?l_law_ends ?c_law_ends ?k_law_ends ?a_law_put ?l_law_put ?c_law_put ?k_law_put ?a_law_unfolded ?l_law_unfolded ?c_law_unfolded ?k_law_unfolded ?a_law_count ?l_law_count ?c_law_count ?k_law_count ?a_law_large ?l_law_large ?c_law_large ?k_law_large ?a_law ?l_law ?c_law ?k_law ?nd
    (case z_abs => k_is)
    (case z_dict => k_is)
    (case z_int => k_is)
    (case z_len => k_is)
    (case z_list => k_is)
    (case z_max => k_is)
    (case z_min => k_is)
    (case z_range => k_is)
    (case z_repr => k_is)
    (case z_str => k_is)
    (case z_sum => k_is)
    (case z_tuple => k_is)
    (case z_zip => k_is)
    (case v_MOST_COMMANDS => k_is)
    (case gx_LimitError => k_is)
    (case xx_LimitError => k_exc)
    (case kx_LimitError => k_is)
    (case bx_LimitError => k_is)
    (case tx_LimitError => k_is)
    (case ix_LimitError => k_is)
    (case sx_LimitError => k_is)
    (case hCA_LimitError => kernel_rfl)
    (case a_common_divisor => k_is)
    (case l_common_divisor => k_is)
    (case c_common_divisor => k_is)
    (case k_common_divisor => k_is)
    (case a_common_denominator => k_is)
    (case l_common_denominator => k_is)
    (case c_common_denominator => k_is)
    (case k_common_denominator => k_is)
    (case a_drawn => k_is)
    (case l_drawn => k_is)
    (case c_drawn => k_is)
    (case k_drawn => k_is)
    (case a_run => k_is)
    (case l_run => k_is)
    (case c_run => k_is)
    (case k_run => k_is)
    (case a_commands => k_is)
    (case l_commands => k_is)
    (case c_commands => k_is)
    (case k_commands => k_is)
    (case a_need => k_is)
    (case l_need => k_is)
    (case c_need => k_is)
    (case k_need => k_is)
    (case a_ends_of => k_is)
    (case l_ends_of => k_is)
    (case c_ends_of => k_is)
    (case k_ends_of => k_is)
    (case a_changed => k_is)
    (case l_changed => k_is)
    (case c_changed => k_is)
    (case k_changed => k_is)
    (case a_spliced => k_is)
    (case l_spliced => k_is)
    (case c_spliced => k_is)
    (case k_spliced => k_is)
    (case e_spliced => exact rfl)
    (case t_spliced => exact DL.tab_in (PySem.W.km_tabs_of Y) (by kernel_rfl))
    (case n_spliced => kernel_rfl)
    (case h_spliced => kernel_rfl)
    (case a_unfolded => k_is)
    (case l_unfolded => k_is)
    (case c_unfolded => k_is)
    (case k_unfolded => k_is)
    (case e_unfolded => exact rfl)
    (case t_unfolded => exact DL.tab_in (PySem.W.km_tabs_of Y) (by kernel_rfl))
    (case n_unfolded => kernel_rfl)
    (case h_unfolded => kernel_rfl)
    (case a_law_start5 => k_is)
    (case l_law_start5 => k_is)
    (case c_law_start5 => k_is)
    (case k_law_start5 => k_is)
    (case a_law_fill5 => k_is)
    (case l_law_fill5 => k_is)
    (case c_law_fill5 => k_is)
    (case k_law_fill5 => k_is)
    (case a_law_take5 => k_is)
    (case l_law_take5 => k_is)
    (case c_law_take5 => k_is)
    (case k_law_take5 => k_is)
    (case a_law_shuffled5 => k_is)
    (case l_law_shuffled5 => k_is)
    (case c_law_shuffled5 => k_is)
    (case k_law_shuffled5 => k_is)
    (case a_law_names5 => k_is)
    (case l_law_names5 => k_is)
    (case c_law_names5 => k_is)
    (case k_law_names5 => k_is)
    (case a_law_divisor5 => k_is)
    (case l_law_divisor5 => k_is)
    (case c_law_divisor5 => k_is)
    (case k_law_divisor5 => k_is)
    (case a_law_rows5 => k_is)
    (case l_law_rows5 => k_is)
    (case c_law_rows5 => k_is)
    (case k_law_rows5 => k_is)
    (case a_law_body5 => k_is)
    (case l_law_body5 => k_is)
    (case c_law_body5 => k_is)
    (case k_law_body5 => k_is)
    (case a_law_program5 => k_is)
    (case l_law_program5 => k_is)
    (case c_law_program5 => k_is)
    (case k_law_program5 => k_is)
    (case a_law_size => k_is)
    (case l_law_size => k_is)
    (case c_law_size => k_is)
    (case k_law_size => k_is)
    (case a_law_ends => k_is)
    (case l_law_ends => k_is)
    (case c_law_ends => k_is)
    (case k_law_ends => k_is)
    (case a_law_put => k_is)
    (case l_law_put => k_is)
    (case c_law_put => k_is)
    (case k_law_put => k_is)
    (case a_law_unfolded => k_is)
    (case l_law_unfolded => k_is)
    (case c_law_unfolded => k_is)
    (case k_law_unfolded => k_is)
    (case a_law_count => k_is)
    (case l_law_count => k_is)
    (case c_law_count => k_is)
    (case k_law_count => k_is)
    (case a_law_large => k_is)
    (case l_law_large => k_is)
    (case c_law_large => k_is)
    (case k_law_large => k_is)
    (case a_law => k_is)
    (case l_law => k_is)
    (case c_law => k_is)
    (case k_law => k_is)
    (case nd => kernel_rfl)

