import PyProof.Rows.All
import PySem.Str
import PySem.Builtin.Str.Common
import KE.KeyNested
import PyProof.DictFindH
import PyProof.DictMoreH
import PyProof.DictRoadsH
import KE.KDictPairs
import HandS.ForMost
import KE.SortData
import KE.SortKeyHeap
import HandS.Lambda
import HandS.TupAny
import HandS.Wide
import HandS.Flow
import KE.DataEq
import KE.DataCmp
import KE.DataMinMax
import HandS.Style
import HandS.IsInst
import HandS.More
import HandS.Text
import HandS.RaiseMore
import KE.KNestM
import HandS.EndTab
import HandS.SortKw
import HandS.Conv
import KE.KIndexOf
import HandS.Rev
import HandS.RevTup
import KE.KDictList
import HandS.RevRange
import PyProof.CollectIter
import PyProof.FactsAll.range_iterator_1
import KE.KEqNest
import KE.DataFind
import PyProof.Rows.TupDisplay
import HandS.SortOrd
import KE.KDictWalk
import KE.KDictCopyH
import HandS.TupMul
import PyProof.DictTruth
import HandS.FStr
import PyProof.StrOps2
import PySem.Challenge.RW_pagefolk_k47_shown_as_text
section
set_option linter.all false
set_option autoImplicit false
/-! G layer, domain: values by value, an abstract heap, readings as plain functions (predicate transformers). -/
namespace G
open PySem (Str)
abbrev Addr := Nat

/-- a value: tuples (and lists, dicts that are only read) by value, what may change by its address -/
inductive D where
  | non | bl (b : Bool) | int (i : Int) | str (x : Str) | tup (ds : List D) | rl (ds : List D) | rd (ks vs : List D) | ref (a : Addr)
deriving Inhabited

mutual
def D.beq : D → D → Bool
  | .non, .non => true
  | .bl a, .bl b => a == b
  | .int a, .int b => decide (a = b)
  | .str a, .str b => decide (a = b)
  | .tup a, .tup b => D.beqL a b
  | .rl a, .rl b => D.beqL a b
  | .rd a b, .rd c d => D.beqL a c && D.beqL b d
  | .ref a, .ref b => decide (a = b)
  | _, _ => false
def D.beqL : List D → List D → Bool
  | [], [] => true
  | a :: as, b :: bs => D.beq a b && D.beqL as bs
  | _, _ => false
end
mutual
theorem D.beq_self : ∀ a : D, D.beq a a = true
  | .non => rfl
  | .bl a => by simp [D.beq]
  | .int a => by simp [D.beq]
  | .str a => by simp [D.beq]
  | .tup a => by rw [D.beq]; exact D.beqL_self a
  | .rl a => by rw [D.beq]; exact D.beqL_self a
  | .rd a b => by rw [D.beq, D.beqL_self a, D.beqL_self b]; rfl
  | .ref a => by simp [D.beq]
theorem D.beqL_self : ∀ a : List D, D.beqL a a = true
  | [] => rfl
  | a :: as => by rw [D.beqL, D.beq_self a, D.beqL_self as]; rfl
end
mutual
theorem D.eq_of_beq : ∀ a b : D, D.beq a b = true → a = b
  | .non, b, h => by cases b <;> simp_all [D.beq]
  | .bl _, b, h => by cases b <;> simp_all [D.beq]
  | .int _, b, h => by cases b <;> simp_all [D.beq]
  | .str _, b, h => by cases b <;> simp_all [D.beq]
  | .ref _, b, h => by cases b <;> simp_all [D.beq]
  | .tup xs, b, h => by
    cases b with
    | tup ys => rw [D.beq] at h; rw [D.eq_of_beqL xs ys h]
    | _ => simp [D.beq] at h
  | .rl xs, b, h => by
    cases b with
    | rl ys => rw [D.beq] at h; rw [D.eq_of_beqL xs ys h]
    | _ => simp [D.beq] at h
  | .rd xs us, b, h => by
    cases b with
    | rd ys ws =>
      rw [D.beq, Bool.and_eq_true] at h
      rw [D.eq_of_beqL xs ys h.1, D.eq_of_beqL us ws h.2]
    | _ => simp [D.beq] at h
theorem D.eq_of_beqL : ∀ a b : List D, D.beqL a b = true → a = b
  | [], b, h => by cases b <;> simp_all [D.beqL]
  | x :: xs, b, h => by
    cases b with
    | nil => simp [D.beqL] at h
    | cons y ys =>
      rw [D.beqL, Bool.and_eq_true] at h
      rw [D.eq_of_beq x y h.1, D.eq_of_beqL xs ys h.2]
end
instance : DecidableEq D := fun a b => if h : D.beq a b = true then .isTrue (D.eq_of_beq a b h) else .isFalse fun e => h (e ▸ D.beq_self a)

mutual
/-- plain data of depth n at most: None, ints, texts and tuples of such -/
def pl : Nat → D → Bool
  | _, .non => true
  | _, .int _ => true
  | _, .str _ => true
  | n + 1, .tup ds => plL n ds
  | _, _ => false
def plL : Nat → List D → Bool
  | _, [] => true
  | n, d :: ds => pl n d && plL n ds
end

/-! ### order and equality as Python has them -/
mutual
/-- a < b, of data that are alike -/
def dlt : D → D → Bool
  | .int a, .int b => decide (a < b)
  | .str a, .str b => decide (a.cps.toList < b.cps.toList)
  | .bl a, .bl b => !a && b
  | .tup a, .tup b => dltL a b
  | _, _ => false
def dltL : List D → List D → Bool
  | [], [] => false
  | [], _ :: _ => true
  | _ :: _, [] => false
  | x :: xs, y :: ys => dlt x y || (decide (x = y) && dltL xs ys)
end
mutual
/-- the two can be compared, place by place -/
def alk : D → D → Bool
  | .non, .non => true
  | .bl _, .bl _ => true
  | .int _, .int _ => true
  | .str _, .str _ => true
  | .tup a, .tup b => alkL a b
  | _, _ => false
def alkL : List D → List D → Bool
  | x :: xs, y :: ys => alk x y && alkL xs ys
  | [], _ => true
  | _ :: _, [] => true
end
def dle (rev : Bool) (a b : D) : Bool := if rev then !dlt a b else !dlt b a
mutual
/-- data of depth n at most: None, truths, ints, texts and tuples of such -/
def dat : Nat → D → Bool
  | _, .non => true
  | _, .bl _ => true
  | _, .int _ => true
  | _, .str _ => true
  | n + 1, .tup ds => datL n ds
  | _, _ => false
def datL : Nat → List D → Bool
  | _, [] => true
  | n, d :: ds => dat n d && datL n ds
end
mutual
/-- Python's == of data by value -/
def deqv : D → D → Bool
  | .non, .non => true
  | .bl a, .bl b => a == b
  | .bl a, .int j => (if a then 1 else 0) == j
  | .int i, .bl b => i == (if b then 1 else 0)
  | .int a, .int b => a == b
  | .str a, .str b => a == b
  | .tup a, .tup b => deqvL a b
  | .rl a, .rl b => deqvL a b
  | _, _ => false
def deqvL : List D → List D → Bool
  | [], [] => true
  | x :: xs, y :: ys => deqv x y && deqvL xs ys
  | _, _ => false
end

/-! ### the heap -/
inductive O where
  | lst (ds : List D) | dic (kvs : List (D × D)) | ins (C : Addr) (fs : List (Str × D))
abbrev AH := Addr → Option O
def up (h : AH) (a : Addr) (o : O) : AH := fun b => if b = a then some o else h b
@[simp] theorem up_same {h : AH} {a : Addr} {o : O} : up h a o a = some o := by simp [up]
theorem up_ne {h : AH} {a b : Addr} {o : O} (e : b ≠ a) : up h a o b = h b := by simp [up, e]
@[simp] theorem up_up {h : AH} {a : Addr} {o u : O} : up (up h a o) a u = up h a u := by funext b; unfold up; split <;> rfl
theorem up_none {h : AH} {a b : Addr} {o : O} : up h a o b = none ↔ b ≠ a ∧ h b = none := by
  unfold up; by_cases e : b = a <;> simp [e]
theorem up_comm {h : AH} {a b : Addr} {o u : O} (e : a ≠ b) : up (up h a o) b u = up (up h b u) a o := by
  funext c; unfold up; by_cases h1 : c = a <;> by_cases h2 : c = b <;> simp_all
theorem up_self {h : AH} {a : Addr} {o : O} (e : h a = some o) : up h a o = h := by
  funext c; unfold up; by_cases h1 : c = a <;> simp_all
/-- h0 is a part of h -/
def Sb (h0 h : AH) : Prop := ∀ a o, h0 a = some o → h a = some o
theorem Sb.refl (h : AH) : Sb h h := fun _ _ e => e
theorem Sb.trans {a b c : AH} (x : Sb a b) (y : Sb b c) : Sb a c := fun p o e => y p o (x p o e)
theorem Sb.upn {h0 h : AH} {a : Addr} {o : O} (x : Sb h0 h) (e : h a = none) : Sb h0 (up h a o) := fun p u q => by
  have q' := x p u q
  have : p ≠ a := fun z => by rw [z, e] at q'; cases q'
  rw [up_ne this]; exact q'
theorem Sb.both {h0 h : AH} {a : Addr} {o : O} (x : Sb h0 h) : Sb (up h0 a o) (up h a o) := fun p u q => by
  by_cases e : p = a
  · subst e; rw [up_same] at q; rw [up_same]; exact q
  · rw [up_ne e] at q; rw [up_ne e]; exact x p u q
theorem ne_of {h : AH} {a b : Addr} {o : O} (x : h a = some o) (y : h b = none) : a ≠ b := fun e => by rw [e, y] at x; cases x
theorem ne_of' {h : AH} {a b : Addr} {o : O} (x : h a = some o) (y : h b = none) : b ≠ a := fun e => by rw [← e, y] at x; cases x
/-- P of a part of h -/
def Pt (P : AH → Prop) (h : AH) : Prop := ∃ h0, Sb h0 h ∧ P h0
theorem Pt.of {P : AH → Prop} {h : AH} (x : P h) : Pt P h := ⟨h, Sb.refl h, x⟩

/-- the largest number of items -/
def SZ : Nat := 16777216
/-- a list's items, whatever it is held by -/
def lsOf (h : AH) : D → Option (List D)
  | .rl ds => some ds
  | .ref a => match h a with
    | some (.lst ds) => some ds
    | _ => none
  | _ => none
/-- the items of a list or a tuple -/
def sqOf (h : AH) : D → Option (List D)
  | .tup ds => some ds
  | d => lsOf h d
/-- a dict's entries -/
def dcOf (h : AH) : D → Option (List (D × D))
  | .rd ks vs => some (ks.zip vs)
  | .ref a => match h a with
    | some (.dic kvs) => some kvs
    | _ => none
  | _ => none
def mapO {α β : Type} (f : α → Option β) : List α → Option (List β)
  | [] => some []
  | d :: ds => match f d, mapO f ds with
    | some e, some es => some (e :: es)
    | _, _ => none
/-- lists at addresses put by value, n levels of lists and tuples at most -/
def rei (h : AH) : Nat → D → Option D
  | _, .non => some .non
  | _, .bl b => some (.bl b)
  | _, .int i => some (.int i)
  | _, .str x => some (.str x)
  | n + 1, .tup ds => (mapO (rei h n) ds).map .tup
  | n + 1, .rl ds => (mapO (rei h n) ds).map .rl
  | n + 1, .ref a => match h a with
    | some (.lst ds) => (mapO (rei h n) ds).map .rl
    | _ => none
  | _, _ => none
def dget : List (D × D) → D → Option D
  | [], _ => none
  | (a, b) :: r, k => if a = k then some b else dget r k
def dput : List (D × D) → D → D → List (D × D)
  | [], k, v => [(k, v)]
  | (a, b) :: r, k, v => if a = k then (a, v) :: r else (a, b) :: dput r k v

/-! ### readings -/
abbrev Lo := List (Option D)
abbrev KD := D → AH → Prop
abbrev DE := Lo → AH → KD → Prop
abbrev DT := Lo → AH → (Bool → AH → Prop) → Prop
abbrev DA := Lo → AH → (List D → AH → Prop) → Prop
structure Fin where
  nx : Lo → AH → Prop
  rt : KD
  bk : Lo → AH → Prop := fun _ _ => False
  ct : Lo → AH → Prop := fun _ _ => False
abbrev DS := Fin → Lo → AH → Prop
/-- a def, from its arguments -/
abbrev FS := List D → AH → KD → Prop

def onV : Option (Option D) → (D → Prop) → Prop
  | some (some d), Q => Q d
  | _, _ => False
def onB : Option Bool → (Bool → Prop) → Prop
  | some b, Q => Q b
  | none, _ => False
def onT (b : Bool) (p q : Prop) : Prop := match b with
  | true => p
  | false => q
def isBl : D → (Bool → Prop) → Prop
  | .bl b, Q => Q b
  | _, _ => False
def isInt : D → (Int → Prop) → Prop
  | .int i, Q => Q i
  | _, _ => False
def isTup : D → (List D → Prop) → Prop
  | .tup ds, Q => Q ds
  | _, _ => False
def isCons : List D → (D → List D → Prop) → Prop
  | d :: ds, Q => Q d ds
  | [], _ => False
def isNil : List D → Prop → Prop
  | [], Q => Q
  | _, _ => False
def dVar (i : Nat) : DE := fun ρ h Q => onV ρ[i]? fun d => Q d h
def dC (d : D) : DE := fun _ h Q => Q d h
abbrev dInt (i : Int) : DE := dC (.int i)
abbrev dStr (x : Str) : DE := dC (.str x)
abbrev dNon : DE := dC .non
abbrev dBl (b : Bool) : DE := dC (.bl b)
def daNil : DA := fun _ h Q => Q [] h
def daCons (a : DE) (r : DA) : DA := fun ρ h Q => a ρ h fun x h1 => r ρ h1 fun xs h2 => Q (x :: xs) h2
def dTup (as : DA) : DE := fun ρ h Q => as ρ h fun ds h1 => ds.length ≤ SZ ∧ Q (.tup ds) h1
@[irreducible] def newL (ds : List D) (h : AH) (Q : KD) : Prop := ∀ p, h p = none → Q (.ref p) (up h p (.lst ds))
@[irreducible] def newD (kvs : List (D × D)) (h : AH) (Q : KD) : Prop := ∀ p, h p = none → Q (.ref p) (up h p (.dic kvs))
theorem newL.go {ds : List D} {h : AH} {Q : KD} (q : newL ds h Q) : ∀ p, h p = none → Q (.ref p) (up h p (.lst ds)) := by unfold newL at q; exact q
theorem newD.go {ds : List (D × D)} {h : AH} {Q : KD} (q : newD ds h Q) : ∀ p, h p = none → Q (.ref p) (up h p (.dic ds)) := by unfold newD at q; exact q
def dLst (as : DA) : DE := fun ρ h Q => as ρ h fun ds h1 => ds.length ≤ SZ ∧ newL ds h1 Q

/-- two expressions and what is made of their values -/
def d2 (f : D → D → AH → KD → Prop) (a b : DE) : DE := fun ρ h Q => a ρ h fun x h1 => b ρ h1 fun y h2 => f x y h2 Q
def d1 (f : D → AH → KD → Prop) (a : DE) : DE := fun ρ h Q => a ρ h fun x h1 => f x h1 Q

def mulOk (i j : Int) : Prop := (-(2 ^ 64) < i ∧ i < 2 ^ 64) ∨ (-(2 ^ 64) < j ∧ j < 2 ^ 64) ∨ (i.natAbs < 2 ^ 8000 ∧ j.natAbs < 2 ^ 8000)
@[irreducible] def addR (a b : Addr) (h : AH) (Q : KD) : Prop := match h a, h b with
  | some (.lst xs), some (.lst ys) => xs.length + ys.length ≤ SZ ∧ newL (xs ++ ys) h Q
  | _, _ => False
def oAdd : D → D → AH → KD → Prop
  | .int i, .int j, h, Q => Q (.int (i + j)) h
  | .str x, .str y, h, Q => x.length + y.length ≤ SZ ∧ Q (.str (x ++ y)) h
  | .tup x, .tup y, h, Q => x.length + y.length ≤ SZ ∧ Q (.tup (x ++ y)) h
  | .ref a, .ref b, h, Q => addR a b h Q
  | _, _, _, _ => False
def oAddI : D → D → AH → KD → Prop
  | .int i, .int j, h, Q => Q (.int (i + j)) h
  | _, _, _, _ => False
def oSub : D → D → AH → KD → Prop
  | .int i, .int j, h, Q => Q (.int (i - j)) h
  | _, _, _, _ => False
/-- a list times an int -/
@[irreducible] def mulR (a : Addr) (k : Int) (h : AH) (Q : KD) : Prop := match h a with
  | some (.lst xs) => (-(2 ^ 62) ≤ k ∧ k < 2 ^ 62) ∧ xs.length * k.toNat ≤ SZ ∧ newL (List.replicate k.toNat xs).flatten h Q
  | _ => False
def oMul : D → D → AH → KD → Prop
  | .int i, .int j, h, Q => mulOk i j ∧ Q (.int (i * j)) h
  | .ref a, .int k, h, Q => mulR a k h Q
  | _, _, _, _ => False
/-- a tuple times a whole number -/
def oMulT : D → D → AH → KD → Prop
  | .tup ds, .int k, h, Q => (ds ≠ [] ∧ ds.length ≤ 1000 ∧ 0 ≤ k ∧ k ≤ 1000) ∧ Q (.tup (List.replicate k.toNat ds).flatten) h
  | _, _, _, _ => False
/-- a text times 0 or 1 -/
def oMulS : D → D → AH → KD → Prop
  | .str x, .int k, h, Q => (0 ≤ k ∧ k ≤ 1) ∧ Q (.str (if k = 1 then x else PySem.Str.empty)) h
  | _, _, _, _ => False
def oDiv : D → D → AH → KD → Prop
  | .int i, .int j, h, Q => 0 < j ∧ j < 2 ^ 64 ∧ Q (.int (i / j)) h
  | _, _, _, _ => False
def oMod : D → D → AH → KD → Prop
  | .int i, .int j, h, Q => 0 < j ∧ Q (.int (i % j)) h
  | _, _, _, _ => False
def oPow : D → D → AH → KD → Prop
  | .int i, .int j, h, Q => 0 ≤ j ∧ j ≤ 1000000 ∧ i.natAbs < 2 ^ 64 ∧ Q (.int (i ^ j.toNat)) h
  | _, _, _, _ => False
def oNeg : D → AH → KD → Prop
  | .int i, h, Q => Q (.int (-i)) h
  | _, _, _ => False
/-- dicts of plain values -/
def dOkE (h : AH) (kvs : List (D × D)) : Prop := ∀ p ∈ kvs, ∃ z, rei h 10 p.2 = some z
/-- one dict's entry is in the other -/
def hitE (h : AH) (kb : List (D × D)) (p : D × D) : Bool := match dget kb p.1 with
  | none => false
  | some v => match rei h 10 p.2, rei h 10 v with
    | some a, some b => deqv a b
    | _, _ => false
/-- == of two dicts -/
def dEqB (h : AH) (a b : Addr) (Q : Bool → Prop) : Prop := match h a, h b with
  | some (.dic ka), some (.dic kb) => dOkE h ka ∧ dOkE h kb ∧ Q (ka.length == kb.length && ka.all (hitE h kb))
  | _, _ => False
/-- == of the two, as the heap has them -/
def oEqB (x y : D) (h : AH) (Q : Bool → Prop) : Prop := match rei h 12 x, rei h 12 y with
  | some x', some y' => Q (deqv x' y')
  | _, _ => match x, y with
    | .ref a, .ref b => dEqB h a b Q
    | _, _ => False
/-- == of two tuples of two dicts -/
structure oEqT (x y : D) (h : AH) (Q : KD) : Prop where
  un : ∃ a b c d, x = .tup [.ref a, .ref b] ∧ y = .tup [.ref c, .ref d] ∧ a ≠ c ∧ b ≠ d ∧ dEqB h a c fun r => dEqB h b d fun r' => Q (.bl (r && r')) h
structure oEq (x y : D) (h : AH) (Q : KD) : Prop where
  un : oEqB x y h fun b => Q (.bl b) h
structure oNe (x y : D) (h : AH) (Q : KD) : Prop where
  un : oEqB x y h fun b => Q (.bl (!b)) h
/-- a < b -/
def oLtB : D → D → (Bool → Prop) → Prop
  | .int i, .int j, Q => Q (decide (i < j))
  | .str x, .str y, Q => Q (decide (x.cps.toList < y.cps.toList))
  | .tup x, .tup y, Q => alkL x y = true ∧ datL 12 x = true ∧ datL 12 y = true ∧ Q (dltL x y)
  | _, _, _ => False
def oLt (x y : D) (h : AH) (Q : KD) : Prop := oLtB x y fun b => Q (.bl b) h
def oGt (x y : D) (h : AH) (Q : KD) : Prop := oLtB y x fun b => Q (.bl b) h
def oLe : D → D → AH → KD → Prop
  | .int i, .int j, h, Q => Q (.bl (decide (i ≤ j))) h
  | .tup x, .tup y, h, Q => (alkL x y = true ∧ datL 12 x = true ∧ datL 12 y = true) ∧ Q (.bl (!dltL y x)) h
  | _, _, _, _ => False
def oGe : D → D → AH → KD → Prop
  | .int i, .int j, h, Q => Q (.bl (decide (j ≤ i))) h
  | .tup x, .tup y, h, Q => (alkL x y = true ∧ datL 12 x = true ∧ datL 12 y = true) ∧ Q (.bl (!dltL x y)) h
  | _, _, _, _ => False
def oIsN (x : D) (h : AH) (Q : KD) : Prop := Q (.bl (decide (x = .non))) h
def oNotN (x : D) (h : AH) (Q : KD) : Prop := Q (.bl (!decide (x = .non))) h

/-! truth -/
def tru (h : AH) : D → Option Bool
  | .non => some false
  | .bl b => some b
  | .int i => some (i != 0)
  | .str x => some (x.length != 0)
  | .tup ds => some (!ds.isEmpty)
  | .rl ds => some (!ds.isEmpty)
  | .ref a => match h a with
    | some (.lst ds) => some (!ds.isEmpty)
    | _ => none
  | _ => none
/-- an expression as a test -/
def tV (e : DE) : DT := fun ρ h Q => e ρ h fun d h1 => onB (tru h1 d) fun b => Q b h1
/-- a comparison as a test -/
def tQ (e : DE) : DT := fun ρ h Q => e ρ h fun d h1 => isBl d fun b => Q b h1
def tNot (t : DT) : DT := fun ρ h Q => t ρ h fun b h1 => Q (!b) h1
def tAnd (s t : DT) : DT := fun ρ h Q => s ρ h fun b h1 => onT b (t ρ h1 Q) (Q false h1)
def tOr (s t : DT) : DT := fun ρ h Q => s ρ h fun b h1 => onT b (Q true h1) (t ρ h1 Q)
/-- a and b, a or b, not a as values -/
def dAnd (a b : DE) : DE := fun ρ h Q => a ρ h fun x h1 => onB (tru h1 x) fun c => onT c (b ρ h1 Q) (Q x h1)
def dOr (a b : DE) : DE := fun ρ h Q => a ρ h fun x h1 => onB (tru h1 x) fun c => onT c (Q x h1) (b ρ h1 Q)
def dNot (a : DE) : DE := fun ρ h Q => a ρ h fun x h1 => onB (tru h1 x) fun c => Q (.bl (!c)) h1
def dIfE (t : DT) (a b : DE) : DE := fun ρ h Q => t ρ h fun c h1 => onT c (a ρ h1 Q) (b ρ h1 Q)
/-- a op b op' c -/
def dCh (f g : D → D → AH → KD → Prop) (a b c : DE) : DE := fun ρ h Q => a ρ h fun x h1 => b ρ h1 fun y h2 => f x y h2 fun r h3 => isBl r fun t => onT t (c ρ h3 fun z h4 => g y z h4 Q) (Q (.bl false) h3)

/-! subscripts -/
/-- the place that an index names -/
def ixN (n : Nat) (i : Int) : Option Nat := if 0 ≤ i then (if i < n then some i.toNat else none) else if -(n : Int) ≤ i then some (i + n).toNat else none
def atI {α : Type} (xs : List α) (i : Int) : Option α := (ixN xs.length i).bind fun j => xs[j]?
structure oIx (x y : D) (h : AH) (Q : KD) : Prop where
  un : match dcOf h x with
    | some kvs => pl 8 y = true ∧ ∃ v, dget kvs y = some v ∧ Q v h
    | none => match y with
      | .int i => match x with
        | .str s => ∃ c, atI s.cps.toList i = some c ∧ Q (.str ⟨#[c]⟩) h
        | _ => match sqOf h x with
          | some ds => ∃ d, atI ds i = some d ∧ Q d h
          | none => False
      | _ => False

/-- x in y -/
def oInB (x y : D) (h : AH) (Q : Bool → Prop) : Prop := match dcOf h y with
  | some kvs => pl 8 x = true ∧ Q (decide (x ∈ kvs.map (·.1)))
  | none => match y with
    | .str s => match x with
      | .str t => ∃ c, t.cps.toList = [c] ∧ Q (decide (c ∈ s.cps.toList))
      | _ => False
    | _ => match rei h 12 x, (sqOf h y).bind (mapO (rei h 12)) with
      | some x', some ys => Q (ys.any fun y' => deqv y' x')
      | _, _ => False
structure oIn (x y : D) (h : AH) (Q : KD) : Prop where
  un : oInB x y h fun b => Q (.bl b) h
structure oNotIn (x y : D) (h : AH) (Q : KD) : Prop where
  un : oInB x y h fun b => Q (.bl (!b)) h

/-! ### statements -/
def dSeq (s t : DS) : DS := fun F => s { F with nx := t F }
def dNx : DS := fun F ρ h => F.nx ρ h
def dBrk : DS := fun F ρ h => F.bk ρ h
def dCnt : DS := fun F ρ h => F.ct ρ h
def dExp (e : DE) : DS := fun F ρ h => e ρ h fun _ h1 => F.nx ρ h1
def dRet (e : DE) : DS := fun F ρ h => e ρ h F.rt
def dRetN : DS := fun F _ h => F.rt .non h
def dIf (t : DT) (a b : DS) : DS := fun F ρ h => t ρ h fun c h1 => onT c (a F ρ h1) (b F ρ h1)
def dDead : DS := fun _ _ _ => False
/-- targets -/
abbrev DG := D → Lo → AH → (Lo → AH → Prop) → Prop
abbrev DGs := List D → Lo → AH → (Lo → AH → Prop) → Prop
def gVar (i : Nat) : DG := fun d ρ h Q => Q (ρ.set i (some d)) h
def gNil : DGs := fun ds ρ h Q => isNil ds (Q ρ h)
def gCons (g : DG) (r : DGs) : DGs := fun ds ρ h Q => isCons ds fun d ds => g d ρ h fun ρ1 h1 => r ds ρ1 h1 Q
def gTup (n : Nat) (gs : DGs) : DG := fun d ρ h Q => isTup d fun ds => ds.length = n ∧ gs ds ρ h Q
/-- xs[i] = v, d[k] = v -/
structure oPut (x y v : D) (h : AH) (Q : AH → Prop) : Prop where
  un : match x with
    | .ref a => match h a with
      | some (.lst ds) => match y with
        | .int i => ∃ k, ixN ds.length i = some k ∧ Q (up h a (.lst (ds.set k v)))
        | _ => False
      | some (.dic kvs) => pl 8 y = true ∧ kvs.length < SZ ∧ Q (up h a (.dic (dput kvs y v)))
      | _ => False
    | _ => False
def gSub (o i : DE) : DG := fun d ρ h Q => o ρ h fun x h1 => i ρ h1 fun y h2 => oPut x y d h2 fun h3 => Q ρ h3
def dAsg (e : DE) (g : DG) : DS := fun F ρ h => e ρ h fun d h1 => g d ρ h1 F.nx
abbrev dSet (i : Nat) (e : DE) : DS := dAsg e (gVar i)
/-- x += e of ints -/
def dAug (f : D → D → AH → KD → Prop) (i : Nat) (e : DE) : DS := fun F ρ h => onV ρ[i]? fun x => e ρ h fun y h1 => f x y h1 fun z h2 => F.nx (ρ.set i (some z)) h2

/-! ### loops -/
def dWhile (c : DT) (b : DS) : DS := fun F ρ h => ∃ I : Nat → Lo → AH → Prop, (∃ m, I m ρ h) ∧ ∀ m ρ h, I m ρ h →
  c ρ h fun t h1 => onT t (b { nx := fun ρ' h' => Pt (fun h0 => ∃ m', m' < m ∧ I m' ρ' h0) h', ct := fun ρ' h' => Pt (fun h0 => ∃ m', m' < m ∧ I m' ρ' h0) h', bk := F.nx, rt := F.rt } ρ h1)
  (F.nx ρ h1)
/-- what a loop walks: the items, and what must be so of the heap meanwhile -/
structure Src where
  ds : List D
  ok : AH → Prop
abbrev DI := Lo → AH → (Src → AH → Prop) → Prop
def dFor (it : DI) (g : DG) (b : DS) : DS := fun F ρ h => it ρ h fun S h1 => ∃ I : Nat → Lo → AH → Prop, I 0 ρ h1 ∧ (∀ i ρ h, i ≤ S.ds.length → I i ρ h → S.ok h) ∧
  (∀ i ρ h d, I i ρ h → S.ds[i]? = some d → g d ρ h fun ρ1 h1 => b { nx := fun ρ' h' => Pt (I (i + 1) ρ') h', ct := fun ρ' h' => Pt (I (i + 1) ρ') h', bk := F.nx, rt := F.rt } ρ1 h1) ∧
  ∀ ρ h, I S.ds.length ρ h → F.nx ρ h
def wipe (ρ : Lo) : List Nat → Lo
  | [] => ρ
  | v :: vs => (wipe ρ vs).set v none
/-- [e for g in it if t] -/
def dComp (it : DI) (g : DG) (t : DT) (e : DE) (own : List Nat) : DE := fun ρ h Q => it ρ h fun S h1 => ∀ p, h1 p = none → ∃ I : Nat → List D → AH → Prop, I 0 [] (up h1 p (.lst [])) ∧
  (∀ i acc h, i ≤ S.ds.length → I i acc h → S.ok h ∧ h p = some (.lst acc)) ∧
  (∀ i acc h d, I i acc h → S.ds[i]? = some d → g d (wipe ρ own) h fun ρ1 h1 => t ρ1 h1 fun b h2 =>
    onT b (e ρ1 h2 fun y h3 => acc.length < SZ ∧ h3 p = some (.lst acc) ∧ Pt (I (i + 1) (acc ++ [y])) (up h3 p (.lst (acc ++ [y])))) (Pt (I (i + 1) acc) h2)) ∧
  ∀ acc h, I S.ds.length acc h → Q (.ref p) h
def tYes : DT := fun _ h Q => Q true h

def srcL (a : Addr) (ds : List D) : Src := ⟨ds, fun h => h a = some (.lst ds)⟩
def srcV (ds : List D) : Src := ⟨ds, fun _ => True⟩
/-- a dict's keys: it may get other values meanwhile -/
def srcK (a : Addr) (ks : List D) : Src := ⟨ks, fun h => ∃ kvs, h a = some (.dic kvs) ∧ kvs.map (·.1) = ks⟩
/-- what is walked of a list or tuple by value or at an address -/
@[irreducible] def walkD (h : AH) (x : D) (R : Src → AH → Prop) : Prop := match x with
  | .tup ds => R (srcV ds) h
  | .rl ds => R (srcV ds) h
  | .ref a => match h a with
    | some (.lst ds) => R (srcL a ds) h
    | some (.dic kvs) => R (srcK a (kvs.map (·.1))) h
    | _ => False
  | _ => False
/-- a dict's entries, as pairs: it stays as it is meanwhile -/
def srcI (a : Addr) (kvs : List (D × D)) : Src := ⟨kvs.map fun p => .tup [p.1, p.2], fun h => h a = some (.dic kvs)⟩
@[irreducible] def walkI (h : AH) (x : D) (R : Src → AH → Prop) : Prop := match x with
  | .ref a => match h a with
    | some (.dic kvs) => R (srcI a kvs) h
    | _ => False
  | _ => False
def iItems (e : DE) : DI := fun ρ h R => e ρ h fun x h1 => walkI h1 x R
def iSeq (e : DE) : DI := fun ρ h R => e ρ h fun x h1 => walkD h1 x R
def rng (lo : Int) (n : Nat) : List D := (List.range n).map fun i => .int (lo + (i : Nat))
def iRng1 (as : DA) : DI := fun ρ h R => as ρ h fun xs h1 => match xs with
  | [.int j] => -(2 ^ 62) ≤ j ∧ j < 2 ^ 62 ∧ R (srcV (rng 0 j.toNat)) h1
  | _ => False
def iRng2 (as : DA) : DI := fun ρ h R => as ρ h fun xs h1 => match xs with
  | [.int i, .int j] => (-(2 ^ 62) ≤ i ∧ i < 2 ^ 62 ∧ -(2 ^ 62) ≤ j ∧ j < 2 ^ 62) ∧ R (srcV (rng i (j - i).toNat)) h1
  | _ => False
def enumD (i : Nat) : List D → List D
  | [] => []
  | d :: ds => .tup [.int i, d] :: enumD (i + 1) ds
/-- reversed(range(j)) -/
def iRevRng (as : DA) : DI := fun ρ h R => as ρ h fun xs h1 => match xs with
  | [.int j] => -(2 ^ 62) ≤ j ∧ j < 2 ^ 62 ∧ R (srcV (rng 0 j.toNat).reverse) h1
  | _ => False
/-- list(reversed(range(j))) -/
def dRevRng (as : DA) : DE := fun ρ h Q => as ρ h fun xs h1 => match xs with
  | [.int j] => -(2 ^ 62) ≤ j ∧ j ≤ SZ ∧ newL (rng 0 j.toNat).reverse h1 Q
  | _ => False
/-- how many numbers range(i, j, c) has, c positive -/
def rngN (i j c : Int) : Nat := (if i < j then (j - i - 1) / c + 1 else 0).toNat
def rng3 (lo c : Int) (n : Nat) : List D := (List.range n).map fun i => .int (lo + (i : Nat) * c)
def iRng3 (as : DA) : DI := fun ρ h R => as ρ h fun xs h1 => match xs with
  | [.int i, .int j, .int c] => (-(2 ^ 62) ≤ i ∧ i < 2 ^ 62 ∧ -(2 ^ 62) ≤ j ∧ j < 2 ^ 62 ∧ 0 < c ∧ c < 1073741824) ∧ R (srcV (rng3 i c (rngN i j c))) h1
  | _ => False
/-- a list alone, by value or at an address -/
@[irreducible] def walkL (h : AH) (x : D) (R : Src → AH → Prop) : Prop := match x with
  | .rl ds => R (srcV ds) h
  | .ref a => match h a with
    | some (.lst ds) => R (srcL a ds) h
    | _ => False
  | _ => False
def iEnum (as : DA) : DI := fun ρ h R => as ρ h fun xs h1 => match xs with
  | [x] => walkL h1 x fun S h2 => R ⟨enumD 0 S.ds, S.ok⟩ h2
  | _ => False
def zipD : List D → List D → List D
  | x :: xs, y :: ys => .tup [x, y] :: zipD xs ys
  | _, _ => []
def iZip (as : DA) : DI := fun ρ h R => as ρ h fun xs h1 => match xs with
  | [x, y] => walkL h1 x fun S h3 => walkL h3 y fun T h4 => R ⟨zipD S.ds T.ds, fun h => S.ok h ∧ T.ok h⟩ h4
  | _ => False

/-! ### defs -/
def start (n : Nat) (ds : List D) : Lo := ds.map some ++ List.replicate (n - ds.length) none
/-- a def of n names and k parameters: what is no longer asked of the heap is forgotten at its end -/
def fnOf (n k : Nat) (b : DS) : FS := fun ds h Q => ds.length = k ∧ b { nx := fun _ h' => Pt (Q .non) h', rt := fun d h' => Pt (Q d) h' } (start n ds) h
def dCall (f : FS) (as : DA) : DE := fun ρ h Q => as ρ h fun ds h1 => f ds h1 Q

/-! ### built-ins -/
/-- how far a slice goes -/
def sIx (n : Nat) (dflt : Nat) : Option Int → Nat
  | none => dflt
  | some i => if i < 0 then (i + (n : Int)).toNat else min i.toNat n
def cut {α : Type} (xs : List α) (lo hi : Option Int) : List α := (xs.drop (sIx xs.length 0 lo)).take (sIx xs.length xs.length hi - sIx xs.length 0 lo)
abbrev DO := Lo → AH → (Option Int → AH → Prop) → Prop
def doNone : DO := fun _ h Q => Q none h
def doSome (e : DE) : DO := fun ρ h Q => e ρ h fun d h1 => isInt d fun i => Q (some i) h1
@[irreducible] def oSl (x : D) (lo hi : Option Int) (h : AH) (Q : KD) : Prop := match x with
  | .str s => Q (.str ⟨(cut s.cps.toList lo hi).toArray⟩) h
  | .tup ds => Q (.tup (cut ds lo hi)) h
  | x => match lsOf h x with
    | some ds => newL (cut ds lo hi) h Q
    | none => False
def dSl (e : DE) (lo hi : DO) : DE := fun ρ h Q => e ρ h fun x h1 => lo ρ h1 fun l h2 => hi ρ h2 fun u h3 => oSl x l u h3 Q
/-- xs[::-1] -/
@[irreducible] def oRevSl (x : D) (h : AH) (Q : KD) : Prop := match lsOf h x with
  | some ds => newL ds.reverse h Q
  | none => False
/-- the places that a slice of step k picks -/
def stepIx (n : Nat) (k : Int) : List Nat := (List.range (if (0 : Int) < n then ((n : Int) - 0 + k - 1) / k else 0).toNat).map fun (j : Nat) => (0 + k * (j : Int)).toNat
def stepD (k : Int) (ds : List D) : List D := (stepIx ds.length k).filterMap fun i => ds[i]?
/-- lists put together, whatever holds them -/
structure oAddL (x y : D) (h : AH) (Q : KD) : Prop where
  un : match lsOf h x, lsOf h y with
    | some xs, some ys => xs.length + ys.length ≤ SZ ∧ newL (xs ++ ys) h Q
    | _, _ => False
/-- xs[::k], k positive -/
structure oStep (x y : D) (h : AH) (Q : KD) : Prop where
  un : match lsOf h x with
    | some ds => match y with
      | .int k => 0 < k ∧ newL (stepD k ds) h Q
      | _ => False
    | none => False
@[irreducible] def bLen : FS
  | [x], h, Q => match x with
    | .str s => Q (.int s.length) h
    | _ => match sqOf h x with
      | some ds => Q (.int ds.length) h
      | none => False
  | _, _, _ => False
/-- len, of a dict too -/
@[irreducible] def bLenD : FS := fun ds h Q => match ds with
  | [.ref a] => match h a with
    | some (.dic kvs) => Q (.int kvs.length) h
    | _ => bLen [.ref a] h Q
  | ds => bLen ds h Q
def intsOf : List D → Option (List Int)
  | [] => some []
  | .int i :: r => (intsOf r).map (i :: ·)
  | _ => none
@[irreducible] def bSum : FS
  | [x], h, Q => match (lsOf h x).bind intsOf with
    | some ns => Q (.int ns.sum) h
    | none => False
  | _, _, _ => False
/-- list(x) -/
@[irreducible] def bList : FS
  | [x], h, Q => match sqOf h x with
    | some ds => newL ds h Q
    | none => match dcOf h x with
      | some kvs => newL (kvs.map (·.1)) h Q
      | none => False
  | _, _, _ => False
/-- what dict(pairs) holds -/
def pairsOf : List D → Option (List (D × D))
  | [] => some []
  | .tup [k, v] :: r => (pairsOf r).map ((k, v) :: ·)
  | _ => none
def dputs (kvs : List (D × D)) (ps : List (D × D)) : List (D × D) := ps.foldl (fun m p => dput m p.1 p.2) kvs
@[irreducible] def bDict : FS
  | [x], h, Q => match (lsOf h x).bind pairsOf with
    | some ps => (∀ p ∈ ps, pl 8 p.1 = true) ∧ newD (dputs [] ps) h Q
    | none => False
  | _, _, _ => False
/-- what may be sorted: all alike, tuples none of which is empty, or no tuples and no None -/
def sortable (ds : List D) : Prop := (∀ a ∈ ds, ∀ b ∈ ds, alk a b = true) ∧ (∀ a ∈ ds, dat 12 a = true) ∧ ((∀ d ∈ ds, ∃ x r, d = .tup (x :: r)) ∨ ∀ d ∈ ds, d ≠ .non ∧ ∀ xs, d ≠ .tup xs)
@[irreducible] def bSorted (rev : Bool) : FS
  | [x], h, Q => match lsOf h x with
    | some ds => sortable ds ∧ newL (ds.mergeSort (dle rev)) h Q
    | none => False
  | _, _, _ => False
/-- sorted(xs), or of a dict's keys -/
@[irreducible] def bSortD : FS
  | [x], h, Q => match lsOf h x with
    | some ds => sortable ds ∧ newL (ds.mergeSort (dle false)) h Q
    | none => match dcOf h x with
      | some kvs => sortable (kvs.map (·.1)) ∧ newL ((kvs.map (·.1)).mergeSort (dle false)) h Q
      | none => False
  | _, _, _ => False
/-- isinstance(x, T) of the built-in T -/
def isT (T : String) (h : AH) : D → Option Bool
  | .non => some (T == "NoneType")
  | .bl _ => some (T == "bool" || T == "int")
  | .int _ => some (T == "int")
  | .str _ => some (T == "str")
  | .tup _ => some (T == "tuple")
  | .rl _ => some (T == "list")
  | .rd _ _ => some (T == "dict")
  | .ref a => match h a with
    | some (.lst _) => some (T == "list")
    | some (.dic _) => some (T == "dict")
    | _ => none
@[irreducible] def oIsT (T : String) (x : D) (h : AH) (Q : KD) : Prop := match isT T h x with
  | some b => Q (.bl b) h
  | none => False
/-- o.m(as), o of the built-in type T -/
def dMeth (T : String) (m : D → List D → AH → KD → Prop) (o : DE) (as : DA) : DE := fun ρ h Q => o ρ h fun x h1 => isT T h1 x = some true ∧ as ρ h1 fun ds h2 => m x ds h2 Q
@[irreducible] def mAppend (x : D) (as : List D) (h : AH) (Q : KD) : Prop := match x, as with
  | .ref a, [d] => match h a with
    | some (.lst ds) => ds.length < SZ ∧ Q .non (up h a (.lst (ds ++ [d])))
    | _ => False
  | _, _ => False
/-- d.get(k), d.get(k, x) -/
@[irreducible] def mGet (x : D) (as : List D) (h : AH) (Q : KD) : Prop := match x with
  | .ref a => match h a with
    | some (.dic kvs) => match as with
      | [k] => pl 8 k = true ∧ Q ((dget kvs k).getD .non) h
      | [k, d] => pl 8 k = true ∧ Q ((dget kvs k).getD d) h
      | _ => False
    | _ => False
  | _ => False
@[irreducible] def mSetDef (x : D) (as : List D) (h : AH) (Q : KD) : Prop := match x, as with
  | .ref a, [k, d] => match h a with
    | some (.dic kvs) => pl 8 k = true ∧ kvs.length < SZ ∧ match dget kvs k with
      | some v => Q v h
      | none => Q d (up h a (.dic (dput kvs k d)))
    | _ => False
  | _, _ => False
@[irreducible] def mExtend (x : D) (as : List D) (h : AH) (Q : KD) : Prop := match x, as with
  | .ref a, [.ref b] => match h a, h b with
    | some (.lst xs), some (.lst ys) => xs.length + ys.length ≤ SZ ∧ Q .non (up h a (.lst (xs ++ ys)))
    | _, _ => False
  | _, _ => False
@[irreducible] def mPop (x : D) (as : List D) (h : AH) (Q : KD) : Prop := match x with
  | .ref a => match h a with
    | some (.lst xs) => match as with
      | [] => ∃ y, xs[xs.length - 1]? = some y ∧ Q y (up h a (.lst xs.dropLast))
      | [.int i] => -(2 ^ 63) ≤ i ∧ i < 2 ^ 63 ∧ ∃ k y, ixN xs.length i = some k ∧ xs[k]? = some y ∧ Q y (up h a (.lst (xs.eraseIdx k)))
      | _ => False
    | _ => False
  | _ => False
@[irreducible] def mInsert (x : D) (as : List D) (h : AH) (Q : KD) : Prop := match x, as with
  | .ref a, [.int i, d] => match h a with
    | some (.lst xs) => xs.length < SZ ∧ 0 ≤ i ∧ i < 2 ^ 63 ∧ Q .non (up h a (.lst (xs.take i.toNat ++ [d] ++ xs.drop i.toNat)))
    | _ => False
  | _, _ => False
@[irreducible] def mClear (x : D) (as : List D) (h : AH) (Q : KD) : Prop := match x, as with
  | .ref a, [] => match h a with
    | some (.lst _) => Q .non (up h a (.lst []))
    | _ => False
  | _, _ => False
def hid (h : AH) (a : Addr) : AH := fun b => if b = a then none else h b
@[irreducible] def mDClear (x : D) (as : List D) (h : AH) (Q : KD) : Prop := match x, as with
  | .ref a, [] => match h a with
    | some (.dic _) => Q .non (hid h a)
    | _ => False
  | _, _ => False
def strsOf : List D → Option (List Str)
  | [] => some []
  | .str x :: r => (strsOf r).map (x :: ·)
  | _ => none
@[irreducible] def mJoin (x : D) (as : List D) (h : AH) (Q : KD) : Prop := match x, as with
  | .str a, [y] => match (sqOf h y).bind strsOf with
    | some ys => (ys.map (·.length)).sum + ys.length * a.length ≤ SZ ∧ Q (.str (PySem.Str.join a ys)) h
    | none => False
  | _, _ => False
/-- the first least one -/
def dmin (d : D) (ds : List D) : D := ds.foldl (fun a y => if dlt y a then y else a) d
@[irreducible] def bMin : FS
  | [.int i, .int j], h, Q => Q (.int (if j < i then j else i)) h
  | [x], h, Q => match lsOf h x with
    | some (d :: ds) => ((∀ a ∈ d :: ds, ∀ b ∈ d :: ds, alk a b = true) ∧ ∀ a ∈ d :: ds, dat 12 a = true ∧ a ≠ .non) ∧ Q (dmin d ds) h
    | _ => False
  | _, _, _ => False
/-- the first greatest one -/
def dmax (d : D) (ds : List D) : D := ds.foldl (fun a y => if dlt a y then y else a) d
@[irreducible] def bMax : FS
  | [.int i, .int j], h, Q => Q (.int (if j > i then j else i)) h
  | [x], h, Q => match lsOf h x with
    | some (d :: ds) => ((∀ a ∈ d :: ds, ∀ b ∈ d :: ds, alk a b = true) ∧ ∀ a ∈ d :: ds, dat 12 a = true ∧ a ≠ .non) ∧ Q (dmax d ds) h
    | _ => False
  | _, _, _ => False
def bAbs : FS
  | [.int i], h, Q => Q (.int (if i < 0 then -i else i)) h
  | _, _, _ => False
def bInt : FS
  | [.int i], h, Q => Q (.int i) h
  | [.bl b], h, Q => Q (.int (if b then 1 else 0)) h
  | _, _, _ => False
@[irreducible] def bTuple : FS
  | [x], h, Q => match sqOf h x with
    | some ds => Q (.tup ds) h
    | none => False
  | _, _, _ => False
@[irreducible] def bStr : FS
  | [.int i], h, Q => i.natAbs.log2 < 1920 ∧ Q (.str (PySem.Str.ofString (toString i))) h
  | [.str x], h, Q => Q (.str x) h
  | _, _, _ => False
/-- a field of an f-string -/
@[irreducible] def oFmt (x : D) (h : AH) (Q : KD) : Prop := match x with
  | .str y => Q (.str y) h
  | .int i => i.natAbs.log2 < 1920 ∧ Q (.str (PySem.Str.ofString (toString i))) h
  | _ => False
abbrev DJ := Str → Lo → AH → (Str → AH → Prop) → Prop
@[irreducible] def oCat (acc : Str) (x : D) (h : AH) (Q : Str → AH → Prop) : Prop := match x with
  | .str y => (acc ++ y).length ≤ SZ ∧ Q (acc ++ y) h
  | _ => False
def djNil : DJ := fun acc _ h Q => Q acc h
def djCons (f : DE) (g : DJ) : DJ := fun acc ρ h Q => f ρ h fun x h1 => oCat acc x h1 fun y h2 => g y ρ h2 Q
/-- an f-string -/
def dFstr (g : DJ) : DE := fun ρ h Q => g PySem.Str.empty ρ h fun y h1 => Q (.str y) h1
def dDic0 : DE := fun _ h Q => newD [] h Q
def kAt (i : Nat) : D → D
  | .tup xs => xs[i]?.getD .non
  | _ => .non
/-- sorted(xs, key=lambda x: x[i]), xs tuples -/
@[irreducible] def oSortK (i : Nat) (x : D) (h : AH) (Q : KD) : Prop := match lsOf h x with
  | some ds => (∀ d ∈ ds, ∃ xs y, d = .tup xs ∧ xs[i]? = some y) ∧ sortable (ds.map (kAt i)) ∧ newL (ds.mergeSort fun a b => dle false (kAt i a) (kAt i b)) h Q
  | none => False
/-- a pair's second item -/
def D.tupAt1 : D → D
  | .tup [_, y] => y
  | _ => .non
/-- xs.index(v), v in xs -/
@[irreducible] def mIndex (x : D) (as : List D) (h : AH) (Q : KD) : Prop := match as with
  | [v] => match lsOf h x with
    | some ds => (∀ d ∈ ds, pl 8 d = true) ∧ pl 8 v = true ∧ ∃ j : Nat, ds[j]? = some v ∧ (∀ i, i < j → ds[i]? ≠ some v) ∧ Q (.int j) h
    | none => False
  | _ => False
/-- xs.count(v) -/
@[irreducible] def mCount (x : D) (as : List D) (h : AH) (Q : KD) : Prop := match as with
  | [v] => match (lsOf h x).bind (mapO (rei h 12)), rei h 12 v with
    | some ys, some v' => Q (.int ((ys.countP fun y => deqv y v' : Nat) : Int)) h
    | _, _ => False
  | _ => False
/-! ### dict displays: the dict is there, empty, ahead of its pairs -/
abbrev DP := Lo → AH → (List (D × D) → AH → Prop) → Prop
def dpNil : DP := fun _ h Q => Q [] h
def dpCons (a b : DE) (r : DP) : DP := fun ρ h Q => a ρ h fun x h1 => b ρ h1 fun y h2 => r ρ h2 fun ps h3 => Q ((x, y) :: ps) h3
structure fillD (d : D) (ps : List (D × D)) (h : AH) (Q : KD) : Prop where
  un : match d with
    | .ref p => h p = some (.dic []) ∧ ps.length ≤ 15 ∧ (∀ q ∈ ps, pl 8 q.1 = true) ∧ Q (.ref p) (up h p (.dic (dputs [] ps)))
    | _ => False
def dDisp (as : DP) : DE := fun ρ h Q => newD [] h fun d h1 => as ρ h1 fun ps h2 => fillD d ps h2 Q
/-- tuples whose first places are rising tuples of ints, whatever stands behind -/
def kIn : D → List Int
  | .tup (.tup xs :: _) => (intsOf xs).getD []
  | _ => []
structure incK (ds : List D) : Prop where
  el : ∀ d ∈ ds, ∃ (ns : List Int) (r : List D), d = .tup (.tup (ns.map .int) :: r)
  up : ds.Pairwise fun a b => kIn a < kIn b
/-- sorted(xs) of such -/
@[irreducible] def bSortI : FS
  | [x], h, Q => match lsOf h x with
    | some ds => incK ds ∧ newL ds h Q
    | none => False
  | _, _, _ => False
/-- the one text within the other -/
@[irreducible] def inS (x y : Str) : Bool := !(PySem.Builtin.Str.occurrences y x 0 y.length 1).isEmpty
def oInS : D → D → AH → KD → Prop
  | .str x, .str y, h, Q => Q (.bl (inS x y)) h
  | _, _, _, _ => False
def oNotInS : D → D → AH → KD → Prop
  | .str x, .str y, h, Q => Q (.bl (!inS x y)) h
  | _, _, _, _ => False
/-- i // j, j great -/
def oDivW : D → D → AH → KD → Prop
  | .int i, .int j, h, Q => (0 < j ∧ j < 2 ^ 200) ∧ Q (.int (i / j)) h
  | _, _, _, _ => False
/-- a text's signs -/
def chrs (z : Str) : List D := z.cps.toList.map fun c => .str ⟨#[c]⟩
def iTxt (e : DE) : DI := fun ρ h R => e ρ h fun x h1 => match x with
  | .str z => R (srcV (chrs z)) h1
  | _ => False
def blsOf : List D → Option (List Bool)
  | [] => some []
  | .bl b :: r => (blsOf r).map (b :: ·)
  | _ => none
@[irreducible] def bAll : FS
  | [x], h, Q => match (lsOf h x).bind blsOf with
    | some bs => Q (.bl (bs.all id)) h
    | none => False
  | _, _, _ => False
/-- a call of what a name holds -/
def dCallV (i : Nat) (a : Addr) (f : FS) (as : DA) : DE := fun ρ h Q => onV ρ[i]? fun d => d = .ref a ∧ as ρ h fun ds h1 => f ds h1 Q
end G
end

section
set_option Elab.async false
set_option linter.all false
set_option maxRecDepth 100000
set_option maxHeartbeats 4000000
/-! Raw dicts whose keys are any nested data (None, numbers, texts, tuples of such, in one dict): find, get, set, setdefault, del, in. -/
namespace GR
open PySem
open Sem (wp)

section
variable {prog : Program} {w : World} {A : Around} {E : Value → Shared → Prop} {s : Shared}

/-- the entries es have the keys ks -/
structure Ks (w : World) (h : Heap) (ks : List NestedKey) (es : Array DictEntry) : Prop where
  sz : es.size = ks.length
  at_ : ∀ (j : Nat) (k : NestedKey), ks[j]? = some k → ∃ e : DictEntry, es[j]? = some e ∧ e.hash = k.hash w ∧ NestedIs h k e.key ∧ k.depth ≤ 8
  nd : ks.Nodup

theorem Ks.mem {h : Heap} {ks : List NestedKey} {es : Array DictEntry} (x : Ks w h ks es) {j : Nat} {e : DictEntry} (he : es[j]? = some e) : ∃ k, ks[j]? = some k ∧ e.hash = k.hash w ∧ NestedIs h k e.key ∧ k.depth ≤ 8 := by
  have hj : j < ks.length := by rw [← x.sz]; exact (Array.getElem?_eq_some_iff.mp he).1
  obtain ⟨e', h1, h2⟩ := x.at_ j _ (List.getElem?_eq_getElem hj)
  rw [he] at h1; cases h1
  exact ⟨_, List.getElem?_eq_getElem hj, h2⟩
theorem Ks.uniq {h : Heap} {ks : List NestedKey} {es : Array DictEntry} (x : Ks w h ks es) {i j : Nat} {k : NestedKey} (h1 : ks[i]? = some k) (h2 : ks[j]? = some k) : i = j :=
  (List.getElem?_inj (List.getElem?_eq_some_iff.mp h1).1 x.nd).mp (h1.trans h2.symm)

theorem eqBool_key {x y : NestedKey} {u v : Value} {Q : Bool → Shared → Prop} (hx : NestedIs s.heap x u) (hy : NestedIs s.heap y v) (hu : A.units + 8 < cLine) (d : x.depth ≤ 8) (h : Q (decide (x = y)) s) : wpAny (model prog w) A (eqBool u v) Q E s :=
  eqAt_key x y A s u v hx hy (by omega) _ _ _ _ (by rw [← NestedKey.decide_eq]; exact h)

theorem tells_quiet {k : NestedKey} {u : Value} {stored : List Value} {Q : Bool → Shared → Prop} (hkey : NestedIs s.heap k u) (hd : k.depth ≤ 8)
    (hst : ∀ v ∈ stored, ∃ k', NestedIs s.heap k' v ∧ k'.depth ≤ 8) (h : Q false s) : wpAny (model prog w) A (tableMayTell u stored) Q E s := by
  unfold tableMayTell
  split
  · exact wpAny_pure h
  · refine wpAny_bind (quiet_key k u 8 s hkey hd A E _ ?_)
    simp only [Bool.not_true, Bool.false_eq_true, if_false]
    refine wpAny_bind ?_
    refine wpAny_forIn_list _ (fun rest r s' => s' = s ∧ r = (none, ()) ∧ ∀ v ∈ rest, ∃ k', NestedIs s.heap k' v ∧ k'.depth ≤ 8) _ ?_ ?_ _ _ ⟨rfl, rfl, hst⟩
    · rintro x rest r s' ⟨rfl, rfl, hr⟩
      obtain ⟨k', hb, hd'⟩ := hr x List.mem_cons_self
      refine wpAny_bind (quiet_key k' x 8 s' hb hd' A E _ ?_)
      simp only [Bool.not_true, Bool.false_eq_true, if_false]
      exact wpAny_pure ⟨rfl, rfl, fun v hv => hr v (List.mem_cons_of_mem _ hv)⟩
    · rintro r s' ⟨rfl, rfl, _⟩
      exact wpAny_pure h

theorem find_any {d : Addr} {o : Obj} {es ep} {ks : List NestedKey} {k : NestedKey} {u : Value} {Q : Option Nat → Shared → Prop} (hu : A.units + 8 < cLine) (hkey : NestedIs s.heap k u) (hdp : k.depth ≤ 8)
    (ho : s.heap.get? d = some o) (hd : o.data = .dict es ep) (hK : Ks w s.heap ks es)
    (hnone : k ∉ ks → Q none s) (hsome : ∀ j, ks[j]? = some k → Q (some j) s) :
    wpAny (model prog w) A (dictFind d u (k.hash w)) Q E s := by
  have haskey : ∀ (j : Nat), ks[j]? = some k → ((es[j]?.map (·.hash)) == some (k.hash w)) = true := by
    intro j hj
    obtain ⟨e, h1, h2, _⟩ := hK.at_ j k hj
    rw [h1]; simp [h2]
  have hst : ∀ v ∈ (placesWithHash es.size (fun i => es[i]?.map (·.hash)) (k.hash w)).filterMap (fun i => es[i]?.map (·.key)), ∃ k', NestedIs s.heap k' v ∧ k'.depth ≤ 8 := by
    intro v hv
    obtain ⟨i, _, hi⟩ := List.mem_filterMap.mp hv
    cases hei : es[i]? with
    | none => rw [hei] at hi; cases hi
    | some e =>
      rw [hei] at hi
      obtain rfl : e.key = v := by simpa using hi
      obtain ⟨k', _, _, h3, h4⟩ := hK.mem hei
      exact ⟨k', h3, h4⟩
  have notin : ∀ (P : Nat → Prop), (∀ j, ks[j]? ≠ some k) → k ∉ ks := fun _ hno hm => by
    obtain ⟨j, hj⟩ := List.mem_iff_getElem?.mp hm
    exact hno j hj
  have hplain : wpAny (model prog w) A (dictWalkPlain d u (k.hash w) es (placesWithHash es.size (fun i => es[i]?.map (·.hash)) (k.hash w))) Q E s := by
    refine wpAny_bind ?_
    refine wpAny_forIn_list _
      (fun rest b s' => s' = s ∧ b = (none, ()) ∧ ∃ i, rest = (List.range' i (es.size - i)).filter (fun i => (es[i]?.map (·.hash)) == some (k.hash w)) ∧ i ≤ es.size ∧
        ∀ j, j < i → ks[j]? ≠ some k) _ ?_ ?_ _ _
      ⟨rfl, rfl, 0, by rw [placesWithHash, List.range_eq_range', Nat.sub_zero], Nat.zero_le _, fun _ h => absurd h (Nat.not_lt_zero _)⟩
    · rintro x rest b s' ⟨rfl, rfl, i, hr, hi, hno⟩
      obtain ⟨hix, hxn, hpx, hskip, hrest⟩ := filter_range'_cons _ _ _ _ _ hr.symm
      have hlt : x < es.size := by omega
      obtain ⟨k', hk1, hk2, hk3, hk4⟩ := hK.mem (Array.getElem?_eq_getElem hlt)
      have hnext : ¬ k' = k → ∃ i, rest = (List.range' i (es.size - i)).filter (fun i => (es[i]?.map (·.hash)) == some (k.hash w)) ∧ i ≤ es.size ∧ ∀ j, j < i → ks[j]? ≠ some k := fun hne =>
        ⟨x + 1, by rw [hrest]; congr 2; omega, hlt, fun j hji hj => by
          rcases Nat.lt_or_ge j i with h | h
          · exact hno j h hj
          · rcases Nat.lt_or_ge j x with h' | h'
            · have := hskip j h h'
              rw [haskey j hj] at this
              exact absurd this (by decide)
            · have : j = x := by omega
              subst this
              rw [hk1] at hj; cases hj; exact hne rfl⟩
      simp only [Array.getElem?_eq_getElem hlt]
      by_cases hh : (es[x].hash == k.hash w) = true
      · rw [if_pos hh]
        refine wpAny_bind (wpAny_dictEpoch ho hd (wpAny_bind (eqBool_key hk3 hkey hu hk4 (wpAny_bind (wpAny_dictEpoch ho hd ?_)))))
        show wpAny _ _ (if (ep != ep) = true then _ else _) _ E _
        rw [if_neg (by simp)]
        by_cases hkk : k' = k
        · rw [decide_eq_true hkk]
          subst hkk
          exact wpAny_bind (wpAny_rule (wpAny_pure (wpAny_pure (hsome x hk1))))
        · rw [decide_eq_false hkk]
          exact wpAny_bind (wpAny_rule (wpAny_pure ⟨rfl, rfl, hnext hkk⟩))
      · rw [if_neg hh]
        refine wpAny_pure ⟨rfl, rfl, hnext ?_⟩
        intro hkk
        rw [hk2, hkk] at hh; simp at hh
    · rintro b s' ⟨rfl, rfl, i, hr, hi, hno⟩
      refine wpAny_pure (hnone (notin (fun _ => True) fun j hj => ?_))
      rcases Nat.lt_or_ge j i with h | h
      · exact hno j h hj
      · have hjl : j < es.size := by rw [hK.sz]; exact (List.getElem?_eq_some_iff.mp hj).1
        have := List.filter_eq_nil_iff.mp hr.symm j (List.mem_range'_1.mpr ⟨h, by omega⟩)
        exact this (haskey j hj)
  -- the general road
  have hany : ∀ a, u = .ref a → ¬ (es.any fun e => e.key == u && e.hash != k.hash w) = true := by
    intro a hua
    rw [← Array.any_toList, List.any_eq_true]
    rintro ⟨e, hin, hc⟩
    obtain ⟨j, hj⟩ := Array.mem_iff_getElem?.mp (Array.mem_toList_iff.mp hin)
    obtain ⟨k', h1, h2, h3, _⟩ := hK.mem hj
    simp only [Bool.and_eq_true, beq_iff_eq, bne_iff_ne, ne_eq] at hc
    obtain ⟨hxa, hne⟩ := hc
    rw [hxa] at h3
    exact hne (by rw [h2, NestedIs.inj _ _ _ h3 hkey])
  unfold dictFind
  try with_reducible refine wpAny_holding ?_
  refine wpAny_bind (wpAny_dictEntries ho hd ?_)
  dsimp only
  by_cases hall : ((u :: (placesWithHash es.size (fun i => es[i]?.map (·.hash)) (k.hash w)).filterMap (fun i => es[i]?.map (·.key))).all carriedByValue) = true
  · rw [if_pos hall]
    split
    next x t =>
      split
      next hstrs =>
        have kx : k = .text x := by cases hkey; rfl
        unfold foundByValue
        cases hf : es.findIdx? (fun e => e.key.isStr x) with
        | none =>
          refine wpAny_pure (hnone fun hm => ?_)
          obtain ⟨j, hj⟩ := List.mem_iff_getElem?.mp hm
          obtain ⟨e, h1, _, h3, _⟩ := hK.at_ j k hj
          rw [kx] at h3
          have := Array.findIdx?_eq_none_iff.mp hf e (Array.mem_of_getElem? h1)
          cases he : e.key with
          | str y u =>
            rw [he] at h3 this
            cases h3
            simp [Value.isStr] at this
          | _ => rw [he] at h3; cases h3
        | some i =>
          obtain ⟨hlt, hi, _⟩ := Array.findIdx?_eq_some_iff_getElem.mp hf
          obtain ⟨k', h1, h2, h3, h4⟩ := hK.mem (Array.getElem?_eq_getElem hlt)
          have hkk : k' = k := by
            rw [kx]
            cases he : es[i].key with
            | str y u =>
              rw [he] at h3 hi
              cases h3
              simp [Value.isStr] at hi
              rw [hi]
            | _ => rw [he] at hi; simp [Value.isStr] at hi
          simp only [Array.getElem?_eq_getElem hlt]
          refine wpAny_bind (wpAny_dictEpoch ho hd (wpAny_bind (eqBool_key h3 hkey hu h4 (wpAny_bind (wpAny_dictEpoch ho hd ?_)))))
          show wpAny _ _ (if (ep != ep) = true then _ else _) _ E _
          rw [if_neg (by simp), decide_eq_true hkk]
          exact wpAny_bind (wpAny_rule (wpAny_pure (hsome i (by rw [h1, hkk]))))
      next => exact hplain
    next => exact hplain
  · rw [if_neg hall]
    have strs_no : ∀ x t, u = .str x t → ¬ (es.all fun e => isExactStrKey e.key) = true := by
      intro x t hu' hstrs
      apply hall
      rw [List.all_cons, Bool.and_eq_true]
      refine ⟨by rw [hu']; rfl, List.all_eq_true.mpr fun v hv => ?_⟩
      obtain ⟨i, _, hi⟩ := List.mem_filterMap.mp hv
      cases hei : es[i]? with
      | none => rw [hei] at hi; cases hi
      | some e =>
        rw [hei] at hi
        obtain rfl : e.key = v := by simpa using hi
        have := Array.all_eq_true_iff_forall_mem.mp hstrs e (Array.mem_of_getElem? hei)
        cases he : e.key <;> rw [he] at this <;> simp [isExactStrKey] at this <;> rfl
    have ho2 := Bool.eq_false_or_eq_true (((placesWithHash es.size (fun i => es[i]?.map (·.hash)) (k.hash w)).filterMap (fun i => es[i]?.map (·.key))) == [u])
    rcases (show (∃ x t, u = .str x t) ∨ (∃ a, u = .ref a) ∨ (∃ b, u = .bool b) ∨ (∃ i t, u = .int i t) ∨ u = .none by
      cases hkey <;> simp) with ⟨x, t, hu'⟩ | ⟨a, hu'⟩ | ⟨b, hu'⟩ | ⟨i, t, hu'⟩ | hu'
    all_goals subst hu'
    all_goals dsimp only
    all_goals first | rw [if_neg (strs_no _ _ rfl)] | rw [if_neg (hany _ rfl)] | skip
    all_goals rcases ho2 with hone | hone
    all_goals first | rw [if_pos hone] | rw [if_neg (by rw [hone]; exact Bool.false_ne_true)]
    all_goals first | refine wpAny_bind (wpAny_pure ?_) | refine wpAny_bind (tells_quiet hkey hdp hst ?_)
    all_goals rw [if_neg (by simp)]
    all_goals refine wpAny_bind ?_
    all_goals refine wpAny_forIn_list _ (fun rest b s' => s' = s ∧ ∃ i hit, b = (none, hit) ∧ rest = (List.range' i (es.size - i)).filter (fun i => (es[i]?.map (·.hash)) == some (k.hash w)) ∧ i ≤ es.size ∧
        ((hit = none ∧ ∀ j, j < i → ks[j]? ≠ some k) ∨ ∃ j, hit = some j ∧ j < i ∧ ks[j]? = some k)) _ ?_ ?_ _ _ ⟨rfl, 0, none, rfl, by rw [placesWithHash, List.range_eq_range', Nat.sub_zero], Nat.zero_le _, .inl ⟨rfl, fun _ h => absurd h (Nat.not_lt_zero _)⟩⟩
    all_goals first
      | (rintro b s' ⟨rfl, i, hit, rfl, hr, hi, hH⟩
         have hallz : ∀ j, i ≤ j → j < es.size → ((es[j]?.map (·.hash)) == some (k.hash w)) = false := by
           intro j h1 h2
           have := List.filter_eq_nil_iff.mp hr.symm j (List.mem_range'_1.mpr ⟨h1, by omega⟩)
           simpa using this
         rcases hH with ⟨rfl, hno⟩ | ⟨j, rfl, _, hj⟩
         · refine wpAny_pure (hnone (notin (fun _ => True) fun j hj => ?_))
           rcases Nat.lt_or_ge j i with h | h
           · exact hno j h hj
           · have hjl : j < es.size := by rw [hK.sz]; exact (List.getElem?_eq_some_iff.mp hj).1
             have := hallz j h hjl
             rw [haskey j hj] at this
             exact absurd this (by decide)
         · exact wpAny_pure (hsome j hj))
      | (rintro x rest b s' ⟨rfl, i, hit, rfl, hr, hi, hH⟩
         obtain ⟨hix, hxn, hpx, hskip, hrest⟩ := filter_range'_cons _ _ _ _ _ hr.symm
         have hlt : x < es.size := by omega
         have hrest' : rest = (List.range' (x + 1) (es.size - (x + 1))).filter (fun i => (es[i]?.map (·.hash)) == some (k.hash w)) := by rw [hrest]; congr 2; omega
         obtain ⟨k', hk1, hk2, hk3, hk4⟩ := hK.mem (Array.getElem?_eq_getElem hlt)
         have hHx : (hit = none ∧ ∀ j, j < x → ks[j]? ≠ some k) ∨ ∃ j, hit = some j ∧ j < x ∧ ks[j]? = some k := by
           rcases hH with ⟨h0, hno⟩ | ⟨j, h1, hji, hj⟩
           · refine .inl ⟨h0, fun j hjx hj => ?_⟩
             rcases Nat.lt_or_ge j i with h | h
             · exact hno j h hj
             · have := hskip j h hjx
               rw [haskey j hj] at this
               exact absurd this (by decide)
           · exact .inr ⟨j, h1, by omega, hj⟩
         have hstay : ¬ k' = k → ((hit = none ∧ ∀ j, j < x + 1 → ks[j]? ≠ some k) ∨ ∃ j, hit = some j ∧ j < x + 1 ∧ ks[j]? = some k) := by
           intro hne
           rcases hHx with ⟨h0, hno⟩ | ⟨j, h1, hjx, hj⟩
           · refine .inl ⟨h0, fun j hjx hj => ?_⟩
             rcases Nat.lt_or_ge j x with h | h
             · exact hno j h hj
             · have hjx' : j = x := by omega
               subst hjx'
               rw [hk1] at hj; cases hj; exact hne rfl
           · exact .inr ⟨j, h1, by omega, hj⟩
         simp only [Array.getElem?_eq_getElem hlt]
         by_cases hh : (es[x].hash == k.hash w) = true
         · rw [if_pos hh]
           refine wpAny_bind (wpAny_dictEpoch ho hd (wpAny_bind (eqBool_key hk3 hkey hu hk4 (wpAny_bind (wpAny_dictEpoch ho hd ?_)))))
           show wpAny _ _ (if (ep != ep) = true then _ else _) _ E _
           rw [if_neg (by simp)]
           by_cases hkk : k' = k
           · rw [decide_eq_true hkk]
             subst hkk
             rcases hHx with ⟨rfl, _⟩ | ⟨j, _, hjx, hj⟩
             · first | rw [if_pos rfl] | skip
               simp only [Option.isSome_none, Bool.false_eq_true, if_false]
               first | refine wpAny_bind (wpAny_pure ?_) | skip
               refine wpAny_bind (wpAny_rule ?_)
               split
               · exact wpAny_pure (wpAny_pure (hsome x hk1))
               · exact wpAny_pure ⟨rfl, x + 1, some x, rfl, hrest', hlt, .inr ⟨x, rfl, Nat.lt_succ_self x, hk1⟩⟩
             · exact absurd (hK.uniq hj hk1) (by omega)
           · rw [decide_eq_false hkk]
             simp only [Bool.false_eq_true, if_false]
             refine wpAny_bind (wpAny_rule ?_)
             first | rw [if_neg (by simp)] | skip
             first
               | exact wpAny_pure ⟨rfl, x + 1, hit, rfl, hrest', hlt, hstay hkk⟩
               | exact wpAny_bind (wpAny_pure (wpAny_pure ⟨rfl, x + 1, hit, rfl, hrest', hlt, hstay hkk⟩))
         · rw [if_neg hh]
           refine wpAny_pure ⟨rfl, x + 1, hit, rfl, hrest', hlt, hstay ?_⟩
           intro hkk
           rw [hk2, hkk] at hh; simp at hh)

/-- the dict d of the heap h, as it is -/
def Dic (h : Heap) (d : Addr) (es : Array DictEntry) (ep : Nat) : Prop := ∃ o, h.get? d = some o ∧ o.ExactDict ∧ o.data = .dict es ep
theorem Dic.typeIs {d : Addr} {es ep} (x : Dic s.heap d es ep) : s.TypeIs (.ref d) "dict" := let ⟨o, h1, h2, _⟩ := x; ⟨o, h1, h2.1⟩
theorem Dic.noDict {h : Heap} {d : Addr} {es ep} (x : Dic h d es ep) : ∀ a, Value.ref d = .ref a → ∃ o, h.get? a = some o ∧ o.dict = none := fun a e => by
  cases e
  obtain ⟨o, h1, h2, _⟩ := x
  exact ⟨o, h1, h2.2.1⟩
/-- key j is k -/
def At (w : World) (ks : List NestedKey) (k : NestedKey) : Option Nat := ks.findIdx? fun x => decide (x = k)

theorem get_any {d : Addr} {es ep} {ks : List NestedKey} {k : NestedKey} {u : Value} {Q : Option Value → Shared → Prop} (hu : A.units + 8 < cLine) (hkey : NestedIs s.heap k u) (hdp : k.depth ≤ 8)
    (hD : Dic s.heap d es ep) (hK : Ks w s.heap ks es) (hnone : k ∉ ks → Q none { s with toks := s.toks + k.draws })
    (hsome : ∀ (j : Nat) (e : DictEntry), ks[j]? = some k → es[j]? = some e → Q (some e.val) { s with toks := s.toks + k.draws }) : wpAny (model prog w) A (dictGet d u) Q E s := by
  obtain ⟨o, ho, _, hd⟩ := hD
  unfold dictGet
  try with_reducible refine wpAny_holding ?_
  refine wpAny_bind (pyHash_key k u A s _ hkey (by omega) (wpAny_bind (find_any (s := { s with toks := s.toks + k.draws }) hu hkey hdp ho hd hK (fun h => wpAny_pure (hnone h)) fun j hj => ?_)))
  obtain ⟨e, h1, _⟩ := hK.at_ j k hj
  refine wpAny_bind (wpAny_dictEntries (s := { s with toks := s.toks + k.draws }) ho hd ?_)
  rw [h1]
  exact wpAny_pure (hsome j e hj h1)
theorem set_any {d : Addr} {es ep} {ks : List NestedKey} {k : NestedKey} {u v : Value} {Q : Unit → Shared → Prop} (hu : A.units + 8 < cLine) (hkey : NestedIs s.heap k u) (hdp : k.depth ≤ 8)
    (hD : Dic s.heap d es ep) (hK : Ks w s.heap ks es) (hz : ks.length ≤ sizeLine)
    (hnew : k ∉ ks → ∀ h', Dic h' d (es.push ⟨k.hash w, u, v⟩) (ep + 1) → Heap.SameBut d s.heap h' → Q () { s with heap := h', toks := s.toks + k.draws })
    (hold : ∀ (j : Nat), ks[j]? = some k → ∀ h', Dic h' d (es.modify j fun e => { e with val := v }) ep → Heap.SameBut d s.heap h' → Q () { s with heap := h', toks := s.toks + k.draws }) : wpAny (model prog w) A (dictSet d u v) Q E s := by
  obtain ⟨o, ho, hc, hd⟩ := hD
  unfold dictSet
  try with_reducible refine wpAny_holding ?_
  refine wpAny_bind (pyHash_key k u A s _ hkey (by omega) ?_)
  unfold dictSetHashed
  try with_reducible refine wpAny_holding ?_
  have hsz : es.size ≤ sizeLine := by rw [hK.sz]; exact hz
  refine wpAny_bind (find_any (s := { s with toks := s.toks + k.draws }) hu hkey hdp ho hd hK (fun hn => ?_) fun j hj => ?_)
  · exact wpAny_bind (wpAny_rule (wpAny_updateDictKeys (hz := by omega) (s := { s with toks := s.toks + k.draws }) ho hd
      (hnew hn _ ⟨_, Heap.get?_update_self _ ho (Obj.isFreed_of_dict (Obj.data_mapDictKeys hd _)), hc.mapDictKeys _, Obj.data_mapDictKeys hd _⟩ (Heap.SameBut.update ..))))
  · exact wpAny_bind (wpAny_rule (wpAny_bind (wpAny_updateDict (s := { s with toks := s.toks + k.draws }) ho hd
      (wpAny_point (hold j hj _ ⟨_, Heap.get?_update_self _ ho (Obj.isFreed_of_dict (Obj.data_mapDict hd _)), hc.mapDict _, Obj.data_mapDict hd _⟩ (Heap.SameBut.update ..))))))
theorem setdefault_any {d : Addr} {es ep} {ks : List NestedKey} {k : NestedKey} {u v : Value} {Q : Value → Shared → Prop} (hu : A.units + 8 < cLine) (hkey : NestedIs s.heap k u) (hdp : k.depth ≤ 8)
    (hD : Dic s.heap d es ep) (hK : Ks w s.heap ks es) (hz : ks.length ≤ sizeLine)
    (hnew : k ∉ ks → ∀ h', Dic h' d (es.push ⟨k.hash w, u, v⟩) (ep + 1) → Heap.SameBut d s.heap h' → Q v { s with heap := h', toks := s.toks + k.draws })
    (hold : ∀ (j : Nat) (e : DictEntry), ks[j]? = some k → es[j]? = some e → Q e.val { s with toks := s.toks + k.draws }) : wpAny (model prog w) A (dictSetDefault d u v) Q E s := by
  obtain ⟨o, ho, hc, hd⟩ := hD
  unfold dictSetDefault
  try with_reducible refine wpAny_holding ?_
  refine wpAny_bind (pyHash_key k u A s _ hkey (by omega) ?_)
  have hsz : es.size ≤ sizeLine := by rw [hK.sz]; exact hz
  refine wpAny_bind (find_any (s := { s with toks := s.toks + k.draws }) hu hkey hdp ho hd hK (fun hn => ?_) fun j hj => ?_)
  · exact wpAny_bind (wpAny_rule (wpAny_bind (wpAny_updateDictKeys (hz := by omega) (s := { s with toks := s.toks + k.draws }) ho hd (wpAny_pure
      (hnew hn _ ⟨_, Heap.get?_update_self _ ho (Obj.isFreed_of_dict (Obj.data_mapDictKeys hd _)), hc.mapDictKeys _, Obj.data_mapDictKeys hd _⟩ (Heap.SameBut.update ..))))))
  · obtain ⟨e, h1, _⟩ := hK.at_ j k hj
    refine wpAny_bind (wpAny_dictEntries (s := { s with toks := s.toks + k.draws }) ho hd ?_)
    rw [h1]
    exact wpAny_bind (wpAny_rule (wpAny_pure (hold j e hj h1)))

/-! the operations -/
theorem getItem_any {d : Addr} {es ep} {ks : List NestedKey} {k : NestedKey} {u : Value} {Q : Value → Shared → Prop} (hu : A.units + 9 < cLine) (hkey : NestedIs s.heap k u) (hdp : k.depth ≤ 8)
    (hD : Dic s.heap d es ep) (hK : Ks w s.heap ks es) (hin : k ∈ ks)
    (hsome : ∀ (j : Nat) (e : DictEntry), ks[j]? = some k → es[j]? = some e → Q e.val { s with toks := s.toks + k.draws }) : wpAny (model prog w) A (getItem (.ref d) u) Q E s := by
  unfold getItem
  try with_reducible refine wpAny_holding ?_
  refine wpAny_bind (wpAny_sequenceKey hD.typeIs (by decide) ?_)
  refine wpAny_bind (wpAny_callSpecial?_slot (name := Str.ofString "__getitem__") hD.typeIs slot_dict_getitem
    (wpAny_call_entry slot_dict_getitem hD.typeIs entry_dict_getitem ?_ (args_dict_getitem _ _)))
  show wpAny _ _ (dictGet d u >>= _) _ _ s
  refine wpAny_bind (get_any (by rw [Around.in1_units]; omega) hkey hdp hD hK (fun h => absurd hin h) fun j e h1 h2 => ?_)
  exact wpAny_pure ⟨e.val, rfl, wpAny_pure (hsome j e h1 h2)⟩
theorem contains_any {d : Addr} {es ep} {ks : List NestedKey} {k : NestedKey} {u : Value} {Q : Bool → Shared → Prop} (hu : A.units + 9 < cLine) (hkey : NestedIs s.heap k u) (hdp : k.depth ≤ 8) (hs : (d == sysModules) = false)
    (hD : Dic s.heap d es ep) (hK : Ks w s.heap ks es) (h : Q (decide (k ∈ ks)) { s with toks := s.toks + k.draws }) : wpAny (model prog w) A (contains (.ref d) u) Q E s := by
  unfold contains
  try with_reducible refine wpAny_holding ?_
  refine wpAny_bind (wpAny_specialOf hD.typeIs slot_dict_contains.lookup ?_)
  show wpAny _ _ (if (some (Value.builtin "dict.__contains__") == some Value.none) = true then _ else _) _ E s
  rw [if_neg (by rw [beq_builtin_none]; exact Bool.false_ne_true)]
  refine wpAny_bind (wpAny_callSpecialUnlessNone?_slot (name := Str.ofString "__contains__") hD.typeIs slot_dict_contains
    (wpAny_call_entry slot_dict_contains hD.typeIs entry_dict_contains ?_ (args_dict_contains _ _)))
  show wpAny _ _ (dictGet d u >>= _) _ _ s
  refine wpAny_bind (get_any (by rw [Around.in1_units]; omega) hkey hdp hD hK (fun hn => ?_) fun j e h1 h2 => ?_)
  · rw [decide_eq_false hn] at h
    show wpAny _ _ (Builtin.Dict.pendingKey? d u >>= _) _ _ _
    exact wpAny_bind (wpAny_pendingKey_other hs (wpAny_pure ⟨_, rfl, wpAny_truthy_bool h⟩))
  · rw [decide_eq_true (List.mem_of_getElem? h1)] at h
    show wpAny _ _ (ret (.bool true)) _ _ _
    exact wpAny_pure ⟨_, rfl, wpAny_truthy_bool h⟩
theorem in_any {d : Addr} {es ep} {ks : List NestedKey} {k : NestedKey} {u : Value} {Q : Value → Shared → Prop} (hu : A.units + 9 < cLine) (hkey : NestedIs s.heap k u) (hdp : k.depth ≤ 8) (hs : (d == sysModules) = false)
    (hD : Dic s.heap d es ep) (hK : Ks w s.heap ks es) (h : Q (.bool (decide (k ∈ ks))) { s with toks := s.toks + k.draws }) : wpAny (model prog w) A (compareOp .In u (.ref d)) Q E s := by
  show wpAny _ _ (do return .bool (← contains (.ref d) u)) Q E s
  exact wpAny_bind (contains_any hu hkey hdp hs hD hK (wpAny_pure h))
theorem notIn_any {d : Addr} {es ep} {ks : List NestedKey} {k : NestedKey} {u : Value} {Q : Value → Shared → Prop} (hu : A.units + 9 < cLine) (hkey : NestedIs s.heap k u) (hdp : k.depth ≤ 8) (hs : (d == sysModules) = false)
    (hD : Dic s.heap d es ep) (hK : Ks w s.heap ks es) (h : Q (.bool (!decide (k ∈ ks))) { s with toks := s.toks + k.draws }) : wpAny (model prog w) A (compareOp .NotIn u (.ref d)) Q E s := by
  show wpAny _ _ (do return .bool (!(← contains (.ref d) u))) Q E s
  exact wpAny_bind (contains_any hu hkey hdp hs hD hK (wpAny_pure h))
theorem setItem_any {d : Addr} {es ep} {ks : List NestedKey} {k : NestedKey} {u v : Value} {Q : Unit → Shared → Prop} (hu : A.units + 9 < cLine) (hkey : NestedIs s.heap k u) (hdp : k.depth ≤ 8)
    (hD : Dic s.heap d es ep) (hK : Ks w s.heap ks es) (hz : ks.length ≤ sizeLine)
    (hnew : k ∉ ks → ∀ h', Dic h' d (es.push ⟨k.hash w, u, v⟩) (ep + 1) → Heap.SameBut d s.heap h' → Q () { s with heap := h', toks := s.toks + k.draws })
    (hold : ∀ (j : Nat), ks[j]? = some k → ∀ h', Dic h' d (es.modify j fun e => { e with val := v }) ep → Heap.SameBut d s.heap h' → Q () { s with heap := h', toks := s.toks + k.draws }) :
    wpAny (model prog w) A (setItem (.ref d) u v) Q E s := by
  unfold setItem
  try with_reducible refine wpAny_holding ?_
  refine wpAny_bind (wpAny_sequenceKey hD.typeIs (by decide) ?_)
  refine wpAny_bind (wpAny_callSpecial?_slot (name := Str.ofString "__setitem__") hD.typeIs slot_dict_setitem
    (wpAny_call_entry slot_dict_setitem hD.typeIs entry_dict_setitem ?_ (args_dict_setitem _ _ _)))
  show wpAny _ _ (Builtin.Dict.notOrdered "__setitem__" ⟨[.ref d, u, v], []⟩ >>= _) _ _ s
  refine wpAny_bind (wpAny_notOrdered_dict hD.typeIs ?_)
  show wpAny _ _ (dictSet d u v >>= _) _ _ s
  exact wpAny_bind (set_any (by rw [Around.in1_units]; omega) hkey hdp hD hK hz (fun a b c e => wpAny_pure ⟨.none, rfl, wpAny_pure (hnew a b c e)⟩) fun a b c d e => wpAny_pure ⟨.none, rfl, wpAny_pure (hold a b c d e)⟩)
/-- d.get(u), d.get(u, x) -/
theorem dget_any {d : Addr} {es ep} {ks : List NestedKey} {k : NestedKey} {u : Value} {dflt : Value} {more : List Value} {R : Result → Shared → Prop} (hm : more = [] ∧ dflt = .none ∨ more = [dflt]) (hu : A.units + 8 < cLine) (hkey : NestedIs s.heap k u) (hdp : k.depth ≤ 8) (hs : (d == sysModules) = false)
    (hD : Dic s.heap d es ep) (hK : Ks w s.heap ks es) (hnone : k ∉ ks → R (.ok (.ret dflt)) { s with toks := s.toks + k.draws })
    (hsome : ∀ (j : Nat) (e : DictEntry), ks[j]? = some k → es[j]? = some e → R (.ok (.ret e.val)) { s with toks := s.toks + k.draws }) :
    wpAny (model prog w) A (Builtin.«dict.get» ⟨.ref d :: u :: more, []⟩) (fun f s' => ∃ v, f = .done (.ret v) ∧ R (.ok (.ret v)) s') (fun e s' => R (.error e) s') s := by
  rcases hm with ⟨rfl, rfl⟩ | rfl
  all_goals show wpAny _ _ (dictGet d u >>= _) _ _ s
  all_goals refine wpAny_bind (get_any hu hkey hdp hD hK (fun hn => ?_) fun j e h1 h2 => wpAny_pure ⟨e.val, rfl, hsome j e h1 h2⟩)
  all_goals show wpAny _ _ (Builtin.Dict.missed d u >>= _) _ _ _
  all_goals exact wpAny_bind (wpAny_missed_other hs (wpAny_pure ⟨_, rfl, hnone hn⟩))

/-! the entries as a list -/
abbrev RE := NestedKey × Value × Value
def ent (w : World) (x : RE) : DictEntry := ⟨x.1.hash w, x.2.1, x.2.2⟩
def rput : List RE → NestedKey → Value → Value → List RE
  | [], k, u, v => [(k, u, v)]
  | x :: r, k, u, v => if x.1 = k then (x.1, x.2.1, v) :: r else x :: rput r k u v
def rputs (L : List RE) (ps : List RE) : List RE := ps.foldl (fun m p => rput m p.1 p.2.1 p.2.2) L
theorem rput_new : ∀ {L : List RE} {k : NestedKey} {u v : Value}, k ∉ L.map (·.1) → rput L k u v = L ++ [(k, u, v)]
  | [], _, _, _, _ => rfl
  | x :: r, k, u, v, h => by
    have h1 : ¬ x.1 = k := fun e => h (by simp [e])
    rw [rput, if_neg h1, rput_new (fun z => h (List.mem_cons_of_mem _ z))]; rfl
theorem rput_keys_old : ∀ {L : List RE} {k : NestedKey} {u v : Value}, k ∈ L.map (·.1) → (rput L k u v).map (·.1) = L.map (·.1)
  | [], _, _, _, h => by simp at h
  | x :: r, k, u, v, h => by
    rw [rput]
    by_cases e : x.1 = k
    · rw [if_pos e]; rfl
    · rw [if_neg e]
      have : k ∈ r.map (·.1) := by
        rcases List.mem_cons.mp h with z | z
        · exact absurd z.symm e
        · exact z
      show x.1 :: _ = x.1 :: _
      rw [rput_keys_old this]
theorem rput_len : ∀ (L : List RE) (k : NestedKey) (u v : Value), (rput L k u v).length ≤ L.length + 1
  | [], _, _, _ => Nat.le_refl _
  | x :: r, k, u, v => by
    rw [rput]
    split
    · simp
    · have := rput_len r k u v
      simp only [List.length_cons]; omega
theorem rputs_len : ∀ (ps L : List RE), (rputs L ps).length ≤ L.length + ps.length
  | [], L => Nat.le_refl _
  | p :: ps, L => by
    show (rputs (rput L p.1 p.2.1 p.2.2) ps).length ≤ _
    have h1 := rputs_len ps (rput L p.1 p.2.1 p.2.2)
    have h2 := rput_len L p.1 p.2.1 p.2.2
    simp only [List.length_cons]; omega
theorem rputs_snoc (L ps : List RE) (p : RE) : rputs L (ps ++ [p]) = rput (rputs L ps) p.1 p.2.1 p.2.2 := by
  unfold rputs; rw [List.foldl_append]; rfl
theorem rput_nodup {L : List RE} {k : NestedKey} {u v : Value} (h : (L.map (·.1)).Nodup) : ((rput L k u v).map (·.1)).Nodup := by
  by_cases e : k ∈ L.map (·.1)
  · rw [rput_keys_old e]; exact h
  · rw [rput_new e, List.map_append, List.nodup_append]
    refine ⟨h, by simp, fun x hx y hy => ?_⟩
    simp only [List.map_cons, List.map_nil, List.mem_singleton] at hy
    subst hy
    exact fun z => e (z ▸ hx)
theorem rput_mem : ∀ {L : List RE} {k : NestedKey} {u v : Value} {x : RE}, x ∈ rput L k u v → (∃ y ∈ L, x.1 = y.1 ∧ x.2.1 = y.2.1) ∨ x = (k, u, v)
  | [], _, _, _, x, h => by
    rw [rput, List.mem_singleton] at h
    exact .inr h
  | y :: r, k, u, v, x, h => by
    rw [rput] at h
    split at h
    · rcases List.mem_cons.mp h with z | z
      · exact .inl ⟨y, List.mem_cons_self, by rw [z], by rw [z]⟩
      · exact .inl ⟨x, List.mem_cons_of_mem _ z, rfl, rfl⟩
    · rcases List.mem_cons.mp h with z | z
      · exact .inl ⟨y, List.mem_cons_self, by rw [z], by rw [z]⟩
      · rcases rput_mem z with ⟨y', h1, h2⟩ | h2
        · exact .inl ⟨y', List.mem_cons_of_mem _ h1, h2⟩
        · exact .inr h2
theorem modify_cons {α : Type} (x : α) (xs : List α) (j : Nat) (f : α → α) : (x :: xs).modify (j + 1) f = x :: xs.modify j f := by simp
theorem rput_ent : ∀ {L : List RE} {k : NestedKey} {u v : Value} {j : Nat}, (L.map (·.1)).Nodup → (L.map (·.1))[j]? = some k → (L.map (ent w)).modify j (fun e => { e with val := v }) = (rput L k u v).map (ent w)
  | [], _, _, _, _, _, h => by simp at h
  | x :: r, k, u, v, 0, _, h => by
    have e : x.1 = k := by simpa using h
    rw [rput, if_pos e]; rfl
  | x :: r, k, u, v, j + 1, hn, h => by
    have h' : (r.map (·.1))[j]? = some k := by simpa using h
    rw [List.map_cons, List.nodup_cons] at hn
    have e : ¬ x.1 = k := fun z => hn.1 (z ▸ List.mem_of_getElem? h')
    rw [rput, if_neg e, List.map_cons, modify_cons, rput_ent hn.2 h']; rfl
/-- at d stands a dict of the entries L -/
structure Rw (w : World) (h : Heap) (d : Addr) (L : List RE) (es : Array DictEntry) (ep : Nat) : Prop where
  dic : Dic h d es ep
  ents : es.toList = L.map (ent w)
  nd : (L.map (·.1)).Nodup
  keys : ∀ x ∈ L, NestedIs h x.1 x.2.1 ∧ x.1.depth ≤ 8
  ver : ep = es.size
theorem Rw.at_ {h : Heap} {d : Addr} {L : List RE} {es ep} (x : Rw w h d L es ep) (j : Nat) : es[j]? = (L[j]?).map (ent w) := by
  rw [← Array.getElem?_toList, x.ents, List.getElem?_map]
theorem Rw.ks {h : Heap} {d : Addr} {L : List RE} {es ep} (x : Rw w h d L es ep) : Ks w h (L.map (·.1)) es where
  sz := by rw [← Array.length_toList, x.ents, List.length_map, List.length_map]
  at_ := fun j k hj => by
    rw [List.getElem?_map] at hj
    cases e : L[j]? with
    | none => rw [e] at hj; cases hj
    | some y =>
      rw [e] at hj; cases hj
      obtain ⟨h1, h2⟩ := x.keys y (List.mem_of_getElem? e)
      exact ⟨ent w y, by rw [x.at_ j, e]; rfl, rfl, h1, h2⟩
  nd := x.nd
theorem same_nested {h h' : Heap} {d : Addr} {es ep} (hD : Dic h d es ep) (hs : Heap.SameBut d h h') {k : NestedKey} {u : Value} (hk : NestedIs h k u) : NestedIs h' k u := by
  obtain ⟨o, ho, _, hd⟩ := hD
  refine NestedIs.at (fun b ob vs n hb hc => (hs.2 b fun e => ?_).trans hb) k u hk
  subst e
  rw [ho] at hb; cases hb
  rw [hd] at hc; cases hc
theorem set_rw {d : Addr} {es ep} {L : List RE} {k : NestedKey} {u v : Value} {Q : Unit → Shared → Prop} (hu : A.units + 8 < cLine) (hkey : NestedIs s.heap k u) (hdp : k.depth ≤ 8)
    (hR : Rw w s.heap d L es ep) (hz : L.length ≤ sizeLine)
    (hQ : ∀ h' es' ep', Rw w h' d (rput L k u v) es' ep' → Heap.SameBut d s.heap h' → Q () { s with heap := h', toks := s.toks + k.draws }) : wpAny (model prog w) A (dictSet d u v) Q E s := by
  have old : ∀ h', Heap.SameBut d s.heap h' → ∀ x ∈ rput L k u v, NestedIs h' x.1 x.2.1 ∧ x.1.depth ≤ 8 := fun h' hs x hx => by
    rcases rput_mem hx with ⟨y, hy, e1, e2⟩ | e
    · rw [e1, e2]; exact ⟨same_nested hR.dic hs (hR.keys y hy).1, (hR.keys y hy).2⟩
    · subst e; exact ⟨same_nested hR.dic hs hkey, hdp⟩
  refine set_any hu hkey hdp hR.dic hR.ks (by rw [List.length_map]; exact hz) (fun hn h' hd' hs => hQ h' _ _ ⟨hd', ?_, rput_nodup hR.nd, old h' hs, by rw [Array.size_push, ← hR.ver]⟩ hs) fun j hj h' hd' hs => hQ h' _ _ ⟨hd', ?_, rput_nodup hR.nd, old h' hs, by rw [Array.size_modify, ← hR.ver]⟩ hs
  · rw [rput_new hn, Array.toList_push, hR.ents, List.map_append]; rfl
  · rw [Array.toList_modify, hR.ents]
    exact rput_ent hR.nd hj
/-- dict(xs), xs a list of tuples of two -/
theorem dict_list {a : Addr} {items : Array Value} {Ts : Nat → Addr} {ps : List RE} {Q : Value → Shared → Prop} (hh : A.handled = none) (hu : A.units + 12 < cLine)
    (hl : PlainSeq "list" s.heap a items) (hp : PairItems s.heap items Ts (ps.map (·.2))) (hk : ∀ p ∈ ps, NestedIs s.heap p.1 p.2.1 ∧ p.1.depth ≤ 8) (hz : ps.length ≤ sizeLine)
    (h : ∀ h' tk es ep, Rw w h' s.heap.objs.size (rputs [] ps) es ep → (∀ b o, s.heap.get? b = some o → h'.get? b = some o) → Q (.ref s.heap.objs.size) { s with heap := h', toks := tk }) :
    wpAny (model prog w) A (call (.type "dict") [.ref a]) Q E s := by
  refine call_dict_arg (PairArg.list a items Ts (ps.map (·.2))) ⟨hl, hp⟩ fun s₁ hs₁ hdf ok₁ => ?_
  subst hs₁
  refine updateFrom_arg (s := { s with heap := s.heap.push { cls := .type "dict", data := .dict #[] } }) (Tab := fun i h' => (∃ es ep, Rw w h' s.heap.objs.size (rputs [] (ps.take i)) es ep) ∧ ∀ b o, s.heap.get? b = some o → h'.get? b = some o) (PairArg.list a items Ts (ps.map (·.2))) .none hh ok₁ hdf ?_ ?_ ?_ ?_ ?_
  · exact ⟨⟨#[], 0, ⟨_, Heap.get?_push_size _ rfl, ⟨rfl, rfl, rfl⟩, rfl⟩, rfl, List.nodup_nil, (fun _ hx => by cases hx), rfl⟩, fun b o e => Heap.get?_push_of_some _ e⟩
  · rintro i h' ⟨⟨es, ep, x⟩, _⟩
    obtain ⟨o, ho, _⟩ := x.dic
    exact Heap.lt_size ho
  · rintro i h1 h2 wr' hd hw ⟨⟨es, ep, x⟩, kk⟩ hkp
    have hsz : ∀ b o, s.heap.get? b = some o → b ∉ wr' := fun b o e hb => by
      rcases hw b hb with q | q
      · cases q
      · have q' : (s.heap.push { cls := .type "dict", data := .dict #[] }).get? b = none := q
        rw [Heap.get?_push_of_some _ e] at q'; cases q'
    have kk' : ∀ b o, s.heap.get? b = some o → h2.get? b = some o := fun b o e => hkp b o (hsz b o e) (kk b o e)
    obtain ⟨o, ho, hc, hdt⟩ := x.dic
    refine ⟨⟨es, ep, ⟨o, hkp _ _ hd ho, hc, hdt⟩, x.ents, x.nd, fun y hy => ?_, x.ver⟩, kk'⟩
    have hy' : y ∈ rputs [] (ps.take i) := hy
    have src : ∀ (qs L : List RE), (∀ z ∈ L, NestedIs s.heap z.1 z.2.1) → (∀ z ∈ qs, NestedIs s.heap z.1 z.2.1) → ∀ z ∈ rputs L qs, NestedIs s.heap z.1 z.2.1 := by
      intro qs
      induction qs with
      | nil => exact fun L hL _ => hL
      | cons q qs ih =>
        intro L hL hq
        refine ih _ (fun z hz => ?_) fun z hz => hq z (List.mem_cons_of_mem _ hz)
        rcases rput_mem hz with ⟨y, hy, e1, e2⟩ | e
        · rw [e1, e2]; exact hL y hy
        · subst e; exact hq q List.mem_cons_self
    have n0 := src (ps.take i) [] (fun _ hz => by cases hz) (fun z hz => (hk z (List.mem_of_mem_take hz)).1) y hy'
    exact ⟨NestedIs.at (fun b ob vs n hb _ => kk' b ob hb) _ _ n0, (x.keys y hy).2⟩
  · intro i key v s' Q' E' hi hrel tb _ hQ
    obtain ⟨⟨es, ep, x⟩, kk⟩ := tb
    have hrel' : (ps.map (·.2))[i]? = some (key, v) := hrel
    rw [List.getElem?_map] at hrel'
    cases e : ps[i]? with
    | none => rw [e] at hrel'; cases hrel'
    | some p =>
      obtain ⟨k0, u0, v0⟩ := p
      rw [e] at hrel'
      have e2 : u0 = key ∧ v0 = v := by simpa using hrel'
      obtain ⟨rfl, rfl⟩ := e2
      obtain ⟨h1, h2⟩ := hk _ (List.mem_of_getElem? e)
      refine set_rw (k := k0) (by simp only [Around.in1_units]; omega) (NestedIs.at (fun b ob vs n hb _ => kk b ob hb) _ _ h1) h2 x ?_ fun h' es' ep' x' hs => ?_
      · have := rputs_len (ps.take i) []
        rw [List.length_take] at this
        simp only [List.length_nil] at this
        omega
      · refine hQ h' _ ⟨⟨es', ep', ?_⟩, fun b o eb => (hs.2 b fun z => ?_).trans (kk b o eb)⟩ hs
        · rw [List.take_add_one, e]
          rw [show (some (k0, u0, v0)).toList = [(k0, u0, v0)] from rfl, rputs_snoc]
          exact x'
        · subst z
          exact absurd (Heap.lt_size eb) (Nat.lt_irrefl _)
  · rintro h' tk ⟨⟨es, ep, x⟩, kk⟩ _
    rw [List.take_of_length_le (by rw [List.length_map]; exact Nat.le_refl _)] at x
    exact ⟨rfl, h h' tk es ep x kk⟩
end
end GR
end

section
set_option Elab.async false
set_option linter.all false
set_option maxRecDepth 100000
set_option maxHeartbeats 4000000
/-! G layer, soundness 1: how values and heaps of the domain stand for the hand layer's; judgements; names, constants, arithmetic, tests, statements. -/
namespace G
open PySem PySem.Spec PyProof.Rows L2

theorem sz_eq : sizeLine = SZ := by first | rfl | decide
/-- a text as the model lays it -/
def okS (x : Str) : Prop := x.length ≤ sizeLine
/-- a list that nobody writes -/
def RoL (K : PySem.W.Frag) (H : Hp) (a : Addr) (xs : List V) : Prop :=
  (∃ o, H a = some (.frz o (.lst xs))) ∨
    ∃ (o : Obj) (its : Array Value) (n : Nat), K.lookup a = some o ∧ o.cls = .type "list" ∧ o.dict = none ∧ o.data = .seq its n ∧ its.size ≤ sizeLine ∧ Vals xs its.toList
theorem RoL.sq {K : PySem.W.Frag} {H : Hp} {a : Addr} {xs : List V} (h : RoL K H a xs) : SqL K H a xs := by
  rcases h with h | h
  · exact .inl (.inr h)
  · exact .inr h

mutual
/-- the value v stands for d -/
inductive Rv (K : PySem.W.Frag) (H : Hp) : D → V → Prop
  | non : Rv K H .non .non
  | bl (b : Bool) : Rv K H (.bl b) (.bl b)
  | int (i : Int) : Rv K H (.int i) (.int i)
  | str (x : Str) : okS x → Rv K H (.str x) (.str x)
  | ref (a : Addr) : Rv K H (.ref a) (.ref a)
  | tup {a : Addr} {vs : List V} {ds : List D} : SqT K H a vs → RvL K H ds vs → Rv K H (.tup ds) (.ref a)
  | rl {a : Addr} {vs : List V} {ds : List D} : RoL K H a vs → RvL K H ds vs → Rv K H (.rl ds) (.ref a)
inductive RvL (K : PySem.W.Frag) (H : Hp) : List D → List V → Prop
  | nil : RvL K H [] []
  | cons {d : D} {v : V} {ds : List D} {vs : List V} : Rv K H d v → RvL K H ds vs → RvL K H (d :: ds) (v :: vs)
end

/-- what never changes stays -/
structure Kp (H H' : Hp) : Prop where
  tup : ∀ a xs, H a = some (.tup xs) → H' a = some (.tup xs)
  frz : ∀ a o u, H a = some (.frz o u) → H' a = some (.frz o u)
theorem Kp.refl (H : Hp) : Kp H H := ⟨fun _ _ e => e, fun _ _ _ e => e⟩
theorem Kp.trans {H H1 H2 : Hp} (x : Kp H H1) (y : Kp H1 H2) : Kp H H2 := ⟨fun a xs e => y.tup a xs (x.tup a xs e), fun a o u e => y.frz a o u (x.frz a o u e)⟩
theorem Kp.new {H : Hp} {p : Addr} {o : HO} (n : H p = none) : Kp H (upd H p o) := ⟨fun a xs e => by rw [upd_ne (L2.ne_of_none e n)]; exact e, fun a _ u e => by rw [upd_ne (L2.ne_of_none e n)]; exact e⟩
theorem Kp.wr {H : Hp} {p : Addr} {o u : HO} (e : H p = some u) (m : Mut (some u)) : Kp H (upd H p o) := by
  refine ⟨fun a xs q => ?_, fun a w x q => ?_⟩
  · have : a ≠ p := fun z => by subst z; rw [q] at e; cases e; exact m
    rw [upd_ne this]; exact q
  · have : a ≠ p := fun z => by subst z; rw [q] at e; cases e; exact m
    rw [upd_ne this]; exact q
theorem SqT.kp {K : PySem.W.Frag} {H H' : Hp} {a : Addr} {xs : List V} (k : Kp H H') (h : SqT K H a xs) : SqT K H' a xs := by
  rcases h with (h | ⟨o, h⟩) | h
  · exact .inl (.inl (k.tup _ _ h))
  · exact .inl (.inr ⟨o, k.frz _ _ _ h⟩)
  · exact .inr h
theorem RoL.kp {K : PySem.W.Frag} {H H' : Hp} {a : Addr} {xs : List V} (k : Kp H H') (h : RoL K H a xs) : RoL K H' a xs := by
  rcases h with ⟨o, h⟩ | h
  · exact .inl ⟨o, k.frz _ _ _ h⟩
  · exact .inr h
mutual
theorem Rv.kp {K : PySem.W.Frag} {H H' : Hp} (k : Kp H H') : ∀ {d : D} {v : V}, Rv K H d v → Rv K H' d v
  | _, _, .non => .non
  | _, _, .bl b => .bl b
  | _, _, .int i => .int i
  | _, _, .str x h => .str x h
  | _, _, .ref a => .ref a
  | _, _, .tup h r => .tup (SqT.kp k h) (RvL.kp k r)
  | _, _, .rl h r => .rl (RoL.kp k h) (RvL.kp k r)
theorem RvL.kp {K : PySem.W.Frag} {H H' : Hp} (k : Kp H H') : ∀ {ds : List D} {vs : List V}, RvL K H ds vs → RvL K H' ds vs
  | _, _, .nil => .nil
  | _, _, .cons h r => .cons (Rv.kp k h) (RvL.kp k r)
end
section
variable {K : PySem.W.Frag} {H : Hp}
theorem RvL.length : ∀ {ds : List D} {vs : List V}, RvL K H ds vs → ds.length = vs.length
  | _, _, .nil => rfl
  | _, _, .cons _ r => congrArg (· + 1) (RvL.length r)
theorem RvL.get : ∀ {ds : List D} {vs : List V} {i : Nat} {d : D}, RvL K H ds vs → ds[i]? = some d → ∃ v, vs[i]? = some v ∧ Rv K H d v
  | _, _, _, _, .nil, e => by simp at e
  | _, _, 0, _, .cons r _, e => by simp at e; subst e; exact ⟨_, rfl, r⟩
  | _, _, i + 1, d, .cons _ t, e => by
    obtain ⟨u, h1, h2⟩ := RvL.get (i := i) (d := d) t (by simpa using e)
    exact ⟨u, by simpa using h1, h2⟩
theorem RvL.get' : ∀ {ds : List D} {vs : List V} {i : Nat} {v : V}, RvL K H ds vs → vs[i]? = some v → ∃ d, ds[i]? = some d ∧ Rv K H d v
  | _, _, _, _, .nil, e => by simp at e
  | _, _, 0, _, .cons r _, e => by simp at e; subst e; exact ⟨_, rfl, r⟩
  | _, _, i + 1, d, .cons _ t, e => by
    obtain ⟨u, h1, h2⟩ := RvL.get' (i := i) (v := d) t (by simpa using e)
    exact ⟨u, by simpa using h1, h2⟩
theorem RvL.append : ∀ {ds es : List D} {vs us : List V}, RvL K H ds vs → RvL K H es us → RvL K H (ds ++ es) (vs ++ us)
  | _, _, _, _, .nil, s => s
  | _, _, _, _, .cons r t, s => .cons r (RvL.append t s)
theorem RvL.set {d : D} {v : V} (r : Rv K H d v) : ∀ {ds : List D} {vs : List V} (i : Nat), RvL K H ds vs → RvL K H (ds.set i d) (vs.set i v)
  | _, _, _, .nil => .nil
  | _, _, 0, .cons _ t => .cons r t
  | _, _, i + 1, .cons q t => .cons q (RvL.set r i t)
theorem RvL.take : ∀ {ds : List D} {vs : List V} (n : Nat), RvL K H ds vs → RvL K H (ds.take n) (vs.take n)
  | _, _, 0, _ => .nil
  | _, _, _ + 1, .nil => .nil
  | _, _, n + 1, .cons r t => .cons r (RvL.take n t)
theorem RvL.drop : ∀ {ds : List D} {vs : List V} (n : Nat), RvL K H ds vs → RvL K H (ds.drop n) (vs.drop n)
  | _, _, 0, r => r
  | _, _, _ + 1, .nil => .nil
  | _, _, n + 1, .cons _ t => RvL.drop n t
theorem RvL.one {d : D} {v : V} (r : Rv K H d v) : RvL K H [d] [v] := .cons r .nil
end

/-- the raw dict at a: its entries as they are -/
def RawD (a : Addr) (es : Array DictEntry) (ep : Nat) : Heap → Prop := fun h => GR.Dic h a es ep
mutual
/-- a key, as the library's -/
def nk : D → NestedKey
  | .int i => .num i
  | .str x => .text x
  | .tup ds => .tup (nkL ds)
  | _ => .none
def nkL : List D → List NestedKey
  | [] => []
  | d :: ds => nk d :: nkL ds
end
/-- an entry stands for a key and a value -/
def EntR (K : PySem.W.Frag) (w : World) (H : Hp) (p : D × D) (e : DictEntry) : Prop :=
  e.hash = (nk p.1).hash w ∧ pl 8 p.1 = true ∧ (∃ v, Rv K H p.1 v ∧ RelV v e.key) ∧ ∃ v, Rv K H p.2 v ∧ RelV v e.val
/-- what stands at an address -/
def RO (K : PySem.W.Frag) (w : World) (H : Hp) (a : Addr) : O → Prop
  | .lst ds => ∃ vs, H a = some (.lst vs) ∧ RvL K H ds vs
  | .dic kvs => kvs.length ≤ sizeLine ∧ (a == sysModules) = false ∧ (kvs.map (·.1)).Nodup ∧ ∃ (es : Array DictEntry) (ep : Nat), H a = some (.ext (RawD a es ep)) ∧ Paired (EntR K w H) kvs es.toList ∧ ep = es.size
  | .ins C fs => ∃ dx vs, H a = some (.ins C dx vs) ∧ fs.map (·.1) = vs.map (·.1) ∧ RvL K H (fs.map (·.2)) (vs.map (·.2))
/-- the tables of code objects that a program with lambdas has -/
class Tb where
  T : List (PySem.Addr × Str)
variable [Tb]
structure Abs (K : PySem.W.Frag) (w : World) (h : AH) (H : Hp) : Prop where
  at_ : ∀ a o, h a = some o → RO K w H a o
  tabs : LamX.Tabs Tb.T H
instance {K : PySem.W.Frag} {w : World} {h : AH} {H : Hp} : CoeFun (Abs K w h H) (fun _ => ∀ a o, h a = some o → RO K w H a o) := ⟨Abs.at_⟩
theorem tabs_wr {T : List (PySem.Addr × Str)} {H : Hp} {p : Addr} {u u' : HO} (t : LamX.Tabs T H) (e : H p = some u) (m : Mut (some u)) (hx : ∀ q, u ≠ LamX.CodeO p q) : LamX.Tabs T (upd H p u') := fun z hz => by
  obtain ⟨ps, h1, h2, h3⟩ := t z hz
  have n1 : z.1 ≠ p := fun y => by rw [y, e] at h1; cases h1; exact m
  refine ⟨ps, by rw [upd_ne n1]; exact h1, h2, fun pos cv hc => ?_⟩
  obtain ⟨c, e1, e2⟩ := h3 pos cv hc
  refine ⟨c, e1, ?_⟩
  have n2 : c ≠ p := fun y => by subst y; rw [e] at e2; cases e2; exact hx _ rfl
  rw [upd_ne n2]; exact e2
theorem pImp {α β : Type} {F G : α → β → Prop} (f : ∀ a b, F a b → G a b) : ∀ {l₁ : List α} {l₂ : List β}, Paired F l₁ l₂ → Paired G l₁ l₂
  | _, _, .nil => .nil
  | _, _, .cons r t => .cons (f _ _ r) (pImp f t)
section
variable {K : PySem.W.Frag} {w : World} {H H' : Hp} {h : AH} {a p : Addr} {o : O}
theorem EntR.kp (k : Kp H H') {q : D × D} {e : DictEntry} (r : EntR K w H q e) : EntR K w H' q e := by
  obtain ⟨h1, h2, ⟨v, r1, r2⟩, u, s1, s2⟩ := r
  exact ⟨h1, h2, ⟨v, r1.kp k, r2⟩, u, s1.kp k, s2⟩
theorem RO.some (r : RO K w H a o) : ∃ u, H a = some u ∧ Mut (some u) := by
  cases o with
  | lst ds => obtain ⟨vs, e, _⟩ := r; exact ⟨_, e, trivial⟩
  | dic kvs => obtain ⟨_, _, _, es, ep, e, _⟩ := r; exact ⟨_, e, trivial⟩
  | ins C fs => obtain ⟨dx, vs, e, _⟩ := r; exact ⟨_, e, trivial⟩
theorem RO.kp (k : Kp H H') (e : H' a = H a) (r : RO K w H a o) : RO K w H' a o := by
  cases o with
  | lst ds => obtain ⟨vs, q, s⟩ := r; exact ⟨vs, e.trans q, s.kp k⟩
  | dic kvs => obtain ⟨h1, h2, h3, es, ep, q, s, vv⟩ := r; exact ⟨h1, h2, h3, es, ep, e.trans q, pImp (fun _ _ x => x.kp k) s, vv⟩
  | ins C fs => obtain ⟨dx, vs, q, s1, s2⟩ := r; exact ⟨dx, vs, e.trans q, s1, s2.kp k⟩
theorem Abs.nil (A : Abs K w h H) (n : H p = .none) : h p = .none := by
  cases e : h p with
  | none => rfl
  | some o =>
    obtain ⟨u, q, _⟩ := (A p o e).some
    rw [n] at q; cases q
/-- a new object -/
theorem Abs.new {u : HO} (A : Abs K w h H) (n : H p = none) (r : RO K w (upd H p u) p o) : Abs K w (up h p o) (upd H p u) := ⟨fun a o' e => by
  by_cases z : a = p
  · subst z; rw [up_same] at e; cases e; exact r
  · rw [up_ne z] at e
    exact (A a o' e).kp (Kp.new n) (upd_ne z), A.tabs.ext fun b o e => by rw [upd_ne (L2.ne_of_none e n)]; exact e⟩
/-- something new that is not told of -/
theorem Abs.newH {u : HO} (A : Abs K w h H) (n : H p = none) : Abs K w h (upd H p u) := ⟨fun a o' e => by
  have z : a ≠ p := fun z => by subst z; rw [A.nil n] at e; cases e
  exact (A a o' e).kp (Kp.new n) (upd_ne z), A.tabs.ext fun b o e => by rw [upd_ne (L2.ne_of_none e n)]; exact e⟩
/-- a store -/
theorem Abs.wr {u u' : HO} (A : Abs K w h H) (e : H p = some u) (m : Mut (some u)) (r : RO K w (upd H p u') p o) (hx : ∀ q, u ≠ LamX.CodeO p q := by intro q z; unfold LamX.CodeO at z; cases z) : Abs K w (up h p o) (upd H p u') := ⟨fun a o' q => by
  by_cases z : a = p
  · subst z; rw [up_same] at q; cases q; exact r
  · rw [up_ne z] at q
    exact (A a o' q).kp (Kp.wr e m) (upd_ne z), tabs_wr A.tabs e m hx⟩
theorem Abs.sub {h0 : AH} (A : Abs K w h H) (s : Sb h0 h) : Abs K w h0 H := ⟨fun a o e => A a o (s a o e), A.tabs⟩
end

/-- the slots -/
def RS (K : PySem.W.Frag) (H : Hp) (ρ : Lo) (σ : L2.St) : Prop := ρ.length = σ.length ∧ ∀ (i : Nat) (d : D), ρ[i]? = some (some d) → ∃ v, σ[i]? = some (some v) ∧ Rv K H d v
theorem RS.kp {K : PySem.W.Frag} {H H' : Hp} {ρ : Lo} {σ : L2.St} (k : Kp H H') (r : RS K H ρ σ) : RS K H' ρ σ := ⟨r.1, fun i d e => let ⟨v, h1, h2⟩ := r.2 i d e; ⟨v, h1, h2.kp k⟩⟩
theorem RS.set {K : PySem.W.Frag} {H : Hp} {ρ : Lo} {σ : L2.St} {d : D} {v : V} {i : Nat} (r : RS K H ρ σ) (x : Rv K H d v) : RS K H (ρ.set i (some d)) (σ.set i (some v)) := by
  refine ⟨by simp [r.1], fun j e q => ?_⟩
  by_cases z : i = j
  · subst z
    by_cases hl : i < ρ.length
    · rw [List.getElem?_set_self hl] at q
      cases q
      exact ⟨v, by rw [List.getElem?_set_self (by rw [← r.1]; exact hl)], x⟩
    · rw [List.getElem?_eq_none (by simp; omega)] at q; cases q
  · rw [List.getElem?_set_ne z] at q
    obtain ⟨u, h1, h2⟩ := r.2 j e q
    exact ⟨u, by rw [List.getElem?_set_ne z]; exact h1, h2⟩
theorem RS.wipe {K : PySem.W.Frag} {H : Hp} {ρ : Lo} {σ : L2.St} (r : RS K H ρ σ) : ∀ vs : List Nat, RS K H (wipe ρ vs) (L2.wipe σ vs)
  | [] => r
  | i :: vs => by
    have ih := RS.wipe r vs
    unfold G.wipe L2.wipe
    refine ⟨by simp [ih.1], fun j e q => ?_⟩
    by_cases z : i = j
    · subst z
      by_cases hl : i < (G.wipe ρ vs).length
      · rw [List.getElem?_set_self hl] at q; cases q
      · rw [List.getElem?_eq_none (by simp; omega)] at q; cases q
    · rw [List.getElem?_set_ne z] at q
      obtain ⟨u, h1, h2⟩ := ih.2 j e q
      exact ⟨u, by rw [List.getElem?_set_ne z]; exact h1, h2⟩

/-! ### readings of the hand layer from those of the domain -/
/-- Q0 of the domain is enough for Q -/
def KQ (K : PySem.W.Frag) (w : World) (H : Hp) (Q0 : KD) (Q : VK) : Prop := ∀ d h' v H', Q0 d h' → Kp H H' → Rv K H' d v → Abs K w h' H' → Q v H'
def tE (K : PySem.W.Frag) (w : World) (f : DE) : TE := fun σ H Q => ∃ ρ h Q0, RS K H ρ σ ∧ Abs K w h H ∧ f ρ h Q0 ∧ KQ K w H Q0 Q
def tT (K : PySem.W.Frag) (w : World) (f : DT) : TT := fun σ H Q => ∃ ρ h Q0, RS K H ρ σ ∧ Abs K w h H ∧ f ρ h Q0 ∧ ∀ b h' H', Q0 b h' → Kp H H' → Abs K w h' H' → Q b H'
def tA (K : PySem.W.Frag) (w : World) (f : DA) : TA := fun σ H Q => ∃ ρ h Q0, RS K H ρ σ ∧ Abs K w h H ∧ f ρ h Q0 ∧ ∀ ds h' vs H', Q0 ds h' → Kp H H' → RvL K H' ds vs → Abs K w h' H' → Q vs H'
structure KF (K : PySem.W.Frag) (w : World) (H : Hp) (F : Fin) (D : Ends) : Prop where
  nx : ∀ ρ h σ H', F.nx ρ h → Kp H H' → RS K H' ρ σ → Abs K w h H' → D.nx σ H'
  rt : KQ K w H F.rt D.rt
  bk : ∀ ρ h σ H', F.bk ρ h → Kp H H' → RS K H' ρ σ → Abs K w h H' → D.bk σ H'
  ct : ∀ ρ h σ H', F.ct ρ h → Kp H H' → RS K H' ρ σ → Abs K w h H' → D.ct σ H'
theorem KF.kp {K : PySem.W.Frag} {w : World} {H H1 : Hp} {F : Fin} {D : Ends} (k : Kp H H1) (x : KF K w H F D) : KF K w H1 F D :=
  ⟨fun ρ h σ H' a b => x.nx ρ h σ H' a (k.trans b), fun d h v H' a b => x.rt d h v H' a (k.trans b), fun ρ h σ H' a b => x.bk ρ h σ H' a (k.trans b), fun ρ h σ H' a b => x.ct ρ h σ H' a (k.trans b)⟩
def tS (K : PySem.W.Frag) (w : World) (f : DS) : TS := fun D σ H => ∃ ρ h F, RS K H ρ σ ∧ Abs K w h H ∧ f F ρ h ∧ KF K w H F D
/-- the two differ at sl alone -/
def Sm (sl : List Nat) (σ σ' : L2.St) : Prop := σ'.length = σ.length ∧ ∀ i, i ∉ sl → σ'[i]? = σ[i]?
theorem Sm.refl (sl : List Nat) (σ : L2.St) : Sm sl σ σ := ⟨rfl, fun _ _ => rfl⟩
theorem Sm.trans {a b : List Nat} {σ σ' σ'' : L2.St} (x : Sm a σ σ') (y : Sm b σ' σ'') : Sm (a ++ b) σ σ'' :=
  ⟨y.1.trans x.1, fun i n => (y.2 i fun z => n (List.mem_append_right _ z)).trans (x.2 i fun z => n (List.mem_append_left _ z))⟩
theorem Sm.one {i : Nat} {σ : L2.St} {x : Option V} : Sm [i] σ (σ.set i x) := ⟨by simp, fun j n => by
  have : i ≠ j := fun e => n (by simp [e])
  rw [List.getElem?_set_ne this]⟩
theorem wipe_get (σ : L2.St) (i : Nat) : ∀ vs : List Nat, (L2.wipe σ vs)[i]? = if i ∈ vs then (if i < σ.length then some none else none) else σ[i]?
  | [] => by simp [L2.wipe]
  | v :: vs => by
    have ih := wipe_get σ i vs
    unfold L2.wipe
    by_cases e : v = i
    · subst e
      rw [if_pos List.mem_cons_self]
      by_cases hl : v < σ.length
      · rw [if_pos hl, List.getElem?_set_self (by rw [wipe_length]; exact hl)]
      · rw [if_neg hl, List.getElem?_eq_none (by rw [List.length_set, wipe_length]; omega)]
    · rw [List.getElem?_set_ne e, ih]
      have : (i ∈ v :: vs) ↔ i ∈ vs := by
        simp only [List.mem_cons]
        exact ⟨fun h => h.resolve_left (fun z => e z.symm), .inr⟩
      simp only [this]
theorem Sm.wipe {own : List Nat} {σ σ' : L2.St} (x : Sm own (L2.wipe σ own) σ') : L2.wipe σ' own = L2.wipe σ own := by
  apply List.ext_getElem?
  intro i
  rw [wipe_get, wipe_get]
  have e := x.1
  rw [wipe_length] at e
  by_cases hi : i ∈ own
  · rw [if_pos hi, if_pos hi, e]
  · rw [if_neg hi, if_neg hi, x.2 i hi, wipe_get, if_neg hi]
def tG (K : PySem.W.Frag) (w : World) (sl : List Nat) (g : DG) : TG := fun v σ H Q => ∃ d ρ h Q0, Rv K H d v ∧ RS K H ρ σ ∧ Abs K w h H ∧ g d ρ h Q0 ∧ ∀ ρ' h' σ' H', Q0 ρ' h' → Kp H H' → RS K H' ρ' σ' → Abs K w h' H' → Sm sl σ σ' → Q σ' H'
def tGs (K : PySem.W.Frag) (w : World) (sl : List Nat) (g : DGs) : TGs := fun vs σ H Q => ∃ ds ρ h Q0, RvL K H ds vs ∧ RS K H ρ σ ∧ Abs K w h H ∧ g ds ρ h Q0 ∧ ∀ ρ' h' σ' H', Q0 ρ' h' → Kp H H' → RS K H' ρ' σ' → Abs K w h' H' → Sm sl σ σ' → Q σ' H'

abbrev GE (X : Cx) (e : Expr) (f : DE) : Prop := PE X e (tE X.K X.w f)
abbrev GT (X : Cx) (e : Expr) (f : DT) : Prop := PT X e (tT X.K X.w f)
abbrev GW (X : Cx) (e : Expr) (f : DT) : Prop := PW X e (tT X.K X.w f)
abbrev GA (X : Cx) (es : List Expr) (f : DA) : Prop := PA X es (tA X.K X.w f)
abbrev GS (X : Cx) (st : Stmt) (f : DS) : Prop := PS X st (tS X.K X.w f)
abbrev GSs (X : Cx) (st : List Stmt) (f : DS) : Prop := PSs X st (tS X.K X.w f)
abbrev GG (X : Cx) (tg : Expr) (sl : List Nat) (g : DG) : Prop := PG X tg (tG X.K X.w sl g)
abbrev GGs (X : Cx) (tgs : List Expr) (sl : List Nat) (g : DGs) : Prop := PGs X tgs (tGs X.K X.w sl g)

theorem pe_imp {X : Cx} {e : Expr} {t t' : TE} (h : PE X e t) (f : ∀ σ H Q, t' σ H Q → t σ H Q) : PE X e t' := ⟨fun pins s σ H Q I q => h.run pins s σ H Q I (f _ _ _ q)⟩
theorem pt_imp {X : Cx} {e : Expr} {t t' : TT} (h : PT X e t) (f : ∀ σ H Q, t' σ H Q → t σ H Q) : PT X e t' := ⟨fun pins s σ H Q I q => h.run pins s σ H Q I (f _ _ _ q)⟩
theorem pw_imp {X : Cx} {e : Expr} {t t' : TT} (h : PW X e t) (f : ∀ σ H Q, t' σ H Q → t σ H Q) : PW X e t' := ⟨fun w pins s σ H Q I q => h.run w pins s σ H Q I (f _ _ _ q)⟩
theorem pa_imp {X : Cx} {e : List Expr} {t t' : TA} (h : PA X e t) (f : ∀ σ H Q, t' σ H Q → t σ H Q) : PA X e t' := ⟨fun p pins s σ H Q I q => h.run p pins s σ H Q I (f _ _ _ q)⟩
theorem ps_imp {X : Cx} {e : Stmt} {t t' : TS} (h : PS X e t) (f : ∀ D σ H, t' D σ H → t D σ H) : PS X e t' := ⟨fun pins s σ H D I q => h.run pins s σ H D I (f _ _ _ q)⟩
theorem pss_imp {X : Cx} {e : List Stmt} {t t' : TS} (h : PSs X e t) (f : ∀ D σ H, t' D σ H → t D σ H) : PSs X e t' := ⟨fun pins s σ H D I q => h.run pins s σ H D I (f _ _ _ q)⟩
section
variable {X : Cx} {e : Expr} {tg : Expr} {pos : Pos}
/-! names, constants -/
theorem ge_var (i : Nat) {x : Str} (hN : X.N[i]? = some x := by rfl) (hv : Vis X.env.scope x := by first | exact Or.inl rfl | exact Or.inr (Or.inl rfl) | exact Or.inr (Or.inr rfl)) (hd : (x == ("__debug__" : Str)) = false := by decide)
    (hcd : (x == ("__classdict__" : Str)) = false := by decide) : GE X (.Name x pos) (dVar i) :=
  pe_imp (pv i hN hv hd hcd) fun σ H Q ⟨ρ, h, Q0, R, A, q, k⟩ => by
    unfold dVar onV at q
    split at q
    · rename_i d e
      obtain ⟨v, e1, r⟩ := R.2 i d e
      exact ⟨v, e1, k _ _ _ _ q (Kp.refl _) r A⟩
    · exact q.elim
theorem ge_c {d : D} {v : V} (h : PE X e (tC v)) (r : ∀ H, Rv X.K H d v) : GE X e (dC d) :=
  pe_imp h fun σ H Q ⟨ρ, h, Q0, R, A, q, k⟩ => k _ _ _ _ q (Kp.refl _) (r H) A
theorem ge_int {i : Int} {j pos} : GE X (.Constant (.int i) j pos) (dInt i) := ge_c pe_int fun _ => .int _
theorem ge_bl {b j pos} : GE X (.Constant (.bool b) j pos) (dBl b) := ge_c pe_bl fun _ => .bl _
theorem ge_non {j pos} : GE X (.Constant .none j pos) dNon := ge_c pe_non fun _ => .non
theorem ge_str {x : String} {j pos} (ok : okS (Str.ofString x) := by unfold okS; decide) : GE X (.Constant (.str x) j pos) (dStr (Str.ofString x)) := ge_c pe_str fun _ => .str _ ok

/-! argument lists, displays -/
theorem ga_nil : GA X [] daNil := pa_imp pa_nil fun σ H Q ⟨ρ, h, Q0, R, A, q, k⟩ => k _ _ _ _ q (Kp.refl _) .nil A
theorem ga_cons {es : List Expr} {f : DE} {g : DA} (ha : GE X e f) (hr : GA X es g) (hs : starEach (e :: es) X.env = (false, eval e X.env) :: starEach es X.env := by rfl) : GA X (e :: es) (daCons f g) :=
  pa_imp (pa_cons ha hr hs) fun σ H Q ⟨ρ, h, Q0, R, A, q, k⟩ =>
    ⟨ρ, h, _, R, A, q, fun d h1 v H1 q1 k1 r1 A1 => ⟨ρ, h1, _, R.kp k1, A1, q1, fun ds h2 vs H2 q2 k2 r2 A2 => k _ _ _ _ q2 (k1.trans k2) (.cons (r1.kp k2) r2) A2⟩⟩
theorem ge_tup {es : List Expr} {x1} {f : DA} (h : GA X es f) : GE X (.Tuple es x1 pos) (dTup f) :=
  pe_imp (pe_tup h) fun σ H Q ⟨ρ, h, Q0, R, A, q, k⟩ =>
    ⟨ρ, h, _, R, A, q, fun ds h1 vs H1 ⟨z, q1⟩ k1 r1 A1 => ⟨by rw [← r1.length, sz_eq]; exact z, fun p n =>
      k _ _ _ _ q1 (k1.trans (Kp.new n)) (.tup (SqT.of upd_same) (r1.kp (Kp.new n))) (A1.newH n)⟩⟩
theorem newL_ok {ds : List D} {vs : List V} {h : AH} {H H1 : Hp} {Q0 : KD} {Q : VK} {K : PySem.W.Frag} {w : World} {p : Addr} (q : newL ds h Q0) (A : Abs K w h H1) (r : RvL K H1 ds vs) (n : H1 p = none) (k1 : Kp H H1) (k : KQ K w H Q0 Q) : Q (.ref p) (upd H1 p (.lst vs)) :=
  k _ _ _ _ (q.go p (A.nil n)) (k1.trans (Kp.new n)) (.ref p) (A.new (o := .lst ds) n ⟨vs, upd_same, r.kp (Kp.new n)⟩)
theorem ge_lst {es : List Expr} {f : DA} (h : GA X es f) : GE X (.List es pos) (dLst f) :=
  pe_imp (pe_lst h) fun σ H Q ⟨ρ, h, Q0, R, A, q, k⟩ =>
    ⟨ρ, h, _, R, A, q, fun ds h1 vs H1 ⟨z, q1⟩ k1 r1 A1 => ⟨by rw [← r1.length, sz_eq]; exact z, fun p n => newL_ok q1 A1 r1 n k1 k⟩⟩

/-! operators by value -/
/-- f of the domain is enough for r of the hand layer -/
def R2ok (K : PySem.W.Frag) (w : World) (f : D → D → AH → KD → Prop) : R2 := fun x y H Q => ∃ d e h Q0, Rv K H d x ∧ Rv K H e y ∧ Abs K w h H ∧ f d e h Q0 ∧ KQ K w H Q0 Q
abbrev GO (X : Cx) (op : Operator) (f : D → D → AH → KD → Prop) : Prop := OpR X (binaryOp op) (R2ok X.K X.w f)
abbrev GC (X : Cx) (op : CmpOp) (f : D → D → AH → KD → Prop) : Prop := OpR X (compareOp op) (R2ok X.K X.w f)
theorem KQ.kp {K : PySem.W.Frag} {w : World} {H H1 : Hp} {Q0 : KD} {Q : VK} (k : Kp H H1) (x : KQ K w H Q0 Q) : KQ K w H1 Q0 Q := fun d h v H' a b => x d h v H' a (k.trans b)
theorem d2_ok {K : PySem.W.Frag} {w : World} {f : D → D → AH → KD → Prop} {a b : DE} {σ : L2.St} {H : Hp} {Q : VK} (x : tE K w (d2 f a b) σ H Q) : tOp (R2ok K w f) (tE K w a) (tE K w b) σ H Q := by
  obtain ⟨ρ, h, Q0, R, A, q, k⟩ := x
  exact ⟨ρ, h, _, R, A, q, fun d h1 v H1 q1 k1 r1 A1 => ⟨ρ, h1, _, R.kp k1, A1, q1, fun e h2 u H2 q2 k2 r2 A2 => ⟨d, e, h2, Q0, r1.kp k2, r2, A2, q2, k.kp (k1.trans k2)⟩⟩⟩
theorem ge_op {op : Operator} {a b : Expr} {f : D → D → AH → KD → Prop} {fa fb : DE} (ho : GO X op f) (ha : GE X a fa) (hb : GE X b fb) : GE X (.BinOp a op b pos) (d2 f fa fb) :=
  pe_imp (pe_op ho ha hb) fun _ _ _ x => d2_ok x
theorem ge_cmp {op : CmpOp} {a b : Expr} {f : D → D → AH → KD → Prop} {fa fb : DE} (ho : GC X op f) (ha : GE X a fa) (hb : GE X b fb) (hm : behindInMarks op b = false := by first | exact nobehind _ (by decide) (by decide) | rfl) : GE X (.Compare a [op] [b] pos) (d2 f fa fb) :=
  pe_imp (pe_cmpR ho ha hb hm) fun _ _ _ x => d2_ok x
/-- from int rules -/
theorem op_use {f : Value → Value → Sem Value} {r : R2} {g : D → D → AH → KD → Prop} (ho : OpR X f r) (h : ∀ x y H Q, R2ok X.K X.w g x y H Q → r x y H Q) : OpR X f (R2ok X.K X.w g) :=
  fun pins s σ H x y v u Q I rx ry q => ho pins s σ H x y v u Q I rx ry (h _ _ _ _ q)
end
end G
end

section
set_option Elab.async false
set_option linter.all false
set_option maxRecDepth 100000
set_option maxHeartbeats 4000000
/-! G layer, soundness 2: operators, comparisons, tests, statements, targets, subscripts. -/
namespace G
open PySem PySem.Spec PyProof.Rows L2
variable [Tb]
section
variable {X : Cx}

/-! ### arithmetic -/
theorem go_add : GO X .Add oAdd := fun pins s σ H x y v u Q I rx ry ⟨d, e, h, Q0, rd, re, A, q, k⟩ => by
  cases d with
  | int i =>
    cases e with
    | int j =>
      cases rd; cases re
      exact op_add pins s σ H _ _ v u Q I rx ry ⟨i, j, rfl, rfl, k _ _ _ _ q (Kp.refl _) (.int _) A⟩
    | _ => exact q.elim
  | str i =>
    cases e with
    | str j =>
      obtain ⟨z, q⟩ := q
      cases rd; cases re
      exact op_add_str pins s σ H _ _ v u Q I rx ry ⟨i, j, rfl, rfl, by rw [sz_eq]; exact z, k _ _ _ _ q (Kp.refl _) (.str _ (by
        show (i ++ j).length ≤ sizeLine
        have e : (i ++ j).length = i.length + j.length := by
          show (Str.append i j).length = _
          simp [Str.append, Str.length]
        rw [e, sz_eq]; exact z)) A⟩
    | _ => exact q.elim
  | tup ds =>
    cases e with
    | tup es =>
      obtain ⟨z, q⟩ := q
      cases rd with
      | tup h1 r1 =>
      cases re with
      | tup h2 r2 =>
      have l1 := r1.length
      have l2 := r2.length
      refine op_catA pins s σ H _ _ v u Q I rx ry ⟨_, _, _, _, rfl, rfl, h1, h2, by rw [sz_eq]; omega, fun e => ?_, fun e1 e2 => ?_, fun e1 e2 p n => ?_⟩
      · subst e
        have : ds = [] := List.eq_nil_of_length_eq_zero l1
        subst this
        exact k _ _ _ _ q (Kp.refl _) (.tup h2 r2) A
      · subst e2
        have : es = [] := List.eq_nil_of_length_eq_zero l2
        subst this
        rw [List.append_nil] at q
        exact k _ _ _ _ q (Kp.refl _) (.tup h1 r1) A
      · exact k _ _ _ _ q (Kp.new n) (.tup (SqT.of upd_same) ((r1.append r2).kp (Kp.new n))) (A.newH n)
    | _ => exact q.elim
  | ref a =>
    cases e with
    | ref b =>
      cases rd; cases re
      dsimp only [oAdd] at q
      unfold addR at q
      split at q
      · rename_i xs ys ea eb
        obtain ⟨z, q⟩ := q
        obtain ⟨vs, e1, r1⟩ := A a _ ea
        obtain ⟨us, e2, r2⟩ := A b _ eb
        have l1 := r1.length
        have l2 := r2.length
        exact op_cat pins s σ H _ _ v u Q I rx ry ⟨a, b, vs, us, rfl, rfl, e1, e2, by rw [sz_eq]; omega, fun p n => newL_ok q A (r1.append r2) n (Kp.refl _) k⟩
      · exact q.elim
    | _ => exact q.elim
  | _ => exact q.elim
theorem go_sub : GO X .Sub oSub := op_use op_sub fun x y H Q ⟨d, e, h, Q0, rd, re, A, q, k⟩ => by
  cases d <;> cases e <;> first | exact q.elim | skip
  cases rd; cases re
  exact ⟨_, _, rfl, rfl, k _ _ _ _ q (Kp.refl _) (.int _) A⟩
theorem rvL_rep {K : PySem.W.Frag} {H : Hp} {ds : List D} {vs : List V} (r : RvL K H ds vs) : ∀ n : Nat, RvL K H (List.replicate n ds).flatten (List.replicate n vs).flatten
  | 0 => .nil
  | n + 1 => by
    rw [List.replicate_succ, List.replicate_succ, List.flatten_cons, List.flatten_cons]
    exact r.append (rvL_rep r n)
theorem go_mul : GO X .Mult oMul := fun pins s σ H x y v u Q I rx ry ⟨d, e, h, Q0, rd, re, A, q, k⟩ => by
  cases d with
  | int i =>
    cases e with
    | int j =>
      cases rd; cases re
      obtain ⟨c | c | c, q⟩ := q
      · exact op_mul pins s σ H _ _ v u Q I rx ry ⟨_, _, rfl, rfl, .inl c, k _ _ _ _ q (Kp.refl _) (.int _) A⟩
      · exact op_mul pins s σ H _ _ v u Q I rx ry ⟨_, _, rfl, rfl, .inr c, k _ _ _ _ q (Kp.refl _) (.int _) A⟩
      · exact op_mulW pins s σ H _ _ v u Q I rx ry ⟨_, _, rfl, rfl, wide_mul c.1 c.2 (by decide) (by decide) (by decide), k _ _ _ _ q (Kp.refl _) (.int _) A⟩
    | _ => exact q.elim
  | ref a =>
    cases e with
    | int j =>
      cases rd; cases re
      dsimp only [oMul] at q
      unfold mulR at q
      split at q
      · rename_i xs ea
        obtain ⟨⟨b1, b2⟩, z, q⟩ := q
        obtain ⟨vs, e1, r1⟩ := A a _ ea
        have l1 := r1.length
        exact op_rep pins s σ H _ _ v u Q I rx ry ⟨a, j, vs, rfl, rfl, e1, by omega, by omega, by rw [sz_eq, ← l1]; exact z, fun p n => newL_ok q A (rvL_rep r1 _) n (Kp.refl _) k⟩
      · exact q.elim
    | _ => exact q.elim
  | _ => exact q.elim
theorem big_le : (2 : Int) ^ 64 ≤ 2 ^ 8000 := by
  have h : (2 : Nat) ^ 64 ≤ 2 ^ 8000 := Nat.pow_le_pow_right (by decide) (by decide)
  exact_mod_cast h
theorem div_lt {j : Int} (c : 0 < j) (c2 : j < 2 ^ 8000) : j.natAbs < 2 ^ 8000 := by
  have h1 : (j.natAbs : Int) = j := Int.natAbs_of_nonneg (Int.le_of_lt c)
  have h2 : (j.natAbs : Int) < ((2 ^ 8000 : Nat) : Int) := by
    rw [h1, Int.natCast_pow]
    exact c2
  exact Int.ofNat_lt.mp h2
theorem go_div : GO X .FloorDiv oDiv := op_use op_fdivW fun x y H Q ⟨d, e, h, Q0, rd, re, A, q, k⟩ => by
  cases d <;> cases e <;> first | exact q.elim | skip
  cases rd; cases re
  obtain ⟨c, c2, q⟩ := q
  refine ⟨_, _, rfl, rfl, wide_div (b := 8000) c (div_lt c (Int.lt_of_lt_of_le c2 big_le)) (by decide) (by decide), k _ _ _ _ q (Kp.refl _) (.int _) A⟩
theorem go_mod : GO X .Mod oMod := op_use op_mod fun x y H Q ⟨d, e, h, Q0, rd, re, A, q, k⟩ => by
  cases d <;> cases e <;> first | exact q.elim | skip
  cases rd; cases re
  obtain ⟨c, q⟩ := q
  exact ⟨_, _, rfl, rfl, c, k _ _ _ _ q (Kp.refl _) (.int _) A⟩
theorem go_pow : GO X .Pow oPow := op_use op_pow fun x y H Q ⟨d, e, h, Q0, rd, re, A, q, k⟩ => by
  cases d <;> cases e <;> first | exact q.elim | skip
  cases rd; cases re
  obtain ⟨c1, c2, c3, q⟩ := q
  exact ⟨_, _, rfl, rfl, ⟨c1, c2, c3⟩, k _ _ _ _ q (Kp.refl _) (.int _) A⟩
theorem ge_neg {a : Expr} {pos : Pos} {f : DE} (ha : GE X a f) : GE X (.UnaryOp .USub a pos) (d1 oNeg f) :=
  pe_imp (pe_un un_neg ha) fun σ H Q ⟨ρ, h, Q0, R, A, q, k⟩ => ⟨ρ, h, _, R, A, q, fun d h1 v H1 q1 k1 r1 A1 => by
    cases d <;> first | exact q1.elim | skip
    cases r1
    exact ⟨_, rfl, k _ _ _ _ q1 k1 (.int _) A1⟩⟩

/-! ### comparisons -/
mutual
/-- the library's datum of data by value -/
def tp : D → PyData
  | .bl b => .bool b
  | .int i => .int i
  | .str x => .str x
  | .tup ds => .tuple (tpL ds)
  | .rl ds => .list (tpL ds)
  | _ => .none
def tpL : List D → List PyData
  | [] => []
  | d :: ds => tp d :: tpL ds
end
theorem tpL_map : ∀ ds : List D, tpL ds = ds.map tp
  | [] => rfl
  | d :: ds => by rw [tpL, tpL_map ds]; rfl
/-- no address in it -/
inductive Cl : D → Prop
  | non : Cl .non
  | bl (b) : Cl (.bl b)
  | int (i) : Cl (.int i)
  | str (x) : Cl (.str x)
  | tup {ds} : (∀ d ∈ ds, Cl d) → Cl (.tup ds)
  | rl {ds} : (∀ d ∈ ds, Cl d) → Cl (.rl ds)
theorem mapO_some {α β : Type} {f : α → Option β} : ∀ {xs : List α} {ys : List β}, mapO f xs = some ys → Paired (fun x y => f x = some y) xs ys
  | [], ys, h => by unfold mapO at h; cases h; exact .nil
  | x :: xs, ys, h => by
    unfold mapO at h
    split at h
    · rename_i e es h1 h2
      cases h
      exact .cons h1 (mapO_some h2)
    · cases h
theorem readsAll_of {h : Heap} : ∀ {us : List Value} {ps : List PyData}, Paired (fun u p => ∃ as, Reads h u p as) us ps → ∃ as, ReadsAll h us ps as
  | _, _, .nil => ⟨[], .nil⟩
  | _, _, .cons ⟨as, r⟩ t => by
    obtain ⟨bs, q⟩ := readsAll_of t
    exact ⟨as ++ bs, .cons r q⟩
section
variable {pins : List (Addr × Obj)} {σ : L2.St} {H : Hp} {s : Shared} {h : AH}
theorem reads_list {f : D → Option D} (ih : ∀ d d' v u, f d = some d' → Rv X.K H d v → RelV v u → ∃ as, Reads s.heap u (tp d') as) : ∀ {ds ds' : List D} {vs : List V} {us : List Value}, mapO f ds = some ds' → RvL X.K H ds vs → Vals vs us → ∃ as, ReadsAll s.heap us (tpL ds') as
  | [], _, _, _, e, r, r2 => by
    unfold mapO at e; cases e
    cases r; cases r2
    exact ⟨[], .nil⟩
  | d :: ds, ds', _, _, e, r, r2 => by
    unfold mapO at e
    split at e
    · rename_i e1 es h1 h2
      cases e
      cases r with
      | cons ra rb =>
        cases r2 with
        | cons sa sb =>
          obtain ⟨as, q1⟩ := ih _ _ _ _ h1 ra sa
          obtain ⟨bs, q2⟩ := reads_list ih h2 rb sb
          exact ⟨as ++ bs, .cons q1 q2⟩
    · cases e
theorem reads (I : Inv X pins σ H s) (A : Abs X.K X.w h H) : ∀ (n : Nat) (d d' : D) (v : V) (u : Value), rei h n d = some d' → Rv X.K H d v → RelV v u → ∃ as, Reads s.heap u (tp d') as := by
  intro n
  induction n with
  | zero =>
    intro d d' v u e r r2
    cases d <;> simp [rei] at e
    all_goals (subst e; cases r)
    · cases r2; exact ⟨_, .none⟩
    · cases r2; exact ⟨_, .bool _⟩
    · obtain ⟨t, rfl⟩ := r2; exact ⟨_, .int _ t⟩
    · obtain ⟨t, rfl⟩ := r2; exact ⟨_, .str _ t⟩
  | succ n ih =>
    intro d d' v u e r r2
    cases d with
    | non => simp [rei] at e; subst e; cases r; cases r2; exact ⟨_, .none⟩
    | bl b => simp [rei] at e; subst e; cases r; cases r2; exact ⟨_, .bool _⟩
    | int i => simp [rei] at e; subst e; cases r; obtain ⟨t, rfl⟩ := r2; exact ⟨_, .int _ t⟩
    | str x => simp [rei] at e; subst e; cases r; obtain ⟨t, rfl⟩ := r2; exact ⟨_, .str _ t⟩
    | tup ds =>
      simp only [rei, Option.map_eq_some_iff] at e
      obtain ⟨ds', e, rfl⟩ := e
      cases r with
      | tup h1 h2 =>
        cases r2
        obtain ⟨its, rv, ⟨o, ho, hc, m, hd⟩, _⟩ := I.tuple h1
        obtain ⟨as, hr⟩ := reads_list (fun d d' v u => ih d d' v u) e h2 rv
        exact ⟨_, Reads.tuple ho hc hd hr⟩
    | rl ds =>
      simp only [rei, Option.map_eq_some_iff] at e
      obtain ⟨ds', e, rfl⟩ := e
      cases r with
      | rl h1 h2 =>
        cases r2
        obtain ⟨its, rv, ⟨o, m, ho, hc, _, hd⟩, _⟩ := I.list h1.sq
        obtain ⟨as, hr⟩ := reads_list (fun d d' v u => ih d d' v u) e h2 rv
        exact ⟨_, Reads.list ho hc hd hr⟩
    | ref a =>
      simp only [rei] at e
      split at e
      · rename_i ds ea
        simp only [Option.map_eq_some_iff] at e
        obtain ⟨ds', e, rfl⟩ := e
        cases r; cases r2
        obtain ⟨vs, q1, q2⟩ := A a _ ea
        obtain ⟨its, rv, ⟨o, m, ho, hc, _, hd⟩, _⟩ := I.list (SqL.of q1)
        obtain ⟨as, hr⟩ := reads_list (fun d d' v u => ih d d' v u) e q2 rv
        exact ⟨_, Reads.list ho hc hd hr⟩
      · cases e
    | rd _ _ => simp [rei] at e
end
/-- what is put by value has no address, and is as deep as told -/
inductive Dn : Nat → D → Prop
  | non (n) : Dn n .non
  | bl (n b) : Dn n (.bl b)
  | int (n i) : Dn n (.int i)
  | str (n x) : Dn n (.str x)
  | tup {n ds} : (∀ d ∈ ds, Dn n d) → Dn (n + 1) (.tup ds)
  | rl {n ds} : (∀ d ∈ ds, Dn n d) → Dn (n + 1) (.rl ds)
theorem pMem {α β : Type} {F : α → β → Prop} : ∀ {xs : List α} {ys : List β}, Paired F xs ys → ∀ y ∈ ys, ∃ x ∈ xs, F x y
  | _, _, .nil, y, h => by cases h
  | _, _, .cons r t, y, h => by
    rcases List.mem_cons.mp h with rfl | h
    · exact ⟨_, List.mem_cons_self, r⟩
    · obtain ⟨x, hx, q⟩ := pMem t y h
      exact ⟨x, List.mem_cons_of_mem _ hx, q⟩
theorem rei_dn {h : AH} : ∀ (n : Nat) (d d' : D), rei h n d = some d' → Dn n d' := by
  intro n
  induction n with
  | zero => intro d d' e; cases d <;> simp [rei] at e <;> subst e <;> constructor
  | succ n ih =>
    intro d d' e
    cases d with
    | tup ds =>
      simp only [rei, Option.map_eq_some_iff] at e
      obtain ⟨ds', e, rfl⟩ := e
      exact .tup fun y hy => let ⟨x, _, q⟩ := pMem (mapO_some e) y hy; ih _ _ q
    | rl ds =>
      simp only [rei, Option.map_eq_some_iff] at e
      obtain ⟨ds', e, rfl⟩ := e
      exact .rl fun y hy => let ⟨x, _, q⟩ := pMem (mapO_some e) y hy; ih _ _ q
    | ref a =>
      simp only [rei] at e
      split at e
      · simp only [Option.map_eq_some_iff] at e
        obtain ⟨ds', e, rfl⟩ := e
        exact .rl fun y hy => let ⟨x, _, q⟩ := pMem (mapO_some e) y hy; ih _ _ q
      · cases e
    | _ => simp [rei] at e <;> subst e <;> constructor
theorem depthAll_le {n : Nat} : ∀ {ps : List PyData}, (∀ p ∈ ps, p.depth ≤ n) → PyData.depthAll ps ≤ n
  | [], _ => Nat.zero_le _
  | p :: ps, h => by
    rw [PyData.depthAll]
    exact Nat.max_le.mpr ⟨h p List.mem_cons_self, depthAll_le fun q hq => h q (List.mem_cons_of_mem _ hq)⟩
theorem plainAll_of : ∀ {ps : List PyData}, (∀ p ∈ ps, p.plain = true) → PyData.plainAll ps = true
  | [], _ => by simp [PyData.plainAll]
  | p :: ps, h => by
    rw [PyData.plainAll, h p List.mem_cons_self, plainAll_of fun q hq => h q (List.mem_cons_of_mem _ hq)]; rfl
theorem Dn.tp : ∀ {n : Nat} {d : D}, Dn n d → (G.tp d).depth ≤ n ∧ (G.tp d).plain = true := by
  intro n d x
  induction x with
  | non => simp [G.tp, PyData.depth, PyData.plain]
  | bl => simp [G.tp, PyData.depth, PyData.plain]
  | int => simp [G.tp, PyData.depth, PyData.plain]
  | str => simp [G.tp, PyData.depth, PyData.plain]
  | tup hs ih =>
    rw [G.tp, tpL_map, PyData.depth, PyData.plain]
    exact ⟨Nat.succ_le_succ (depthAll_le fun p hp => let ⟨d, hd, e⟩ := List.mem_map.mp hp; e ▸ (ih d hd).1), plainAll_of fun p hp => let ⟨d, hd, e⟩ := List.mem_map.mp hp; e ▸ (ih d hd).2⟩
  | rl hs ih =>
    rw [G.tp, tpL_map, PyData.depth, PyData.plain]
    exact ⟨Nat.succ_le_succ (depthAll_le fun p hp => let ⟨d, hd, e⟩ := List.mem_map.mp hp; e ▸ (ih d hd).1), plainAll_of fun p hp => let ⟨d, hd, e⟩ := List.mem_map.mp hp; e ▸ (ih d hd).2⟩
mutual
theorem eqv_tp : ∀ (x y : D) (n m : Nat), Dn n x → Dn m y → PyData.eqv (tp x) (tp y) = deqv x y
  | .non, y, n, m, hx, hy => by cases y <;> first | (cases hy; done) | simp [tp, deqv, PyData.eqv]
  | .bl a, y, n, m, hx, hy => by cases y <;> first | (cases hy; done) | simp [tp, deqv, PyData.eqv]
  | .int a, y, n, m, hx, hy => by cases y <;> first | (cases hy; done) | simp [tp, deqv, PyData.eqv]
  | .str a, y, n, m, hx, hy => by cases y <;> first | (cases hy; done) | simp [tp, deqv, PyData.eqv]
  | .tup a, y, n, m, hx, hy => by
    cases y <;> first | (cases hy; done) | (simp [tp, deqv, PyData.eqv]; done) | skip
    rw [tp, tp, deqv, PyData.eqv]
    cases hx with
    | tup h1 =>
      cases hy with
      | tup h2 => exact eqv_tpL _ _ _ _ h1 h2
  | .rl a, y, n, m, hx, hy => by
    cases y <;> first | (cases hy; done) | (simp [tp, deqv, PyData.eqv]; done) | skip
    rw [tp, tp, deqv, PyData.eqv]
    cases hx with
    | rl h1 =>
      cases hy with
      | rl h2 => exact eqv_tpL _ _ _ _ h1 h2
  | .rd _ _, y, n, m, hx, hy => by cases hx
  | .ref _, y, n, m, hx, hy => by cases hx
theorem eqv_tpL : ∀ (x y : List D) (n m : Nat), (∀ d ∈ x, Dn n d) → (∀ d ∈ y, Dn m d) → PyData.eqvAll (tpL x) (tpL y) = deqvL x y
  | [], [], _, _, _, _ => by simp [tpL, deqvL, PyData.eqvAll]
  | [], _ :: _, _, _, _, _ => by simp [tpL, deqvL, PyData.eqvAll]
  | _ :: _, [], _, _, _, _ => by simp [tpL, deqvL, PyData.eqvAll]
  | x :: xs, y :: ys, n, m, h1, h2 => by
    rw [tpL, tpL, deqvL, PyData.eqvAll, eqv_tp x y n m (h1 x List.mem_cons_self) (h2 y List.mem_cons_self), eqv_tpL xs ys n m (fun d hd => h1 d (List.mem_cons_of_mem _ hd)) (fun d hd => h2 d (List.mem_cons_of_mem _ hd))]
end
end
end G
end

section
set_option Elab.async false
set_option linter.all false
set_option maxRecDepth 100000
set_option maxHeartbeats 4000000
/-! G layer, soundness 3: order of data, tests, boolean operators, statements, targets, subscripts by lists, tuples, texts. -/
namespace G
open PySem PySem.Spec PyProof.Rows L2
variable [Tb]
section
variable {X : Cx}

/-! ### order -/
mutual
theorem dat_dn : ∀ (n : Nat) (d : D), dat n d = true → Dn n d
  | n, .non, _ => .non n
  | n, .bl b, _ => .bl n b
  | n, .int i, _ => .int n i
  | n, .str x, _ => .str n x
  | n + 1, .tup ds, h => .tup (datL_dn n ds (by simpa [dat] using h))
  | 0, .tup ds, h => by simp [dat] at h
  | n, .rl ds, h => by cases n <;> simp [dat] at h
  | n, .rd _ _, h => by cases n <;> simp [dat] at h
  | n, .ref _, h => by cases n <;> simp [dat] at h
theorem datL_dn : ∀ (n : Nat) (ds : List D), datL n ds = true → ∀ d ∈ ds, Dn n d
  | n, [], _, d, h => by cases h
  | n, x :: xs, h, d, hd => by
    rw [datL, Bool.and_eq_true] at h
    rcases List.mem_cons.mp hd with e | hd
    · rw [e]; exact dat_dn n x h.1
    · exact datL_dn n xs h.2 d hd
end
mutual
theorem rei_dat {h : AH} : ∀ (n : Nat) (d : D), dat n d = true → rei h n d = some d
  | n, .non, _ => by cases n <;> rfl
  | n, .bl b, _ => by cases n <;> rfl
  | n, .int i, _ => by cases n <;> rfl
  | n, .str x, _ => by cases n <;> rfl
  | n + 1, .tup ds, q => by rw [rei, mapO_dat n ds (by simpa [dat] using q)]; rfl
  | 0, .tup ds, h => by simp [dat] at h
  | n, .rl ds, h => by cases n <;> simp [dat] at h
  | n, .rd _ _, h => by cases n <;> simp [dat] at h
  | n, .ref _, h => by cases n <;> simp [dat] at h
theorem mapO_dat {h : AH} : ∀ (n : Nat) (ds : List D), datL n ds = true → mapO (rei h n) ds = some ds
  | n, [], _ => rfl
  | n, x :: xs, q => by
    rw [datL, Bool.and_eq_true] at q
    rw [mapO, rei_dat n x q.1, mapO_dat n xs q.2]
end
mutual
theorem alike_tp : ∀ (x y : D) (n m : Nat), Dn n x → Dn m y → alk x y = true → PySem.W.alike (tp x) (tp y) = true
  | .non, y, n, m, hx, hy, h => by cases y <;> first | (cases hy; done) | simp_all [tp, alk, PySem.W.alike]
  | .bl a, y, n, m, hx, hy, h => by cases y <;> first | (cases hy; done) | simp_all [tp, alk, PySem.W.alike]
  | .int a, y, n, m, hx, hy, h => by cases y <;> first | (cases hy; done) | simp_all [tp, alk, PySem.W.alike]
  | .str a, y, n, m, hx, hy, h => by cases y <;> first | (cases hy; done) | simp_all [tp, alk, PySem.W.alike]
  | .tup a, y, n, m, hx, hy, h => by
    cases y <;> first | (simp [alk] at h; done) | skip
    rw [tp, tp, PySem.W.alike]
    cases hx with
    | tup h1 =>
      cases hy with
      | tup h2 => exact alike_tpL _ _ _ _ h1 h2 (by simpa [alk] using h)
  | .rl a, y, n, m, hx, hy, h => by cases y <;> simp [alk] at h
  | .rd _ _, y, n, m, hx, hy, h => by cases hx
  | .ref _, y, n, m, hx, hy, h => by cases hx
theorem alike_tpL : ∀ (x y : List D) (n m : Nat), (∀ d ∈ x, Dn n d) → (∀ d ∈ y, Dn m d) → alkL x y = true → PySem.W.alikeAll (tpL x) (tpL y) = true
  | [], [], _, _, _, _, _ => by simp [tpL, PySem.W.alikeAll]
  | [], _ :: _, _, _, _, _, _ => by simp [tpL, PySem.W.alikeAll]
  | _ :: _, [], _, _, _, _, _ => by simp [tpL, PySem.W.alikeAll]
  | x :: xs, y :: ys, n, m, h1, h2, h => by
    rw [alkL, Bool.and_eq_true] at h
    rw [tpL, tpL, PySem.W.alikeAll, alike_tp x y n m (h1 x List.mem_cons_self) (h2 y List.mem_cons_self) h.1, alike_tpL xs ys n m (fun d hd => h1 d (List.mem_cons_of_mem _ hd)) (fun d hd => h2 d (List.mem_cons_of_mem _ hd)) h.2]
    rfl
end
mutual
theorem deqv_alk : ∀ (x y : D), alk x y = true → deqv x y = decide (x = y)
  | .non, y, h => by cases y <;> simp_all [alk, deqv]
  | .bl a, y, h => by cases y <;> simp_all [alk, deqv, Bool.beq_eq_decide_eq]
  | .int a, y, h => by cases y <;> simp_all [alk, deqv, Bool.beq_eq_decide_eq]
  | .str a, y, h => by cases y <;> simp_all [alk, deqv, Bool.beq_eq_decide_eq]
  | .tup a, y, h => by
    cases y <;> first | (simp [alk] at h; done) | skip
    rw [deqv, deqvL_alk _ _ (by simpa [alk] using h)]
    simp
  | .rl a, y, h => by cases y <;> simp [alk] at h
  | .rd _ _, y, h => by cases y <;> simp [alk] at h
  | .ref _, y, h => by cases y <;> simp [alk] at h
theorem deqvL_alk : ∀ (x y : List D), alkL x y = true → deqvL x y = decide (x = y)
  | [], [], _ => by simp [deqvL]
  | [], _ :: _, _ => by simp [deqvL]
  | _ :: _, [], _ => by simp [deqvL]
  | x :: xs, y :: ys, h => by
    rw [alkL, Bool.and_eq_true] at h
    rw [deqvL, deqv_alk x y h.1, deqvL_alk xs ys h.2]
    by_cases e : x = y <;> simp [e]
end
mutual
theorem dlt_tp : ∀ (x y : D) (n m : Nat), Dn n x → Dn m y → alk x y = true → PySem.W.dataLt (tp x) (tp y) = dlt x y
  | .non, y, n, m, hx, hy, h => by
    cases y <;> first | (simp [alk] at h; done) | skip
    rfl
  | .bl a, y, n, m, hx, hy, h => by
    cases y <;> first | (simp [alk] at h; done) | skip
    rename_i b
    rw [tp, tp, PySem.W.dataLt_bool, dlt]
    cases a <;> cases b <;> rfl
  | .int a, y, n, m, hx, hy, h => by
    cases y <;> first | (simp [alk] at h; done) | skip
    rw [tp, tp, PySem.W.dataLt_int, dlt]
  | .str a, y, n, m, hx, hy, h => by
    cases y <;> first | (simp [alk] at h; done) | skip
    rw [tp, tp, PySem.W.dataLt_str, dlt]
  | .tup a, y, n, m, hx, hy, h => by
    cases y <;> first | (simp [alk] at h; done) | skip
    rw [tp, tp, PySem.W.dataLt_tuple, dlt]
    cases hx with
    | tup h1 =>
      cases hy with
      | tup h2 => exact dlt_tpL _ _ _ _ h1 h2 (by simpa [alk] using h)
  | .rl a, y, n, m, hx, hy, h => by cases y <;> simp [alk] at h
  | .rd _ _, y, n, m, hx, hy, h => by cases hx
  | .ref _, y, n, m, hx, hy, h => by cases hx
theorem dlt_tpL : ∀ (x y : List D) (n m : Nat), (∀ d ∈ x, Dn n d) → (∀ d ∈ y, Dn m d) → alkL x y = true → PyProof.Rows.lexLt itemOrd (PySem.W.keyToksAll (tpL x)) (PySem.W.keyToksAll (tpL y)) = dltL x y
  | [], [], _, _, _, _, _ => by simp [tpL, dltL, PySem.W.keyToksAll]; rfl
  | [], _ :: _, _, _, _, _, _ => by simp [tpL, dltL, PySem.W.keyToksAll]; rfl
  | _ :: _, [], _, _, _, _, _ => by simp [tpL, dltL, PySem.W.keyToksAll]; rfl
  | x :: xs, y :: ys, n, m, h1, h2, h => by
    rw [alkL, Bool.and_eq_true] at h
    have a1 := h1 x List.mem_cons_self
    have a2 := h2 y List.mem_cons_self
    have al := alike_tp x y n m a1 a2 h.1
    have ev := (eqv_tp x y n m a1 a2).trans (deqv_alk x y h.1)
    have ih := dlt_tpL xs ys n m (fun d hd => h1 d (List.mem_cons_of_mem _ hd)) (fun d hd => h2 d (List.mem_cons_of_mem _ hd)) h.2
    have ix := dlt_tp x y n m a1 a2 h.1
    rw [tpL, tpL, dltL]
    by_cases e : x = y
    · subst e
      rw [PySem.W.dataLt_all_yes al (by rw [ev]; simp), ih]
      have : dlt x x = false := by
        rw [← ix]
        exact PyProof.Rows.lex_irrefl _
      simp [this]
    · rw [PySem.W.dataLt_all_no al (by rw [ev]; simp [e]), ix]
      simp [e]
end
theorem lt_ok {P : Bool → Prop} {d e : D} (q : oLtB d e P) : dat 13 d = true ∧ dat 13 e = true ∧ alk d e = true ∧ d ≠ .non ∧ e ≠ .non ∧ P (dlt d e) := by
  cases d with
  | int i =>
    cases e with
    | int j => exact ⟨rfl, rfl, rfl, by simp, by simp, q⟩
    | _ => exact q.elim
  | str i =>
    cases e with
    | str j => exact ⟨rfl, rfl, rfl, by simp, by simp, q⟩
    | _ => exact q.elim
  | tup i =>
    cases e with
    | tup j =>
      obtain ⟨z, d1, d2, q⟩ := q
      exact ⟨by rw [dat]; exact d1, by rw [dat]; exact d2, by rw [alk]; exact z, by simp, by simp, by rw [dlt]; exact q⟩
    | _ => exact q.elim
  | _ => exact q.elim
theorem tp_none {n : Nat} {d : D} (h : Dn n d) (e : d ≠ .non) : tp d ≠ .none := by
  cases h <;> simp [tp] at e ⊢
mutual
theorem alk_comm : ∀ x y : D, alk x y = alk y x
  | .non, y => by cases y <;> rfl
  | .bl a, y => by cases y <;> rfl
  | .int a, y => by cases y <;> rfl
  | .str a, y => by cases y <;> rfl
  | .tup a, y => by
    cases y <;> first | rfl | skip
    rw [alk, alk]; exact alkL_comm _ _
  | .rl a, y => by cases y <;> rfl
  | .rd _ _, y => by cases y <;> rfl
  | .ref _, y => by cases y <;> rfl
theorem alkL_comm : ∀ x y : List D, alkL x y = alkL y x
  | [], [] => rfl
  | [], _ :: _ => rfl
  | _ :: _, [] => rfl
  | x :: xs, y :: ys => by rw [alkL, alkL, alk_comm x y, alkL_comm xs ys]
end
theorem gc_lt (hu : X.A.units + 64 < cLine) : GC X .Lt oLt := fun pins s σ H x y v u Q I rx ry ⟨d, e, h, Q0, rd, re, A, q, k⟩ => by
  obtain ⟨d1, d2, al, n1, n2, q⟩ := lt_ok q
  obtain ⟨as, r1⟩ := reads I A 13 _ _ _ _ (rei_dat 13 _ d1) rd rx
  obtain ⟨bs, r2⟩ := reads I A 13 _ _ _ _ (rei_dat 13 _ d2) re ry
  have m1 := dat_dn _ _ d1
  have m2 := dat_dn _ _ d2
  have b1 := m1.tp.1
  refine PySem.W.lt_data r1 r2 (alike_tp _ _ _ _ m1 m2 al) (tp_none m1 n1) (by omega) ⟨.bl _, H, I, rfl, ?_⟩
  rw [dlt_tp _ _ _ _ m1 m2 al]
  exact k _ _ _ _ q (Kp.refl _) (.bl _) A
theorem gc_gt (hu : X.A.units + 64 < cLine) : GC X .Gt oGt := fun pins s σ H x y v u Q I rx ry ⟨d, e, h, Q0, rd, re, A, q, k⟩ => by
  obtain ⟨d2, d1, al, n2, n1, q⟩ := lt_ok q
  obtain ⟨as, r1⟩ := reads I A 13 _ _ _ _ (rei_dat 13 _ d1) rd rx
  obtain ⟨bs, r2⟩ := reads I A 13 _ _ _ _ (rei_dat 13 _ d2) re ry
  have m1 := dat_dn _ _ d1
  have m2 := dat_dn _ _ d2
  have b1 := m1.tp.1
  refine PySem.W.gt_data r1 r2 (alike_tp _ _ _ _ m1 m2 ((alk_comm _ _).trans al)) (tp_none m1 n1) (by omega) ⟨.bl _, H, I, rfl, ?_⟩
  rw [dlt_tp _ _ _ _ m2 m1 al]
  exact k _ _ _ _ q (Kp.refl _) (.bl _) A
theorem gc_le (hu : X.A.units + 64 < cLine) : GC X .LtE oLe := fun pins s σ H x y v u Q I rx ry ⟨d, e, h, Q0, rd, re, A, q, k⟩ => by
  cases d with
  | int i =>
    cases e with
    | int j =>
      cases rd; cases re
      exact op_le pins s σ H _ _ v u Q I rx ry ⟨i, j, rfl, rfl, k _ _ _ _ q (Kp.refl _) (.bl _) A⟩
    | _ => exact q.elim
  | tup xs =>
    cases e with
    | tup ys =>
      obtain ⟨⟨al, d1, d2⟩, q⟩ := q
      have d1' : dat 13 (.tup xs) = true := by rw [dat]; exact d1
      have d2' : dat 13 (.tup ys) = true := by rw [dat]; exact d2
      have al' : alk (.tup xs) (.tup ys) = true := by rw [alk]; exact al
      obtain ⟨as, r1⟩ := reads I A 13 _ _ _ _ (rei_dat 13 _ d1') rd rx
      obtain ⟨bs, r2⟩ := reads I A 13 _ _ _ _ (rei_dat 13 _ d2') re ry
      have m1 := dat_dn _ _ d1'
      have m2 := dat_dn _ _ d2'
      have b1 := m1.tp.1
      refine PySem.W.le_data r1 r2 (alike_tp _ _ _ _ m1 m2 al') (tp_none m1 (by simp)) (by omega) ⟨.bl _, H, I, rfl, ?_⟩
      rw [dlt_tp _ _ _ _ m2 m1 ((alk_comm _ _).trans al'), dlt]
      exact k _ _ _ _ q (Kp.refl _) (.bl _) A
    | _ => exact q.elim
  | _ => exact q.elim
theorem gc_ge (hu : X.A.units + 64 < cLine) : GC X .GtE oGe := fun pins s σ H x y v u Q I rx ry ⟨d, e, h, Q0, rd, re, A, q, k⟩ => by
  cases d with
  | int i =>
    cases e with
    | int j =>
      cases rd; cases re
      exact op_ge pins s σ H _ _ v u Q I rx ry ⟨i, j, rfl, rfl, k _ _ _ _ q (Kp.refl _) (.bl _) A⟩
    | _ => exact q.elim
  | tup xs =>
    cases e with
    | tup ys =>
      obtain ⟨⟨al, d1, d2⟩, q⟩ := q
      have d1' : dat 13 (.tup xs) = true := by rw [dat]; exact d1
      have d2' : dat 13 (.tup ys) = true := by rw [dat]; exact d2
      have al' : alk (.tup xs) (.tup ys) = true := by rw [alk]; exact al
      obtain ⟨as, r1⟩ := reads I A 13 _ _ _ _ (rei_dat 13 _ d1') rd rx
      obtain ⟨bs, r2⟩ := reads I A 13 _ _ _ _ (rei_dat 13 _ d2') re ry
      have m1 := dat_dn _ _ d1'
      have m2 := dat_dn _ _ d2'
      have b1 := m1.tp.1
      refine PySem.W.ge_data r1 r2 (alike_tp _ _ _ _ m1 m2 al') (tp_none m1 (by simp)) (by omega) ⟨.bl _, H, I, rfl, ?_⟩
      rw [dlt_tp _ _ _ _ m1 m2 al', dlt]
      exact k _ _ _ _ q (Kp.refl _) (.bl _) A
    | _ => exact q.elim
  | _ => exact q.elim
end
end G
end

section
set_option Elab.async false
set_option linter.all false
set_option maxRecDepth 100000
set_option maxHeartbeats 4000000
/-! G layer, soundness 4: tests, boolean operators, statements, targets, loops, comprehensions. -/
namespace G
open PySem PySem.Spec PyProof.Rows L2
variable [Tb]
section
variable {X : Cx} {a b c e : Expr} {pos : Pos}

/-! ### truth, tests -/
theorem tru_ok' {K : PySem.W.Frag} {w : World} {h : AH} {H : Hp} {d : D} {v : V} {k : Bool} (A : Abs K w h H) (r : Rv K H d v) (t : tru h d = some k) : TruV K v H k := by
  cases r with
  | non => cases t; rfl
  | bl b => cases t; rfl
  | int i => cases t; rfl
  | str x o =>
    cases t
    refine ⟨o, ?_⟩
    by_cases z : x.length = 0
    · rw [z]; rfl
    · have : ((x.length : Int) != 0) = true := by simp; omega
      rw [this]; simp [z]
  | tup h1 h2 =>
    cases t
    refine .inr (.inl ⟨_, h1, ?_⟩)
    cases h2 <;> rfl
  | rl h1 h2 =>
    cases t
    refine .inl ⟨_, h1.sq, ?_⟩
    cases h2 <;> rfl
  | ref a =>
    dsimp only [tru] at t
    split at t
    · rename_i ds e
      cases t
      obtain ⟨vs, e1, r1⟩ := A _ _ e
      refine .inl ⟨_, SqL.of e1, ?_⟩
      cases r1 <;> rfl
    · cases t
theorem gt_val {f : DE} (ha : GE X a f) (he : ∀ whole, isTrue a X.env whole = (do let v ← whole; standAt a.pos; holding [v] (truthy v)) := by intro _; rfl) : GT X a (tV f) :=
  pt_imp (pt_truth ha he) fun σ H Q ⟨ρ, h, Q0, R, A, q, k⟩ => ⟨ρ, h, _, R, A, q, fun d h1 v H1 q1 k1 r1 A1 => by
    cases e : tru h1 d with
    | some t => rw [e] at q1; exact ⟨t, tru_ok' A1 r1 e, k _ _ _ q1 k1 A1⟩
    | none => rw [e] at q1; exact q1.elim⟩
/-- a comparison as a test: what it hands back must be a truth -/
theorem gt_cmp {op : CmpOp} {f : D → D → AH → KD → Prop} {fa fb : DE} (ho : GC X op f) (ha : GE X a fa) (hb : GE X b fb) (hm : behindInMarks op b = false := by first | exact nobehind _ (by decide) (by decide) | rfl) :
    GT X (.Compare a [op] [b] pos) (tQ (d2 f fa fb)) :=
  pt_imp (pt_cmpR ho ha hb hm) fun σ H Q ⟨ρ, h, Q0, R, A, q, k⟩ => d2_ok (f := f) (a := fa) (b := fb) ⟨ρ, h, _, R, A, q, fun d h1 v H1 q1 k1 r1 A1 => by
    cases d with
    | bl b => cases r1; exact ⟨_, rfl, k _ _ _ q1 k1 A1⟩
    | _ => exact q1.elim⟩
theorem gt_not {f : DT} (ha : GT X a f) : GT X (.UnaryOp .Not a pos) (tNot f) :=
  pt_imp (pt_not ha) fun σ H Q ⟨ρ, h, Q0, R, A, q, k⟩ => ⟨ρ, h, _, R, A, q, fun d h1 H1 q1 k1 A1 => k _ _ _ q1 k1 A1⟩
theorem gw_and1 {f : DT} (ha : GT X a f) : GW X (.BoolOp .And [a] pos) f := pw_and1 ha
theorem gw_or1 {f : DT} (ha : GT X a f) : GW X (.BoolOp .Or [a] pos) f := pw_or1 ha
theorem gw_and {rest : List Expr} {f g : DT} (ha : GT X a f) (hb : GW X (.BoolOp .And (b :: rest) pos) g) : GW X (.BoolOp .And (a :: b :: rest) pos) (G.tAnd f g) :=
  pw_imp (pw_and ha hb) fun σ H Q ⟨ρ, h, Q0, R, A, q, k⟩ => ⟨ρ, h, _, R, A, q, fun t h1 H1 q1 k1 A1 => by
    cases t with
    | true => rw [if_pos rfl]; exact ⟨ρ, h1, Q0, R.kp k1, A1, q1, fun t h2 H2 q2 k2 A2 => k _ _ _ q2 (k1.trans k2) A2⟩
    | false => rw [if_neg Bool.false_ne_true]; exact k _ _ _ q1 k1 A1⟩
theorem gw_or {rest : List Expr} {f g : DT} (ha : GT X a f) (hb : GW X (.BoolOp .Or (b :: rest) pos) g) : GW X (.BoolOp .Or (a :: b :: rest) pos) (G.tOr f g) :=
  pw_imp (pw_or ha hb) fun σ H Q ⟨ρ, h, Q0, R, A, q, k⟩ => ⟨ρ, h, _, R, A, q, fun t h1 H1 q1 k1 A1 => by
    cases t with
    | true => rw [if_pos rfl]; exact k _ _ _ q1 k1 A1
    | false => rw [if_neg Bool.false_ne_true]; exact ⟨ρ, h1, Q0, R.kp k1, A1, q1, fun t h2 H2 q2 k2 A2 => k _ _ _ q2 (k1.trans k2) A2⟩⟩
theorem ge_one {op} {f : DE} (h : GE X a f) : GE X (.BoolOp op [a] pos) f := pe_one h
theorem ge_or {rest : List Expr} {f g : DE} (ha : GE X a f) (hb : GE X (.BoolOp .Or (b :: rest) pos) g) : GE X (.BoolOp .Or (a :: b :: rest) pos) (dOr f g) :=
  pe_imp (pe_orT ha hb) fun σ H Q ⟨ρ, h, Q0, R, A, q, k⟩ => ⟨ρ, h, _, R, A, q, fun d h1 v H1 q1 k1 r1 A1 => by
    cases e : tru h1 d with
    | some t =>
      rw [e] at q1
      cases t with
      | true => exact ⟨true, tru_ok' A1 r1 e, by rw [if_pos rfl]; exact k _ _ _ _ q1 k1 r1 A1⟩
      | false => exact ⟨false, tru_ok' A1 r1 e, by rw [if_neg Bool.false_ne_true]; exact ⟨ρ, h1, Q0, R.kp k1, A1, q1, k.kp k1⟩⟩
    | none => rw [e] at q1; exact q1.elim⟩
theorem ge_and {rest : List Expr} {f g : DE} (ha : GE X a f) (hb : GE X (.BoolOp .And (b :: rest) pos) g) : GE X (.BoolOp .And (a :: b :: rest) pos) (dAnd f g) :=
  pe_imp (pe_andT ha hb) fun σ H Q ⟨ρ, h, Q0, R, A, q, k⟩ => ⟨ρ, h, _, R, A, q, fun d h1 v H1 q1 k1 r1 A1 => by
    cases e : tru h1 d with
    | some t =>
      rw [e] at q1
      cases t with
      | true => exact ⟨true, tru_ok' A1 r1 e, by rw [if_pos rfl]; exact ⟨ρ, h1, Q0, R.kp k1, A1, q1, k.kp k1⟩⟩
      | false => exact ⟨false, tru_ok' A1 r1 e, by rw [if_neg Bool.false_ne_true]; exact k _ _ _ _ q1 k1 r1 A1⟩
    | none => rw [e] at q1; exact q1.elim⟩
theorem ge_not {f : DE} (ha : GE X a f) : GE X (.UnaryOp .Not a pos) (dNot f) :=
  pe_imp (pe_notT ha) fun σ H Q ⟨ρ, h, Q0, R, A, q, k⟩ => ⟨ρ, h, _, R, A, q, fun d h1 v H1 q1 k1 r1 A1 => by
    cases e : tru h1 d with
    | some t => rw [e] at q1; exact ⟨t, tru_ok' A1 r1 e, k _ _ _ _ q1 k1 (.bl _) A1⟩
    | none => rw [e] at q1; exact q1.elim⟩
theorem ge_ifE {t : DT} {f g : DE} (hc : GT X c t) (ha : GE X a f) (hb : GE X b g) : GE X (.IfExp c a b pos) (dIfE t f g) :=
  pe_imp (pe_ifExp hc ha hb) fun σ H Q ⟨ρ, h, Q0, R, A, q, k⟩ => ⟨ρ, h, _, R, A, q, fun t h1 H1 q1 k1 A1 => by
    cases t with
    | true => rw [if_pos rfl]; exact ⟨ρ, h1, Q0, R.kp k1, A1, q1, k.kp k1⟩
    | false => rw [if_neg Bool.false_ne_true]; exact ⟨ρ, h1, Q0, R.kp k1, A1, q1, k.kp k1⟩⟩
theorem ch_ok {K : PySem.W.Frag} {w : World} {f g : D → D → AH → KD → Prop} {fa fb fc : DE} {σ : L2.St} {H : Hp} {Q : VK} (x : tE K w (dCh f g fa fb fc) σ H Q) : tChain (R2ok K w f) (R2ok K w g) (tE K w fa) (tE K w fb) (tE K w fc) σ H Q := by
  obtain ⟨ρ, h, Q0, R, A, q, k⟩ := x
  exact ⟨ρ, h, _, R, A, q, fun x h1 v H1 q1 k1 r1 A1 => ⟨ρ, h1, _, R.kp k1, A1, q1, fun y h2 u H2 q2 k2 r2 A2 =>
    ⟨x, y, h2, _, r1.kp k2, r2, A2, q2, fun d h3 z H3 q3 k3 r3 A3 => by
      cases d with
      | bl t =>
        cases r3
        cases t with
        | true => exact ⟨true, rfl, by rw [if_pos rfl]; exact ⟨ρ, h3, _, R.kp (k1.trans (k2.trans k3)), A3, q3, fun z' h4 u4 H4 q4 k4 r4 A4 => ⟨y, z', h4, Q0, r2.kp (k3.trans k4), r4, A4, q4, k.kp (k1.trans (k2.trans (k3.trans k4)))⟩⟩⟩
        | false => exact ⟨false, rfl, by rw [if_neg Bool.false_ne_true]; exact k _ _ _ _ q3 (k1.trans (k2.trans k3)) (.bl _) A3⟩
      | _ => exact q3.elim⟩⟩⟩
theorem ge_chain {op op' : CmpOp} {f g : D → D → AH → KD → Prop} {fa fb fc : DE} (ho : GC X op f) (ho' : GC X op' g) (ha : GE X a fa) (hb : GE X b fb) (hc : GE X c fc) (hm : lastMarks [op, op'] [b, c] = false := by with_unfolding_all rfl) :
    GE X (.Compare a [op, op'] [b, c] pos) (dCh f g fa fb fc) :=
  pe_imp (pe_chain ho ho' ha hb hc hm) fun _ _ _ x => ch_ok x
theorem gt_chain {op op' : CmpOp} {f g : D → D → AH → KD → Prop} {fa fb fc : DE} (ho : GC X op f) (ho' : GC X op' g) (ha : GE X a fa) (hb : GE X b fb) (hc : GE X c fc) (hm : lastMarks [op, op'] [b, c] = false := by with_unfolding_all rfl) :
    GT X (.Compare a [op, op'] [b, c] pos) (G.tQ (dCh f g fa fb fc)) :=
  pt_imp (pt_chain ho ho' ha hb hc hm) fun _ _ _ ⟨ρ, h, Q0, R, A, q, k⟩ => ch_ok ⟨ρ, h, _, R, A, q, fun d h1 v H1 q1 k1 r1 A1 => by
    cases d with
    | bl b => cases r1; exact ⟨_, rfl, k _ _ _ q1 k1 A1⟩
    | _ => exact q1.elim⟩

/-! ### statements -/
variable {st : Stmt} {rest : List Stmt}
theorem gss_nil : GSs X [] dNx := pss_imp pss_nil fun D σ H ⟨ρ, h, F, R, A, q, k⟩ => k.nx _ _ _ _ q (Kp.refl _) R A
theorem gss_cons {f g : DS} (h1 : GS X st f) (h2 : GSs X rest g) : GSs X (st :: rest) (dSeq f g) :=
  pss_imp (pss_cons h1 h2) fun D σ H ⟨ρ, h, F, R, A, q, k⟩ => ⟨ρ, h, _, R, A, q, ⟨fun ρ' h' σ' H' q' k' R' A' => ⟨ρ', h', F, R', A', q', k.kp k'⟩, k.rt, k.bk, k.ct⟩⟩
theorem gss_one {f : DS} (h1 : GS X st f) : GSs X [st] f := pss_one h1
theorem gs_pass : GS X (.Pass pos) dNx := ps_imp ps_pass fun D σ H ⟨ρ, h, F, R, A, q, k⟩ => k.nx _ _ _ _ q (Kp.refl _) R A
theorem gs_break : GS X (.Break pos) dBrk := ps_imp ps_break fun D σ H ⟨ρ, h, F, R, A, q, k⟩ => k.bk _ _ _ _ q (Kp.refl _) R A
theorem gs_cont : GS X (.Continue pos) dCnt := ps_imp ps_continue fun D σ H ⟨ρ, h, F, R, A, q, k⟩ => k.ct _ _ _ _ q (Kp.refl _) R A
theorem gs_doc {x j pos pos'} : GS X (.Expr (.Constant (.str x) j pos) pos') dNx := ps_imp ps_doc fun D σ H ⟨ρ, h, F, R, A, q, k⟩ => k.nx _ _ _ _ q (Kp.refl _) R A
theorem gs_exp {f : DE} (he : GE X e f) (hs : swapsWith e none pos.line X.env = pure false := by rfl) : GS X (.Expr e pos) (dExp f) :=
  ps_imp (ps_expr he hs) fun D σ H ⟨ρ, h, F, R, A, q, k⟩ => ⟨ρ, h, _, R, A, q, fun d h1 v H1 q1 k1 r1 A1 => k.nx _ _ _ _ q1 k1 (R.kp k1) A1⟩
theorem gs_ret {f : DE} (he : GE X e f) : GS X (.Return (some e) pos) (dRet f) := ps_imp (ps_ret he) fun D σ H ⟨ρ, h, F, R, A, q, k⟩ => ⟨ρ, h, _, R, A, q, k.rt⟩
theorem gs_retN : GS X (.Return none pos) dRetN := ps_imp ps_retN fun D σ H ⟨ρ, h, F, R, A, q, k⟩ => k.rt _ _ _ _ q (Kp.refl _) .non A
theorem gs_if {t : DT} {f g : DS} {as bs : List Stmt} (hc : GT X c t) (ha : GSs X as f) (hb : GSs X bs g) : GS X (.If c as bs pos) (dIf t f g) :=
  ps_imp (ps_if hc ha hb) fun D σ H ⟨ρ, h, F, R, A, q, k⟩ => ⟨ρ, h, _, R, A, q, fun t h1 H1 q1 k1 A1 => by
    cases t with
    | true => rw [if_pos rfl]; exact ⟨ρ, h1, F, R.kp k1, A1, q1, k.kp k1⟩
    | false => rw [if_neg Bool.false_ne_true]; exact ⟨ρ, h1, F, R.kp k1, A1, q1, k.kp k1⟩⟩
theorem gs_dead : GS X st dDead := ⟨fun _ _ _ _ _ _ ⟨ρ, h, F, R, A, q, k⟩ => q.elim⟩

/-! ### targets -/
theorem gg_var {i : Nat} {x : Str} (hN : X.N.Nodup) (hi : X.N[i]? = some x := by rfl) (hx : Loc X.env.scope x := by first | exact Or.inl rfl | exact Or.inr rfl) (hf : X.fn x = true ∨ X.env.scope.names.lookup x = some .local := by first | exact .inl rfl | exact .inr rfl) : GG X (.Name x pos) [i] (gVar i) :=
  ⟨fun pins s σ H v u Q I r ⟨d, ρ, h, Q0, rd, R, A, q, k⟩ => (pg_name (i := i) hN hi hx hf).run pins s σ H v u Q I r (k _ _ _ _ q (Kp.refl _) (R.set rd) A Sm.one)⟩
theorem ggs_nil : GGs X [] [] G.gNil :=
  ⟨fun pins s σ H vs us Q I r ⟨ds, ρ, h, Q0, rd, R, A, q, k⟩ => by
    cases rd with
    | nil => exact pgs_nil.run pins s σ H [] us Q I r ⟨rfl, k _ _ _ _ q (Kp.refl _) R A (Sm.refl _ _)⟩
    | cons _ _ => exact q.elim⟩
theorem ggs_cons {es : List Expr} {g : DG} {r : DGs} {a b : List Nat} (h1 : GG X e a g) (h2 : GGs X es b r) (hs : (assignEach (e :: es) X.env).map (·.2) = assign e X.env :: (assignEach es X.env).map (·.2) := by rfl) : GGs X (e :: es) (a ++ b) (G.gCons g r) :=
  ⟨fun pins s σ H vs us Q I rr ⟨ds, ρ, h, Q0, rd, R, A, q, k⟩ => by
    cases rd with
    | nil => exact q.elim
    | cons ra rb =>
      refine (pgs_cons h1 h2 hs).run pins s σ H _ us Q I rr ⟨_, _, rfl, _, ρ, h, _, ra, R, A, q, fun ρ' h' σ' H' q' k' R' A' s' => ⟨_, ρ', h', Q0, rb.kp k', R', A', q', fun ρ2 h2 σ2 H2 q2 k2 R2 A2 s2 => k _ _ _ _ q2 (k'.trans k2) R2 A2 (s'.trans s2)⟩⟩⟩
theorem gg_tup {es : List Expr} {k n : Nat} {g : DGs} {sl : List Nat} (hc : X.calm = true) (h : GGs X es sl g) (hn : (assignEach es X.env).length = n := by rfl) (hst : (assignEach es X.env).findIdx? (·.1) = none := by rfl) : GG X (.Tuple es k pos) sl (G.gTup n g) :=
  ⟨fun pins s σ H v u Q I r ⟨d, ρ, h0, Q0, rd, R, A, q, k⟩ => by
    cases rd with
    | tup hT hL => exact (pg_tup hc h hn hst).run pins s σ H _ u Q I r ⟨_, _, rfl, hT, by rw [← hL.length]; exact q.1, _, ρ, h0, Q0, hL, R, A, q.2, k⟩
    | _ => exact q.elim⟩
theorem gs_asg {tg : Expr} {f : DE} {g : DG} {sl : List Nat} (he : GE X e f) (hg : GG X tg sl g) (hs : swapsWithSole [tg] e pos.line X.env = pure false := by rfl) (hw : swappedStores [tg] e X.env = pure none := by rfl) (h1 : (assignEach [tg] X.env).map (·.2) = [assign tg X.env] := by rfl) : GS X (.Assign [tg] e pos) (dAsg f g) :=
  ps_imp (ps_asg he hg hs hw h1) fun D σ H ⟨ρ, h, F, R, A, q, k⟩ => ⟨ρ, h, _, R, A, q, fun d h1 v H1 q1 k1 r1 A1 => ⟨d, ρ, h1, F.nx, r1, R.kp k1, A1, q1, fun ρ2 h2 σ2 H2 q2 k2 R2 A2 _ => k.nx _ _ _ _ q2 (k1.trans k2) R2 A2⟩⟩
theorem gs_set {i : Nat} {x : Str} {f : DE} {pos' : Pos} (hN : X.N.Nodup) (he : GE X e f) (hi : X.N[i]? = some x := by rfl) (hx : Loc X.env.scope x := by first | exact Or.inl rfl | exact Or.inr rfl) (hs : swapsWith e (some (.Name x pos')) pos.line X.env = pure false := by rfl) (hf : X.fn x = true ∨ X.env.scope.names.lookup x = some .local := by first | exact .inl rfl | exact .inr rfl) :
    GS X (.Assign [.Name x pos'] e pos) (dSet i f) :=
  ps_imp (ps_set (i := i) hN hi hx he hs hf) fun D σ H ⟨ρ, h, F, R, A, q, k⟩ => ⟨ρ, h, _, R, A, q, fun d h1 v H1 q1 k1 r1 A1 => k.nx _ _ _ _ q1 k1 ((R.kp k1).set r1) A1⟩

/-! ### while -/
theorem gs_while {t : DT} {b : DS} {body : List Stmt} (hp : PassesOwn (model X.prog X.w) X.A X.env X.xe) (hc : GT X c t) (hb : GSs X body b) : GS X (.While c body [] pos) (dWhile t b) :=
  ps_imp (ps_while hp hc hb) fun D σ H ⟨ρ, h, F, R, A, q, k⟩ => by
    obtain ⟨J, ⟨m, j0⟩, turn⟩ := q
    refine ⟨fun m σ' H' => ∃ ρ' h', RS X.K H' ρ' σ' ∧ Abs X.K X.w h' H' ∧ Kp H H' ∧ J m ρ' h', ⟨m, ρ, h, R, A, Kp.refl _, j0⟩, fun m σ1 H1 ⟨ρ1, h1, R1, A1, k1, j1⟩ => ?_⟩
    refine ⟨ρ1, h1, _, R1, A1, turn m ρ1 h1 j1, fun b h2 H2 q2 k2 A2 => ?_⟩
    cases b with
    | true =>
      rw [if_pos rfl]
      refine ⟨fun σ' H' => ∃ m', m' < m ∧ ∃ ρ' h', RS X.K H' ρ' σ' ∧ Abs X.K X.w h' H' ∧ Kp H H' ∧ J m' ρ' h', fun σ' H' ⟨m', hm, w⟩ => ⟨m', hm, w⟩, ρ1, h2, _, R1.kp k2, A2, q2, ⟨?_, ?_, ?_, ?_⟩⟩
      · intro ρ' h' σ' H' ⟨h0, sb, m', hm, j⟩ k' R' A'
        exact ⟨m', hm, ρ', h0, R', A'.sub sb, k1.trans (k2.trans k'), j⟩
      · exact k.rt.kp (k1.trans k2)
      · intro ρ' h' σ' H' q' k' R' A'
        exact k.nx _ _ _ _ q' (k1.trans (k2.trans k')) R' A'
      · intro ρ' h' σ' H' ⟨h0, sb, m', hm, j⟩ k' R' A'
        exact ⟨m', hm, ρ', h0, R', A'.sub sb, k1.trans (k2.trans k'), j⟩
    | false =>
      rw [if_neg Bool.false_ne_true]
      exact k.nx _ _ _ _ q2 (k1.trans k2) (R1.kp k2) A2

/-! ### what is walked -/
/-- the hand layer's walk is that of the items -/
def JS (K : PySem.W.Frag) (w : World) (H1 : Hp) (J : It) (S : Src) : Prop := ∀ (i : Nat) (h : AH) (H : Hp), Kp H1 H → Abs K w h H → S.ok h →
  (∀ d, S.ds[i]? = some d → J.go i H ∧ ∀ x H', J.yld i H x H' → Kp H H' ∧ Abs K w h H' ∧ Rv K H' d x) ∧ (S.ds.length ≤ i → J.stop i H)
def tI (K : PySem.W.Frag) (w : World) (it : DI) : TI := fun σ H R => ∃ ρ h R0, RS K H ρ σ ∧ Abs K w h H ∧ it ρ h R0 ∧ ∀ S h1 J H1, R0 S h1 → Kp H H1 → Abs K w h1 H1 → JS K w H1 J S → R J H1
abbrev GI (X : Cx) (tg iter : Expr) (it : DI) : Prop := PI X tg iter (tI X.K X.w it)
theorem pi_imp {tg iter : Expr} {t t' : TI} (h : PI X tg iter t) (f : ∀ σ H R, t' σ H R → t σ H R) : PI X tg iter t' := ⟨fun pins s σ H R I q => h.run pins s σ H R I (f _ _ _ q)⟩
theorem js_list {K : PySem.W.Frag} {w : World} {H : Hp} {a : Addr} {ds : List D} : JS K w H (Itl K a) (srcL a ds) := fun i h H1 k A ok => by
  obtain ⟨vs, e1, r1⟩ := A a _ ok
  refine ⟨fun d e => ?_, fun z => ⟨vs, SqL.of e1, by rw [← r1.length]; exact z⟩⟩
  obtain ⟨v, e2, r2⟩ := r1.get e
  refine ⟨⟨vs, v, SqL.of e1, e2⟩, fun x H' ⟨e3, f⟩ => ?_⟩
  subst e3
  have e4 := f vs (SqL.of e1)
  rw [e2] at e4; cases e4
  exact ⟨Kp.refl _, A, r2⟩
theorem js_listV {K : PySem.W.Frag} {w : World} {H : Hp} {a : Addr} {ds : List D} {vs : List V} (hr : RoL K H a vs) (r : RvL K H ds vs) : JS K w H (Itl K a) (srcV ds) := fun i h H1 k A ok => by
  have e1 : SqL K H1 a vs := (hr.kp k).sq
  refine ⟨fun d e => ?_, fun z => ⟨vs, e1, by rw [← r.length]; exact z⟩⟩
  obtain ⟨v, e2, r2⟩ := r.get e
  refine ⟨⟨vs, v, e1, e2⟩, fun x H' ⟨e3, f⟩ => ?_⟩
  subst e3
  have e4 := f vs e1
  rw [e2] at e4; cases e4
  exact ⟨Kp.refl _, A, r2.kp k⟩
theorem js_tup {K : PySem.W.Frag} {w : World} {H : Hp} {a : Addr} {ds : List D} {vs : List V} (hr : SqT K H a vs) (r : RvL K H ds vs) : JS K w H (Itt K a) (srcV ds) := fun i h H1 k A ok => by
  have e1 : SqT K H1 a vs := SqT.kp k hr
  refine ⟨fun d e => ?_, fun z => ⟨vs, e1, by rw [← r.length]; exact z⟩⟩
  obtain ⟨v, e2, r2⟩ := r.get e
  refine ⟨⟨vs, v, e1, e2⟩, fun x H' ⟨e3, f⟩ => ?_⟩
  subst e3
  have e4 := f vs e1
  rw [e2] at e4; cases e4
  exact ⟨Kp.refl _, A, r2.kp k⟩
theorem js_rng {K : PySem.W.Frag} {w : World} {H : Hp} {lo : Int} {n : Nat} : JS K w H (Itr lo n) (srcV (rng lo n)) := fun i h H1 k A ok => by
  have hl : (rng lo n).length = n := by simp [rng]
  refine ⟨fun d e => ?_, fun z => by rw [show (srcV (rng lo n)).ds = rng lo n from rfl, hl] at z; exact z⟩
  have hi : i < n := by
    have := (List.getElem?_eq_some_iff.mp e).1
    rw [show (srcV (rng lo n)).ds = rng lo n from rfl, hl] at this; exact this
  have ed : d = .int (lo + (i : Nat)) := by
    have e' : (rng lo n)[i]? = some d := e
    simp [rng, hi] at e'
    exact e'.symm
  subst ed
  exact ⟨hi, fun x H' ⟨e1, e2⟩ => by subst e1; subst e2; exact ⟨Kp.refl _, A, .int _⟩⟩
/-! for -/
theorem gs_for {tg iter : Expr} {body : List Stmt} {it : DI} {g : DG} {b : DS} {sl : List Nat} (hp : PassesOwn (model X.prog X.w) X.A X.env X.xe) (hc : X.calm = true) (hi : GI X tg iter it) (hg : GG X tg sl g) (hb : GSs X body b)
    (hs : ∀ x, foldedSetIterable iter X.env x = pure x := by intro _; rfl) : GS X (.For tg iter body [] pos) (dFor it g b) :=
  ps_imp (ps_for hp hc hi hg hb hs) fun D σ H ⟨ρ, h, F, R, A, q, k⟩ => by
    refine ⟨ρ, h, _, R, A, q, fun S h1 J H1 q1 k1 A1 js => ?_⟩
    obtain ⟨W, w0, ok, turn, fin⟩ := q1
    refine ⟨fun i m σ' H' => i + m = S.ds.length ∧ ∃ ρ' h', RS X.K H' ρ' σ' ∧ Abs X.K X.w h' H' ∧ Kp H1 H' ∧ W i ρ' h', ⟨S.ds.length, by omega, ρ, h1, R.kp k1, A1, Kp.refl _, w0⟩, fun i m σ2 H2 ⟨em, ρ2, h2, R2, A2, k2, w2⟩ => ?_⟩
    obtain ⟨go, stop⟩ := js i h2 H2 k2 A2 (ok i ρ2 h2 (by omega) w2)
    by_cases hi : i < S.ds.length
    · obtain ⟨go1, go2⟩ := go _ (List.getElem?_eq_getElem hi)
      refine .inr ⟨go1, fun σ' H' => ∃ ρ' h', RS X.K H' ρ' σ' ∧ Abs X.K X.w h' H' ∧ Kp H1 H' ∧ W (i + 1) ρ' h', fun σ' H' w => ⟨m - 1, by omega, by omega, w⟩, fun x H' y => ?_⟩
      obtain ⟨k3, A3, r3⟩ := go2 x H' y
      have step : ∀ ρ' h' σ' H'', Pt (W (i + 1) ρ') h' → Kp H' H'' → RS X.K H'' ρ' σ' → Abs X.K X.w h' H'' → ∃ ρ' h', RS X.K H'' ρ' σ' ∧ Abs X.K X.w h' H'' ∧ Kp H1 H'' ∧ W (i + 1) ρ' h' := fun ρ' h' σ' H'' ⟨h0, sb, w⟩ k' R' A' => ⟨ρ', h0, R', A'.sub sb, k2.trans (k3.trans k'), w⟩
      refine ⟨_, ρ2, h2, _, r3, R2.kp k3, A3, turn i ρ2 h2 _ w2 (List.getElem?_eq_getElem hi), fun ρ4 h4 σ4 H4 q4 k4 R4 A4 _ => ⟨ρ4, h4, _, R4, A4, q4, ⟨?_, ?_, ?_, ?_⟩⟩⟩
      · exact fun ρ' h' σ' H'' a b c d => step ρ' h' σ' H'' a (k4.trans b) c d
      · exact k.rt.kp (k1.trans (k2.trans (k3.trans k4)))
      · exact fun ρ' h' σ' H'' a b c d => k.nx _ _ _ _ a (k1.trans (k2.trans (k3.trans (k4.trans b)))) c d
      · exact fun ρ' h' σ' H'' a b c d => step ρ' h' σ' H'' a (k4.trans b) c d
    · have ei : i = S.ds.length := by omega
      subst ei
      exact .inl ⟨stop (Nat.le_refl _), k.nx _ _ _ _ (fin _ _ w2) (k1.trans k2) R2 A2⟩
/-- at d stands a dict of the keys ks -/
def KR (K : PySem.W.Frag) (H : Hp) (d : Addr) (ks : List D) : Prop := (d == sysModules) = false ∧ ∃ es : Array DictEntry, H d = some (.ext (RawD d es es.size)) ∧ Paired (fun k e => ∃ v, Rv K H k v ∧ RelV v e.key) ks es.toList
/-- a walk over a dict's keys -/
def Itx (K : PySem.W.Frag) (d : Addr) (ks : List D) : It :=
  ⟨fun i H => i < ks.length ∧ KR K H d ks, fun i H x H' => H' = H ∧ ∃ k, ks[i]? = some k ∧ Rv K H k x, fun i H => ks.length ≤ i ∧ KR K H d ks⟩
theorem kr_of {K : PySem.W.Frag} {w : World} {h : AH} {H : Hp} {d : Addr} {kvs : List (D × D)} (A : Abs K w h H) (e : h d = some (.dic kvs)) : KR K H d (kvs.map (·.1)) := by
  obtain ⟨h1, h2, h3, es, ep, h4, h5, rfl⟩ := A d _ e
  refine ⟨h2, es, h4, ?_⟩
  generalize es.toList = l at h5
  clear e h1 h3 h4
  induction h5 with
  | nil => exact .nil
  | cons r _ ih => exact .cons r.2.2.1 ih
theorem js_keys {K : PySem.W.Frag} {w : World} {H : Hp} {d : Addr} {ks : List D} : JS K w H (Itx K d ks) (srcK d ks) := fun i h H1 k A ok => by
  obtain ⟨kvs, e1, rfl⟩ := ok
  have r := kr_of A e1
  refine ⟨fun x e => ⟨⟨(List.getElem?_eq_some_iff.mp e).1, r⟩, fun y H' ⟨e2, k', e3, r3⟩ => ?_⟩, fun z => ⟨z, r⟩⟩
  subst e2
  have e' : (kvs.map (·.1))[i]? = some x := e
  rw [e'] at e3; cases e3
  exact ⟨Kp.refl _, A, r3⟩
theorem walk_ok {K : PySem.W.Frag} {w : World} {h : AH} {H H1 : Hp} {x : D} {v : V} {R0 : Src → AH → Prop} {R : It → Hp → Prop} (A : Abs K w h H1) (r : Rv K H1 x v) (q : walkD h x R0) (k1 : Kp H H1) (k : ∀ S h1 J H1, R0 S h1 → Kp H H1 → Abs K w h1 H1 → JS K w H1 J S → R J H1) :
    ∃ a, v = .ref a ∧ ((∃ xs, SqL K H1 a xs) ∧ R (Itl K a) H1 ∨ (∃ xs, SqT K H1 a xs) ∧ R (Itt K a) H1 ∨ ∃ ks, KR K H1 a ks ∧ R (Itx K a ks) H1) := by
  unfold walkD at q
  cases r with
  | tup h1 h2 => exact ⟨_, rfl, .inr (.inl ⟨⟨_, h1⟩, k _ _ _ _ q k1 A (js_tup h1 h2)⟩)⟩
  | rl h1 h2 => exact ⟨_, rfl, .inl ⟨⟨_, h1.sq⟩, k _ _ _ _ q k1 A (js_listV h1 h2)⟩⟩
  | ref a =>
    dsimp only at q
    split at q
    · rename_i ds e
      obtain ⟨vs, e1, r1⟩ := A _ _ e
      exact ⟨a, rfl, .inl ⟨⟨vs, SqL.of e1⟩, k _ _ _ _ q k1 A js_list⟩⟩
    · rename_i kvs e
      exact ⟨a, rfl, .inr (.inr ⟨_, kr_of A e, k _ _ _ _ q k1 A js_keys⟩)⟩
    · exact q.elim
  | _ => exact q.elim
end
end G
end

section
set_option Elab.async false
set_option linter.all false
set_option maxRecDepth 100000
set_option maxHeartbeats 4000000
/-! G layer, soundness 5: what is walked, comprehensions, defs and their calls, the end of a law. -/
namespace G
open PySem PySem.Spec PyProof.Rows L2
variable [Tb]
section
variable {X : Cx} {a b c e tg : Expr} {pos : Pos}
/-- the dict at d as the raw heap has it -/
theorem kr_raw {pins : List (Addr × Obj)} {σ : L2.St} {H : Hp} {s : Shared} {d : Addr} {ks : List D} (I : L2.Inv X pins σ H s) (r : KR X.K H d ks) : ∃ (o : Obj) (es : Array DictEntry), s.heap.get? d = some o ∧ o.ExactDict ∧ o.data = .dict es ks.length ∧ es.size = ks.length ∧ Paired (fun k e => ∃ v, Rv X.K H k v ∧ RelV v e.key) ks es.toList := by
  obtain ⟨_, es, e1, e2⟩ := r
  obtain ⟨⟨o, o1, o2, o3⟩, _, _⟩ := I.hok d _ e1
  have hl : es.size = ks.length := by
    have := Paired.length e2
    rw [this, Array.length_toList]
  exact ⟨o, es, o1, o2, by rw [← hl]; exact o3, hl, e2⟩
theorem pair_at {α β : Type} {F : α → β → Prop} : ∀ {xs : List α} {ys : List β} {i : Nat} {x : α}, Paired F xs ys → xs[i]? = some x → ∃ y, ys[i]? = some y ∧ F x y
  | _, _, _, _, .nil, e => by simp at e
  | _, _, 0, _, .cons r _, e => by simp at e; subst e; exact ⟨_, rfl, r⟩
  | _, _, i + 1, x, .cons _ t, e => by
    obtain ⟨u, h1, h2⟩ := pair_at (i := i) (x := x) t (by simpa using e)
    exact ⟨u, by simpa using h1, h2⟩
theorem turn_keysX {P : Program} {w : World} {K : PySem.W.Frag} {d : Addr} {ks : List D} (it : Addr) : Turn P w K tg (Itx K d ks) [it] it (fun i h => h.IsKeyIter it d i ks.length ks.length) where
  mem := List.mem_singleton.mpr rfl
  obj := fun i h st b hb => by
    obtain ⟨oi, e, _, dd⟩ := st
    rw [List.mem_singleton.mp hb]
    exact ⟨oi, e, fun v z => by rw [dd] at z; cases z⟩
  keep := fun i h h' st k => let ⟨oi, e, c, dd⟩ := st; ⟨oi, k it (List.mem_singleton.mpr rfl) oi e, c, dd⟩
  item := by
    rintro X rfl rfl rfl hc i pins s σ H E I hf st ⟨hi, hr⟩
    obtain ⟨o, es, o1, o2, o3, hl, hp⟩ := kr_raw I hr
    have fp := hf it (List.mem_singleton.mpr rfl)
    obtain ⟨en, en1, v, rv1, rv2⟩ := pair_at hp (List.getElem?_eq_getElem hi)
    rw [Array.getElem?_toList] at en1
    refine next_key_item st o1 o3 hl en1 fun h' st' sb => ?_
    have I1 := I.turnedL (t' := s.toks) (ch := [it]) (h' := h') (fun b ob hb e => (sb.2 b (fun z => hb (List.mem_singleton.mpr z))).trans e) (fun b hb => by rw [List.mem_singleton.mp hb]; exact fp)
    obtain ⟨oi, e, c, dd⟩ := id st'
    exact ⟨en.key, rfl, go_of (s := { s with heap := h' }) e c dd (by decide) ⟨v, H, I1, rv2, ⟨rfl, _, List.getElem?_eq_getElem hi, rv1⟩, st', fun b hb => (hf b hb).1⟩⟩
  done := by
    rintro X rfl rfl rfl hc i pins s σ H E I hf st ⟨hi, hr⟩
    obtain ⟨o, es, o1, o2, o3, hl, _⟩ := kr_raw I hr
    have fp := hf it (List.mem_singleton.mpr rfl)
    refine next_key_end (I.ok.hd hc) st o1 o3 hl hi fun h' eb => ⟨rfl, ?_⟩
    exact I.turnedL (t' := s.toks) (ch := [it]) (fun b ob hb e => eb b ob (fun z => hb (List.mem_singleton.mpr z)) e) (fun b hb => by rw [List.mem_singleton.mp hb]; exact fp)
  self := fun A i s Q E st h => wpAny_pyIter_keyiter st h
theorem gi_seq {f : DE} (he : GE X e f) : GI X tg e (iSeq f) := by
  refine ⟨fun pins s σ H R I ⟨ρ, h, R0, RR, A, q, k⟩ => ?_⟩
  refine thn (he.run pins s σ H (fun v H1 => ∃ a, v = .ref a ∧ ((∃ xs, SqL X.K H1 a xs) ∧ R (Itl X.K a) H1 ∨ (∃ xs, SqT X.K H1 a xs) ∧ R (Itt X.K a) H1 ∨ ∃ ks, KR X.K H1 a ks ∧ R (Itx X.K a ks) H1)) I ⟨ρ, h, _, RR, A, q, fun d h1 v H1 q1 k1 r1 A1 => walk_ok A1 r1 q1 k1 k⟩) fun v s1 ⟨x, H1, I1, r1, q1⟩ => ?_
  obtain ⟨a, rfl, ⟨⟨xs, hq⟩, q⟩ | ⟨⟨xs, hq⟩, q⟩ | ⟨ks, hk, q⟩⟩ := q1
  · cases r1
    obtain ⟨its, rv, p, hz⟩ := I1.list hq
    refine wpAny_pyIter_list p.isList ?_
    refine ⟨s1.heap.objs.size, [s1.heap.objs.size], _, _, H1, rfl, I1.kept (t' := s1.toks) fun b o e => Heap.get?_push_of_some _ e, turn_list a _, ⟨_, Heap.get?_push_size _ rfl, rfl, rfl⟩, fun b hb => ?_, q⟩
    have e : b = s1.heap.objs.size := by simpa using hb
    subst e
    exact I1.fpOk (Nat.le_refl _) (I1.hok.fresh (Nat.le_refl _))
  · cases r1
    obtain ⟨its, rv, p, hz⟩ := I1.tuple hq
    refine wpAny_pyIter_tuple (show s1.heap.IsTuple a its.toArray from p) ?_
    refine ⟨s1.heap.objs.size, [s1.heap.objs.size], _, _, H1, rfl, I1.kept (t' := s1.toks) fun b o e => Heap.get?_push_of_some _ e, turn_tuple a _, ⟨_, Heap.get?_push_size _ rfl, rfl, rfl⟩, fun b hb => ?_, q⟩
    have e : b = s1.heap.objs.size := by simpa using hb
    subst e
    exact I1.fpOk (Nat.le_refl _) (I1.hok.fresh (Nat.le_refl _))
  · cases r1
    obtain ⟨o, es, o1, o2, o3, hl, _⟩ := kr_raw I1 hk
    refine iter_keys hk.1 o1 o2 o3 (pi_one (tk := s1.toks) I1 _ (turn_keysX _) ⟨_, Heap.get?_push_size _ rfl, rfl, ?_⟩ q)
    rw [hl] <;> rfl
theorem gi_rng1 {f : DA} {p : Pos} (hm : X.mg "range" = none) (ha : GA X [a] f) (hg : Gl X "range" := by rfl) (hs : starEach [a] X.env = [(false, eval a X.env)] := by rfl) : GI X tg (.Call (.Name "range" p) [a] [] pos) (iRng1 f) :=
  pi_imp (pi_range1 hg hm ha hs) fun σ H R ⟨ρ, h, R0, RR, A, q, k⟩ => ⟨ρ, h, _, RR, A, q, fun ds h1 vs H1 q1 k1 r1 A1 => by
    split at q1
    · rename_i j
      cases r1 with
      | cons ra rb =>
        cases rb; cases ra
        exact ⟨j, rfl, q1.1, q1.2.1, k _ _ _ _ q1.2.2 k1 A1 js_rng⟩
    · exact q1.elim⟩
theorem gi_rng2 {f : DA} {p : Pos} (hm : X.mg "range" = none) (ha : GA X [a, b] f) (hg : Gl X "range" := by rfl) (hs : starEach [a, b] X.env = [(false, eval a X.env), (false, eval b X.env)] := by rfl) (hs2 : starEach [b] X.env = [(false, eval b X.env)] := by rfl) : GI X tg (.Call (.Name "range" p) [a, b] [] pos) (iRng2 f) :=
  pi_imp (pi_range2 hg hm ha hs hs2) fun σ H R ⟨ρ, h, R0, RR, A, q, k⟩ => ⟨ρ, h, _, RR, A, q, fun ds h1 vs H1 q1 k1 r1 A1 => by
    split at q1
    · rename_i i j
      cases r1 with
      | cons ra rb =>
        cases rb with
        | cons rc rd =>
          cases rd; cases ra; cases rc
          exact ⟨i, j, rfl, q1.1, k _ _ _ _ q1.2 k1 A1 js_rng⟩
    · exact q1.elim⟩
theorem enumD_get : ∀ {ds : List D} {n i : Nat} {d : D}, (enumD n ds)[i]? = some d → ∃ x, ds[i]? = some x ∧ d = .tup [.int ((n + i : Nat)), x]
  | [], _, _, _, h => by simp [enumD] at h
  | x :: xs, n, 0, d, h => by
    simp [enumD] at h
    exact ⟨x, rfl, by rw [← h]; rfl⟩
  | x :: xs, n, i + 1, d, h => by
    have h' : (enumD (n + 1) xs)[i]? = some d := by simpa [enumD] using h
    obtain ⟨y, h1, h2⟩ := enumD_get h'
    exact ⟨y, by simpa using h1, by rw [h2, show n + 1 + i = n + (i + 1) by omega]⟩
theorem enumD_len : ∀ (ds : List D) (n : Nat), (enumD n ds).length = ds.length
  | [], _ => rfl
  | _ :: xs, n => congrArg (· + 1) (enumD_len xs (n + 1))
theorem zipD_get : ∀ {xs ys : List D} {i : Nat} {d : D}, (zipD xs ys)[i]? = some d → ∃ x y, xs[i]? = some x ∧ ys[i]? = some y ∧ d = .tup [x, y]
  | [], ys, _, _, h => by cases ys <;> simp [zipD] at h
  | x :: xs, [], _, _, h => by simp [zipD] at h
  | x :: xs, y :: ys, 0, d, h => by
    simp [zipD] at h
    exact ⟨x, y, rfl, rfl, h.symm⟩
  | x :: xs, y :: ys, i + 1, d, h => by
    have h' : (zipD xs ys)[i]? = some d := by simpa [zipD] using h
    obtain ⟨x, y, h1, h2, h3⟩ := zipD_get h'
    exact ⟨x, y, by simpa using h1, by simpa using h2, h3⟩
theorem zipD_len : ∀ (xs ys : List D), (zipD xs ys).length = min xs.length ys.length
  | [], ys => by cases ys <;> simp [zipD]
  | x :: xs, [] => by simp [zipD]
  | x :: xs, y :: ys => by simp [zipD, zipD_len xs ys]
/-- a list that is walked: its items are read wherever it still stands -/
def LRd (K : PySem.W.Frag) (w : World) (H1 : Hp) (a : Addr) (S : Src) : Prop := ∀ (h : AH) (H : Hp), Kp H1 H → Abs K w h H → S.ok h → ∃ vs, SqL K H a vs ∧ RvL K H S.ds vs
theorem walkL_ok {K : PySem.W.Frag} {w : World} {h : AH} {H1 : Hp} {x : D} {v : V} {R0 : Src → AH → Prop} (A : Abs K w h H1) (r : Rv K H1 x v) (q : walkL h x R0) : ∃ a S, v = .ref a ∧ LRd K w H1 a S ∧ S.ok h ∧ R0 S h := by
  unfold walkL at q
  cases r with
  | rl h1 h2 => exact ⟨_, _, rfl, fun h' H' k' A' _ => ⟨_, (h1.kp k').sq, h2.kp k'⟩, trivial, q⟩
  | ref a =>
    dsimp only at q
    split at q
    · rename_i ds e
      exact ⟨a, _, rfl, fun h' H' k' A' ok => let ⟨vs, e1, r1⟩ := A' a (.lst ds) ok; ⟨vs, SqL.of e1, r1⟩, e, q⟩
    · exact q.elim
  | _ => exact q.elim
theorem gi_enum {f : DA} {p tpos : Pos} {elts : List Expr} {kk : Nat} (hm : X.mg "enumerate" = none) (ha : GA X [e] f) (hg : Gl X "enumerate" := by rfl) (hs : starEach [e] X.env = [(false, eval e X.env)] := by rfl) : GI X (.Tuple elts kk tpos) (.Call (.Name "enumerate" p) [e] [] pos) (G.iEnum f) :=
  pi_imp (pi_enum hg hm ha hs) fun σ H R ⟨ρ, h, R0, RR, A, q, k⟩ => ⟨ρ, h, _, RR, A, q, fun ds h1 vs H1 q1 k1 r1 A1 => by
    split at q1
    · rename_i x
      cases r1 with
      | cons ra rb =>
        cases rb
        obtain ⟨a, S, rfl, rd, ok, q2⟩ := walkL_ok A1 ra q1
        obtain ⟨us, s1, s2⟩ := rd h1 H1 (Kp.refl _) A1 ok
        refine ⟨a, us, rfl, s1, k _ _ _ _ q2 k1 A1 fun i h2 H2 k2 A2 ok2 => ?_⟩
        obtain ⟨ws, w1, w2⟩ := rd h2 H2 k2 A2 ok2
        refine ⟨fun d ed => ?_, fun z => ⟨ws, w1, by rw [← w2.length]; rw [show (⟨enumD 0 S.ds, S.ok⟩ : Src).ds = enumD 0 S.ds from rfl, enumD_len] at z; exact z⟩⟩
        obtain ⟨y, ey, rfl⟩ := enumD_get ed
        obtain ⟨v, ev, rv⟩ := w2.get ey
        refine ⟨⟨ws, v, w1, ev⟩, fun u H' ⟨T, v', e1, nT, e2, f2⟩ => ?_⟩
        subst e1; subst e2
        have e3 := f2 ws w1
        rw [ev] at e3; cases e3
        exact ⟨Kp.new nT, A2.newH nT, .tup (SqT.of upd_same) (.cons (by rw [Nat.zero_add]; exact .int _) (.cons (rv.kp (Kp.new nT)) .nil))⟩
    · exact q1.elim⟩
theorem gi_zip {f : DA} {p tpos : Pos} {elts : List Expr} {kk : Nat} (hm : X.mg "zip" = none) (ha : GA X [a, b] f) (hg : Gl X "zip" := by rfl) (hs : starEach [a, b] X.env = (false, eval a X.env) :: starEach [b] X.env := by rfl) (hpl : (backTo pos (starEach [b] X.env)).any (·.1) = false := by rfl) : GI X (.Tuple elts kk tpos) (.Call (.Name "zip" p) [a, b] [] pos) (G.iZip f) :=
  pi_imp (pi_zip hg hm ha hs hpl) fun σ H R ⟨ρ, h, R0, RR, A, q, k⟩ => ⟨ρ, h, _, RR, A, q, fun ds h1 vs H1 q1 k1 r1 A1 => by
    split at q1
    · rename_i x y
      cases r1 with
      | cons ra rb =>
        cases rb with
        | cons rc rd' =>
          cases rd'
          obtain ⟨a, S, rfl, rd, ok, q2⟩ := walkL_ok A1 ra q1
          obtain ⟨b, T, rfl, rd2, okT, q3⟩ := walkL_ok A1 rc q2
          obtain ⟨us, s1, s2⟩ := rd h1 H1 (Kp.refl _) A1 ok
          obtain ⟨us2, t1, t2⟩ := rd2 h1 H1 (Kp.refl _) A1 okT
          refine ⟨a, b, us, us2, rfl, s1, t1, k _ _ _ _ q3 k1 A1 fun i h2 H2 k2 A2 ok2 => ?_⟩
          obtain ⟨ws, w1, w2⟩ := rd h2 H2 k2 A2 ok2.1
          obtain ⟨zs, z1, z2⟩ := rd2 h2 H2 k2 A2 ok2.2
          refine ⟨fun d ed => ?_, fun z => ⟨ws, zs, w1, z1, by
            have z' : (zipD S.ds T.ds).length ≤ i := z
            rw [zipD_len] at z'
            rw [← w2.length, ← z2.length]; omega⟩⟩
          obtain ⟨y1, y2, ey1, ey2, rfl⟩ := zipD_get ed
          obtain ⟨v1, ev1, rv1⟩ := w2.get ey1
          obtain ⟨v2, ev2, rv2⟩ := z2.get ey2
          refine ⟨⟨ws, zs, v1, v2, w1, z1, ev1, ev2⟩, fun u H' ⟨TT, v', v'', e1, nT, e2, f2, f3⟩ => ?_⟩
          subst e1; subst e2
          have e3 := f2 ws w1
          rw [ev1] at e3; cases e3
          have e4 := f3 zs z1
          rw [ev2] at e4; cases e4
          exact ⟨Kp.new nT, A2.newH nT, .tup (SqT.of upd_same) (.cons (rv1.kp (Kp.new nT)) (.cons (rv2.kp (Kp.new nT)) .nil))⟩
    · exact q1.elim⟩

/-! ### comprehensions -/
abbrev GTs (X : Cx) (es : List Expr) (f : DT) : Prop := PTs X es (tT X.K X.w f)
theorem gts_nil : GTs X [] G.tYes := ⟨fun pins s σ H Q I ⟨ρ, h, Q0, R, A, q, k⟩ => pts_nil.run pins s σ H Q I (k _ _ _ q (Kp.refl _) A)⟩
theorem gts_one {t : DT} (h : GT X c t) : GTs X [c] t := pts_one h
theorem dComp_ok {K : PySem.W.Frag} {w : World} {it : DI} {g : DG} {t : DT} {f : DE} {own : List Nat} {σ : L2.St} {H : Hp} {Q : VK} (x : tE K w (dComp it g t f own) σ H Q) : tLc (tI K w it) (tG K w own g) (tT K w t) (tE K w f) own σ H Q := by
  obtain ⟨ρ, h, Q0, R, A, q, k⟩ := x
  refine ⟨ρ, h, _, R, A, q, fun S h1 J H1 q1 k1 A1 js D n => ?_⟩
  obtain ⟨W, w0, ok, turn, fin⟩ := q1 D (A1.nil n)
  have kD : Kp H1 (upd H1 D (.lst [])) := Kp.new n
  refine ⟨fun i m H' => i + m = S.ds.length ∧ ∃ acc h', Abs K w h' H' ∧ Kp H1 H' ∧ W i acc h', ⟨S.ds.length, by omega, [], _, A1.new n (o := .lst []) ⟨[], upd_same, .nil⟩, kD, w0⟩, fun i m H2 ⟨em, acc, h2, A2, k2, w2⟩ => ?_⟩
  obtain ⟨ok1, ok2⟩ := ok i acc h2 (by omega) w2
  obtain ⟨go, stop⟩ := js i h2 H2 k2 A2 ok1
  by_cases hi : i < S.ds.length
  · obtain ⟨go1, go2⟩ := go _ (List.getElem?_eq_getElem hi)
    refine .inr ⟨go1, fun H' => ∃ acc h', Abs K w h' H' ∧ Kp H1 H' ∧ W (i + 1) acc h', fun H' w => ⟨m - 1, by omega, by omega, w⟩, fun x H' y => ?_⟩
    obtain ⟨k3, A3, r3⟩ := go2 x H' y
    refine ⟨_, G.wipe ρ own, h2, _, r3, (R.kp (k1.trans (k2.trans k3))).wipe own, A3, turn i acc h2 _ w2 (List.getElem?_eq_getElem hi), fun ρ4 h4 σ4 H4 q4 k4 R4 A4 sm => ⟨sm.wipe, ρ4, h4, _, R4, A4, q4, fun b h5 H5 q5 k5 A5 => ?_⟩⟩
    have kk : Kp H1 H5 := k2.trans (k3.trans (k4.trans k5))
    cases b with
    | true =>
      dsimp only
      rw [if_pos rfl]
      refine ⟨ρ4, h5, _, R4.kp k5, A5, q5, fun y h6 v H6 ⟨z, e6, h0, sb, w6⟩ k6 r6 A6 => ?_⟩
      obtain ⟨vs, e7, r7⟩ := A6 _ _ e6
      have kw : Kp H6 (upd H6 D (.lst (vs ++ [v]))) := Kp.wr e7 trivial
      have A7 : Abs K w (up h6 D (.lst (acc ++ [y]))) (upd H6 D (.lst (vs ++ [v]))) := A6.wr (o := .lst (acc ++ [y])) e7 trivial ⟨_, upd_same, (r7.append (.one r6)).kp kw⟩
      exact ⟨vs, e7, by rw [← r7.length, sz_eq]; exact z, acc ++ [y], h0, A7.sub sb, kk.trans (k6.trans kw), w6⟩
    | false =>
      dsimp only
      rw [if_neg Bool.false_ne_true]
      obtain ⟨h0, sb, w6⟩ := q5
      exact ⟨acc, h0, A5.sub sb, kk, w6⟩
  · have ei : i = S.ds.length := by omega
    subst ei
    exact .inl ⟨stop (Nat.le_refl _), k _ _ _ _ (fin _ _ w2) (k1.trans k2) (.ref _) A2⟩
theorem ge_comp {elt iter : Expr} {ifs : List Expr} {scope : Scope} {own : List (Str × Nat)} {it : DI} {g : DG} {t : DT} {f : DE} (hc : X.calm = true) (hN : X.N.Nodup) (hi : GI X tg iter it) {N : List Str} {sc : Scope} (eN : X.N = N) (eS : X.env.scope = sc) (ok : blkC N sc scope own = true)
    (hg : ∀ (s : Shared) (H : Hp) (C : Addr) (cl : List (Str × Addr)) (fp : List Addr), GG (X.blk s H scope (compEnvC scope cl C X.env) fp) tg (own.map (·.2)) g)
    (ht : ∀ (s : Shared) (H : Hp) (C : Addr) (cl : List (Str × Addr)) (fp : List Addr), GTs (X.blk s H scope (compEnvC scope cl C X.env) fp) ifs t)
    (he : ∀ (s : Shared) (H : Hp) (C : Addr) (cl : List (Str × Addr)) (fp : List Addr), GE (X.blk s H scope (compEnvC scope cl C X.env) fp) elt f) (hs : ∀ x, foldedSetIterable iter X.env x = pure x := by intro _; rfl) :
    GE X (.ListComp elt [⟨tg, iter, ifs, 0⟩] scope pos) (dComp it g t f (own.map (·.2))) :=
  pe_imp (pe_lc hc hN hi (by rw [eN, eS]; exact blkOk_by ok) hg ht he hs) fun σ H Q x => dComp_ok x
theorem gs_setComp {i : Nat} {y : Str} {py spos : Pos} {elt iter : Expr} {ifs : List Expr} {scope : Scope} {own : List (Str × Nat)} {it : DI} {g : DG} {t : DT} {f : DE} (hc : X.calm = true) (hN : X.N.Nodup) (hi : GI X tg iter it) {N : List Str} {sc : Scope} (eN : X.N = N) (eS : X.env.scope = sc) (ok : blkC N sc scope own = true)
    (hg : ∀ (s : Shared) (H : Hp) (C : Addr) (cl : List (Str × Addr)) (fp : List Addr), GG (X.blk s H scope (compEnvC scope cl C X.env) fp) tg (own.map (·.2)) g)
    (ht : ∀ (s : Shared) (H : Hp) (C : Addr) (cl : List (Str × Addr)) (fp : List Addr), GTs (X.blk s H scope (compEnvC scope cl C X.env) fp) ifs t)
    (he : ∀ (s : Shared) (H : Hp) (C : Addr) (cl : List (Str × Addr)) (fp : List Addr), GE (X.blk s H scope (compEnvC scope cl C X.env) fp) elt f)
    (hsw : swapsWith (.ListComp elt [⟨tg, iter, ifs, 0⟩] scope pos) (some (.Name y py)) spos.line X.env = pure true) (hy : X.N[i]? = some y := by rfl) (hyl : X.env.scope.names.lookup y = some .local := by rfl) (hs : ∀ x, foldedSetIterable iter X.env x = pure x := by intro _; rfl) :
    GS X (.Assign [.Name y py] (.ListComp elt [⟨tg, iter, ifs, 0⟩] scope pos) spos) (dSet i (dComp it g t f (own.map (·.2)))) :=
  ps_imp (ps_setLc (i := i) hc hN hy hyl hsw hi (by rw [eN, eS]; exact blkOk_by ok) hg ht he hs) fun D σ H ⟨ρ, h, F, R, A, q, k⟩ => dComp_ok (K := X.K) (w := X.w) ⟨ρ, h, _, R, A, q, fun d h1 v H1 q1 k1 r1 A1 => k.nx _ _ _ _ q1 k1 ((R.kp k1).set r1) A1⟩

/-! ### defs -/
/-- the promise of a def, from its function of the domain -/
def spG (K : PySem.W.Frag) (w : World) (f : FS) : Sp := fun vs H Q _ => ∃ ds h Q0, RvL K H ds vs ∧ Abs K w h H ∧ f ds h Q0 ∧ KQ K w H Q0 Q
def FnG (P : Program) (w : World) (K : PySem.W.Frag) (mg : Str → Option Value) (base : Heap) (k : Nat) (f : Addr) (fd : FuncData) (ps : List Str) (sp : FS) : Prop := FnOk P w K mg base CX0 k f fd ps (spG K w sp)
theorem start_rs {K : PySem.W.Frag} {H : Hp} {N : List Str} {ds : List D} {vs : List V} (r : RvL K H ds vs) : RS K H (G.start N.length ds) (L2.start N vs) := by
  have hl := r.length
  refine ⟨by simp [G.start, L2.start, hl], fun i d e => ?_⟩
  unfold G.start at e
  by_cases hi : i < ds.length
  · rw [List.getElem?_append_left (by simpa using hi), List.getElem?_map] at e
    cases e2 : ds[i]? with
    | none => rw [e2] at e; cases e
    | some d' =>
      rw [e2] at e; cases e
      obtain ⟨v, e3, r3⟩ := r.get e2
      refine ⟨v, ?_, r3⟩
      unfold L2.start
      rw [List.getElem?_append_left (by simp; omega), List.getElem?_map, e3]; rfl
  · rw [List.getElem?_append_right (by simp; omega)] at e
    have := (List.getElem?_eq_some_iff.mp e)
    obtain ⟨h1, h2⟩ := this
    simp at h2
theorem fn_ok {P : Program} {w : World} {K : PySem.W.Frag} {mg : Str → Option Value} {base : Heap} {x qual : Str} {st : Stmt} {f : Addr} {fd : FuncData} {N ps : List Str} {k : Nat} {b : DS} (F : Fun K x qual st f fd) (S : FnScope N ps (defScope st))
    (body : ∀ (cdv : Value) (A : Around) (outer : List Env) (s : Shared) (H : Hp) (E : XK), Room k (A.deeper (envOfC qual (defScope st) s.heap.objs.size f cdv)) →
      GSs (cxOf CX0 P w K mg base N qual (defScope st) f cdv A outer s H E).nox (defBody st) b) : FnG P w K mg base (k + 1) f fd ps (fnOf N.length ps.length b) := by
  refine F.ok S (fun vs H Q E ⟨ds, h, Q0, r, A, q, _⟩ => by rw [← r.length]; exact q.1) fun cdv A outer s H vs Q E hr ⟨ds, h, Q0, r, Ab, q, kq⟩ => ?_
  refine ⟨_, body cdv A outer s H E hr, _, h, _, start_rs r, Ab, q.2, ⟨?_, ?_, ?_, ?_⟩⟩
  · intro ρ' h' σ' H' ⟨h0, sb, q'⟩ k' R' A'
    exact kq _ _ _ _ q' k' .non (A'.sub sb)
  · intro d h' v H' ⟨h0, sb, q'⟩ k' r' A'
    exact kq _ _ _ _ q' k' r' (A'.sub sb)
  · intro _ _ _ _ q'; exact q'.elim
  · intro _ _ _ _ q'; exact q'.elim
theorem ge_call {k : Nat} {f : Addr} {fd : FuncData} {ps : List Str} {sp : FS} {x : Str} {p : Pos} {es : List Expr} {fa : DA} (F : FnG X.prog X.w X.K X.mg X.base k f fd ps sp) (hr : Room k X.A) (hm : X.mg x = some (.ref f)) (hk : PySem.W.keepIn X.K (.ref f) = true) (hb : Binds X.K fd ps [])
    (ha : GA X (e :: es) fa) (hg : Gl X x := by rfl) (hdb : (x == ("__debug__" : Str)) = false := by decide) (he : starEach (e :: es) X.env = (false, eval e X.env) :: starEach es X.env := by rfl) (hpl : (backTo pos (starEach es X.env)).any (·.1) = false := by rfl) :
    GE X (.Call (.Name x p) (e :: es) [] pos) (dCall sp fa) :=
  pe_imp (pe_call F hr hg hm hk hb .nil pass0 ha hdb he hpl) fun σ H Q ⟨ρ, h, Q0, R, A, q, k⟩ => ⟨ρ, h, _, R, A, q, fun ds h1 vs H1 q1 k1 r1 A1 => ⟨ds, h1, Q0, by rw [List.append_nil]; exact r1, A1, q1, k.kp k1⟩⟩
theorem ge_call0 {k : Nat} {f : Addr} {fd : FuncData} {ps : List Str} {sp : FS} {x : Str} {p : Pos} (F : FnG X.prog X.w X.K X.mg X.base k f fd ps sp) (hr : Room k X.A) (hm : X.mg x = some (.ref f)) (hk : PySem.W.keepIn X.K (.ref f) = true) (hb : Binds X.K fd ps [])
    (hg : Gl X x := by rfl) (hdb : (x == ("__debug__" : Str)) = false := by decide) : GE X (.Call (.Name x p) [] [] pos) (dCall sp daNil) :=
  pe_imp (pe_call0 F hr hg hm hk hb .nil pass0 hdb) fun σ H Q ⟨ρ, h, Q0, R, A, q, k⟩ => ⟨[], h, Q0, .nil, A, q, k⟩
/-- a module's constant -/
theorem ge_glob {x : Str} {u : Value} {d : D} {v : V} (hm : X.mg x = some u) (r : RelV v u) (rd : ∀ H, Rv X.K H d v) (hg : Gl X x := by rfl) (hd : (x == ("__debug__" : Str)) = false := by decide) : GE X (.Name x pos) (dC d) := ge_c (pe_glob hg hm r hd) rd
end
end G
end

section
set_option Elab.async false
set_option linter.all false
set_option maxRecDepth 100000
set_option maxHeartbeats 4000000
/-! G layer, soundness 6: dicts. -/
namespace G
open PySem PySem.Spec PyProof.Rows L2
variable [Tb]
mutual
theorem nk_inj : ∀ (n m : Nat) (a b : D), pl n a = true → pl m b = true → nk a = nk b → a = b
  | n, m, .non, b, _, hb, e => by cases b <;> first | rfl | (simp [nk] at e; done) | (cases m <;> simp [pl] at hb)
  | n, m, .int i, b, _, hb, e => by cases b <;> simp [nk] at e; rw [e]
  | n, m, .str i, b, _, hb, e => by cases b <;> simp [nk] at e; rw [e]
  | n, m, .tup ds, b, ha, hb, e => by
    cases b <;> simp [nk] at e
    rename_i es
    cases n <;> simp [pl] at ha
    cases m <;> simp [pl] at hb
    rw [nkL_inj _ _ _ _ ha hb e]
  | n, m, .bl _, b, ha, hb, e => by cases n <;> simp [pl] at ha
  | n, m, .rl _, b, ha, hb, e => by cases n <;> simp [pl] at ha
  | n, m, .rd _ _, b, ha, hb, e => by cases n <;> simp [pl] at ha
  | n, m, .ref _, b, ha, hb, e => by cases n <;> simp [pl] at ha
theorem nkL_inj : ∀ (n m : Nat) (a b : List D), plL n a = true → plL m b = true → nkL a = nkL b → a = b
  | _, _, [], [], _, _, _ => rfl
  | _, _, [], _ :: _, _, _, e => by simp [nkL] at e
  | _, _, _ :: _, [], _, _, e => by simp [nkL] at e
  | n, m, x :: xs, y :: ys, ha, hb, e => by
    simp only [nkL, List.cons.injEq] at e
    rw [plL, Bool.and_eq_true] at ha hb
    rw [nk_inj n m x y ha.1 hb.1 e.1, nkL_inj n m xs ys ha.2 hb.2 e.2]
end
section
variable {X : Cx} {pins : List (PySem.Addr × Obj)} {σ : L2.St} {H : Hp} {s : Shared} {h : AH}
mutual
theorem nested_of (I : L2.Inv X pins σ H s) : ∀ (n : Nat) (d : D) (v : V) (u : Value), pl n d = true → Rv X.K H d v → L2.RelV v u → NestedIs s.heap (nk d) u ∧ (nk d).depth ≤ n
  | n, .non, v, u, _, r, q => by cases r; cases q; exact ⟨.none, by simp [nk, NestedKey.depth]⟩
  | n, .int i, v, u, _, r, q => by cases r; obtain ⟨t, rfl⟩ := q; exact ⟨.int _ _, by simp [nk, NestedKey.depth]⟩
  | n, .str i, v, u, _, r, q => by cases r; obtain ⟨t, rfl⟩ := q; exact ⟨.text _ _, by simp [nk, NestedKey.depth]⟩
  | n + 1, .tup ds, v, u, hp, r, q => by
    cases r with
    | tup h1 h2 =>
      cases q
      obtain ⟨its, rv, ⟨o, ho, hc, m, hd⟩, _⟩ := I.tuple h1
      obtain ⟨k1, k2⟩ := nestedL_of I n ds _ its (by simpa [pl] using hp) h2 rv
      exact ⟨.tup ho hc hd (by simpa using k1), by simp only [nk, NestedKey.depth]; omega⟩
  | 0, .tup ds, v, u, hp, r, q => by simp [pl] at hp
  | n, .bl _, v, u, hp, r, q => by cases n <;> simp [pl] at hp
  | n, .rl _, v, u, hp, r, q => by cases n <;> simp [pl] at hp
  | n, .rd _ _, v, u, hp, r, q => by cases n <;> simp [pl] at hp
  | n, .ref _, v, u, hp, r, q => by cases n <;> simp [pl] at hp
theorem nestedL_of (I : L2.Inv X pins σ H s) : ∀ (n : Nat) (ds : List D) (vs : List V) (us : List Value), plL n ds = true → RvL X.K H ds vs → L2.Vals vs us → NestedAll s.heap (nkL ds) us ∧ NestedKey.depthAll (nkL ds) ≤ n
  | n, [], vs, us, _, r, q => by cases r; cases q; exact ⟨.nil, by simp [nkL, NestedKey.depthAll]⟩
  | n, d :: ds, vs, us, hp, r, q => by
    rw [plL, Bool.and_eq_true] at hp
    cases r with
    | cons r1 r2 =>
      cases q with
      | cons q1 q2 =>
        obtain ⟨a1, a2⟩ := nested_of I n d _ _ hp.1 r1 q1
        obtain ⟨b1, b2⟩ := nestedL_of I n ds _ _ hp.2 r2 q2
        exact ⟨.cons a1 b1, by simp only [nkL, NestedKey.depthAll]; omega⟩
end
/-- an entry by its parts -/
def EP (K : PySem.W.Frag) (H : Hp) (p : D × D) (x : GR.RE) : Prop := x.1 = nk p.1 ∧ pl 8 p.1 = true ∧ (∃ v, Rv K H p.1 v ∧ L2.RelV v x.2.1) ∧ ∃ v, Rv K H p.2 v ∧ L2.RelV v x.2.2
theorem ent_list {K : PySem.W.Frag} {w : World} {H : Hp} : ∀ {kvs : List (D × D)} {l : List DictEntry}, Paired (EntR K w H) kvs l → ∃ L, l = L.map (GR.ent w) ∧ Paired (EP K H) kvs L
  | _, _, .nil => ⟨[], rfl, .nil⟩
  | p :: _, e :: _, .cons ⟨h1, h2, h3, h4⟩ t => by
    obtain ⟨L, e1, q⟩ := ent_list t
    refine ⟨(nk p.1, e.key, e.val) :: L, ?_, .cons ⟨rfl, h2, h3, h4⟩ q⟩
    rw [List.map_cons, ← e1]
    congr 1
    cases e
    simp only [GR.ent] at h1 ⊢
    rw [h1]
theorem list_ent {K : PySem.W.Frag} {w : World} {H : Hp} : ∀ {kvs : List (D × D)} {L : List GR.RE}, Paired (EP K H) kvs L → Paired (EntR K w H) kvs (L.map (GR.ent w))
  | _, _, .nil => .nil
  | p :: _, x :: _, .cons ⟨h1, h2, h3, h4⟩ t => .cons ⟨by show x.1.hash w = _; rw [h1], h2, h3, h4⟩ (list_ent t)
theorem EP.kp {K : PySem.W.Frag} {H H' : Hp} (k : Kp H H') {p : D × D} {x : GR.RE} (r : EP K H p x) : EP K H' p x := by
  obtain ⟨h1, h2, ⟨v, a, b⟩, u, c, d⟩ := r
  exact ⟨h1, h2, ⟨v, a.kp k, b⟩, u, c.kp k, d⟩
theorem ep_keys {K : PySem.W.Frag} {H : Hp} : ∀ {kvs : List (D × D)} {L : List GR.RE}, Paired (EP K H) kvs L → L.map (·.1) = (kvs.map (·.1)).map nk
  | _, _, .nil => rfl
  | p :: _, x :: _, .cons ⟨h1, _⟩ t => by rw [List.map_cons, List.map_cons, List.map_cons, ep_keys t, h1]
theorem ep_pl {K : PySem.W.Frag} {H : Hp} : ∀ {kvs : List (D × D)} {L : List GR.RE}, Paired (EP K H) kvs L → ∀ p ∈ kvs, pl 8 p.1 = true
  | _, _, .nil, p, h => by cases h
  | _, _, .cons ⟨_, h2, _⟩ t, p, h => by
    rcases List.mem_cons.mp h with e | h
    · rw [e]; exact h2
    · exact ep_pl t p h
theorem ep_put {K : PySem.W.Frag} {H : Hp} {k d : D} {u v : Value} (e : EP K H (k, d) (nk k, u, v)) : ∀ {kvs : List (D × D)} {L : List GR.RE}, Paired (EP K H) kvs L → Paired (EP K H) (dput kvs k d) (GR.rput L (nk k) u v)
  | _, _, .nil => .cons e .nil
  | (a, b) :: r, x :: _, .cons r1 t => by
    have h1 : x.1 = nk a := r1.1
    rw [dput, GR.rput]
    by_cases z : a = k
    · rw [if_pos z, if_pos (by rw [h1, z])]
      exact .cons ⟨r1.1, r1.2.1, r1.2.2.1, e.2.2.2⟩ t
    · rw [if_neg z, if_neg (fun q => z (nk_inj 8 8 _ _ r1.2.1 e.2.1 (h1.symm.trans q)))]
      exact .cons r1 (ep_put e t)
theorem dput_keys : ∀ (kvs : List (D × D)) (k v : D), (dput kvs k v).map (·.1) = if k ∈ kvs.map (·.1) then kvs.map (·.1) else kvs.map (·.1) ++ [k]
  | [], k, v => rfl
  | (a, b) :: r, k, v => by
    rw [dput]
    by_cases z : a = k
    · rw [if_pos z, if_pos (by simp [z])]; rfl
    · rw [if_neg z, List.map_cons, dput_keys r k v]
      have : (k ∈ ((a, b) :: r).map (·.1)) ↔ k ∈ r.map (·.1) := by
        simp only [List.map_cons, List.mem_cons]
        exact ⟨fun q => q.resolve_left fun e => z e.symm, .inr⟩
      simp only [this]
      split <;> rfl
theorem dput_nodup {kvs : List (D × D)} {k v : D} (h : (kvs.map (·.1)).Nodup) : ((dput kvs k v).map (·.1)).Nodup := by
  rw [dput_keys]
  split
  · exact h
  · rename_i n
    rw [List.nodup_append]
    exact ⟨h, by simp, fun x hx y hy => by simp at hy; subst hy; exact fun e => n (e ▸ hx)⟩
theorem dput_len (kvs : List (D × D)) (k v : D) : (dput kvs k v).length ≤ kvs.length + 1 := by
  have := congrArg List.length (dput_keys kvs k v)
  rw [List.length_map] at this
  split at this <;> simp at this <;> omega
theorem dget_of {kvs : List (D × D)} {L : List GR.RE} {K : PySem.W.Frag} {H : Hp} {k : D} {j : Nat} {x : GR.RE} (hk : pl 8 k = true) : Paired (EP K H) kvs L → (kvs.map (·.1)).Nodup → L[j]? = some x → x.1 = nk k → ∃ d v, dget kvs k = some d ∧ Rv K H d v ∧ L2.RelV v x.2.2 := by
  intro r
  induction r generalizing j with
  | nil => intro _ e; simp at e
  | @cons p y kvs L r1 t ih =>
    intro hn e ex
    obtain ⟨a, b⟩ := p
    rw [List.map_cons, List.nodup_cons] at hn
    cases j with
    | zero =>
      simp only [List.getElem?_cons_zero, Option.some.injEq] at e
      subst e
      have : a = k := nk_inj 8 8 _ _ r1.2.1 hk (r1.1.symm.trans ex)
      obtain ⟨v, h1, h2⟩ := r1.2.2.2
      exact ⟨b, v, by rw [dget, if_pos this], h1, h2⟩
    | succ j =>
      have e' : L[j]? = some x := by simpa using e
      obtain ⟨d, v, h1, h2⟩ := ih hn.2 e' ex
      have hm : k ∈ kvs.map (·.1) := by
        have e2 : (L.map (·.1))[j]? = some (nk k) := by rw [List.getElem?_map, e']; exact congrArg some ex
        rw [ep_keys t, List.getElem?_map] at e2
        cases e3 : (kvs.map (·.1))[j]? with
        | none => rw [e3] at e2; cases e2
        | some c =>
          rw [e3] at e2
          have hc := List.mem_of_getElem? e3
          obtain ⟨q, hq, rfl⟩ := List.mem_map.mp hc
          have : q.1 = k := nk_inj 8 8 _ _ (ep_pl t q hq) hk (Option.some.inj e2)
          rw [← this]; exact hc
      refine ⟨d, v, ?_, h2⟩
      rw [dget, if_neg (fun z => hn.1 (by rw [show (a, b).1 = a from rfl, z]; exact hm))]
      exact h1
theorem dget_none {kvs : List (D × D)} {k : D} : k ∉ kvs.map (·.1) → dget kvs k = none := by
  intro h
  induction kvs with
  | nil => rfl
  | cons p r ih =>
    obtain ⟨a, b⟩ := p
    rw [dget, if_neg (fun z => h (by simp [z]))]
    exact ih fun z => h (List.mem_cons_of_mem _ z)
theorem dget_mem {kvs : List (D × D)} {k v : D} (h : dget kvs k = some v) : k ∈ kvs.map (·.1) := by
  induction kvs with
  | nil => simp [dget] at h
  | cons p r ih =>
    obtain ⟨a, b⟩ := p
    rw [dget] at h
    split at h
    · rename_i e; simp [e]
    · exact List.mem_cons_of_mem _ (ih h)
theorem nk_mem {kvs : List (D × D)} {k : D} (hk : pl 8 k = true) (hp : ∀ p ∈ kvs, pl 8 p.1 = true) : nk k ∈ (kvs.map (·.1)).map nk ↔ k ∈ kvs.map (·.1) := by
  constructor
  · intro h
    obtain ⟨a, ha, e⟩ := List.mem_map.mp h
    obtain ⟨p, hp', rfl⟩ := List.mem_map.mp ha
    rw [← nk_inj 8 8 _ _ (hp p hp') hk e]; exact ha
  · exact fun h => List.mem_map.mpr ⟨k, h, rfl⟩
theorem nk_nodup {kvs : List (D × D)} (hp : ∀ p ∈ kvs, pl 8 p.1 = true) (hn : (kvs.map (·.1)).Nodup) : ((kvs.map (·.1)).map nk).Nodup := by
  induction kvs with
  | nil => simp
  | cons p r ih =>
    rw [List.map_cons, List.nodup_cons] at hn
    rw [List.map_cons, List.map_cons, List.nodup_cons]
    exact ⟨fun h => hn.1 ((nk_mem (hp p List.mem_cons_self) fun q hq => hp q (List.mem_cons_of_mem _ hq)).mp h), ih (fun q hq => hp q (List.mem_cons_of_mem _ hq)) hn.2⟩
/-- a dict of the abstract heap, in the raw heap -/
theorem dic_raw (I : L2.Inv X pins σ H s) (A : Abs X.K X.w h H) {a : Addr} {kvs : List (D × D)} (e : h a = some (.dic kvs)) : ∃ L es ep, GR.Rw X.w s.heap a L es ep ∧ Paired (EP X.K H) kvs L ∧ kvs.length ≤ sizeLine ∧ (a == sysModules) = false ∧ (kvs.map (·.1)).Nodup ∧ H a = some (.ext (RawD a es ep)) := by
  obtain ⟨h1, h2, h3, es, ep, h4, h5, hv⟩ := A a _ e
  obtain ⟨L, e1, q⟩ := ent_list h5
  have hx := I.hok a _ h4
  refine ⟨L, es, ep, ⟨hx.1, e1, ?_, ?_, hv⟩, q, h1, h2, h3, h4⟩
  · rw [ep_keys q]; exact nk_nodup (ep_pl q) h3
  · intro x hx
    obtain ⟨p, hp, r⟩ := pMem q x hx
    obtain ⟨v, a1, a2⟩ := r.2.2.1
    rw [r.1]
    exact nested_of I 8 p.1 v x.2.1 r.2.1 a1 a2
theorem raw_obj {P : Program} {w : World} {H : Hp} {h' : Heap} {a : Addr} {es : Array DictEntry} {ep : Nat} (x : GR.Dic h' a es ep) : ObjOk P w H h' a (.ext (RawD a es ep)) :=
  ⟨x, let ⟨o, h1, _⟩ := x; ⟨o, h1⟩, fun h1 h2 ⟨o, a1, a2⟩ k => ⟨o, k o a1, a2⟩⟩
end
end G
end

section
set_option Elab.async false
set_option linter.all false
set_option maxRecDepth 100000
set_option maxHeartbeats 4000000
/-! G layer, soundness 7: subscripts, stores, in, methods and calls about dicts, lists. -/
namespace G
open PySem PySem.Spec PyProof.Rows L2
variable [Tb]
section
variable {X : Cx} {pins : List (PySem.Addr × Obj)} {σ : L2.St} {H : Hp} {s : Shared} {h : AH}
/-- behind a change of the dict at a -/
theorem dic_wr {kvs' : List (D × D)} {L' : List GR.RE} {es es' : Array DictEntry} {ep ep' : Nat} {a : Addr} {h' : Heap} {tk : Nat} (I : L2.Inv X pins σ H s) (A : Abs X.K X.w h H) (e4 : H a = some (.ext (RawD a es ep))) (hne : (a == sysModules) = false)
    (x : GR.Rw X.w h' a L' es' ep') (hs : Heap.SameBut a s.heap h') (r : Paired (EP X.K H) kvs' L') (hz : kvs'.length ≤ sizeLine) (hn : (kvs'.map (·.1)).Nodup) :
    L2.Inv X pins σ (upd H a (.ext (RawD a es' ep'))) { s with heap := h', toks := tk } ∧ Abs X.K X.w (up h a (.dic kvs')) (upd H a (.ext (RawD a es' ep'))) ∧ Kp H (upd H a (.ext (RawD a es' ep'))) := by
  have k1 : Kp H (upd H a (.ext (RawD a es' ep'))) := Kp.wr e4 trivial
  refine ⟨I.write (t' := tk) (x := a) (e := a) (by rw [e4]; trivial) (.inl rfl) (fun b u hb q => (hs.2 b hb).trans q) (let ⟨o, ho, _⟩ := x.dic; ⟨o, ho⟩) (raw_obj x.dic), A.wr e4 trivial ⟨hz, hne, hn, es', ep', upd_same, ?_⟩ fun q z => ?_, k1⟩
  rotate_left
  · obtain ⟨ob, q1, _, q2⟩ := (I.hok a _ e4).1
    have z2 : RawD a es ep s.heap := ⟨ob, q1, by assumption, q2⟩
    have z3 : ∃ (oc : Obj) (vs : Array Value) (t : Tok), s.heap.get? a = some oc ∧ oc.data = .fields vs ∧ vs[1]? = some (.str q t) := by
      have := congrArg (fun o => match o with | HO.ext f => f s.heap | _ => False) z
      exact this.mp z2
    obtain ⟨oc, vs, t, r1, r2, _⟩ := z3
    rw [q1] at r1; cases r1
    rw [q2] at r2; cases r2
  have q := list_ent (w := X.w) r
  rw [← x.ents] at q
  exact ⟨pImp (fun _ _ z => z.kp k1) q, x.ver⟩
theorem dic_new {a : Addr} {kvs : List (D × D)} {L : List GR.RE} {es : Array DictEntry} {ep : Nat} {h' : Heap} {tk : Nat} (I : L2.Inv X pins σ H s) (A : Abs X.K X.w h H) (ha : a = s.heap.objs.size) (x : GR.Rw X.w h' a L es ep) (kk : ∀ b o, s.heap.get? b = some o → h'.get? b = some o) (r : Paired (EP X.K H) kvs L) (hz : kvs.length ≤ sizeLine) (hn : (kvs.map (·.1)).Nodup) :
    L2.Inv X pins σ (upd H a (.ext (RawD a es ep))) { s with heap := h', toks := tk } ∧ Abs X.K X.w (up h a (.dic kvs)) (upd H a (.ext (RawD a es ep))) ∧ Kp H (upd H a (.ext (RawD a es ep))) ∧ H a = none := by
  have nn : H a = none := by rw [ha]; exact I.hok.fresh (Nat.le_refl _)
  have k1 : Kp H (upd H a (.ext (RawD a es ep))) := Kp.new nn
  refine ⟨I.laid (a := a) (t' := tk) kk (by rw [ha]; exact Nat.le_refl _) (raw_obj x.dic), A.new nn ⟨hz, beq_eq_false_iff_ne.mpr (Ne.symm (Nat.ne_of_lt (by rw [ha]; exact I.big))), hn, es, ep, upd_same, ?_⟩, k1, nn⟩
  have q := list_ent (w := X.w) r
  rw [← x.ents] at q
  exact ⟨pImp (fun _ _ z => z.kp k1) q, x.ver⟩
end
section
variable {X : Cx} {a b c e tg : Expr} {pos : Pos}
theorem ge_dic0 : GE X (.Dict [] [] pos) dDic0 := ⟨fun pins s σ H Q I ⟨ρ, h, Q0, R, A, q, k⟩ => by
  refine wpAny_Dict_empty ?_
  obtain ⟨I1, A1, k1, n1⟩ := dic_new (kvs := []) (L := []) (tk := s.toks) (h' := s.heap.push { cls := .type "dict", data := .dict #[] }) I A rfl ⟨⟨_, Heap.get?_push_size _ rfl, ⟨rfl, rfl, rfl⟩, rfl⟩, rfl, List.nodup_nil, (fun _ hx => by cases hx), rfl⟩ (fun b o e => Heap.get?_push_of_some _ e) .nil (Nat.zero_le _) List.nodup_nil
  exact ⟨.ref s.heap.objs.size, _, I1, rfl, k _ _ _ _ (newD.go q _ (A.nil n1)) k1 (.ref _) A1⟩⟩

/-! ### subscripts -/
abbrev GX (X : Cx) (f : D → D → AH → KD → Prop) : Prop := IxR X (R2ok X.K X.w f)
theorem dcOf_some {h : AH} {x : D} {kvs : List (D × D)} (e : dcOf h x = some kvs) : (∃ a, x = .ref a ∧ h a = some (.dic kvs)) ∨ ∃ ks vs, x = .rd ks vs := by
  cases x with
  | ref a =>
    dsimp only [dcOf] at e
    split at e
    · rename_i q; cases e; exact .inl ⟨a, rfl, q⟩
    · cases e
  | rd ks vs => exact .inr ⟨ks, vs, rfl⟩
  | _ => cases e
theorem sqOf_some {K : PySem.W.Frag} {w : World} {h : AH} {H : Hp} {x : D} {v : V} {ds : List D} (A : Abs K w h H) (r : Rv K H x v) (e : sqOf h x = some ds) : ∃ a vs, v = .ref a ∧ (SqL K H a vs ∨ SqT K H a vs) ∧ RvL K H ds vs := by
  cases r with
  | tup h1 h2 => cases e; exact ⟨_, _, rfl, .inr h1, h2⟩
  | rl h1 h2 => cases e; exact ⟨_, _, rfl, .inl h1.sq, h2⟩
  | ref a =>
    dsimp only [sqOf, lsOf] at e
    split at e
    · rename_i q; cases e
      obtain ⟨vs, e1, r1⟩ := A _ _ q
      exact ⟨a, vs, rfl, .inl (SqL.of e1), r1⟩
    · cases e
  | _ => cases e
theorem atI_same {α : Type} (xs : List α) (i : Int) : G.atI xs i = L2.atI xs i := rfl
theorem ixN_same (n : Nat) (i : Int) : G.ixN n i = L2.ixN n i := rfl
theorem atI_rv {K : PySem.W.Frag} {H : Hp} {ds : List D} {vs : List V} {i : Int} {d : D} (r : RvL K H ds vs) (e : G.atI ds i = some d) : ∃ v, L2.atI vs i = some v ∧ Rv K H d v := by
  unfold G.atI at e
  unfold L2.atI
  rw [← r.length, ← ixN_same]
  cases z : G.ixN ds.length i with
  | none => rw [z] at e; cases e
  | some k =>
    rw [z] at e
    exact r.get e
theorem gx_ix (hu : X.A.units + 64 < cLine) : GX X oIx := fun value slice pins s σ H x y v u Q I rx ry ⟨d, e, h, Q0, rd, re, A, q, k⟩ hs => by
  replace q := q.un
  split at q
  · rename_i kvs ekv
    obtain ⟨hp, w', eg, q⟩ := q
    rcases dcOf_some ekv with ⟨a, rfl, ea⟩ | ⟨ks, vs, rfl⟩
    · cases rd; cases rx
      obtain ⟨L, es, ep, hR, hP, hz, hne, hnd, e4⟩ := dic_raw I A ea
      obtain ⟨n1, n2⟩ := nested_of I 8 e y u hp re ry
      refine tail_any hR.dic.typeIs F.slot_dict_getitem.lookup (GR.getItem_any (by omega) n1 n2 hR.dic hR.ks ?_ fun j en hj he => ?_) hs
      · rw [ep_keys hP]
        exact (nk_mem hp (ep_pl hP)).mpr (dget_mem eg)
      · rw [hR.at_ j] at he
        cases e5 : L[j]? with
        | none => rw [e5] at he; cases he
        | some xx =>
          rw [e5] at he; cases he
          have ex : xx.1 = nk e := by
            rw [List.getElem?_map, e5] at hj
            exact Option.some.inj hj
          obtain ⟨d', v', g1, g2, g3⟩ := dget_of hp hP hnd e5 ex
          rw [eg] at g1; cases g1
          exact ⟨v', H, I.tok _, g3, k _ _ _ _ q (Kp.refl _) g2 A⟩
    · cases rd
  · cases e with
    | int i =>
      cases re
      cases d with
      | str z =>
        cases rd with
        | str _ oz =>
        obtain ⟨c, ec, q⟩ := q
        have hone : okS ⟨#[c]⟩ := by show 1 ≤ sizeLine; decide
        exact ix_str value slice pins s σ H _ _ v u Q I rx ry ⟨z, i, c, rfl, rfl, oz, ec, k _ _ _ _ q (Kp.refl _) (.str _ hone) A⟩ hs
      | tup ds =>
        obtain ⟨w', ew, q⟩ := q
        cases rd with
        | tup h1 h2 =>
          obtain ⟨v', e1, r1⟩ := atI_rv h2 ew
          exact ix_tup value slice pins s σ H _ _ v u Q I rx ry ⟨_, _, i, v', rfl, rfl, h1, e1, k _ _ _ _ q (Kp.refl _) r1 A⟩ hs
      | rl ds =>
        obtain ⟨w', ew, q⟩ := q
        cases rd with
        | rl h1 h2 =>
          obtain ⟨v', e1, r1⟩ := atI_rv h2 ew
          exact ix_list value slice pins s σ H _ _ v u Q I rx ry ⟨_, _, i, v', rfl, rfl, h1.sq, e1, k _ _ _ _ q (Kp.refl _) r1 A⟩ hs
      | ref a =>
        dsimp only [sqOf, lsOf] at q
        split at q
        · rename_i ds e1
          split at e1
          · rename_i ds' e2
            cases e1
            cases rd
            obtain ⟨w', ew, q⟩ := q
            obtain ⟨vs, e3, r3⟩ := A _ _ e2
            obtain ⟨v', e1, r1⟩ := atI_rv r3 ew
            exact ix_list value slice pins s σ H _ _ v u Q I rx ry ⟨_, _, i, v', rfl, rfl, SqL.of e3, e1, k _ _ _ _ q (Kp.refl _) r1 A⟩ hs
          · cases e1
        · exact q.elim
      | _ => exact q.elim
    | _ => exact q.elim
theorem ge_ix {f : D → D → AH → KD → Prop} {fa fb : DE} (hr : GX X f) (ha : GE X a fa) (hb : GE X b fb) (hs : PlainIx b := by exact fun _ _ => rfl) : GE X (.Subscript a b pos) (d2 f fa fb) :=
  pe_imp (pe_ix hr ha hb hs) fun _ _ _ x => d2_ok x

/-! ### stores -/
def R3ok (K : PySem.W.Frag) (w : World) (f : D → D → D → AH → (AH → Prop) → Prop) : TSet := fun x y z H Q => ∃ d e g h Q0, Rv K H d x ∧ Rv K H e y ∧ Rv K H g z ∧ Abs K w h H ∧ f d e g h Q0 ∧ ∀ h' H', Q0 h' → Kp H H' → Abs K w h' H' → Q H'
theorem set_ok (hu : X.A.units + 64 < cLine) : PSet X (R3ok X.K X.w oPut) := fun pins s σ H x y z xv yv zv Q I rx ry rz ⟨d, e, g, h, Q0, rd, re, rg, A, q, k⟩ => by
  replace q := q.un
  split at q
  · rename_i a
    cases rd; cases rx
    split at q
    · rename_i ds ea
      split at q
      · rename_i i
        obtain ⟨j, ej, q⟩ := q
        cases re
        obtain ⟨vs, e1, r1⟩ := A _ _ ea
        have kw : Kp H (upd H a (.lst (vs.set j z))) := Kp.wr e1 trivial
        exact set_list pins s σ H (.ref a) (.int i) z (.ref a) yv zv Q I rfl ry rz ⟨a, vs, i, j, rfl, rfl, e1, by rw [← r1.length, ← ixN_same]; exact ej, k _ _ q kw (A.wr (o := .lst (ds.set j g)) e1 trivial ⟨_, upd_same, (r1.set rg j).kp kw⟩)⟩
      · exact q.elim
    · rename_i kvs ea
      obtain ⟨hp, hlt, q⟩ := q
      obtain ⟨L, es, ep, hR, hP, hz, hne, hnd, e4⟩ := dic_raw I A ea
      obtain ⟨n1, n2⟩ := nested_of I 8 e y yv hp re ry
      have hlen : L.length = kvs.length := by
        have := congrArg List.length (ep_keys hP)
        simpa using this
      have hEP : EP X.K H (e, g) (nk e, yv, zv) := ⟨rfl, hp, ⟨y, re, ry⟩, z, rg, rz⟩
      have old : ∀ h', Heap.SameBut a s.heap h' → ∀ x ∈ GR.rput L (nk e) yv zv, NestedIs h' x.1 x.2.1 ∧ x.1.depth ≤ 8 := fun h' hs x hx => by
        rcases GR.rput_mem hx with ⟨y, hy, e1, e2⟩ | e'
        · rw [e1, e2]; exact ⟨GR.same_nested hR.dic hs (hR.keys y hy).1, (hR.keys y hy).2⟩
        · subst e'; exact ⟨GR.same_nested hR.dic hs n1, n2⟩
      have fin : ∀ h' es' ep' tk, GR.Rw X.w h' a (GR.rput L (nk e) yv zv) es' ep' → Heap.SameBut a s.heap h' → ∃ H', L2.Inv X pins σ H' { s with heap := h', toks := tk } ∧ Q H' := fun h' es' ep' tk x' hs' => by
        have := dput_len kvs e g
        obtain ⟨I1, A1, k1⟩ := dic_wr (tk := tk) I A e4 hne x' hs' (ep_put hEP hP) (by rw [sz_eq]; omega) (dput_nodup hnd)
        exact ⟨_, I1, k _ _ q k1 A1⟩
      refine GR.setItem_any (k := nk e) (by omega) n1 n2 hR.dic hR.ks (by rw [List.length_map]; omega) (fun hn h' hd' hs' => fin h' _ _ _ ⟨hd', ?_, GR.rput_nodup hR.nd, old h' hs', by rw [Array.size_push, ← hR.ver]⟩ hs') fun j hj h' hd' hs' => fin h' _ _ _ ⟨hd', ?_, GR.rput_nodup hR.nd, old h' hs', by rw [Array.size_modify, ← hR.ver]⟩ hs'
      · rw [GR.rput_new hn, Array.toList_push, hR.ents, List.map_append]; rfl
      · rw [Array.toList_modify, hR.ents]
        exact GR.rput_ent hR.nd hj
    · exact q.elim
  · exact q.elim
theorem gg_sub {o i : Expr} {fo fi : DE} (hp : PG X (.Subscript o i pos) (L2.gSub (tE X.K X.w fo) (tE X.K X.w fi) (R3ok X.K X.w oPut))) : GG X (.Subscript o i pos) [] (G.gSub fo fi) :=
  ⟨fun pins s σ H v u Q I r ⟨d, ρ, h, Q0, rd, R, A, q, k⟩ => by
    refine hp.run pins s σ H v u Q I r ⟨ρ, h, _, R, A, q, fun x h1 xv H1 q1 k1 r1 A1 => ⟨ρ, h1, _, R.kp k1, A1, q1, fun y h2 yv H2 q2 k2 r2 A2 => ?_⟩⟩
    exact ⟨x, y, d, h2, _, r1.kp k2, r2, rd.kp (k1.trans k2), A2, q2, fun h3 H3 q3 k3 A3 => k _ _ _ _ q3 (k1.trans (k2.trans k3)) (R.kp (k1.trans (k2.trans k3))) A3 (Sm.refl _ _)⟩⟩
end
end G
end

section
set_option Elab.async false
set_option linter.all false
set_option maxRecDepth 100000
set_option maxHeartbeats 4000000
/-! G layer, soundness 8: in, methods, built-ins, slices, sorting. -/
namespace G
open PySem PySem.Spec PyProof.Rows L2
variable [Tb]
section
variable {X : Cx} {a b c e tg : Expr} {pos : Pos}
/-! ### in -/
theorem any_tp {n : Nat} {x : D} (hx : Dn n x) : ∀ {ys : List D}, (∀ y ∈ ys, Dn n y) → ((tpL ys).any fun y => PyData.eqv y (tp x)) = ys.any fun y => deqv y x
  | [], _ => rfl
  | y :: ys, h => by
    rw [tpL, List.any_cons, List.any_cons, eqv_tp y x n n (h y List.mem_cons_self) hx, any_tp hx fun z hz => h z (List.mem_cons_of_mem _ hz)]
theorem in_ok (hu : X.A.units + 64 < cLine) {pins : List (PySem.Addr × Obj)} {s : Shared} {σ : L2.St} {H : Hp} {x y : V} {v u : Value} {P : Bool → Prop} {d e : D} {h : AH} (I : L2.Inv X pins σ H s) (rx : L2.RelV x v) (ry : L2.RelV y u) (rd : Rv X.K H d x) (re : Rv X.K H e y) (A : Abs X.K X.w h H) (q : oInB d e h P) :
    ∃ t, P t ∧ (∀ Q : VK, Q (.bl t) H → wpAny (model X.prog X.w) X.A (compareOp .In v u) (L2.EP X pins σ Q) X.xe s) ∧ ∀ Q : VK, Q (.bl (!t)) H → wpAny (model X.prog X.w) X.A (compareOp .NotIn v u) (L2.EP X pins σ Q) X.xe s := by
  unfold oInB at q
  split at q
  · rename_i kvs ekv
    obtain ⟨hp, q⟩ := q
    rcases dcOf_some ekv with ⟨a, rfl, ea⟩ | ⟨ks, vs, rfl⟩
    · cases re; cases ry
      obtain ⟨L, es, ep, hR, hP, hz, hne, hnd, e4⟩ := dic_raw I A ea
      obtain ⟨n1, n2⟩ := nested_of I 8 d x v hp rd rx
      have em : decide (nk d ∈ L.map (·.1)) = decide (d ∈ kvs.map (·.1)) := by
        rw [ep_keys hP]
        exact decide_eq_decide.mpr (nk_mem hp (ep_pl hP))
      refine ⟨_, q, fun Q hq => GR.in_any (by omega) n1 n2 hne hR.dic hR.ks ?_, fun Q hq => GR.notIn_any (by omega) n1 n2 hne hR.dic hR.ks ?_⟩
      · rw [em]; exact ⟨.bl _, H, I.tok _, rfl, hq⟩
      · rw [em]; exact ⟨.bl _, H, I.tok _, rfl, hq⟩
    · cases re
  · split at q
    · cases re
      split at q
      · rename_i t
        cases rd
        obtain ⟨c, ec, q⟩ := q
        have et : t = ⟨#[c]⟩ := by
          cases t with
          | mk cps =>
            have : cps.toList = [c] := ec
            congr 1
            exact Array.toList_inj.mp this
        subst et
        exact ⟨_, q, fun Q hq => op_in_sign pins s σ H _ _ _ _ Q I rx ry ⟨c, _, rfl, rfl, hq⟩, fun Q hq => op_notIn_sign pins s σ H _ _ _ _ Q I rx ry ⟨c, _, rfl, rfl, hq⟩⟩
      · exact q.elim
    · split at q
      · rename_i x' ys e1 e2
        obtain ⟨ds, e3, e4⟩ := Option.bind_eq_some_iff.mp e2
        obtain ⟨as, r1⟩ := reads I A _ _ _ _ _ e1 rd rx
        have n1 := rei_dn _ _ _ e1
        have nL : ∀ y ∈ ys, Dn 12 y := fun y hy => let ⟨z, _, q⟩ := pMem (mapO_some e4) y hy; rei_dn _ _ _ q
        have dL : PyData.depthAll (tpL ys) ≤ 12 := depthAll_le fun p hp => by
          rw [tpL_map] at hp
          obtain ⟨d, hd, e⟩ := List.mem_map.mp hp
          rw [← e]; exact (nL d hd).tp.1
        have pL : PyData.plainAll (tpL ys) = true := plainAll_of fun p hp => by
          rw [tpL_map] at hp
          obtain ⟨d, hd, e⟩ := List.mem_map.mp hp
          rw [← e]; exact (nL d hd).tp.2
        have b1 := n1.tp.1
        obtain ⟨a, vs, rfl, hq, rL⟩ := sqOf_some A re e3
        cases ry
        rcases hq with hq | hq
        · obtain ⟨its, rv, ⟨o, m, ho, hc, _, hd⟩, _⟩ := I.list hq
          obtain ⟨bs, r2⟩ := reads_list (fun d d' v u => reads I A 12 d d' v u) e4 rL rv
          refine ⟨_, q, fun Q hq => SeqAt.in_list_data (Reads.list ho hc hd r2) r1 pL n1.tp.2 (by omega) ?_, fun Q hq => SeqAt.notIn_list_data (Reads.list ho hc hd r2) r1 pL n1.tp.2 (by omega) ?_⟩
          · rw [any_tp n1 nL]; exact ⟨.bl _, H, I, rfl, hq⟩
          · rw [any_tp n1 nL]; exact ⟨.bl _, H, I, rfl, hq⟩
        · obtain ⟨its, rv, ⟨o, ho, hc, m, hd⟩, _⟩ := I.tuple hq
          obtain ⟨bs, r2⟩ := reads_list (fun d d' v u => reads I A 12 d d' v u) e4 rL rv
          refine ⟨_, q, fun Q hq => SeqAt.in_tuple_data (Reads.tuple ho hc hd r2) r1 pL n1.tp.2 (by omega) ?_, fun Q hq => SeqAt.notIn_tuple_data (Reads.tuple ho hc hd r2) r1 pL n1.tp.2 (by omega) ?_⟩
          · rw [any_tp n1 nL]; exact ⟨.bl _, H, I, rfl, hq⟩
          · rw [any_tp n1 nL]; exact ⟨.bl _, H, I, rfl, hq⟩
      · exact q.elim
theorem gc_in (hu : X.A.units + 64 < cLine) : GC X .In oIn := fun pins s σ H x y v u Q I rx ry ⟨d, e, h, Q0, rd, re, A, q, k⟩ => by
  replace q := q.un
  obtain ⟨t, q1, q2, _⟩ := in_ok hu I rx ry rd re A q
  exact q2 Q (k _ _ _ _ q1 (Kp.refl _) (.bl _) A)
theorem gc_notIn (hu : X.A.units + 64 < cLine) : GC X .NotIn oNotIn := fun pins s σ H x y v u Q I rx ry ⟨d, e, h, Q0, rd, re, A, q, k⟩ => by
  replace q := q.un
  obtain ⟨t, q1, _, q2⟩ := in_ok hu I rx ry rd re A q
  exact q2 Q (k _ _ _ _ q1 (Kp.refl _) (.bl _) A)
/-- x is None, x is not None -/
theorem ge_isN {j pos'} {f : DE} (ha : GE X a f) : GE X (.Compare a [.Is] [.Constant .none j pos'] pos) (d1 oIsN f) :=
  pe_imp (pe_cmp (pc_isN ha)) fun σ H Q ⟨ρ, h, Q0, R, A, q, k⟩ => ⟨ρ, h, _, R, A, q, fun d h1 v H1 q1 k1 r1 A1 => by
    have e : decide (v = V.non) = decide (d = .non) := by cases r1 <;> simp
    dsimp only
    rw [e]
    exact k _ _ _ _ q1 k1 (.bl _) A1⟩
theorem ge_notN {j pos'} {f : DE} (ha : GE X a f) : GE X (.Compare a [.IsNot] [.Constant .none j pos'] pos) (d1 oNotN f) :=
  pe_imp (pe_cmp (pc_notN ha)) fun σ H Q ⟨ρ, h, Q0, R, A, q, k⟩ => ⟨ρ, h, _, R, A, q, fun d h1 v H1 q1 k1 r1 A1 => by
    have e : decide (v = V.non) = decide (d = .non) := by cases r1 <;> simp
    dsimp only
    rw [e]
    exact k _ _ _ _ q1 k1 (.bl _) A1⟩
theorem gt_isN {j pos'} {f : DE} (ha : GE X a f) : GT X (.Compare a [.Is] [.Constant .none j pos'] pos) (G.tQ (d1 oIsN f)) :=
  pt_imp (pt_cmp (pc_isN ha)) fun σ H Q ⟨ρ, h, Q0, R, A, q, k⟩ => ⟨ρ, h, _, R, A, q, fun d h1 v H1 q1 k1 r1 A1 => by
    have e : decide (v = V.non) = decide (d = .non) := by cases r1 <;> simp
    dsimp only
    rw [e]
    exact ⟨_, rfl, k _ _ _ q1 k1 A1⟩⟩
theorem gt_notN {j pos'} {f : DE} (ha : GE X a f) : GT X (.Compare a [.IsNot] [.Constant .none j pos'] pos) (G.tQ (d1 oNotN f)) :=
  pt_imp (pt_cmp (pc_notN ha)) fun σ H Q ⟨ρ, h, Q0, R, A, q, k⟩ => ⟨ρ, h, _, R, A, q, fun d h1 v H1 q1 k1 r1 A1 => by
    have e : decide (v = V.non) = decide (d = .non) := by cases r1 <;> simp
    dsimp only
    rw [e]
    exact ⟨_, rfl, k _ _ _ q1 k1 A1⟩⟩

/-! ### methods of built-in types -/
abbrev GM (X : Cx) (id : String) (m : D → List D → AH → KD → Prop) : Prop := MtR X id fun x vs H Q => ∃ d ds h Q0, Rv X.K H d x ∧ RvL X.K H ds vs ∧ Abs X.K X.w h H ∧ m d ds h Q0 ∧ KQ X.K X.w H Q0 Q
/-- the types that have methods here -/
abbrev mty (T : String) : Prop := T = "list" ∨ T = "dict" ∨ T = "str"
theorem ty_is {pins : List (PySem.Addr × Obj)} {s : Shared} {σ : L2.St} {H : Hp} {v : V} {u : Value} {d : D} {h : AH} {T : String} (I : L2.Inv X pins σ H s) (A : Abs X.K X.w h H) (rd : Rv X.K H d v) (r : L2.RelV v u) (hT : mty T) (t : isT T h d = some true) :
    s.TypeIs u T ∧ ∀ p, u = .ref p → ∃ o, s.heap.get? p = some o ∧ o.dict = none := by
  have lst : ∀ {p : Addr} {vs : List V}, SqL X.K H p vs → s.TypeIs (.ref p) "list" ∧ ∀ q, Value.ref p = .ref q → ∃ o, s.heap.get? q = some o ∧ o.dict = none := fun {p vs} hq => by
    obtain ⟨its, _, ⟨o, n, e, c, hd, _⟩, _⟩ := I.list hq
    exact ⟨⟨o, e, c⟩, fun q z => by cases z; exact ⟨o, e, hd⟩⟩
  cases rd with
  | non => rcases hT with rfl | rfl | rfl <;> simp [isT] at t
  | bl b => rcases hT with rfl | rfl | rfl <;> simp [isT] at t
  | int i => rcases hT with rfl | rfl | rfl <;> simp [isT] at t
  | tup h1 h2 => rcases hT with rfl | rfl | rfl <;> simp [isT] at t
  | str x o =>
    rcases hT with rfl | rfl | rfl <;> simp [isT] at t
    obtain ⟨tk, rfl⟩ := r
    exact ⟨typeIs_str s x tk, fun _ e => nomatch e⟩
  | rl h1 h2 =>
    rcases hT with rfl | rfl | rfl <;> simp [isT] at t
    cases r
    exact lst h1.sq
  | ref p =>
    cases r
    dsimp only [isT] at t
    split at t
    · rename_i ds e
      obtain ⟨vs, e1, r1⟩ := A _ _ e
      rcases hT with rfl | rfl | rfl <;> simp at t
      exact lst (SqL.of e1)
    · rename_i kvs e
      obtain ⟨L, es, ep, hR, _⟩ := dic_raw I A e
      rcases hT with rfl | rfl | rfl <;> simp at t
      exact ⟨hR.dic.typeIs, hR.dic.noDict⟩
    · cases t
theorem ge_meth {o : Expr} {es : List Expr} {name : Str} {apos cpos : Pos} {T id : String} {m : D → List D → AH → KD → Prop} {fo : DE} {fa : DA} (pa : PlainAttrs T) (slot : Slot T name id) (hty : typeOf (.builtin id) = pure (.type "method_descriptor")) (hm : GM X id m) (hT : mty T) (ho : GE X o fo) (ha : GA X (e :: es) fa)
    (hbase : attributeBase o name X.env (eval o X.env) = eval o X.env := by rfl)
    (hfew : ((backTo cpos (starEach (e :: es) X.env)).all (fun x => !x.1) && (backToKw cpos (keywordEach [] X.env)).all (fun x => x.1.isSome)
      && decide ((e :: es).length + ([] : List Keyword).length + (if ([] : List Keyword).isEmpty then 0 else 1) < 30)) = true := by rfl)
    (hline : (apos.endLine == cpos.line) = true := by rfl) (hs : starEach (e :: es) X.env = (false, eval e X.env) :: starEach es X.env := by rfl) (hplain : (backTo cpos (starEach es X.env)).any (·.1) = false := by rfl) :
    GE X (.Call (.Attribute o name apos) (e :: es) [] cpos) (dMeth T m fo fa) := by
  refine ⟨fun pins s σ H Q I ⟨ρ, h, Q0, R, A, q, k⟩ => ?_⟩
  refine wpAny_Call_method_late hbase hfew hline rfl (thn (ho.run pins s σ H (fun x H1 => ∃ d h1, Kp H H1 ∧ Rv X.K H1 d x ∧ Abs X.K X.w h1 H1 ∧ isT T h1 d = some true ∧ fa ρ h1 fun ds h2 => m d ds h2 Q0) I ⟨ρ, h, _, R, A, q, fun d h1 v H1 q1 k1 r1 A1 => ⟨d, h1, k1, r1, A1, q1.1, q1.2⟩⟩) fun v s1 ⟨x, H1, I1, r1, d, h1, k1, rd, A1, t, q1⟩ => ?_)
  obtain ⟨t1, t2⟩ := ty_is I1 A1 rd r1 hT t
  refine ⟨T, id, pa, slot, hty, t1, t2, ?_⟩
  have hA := ha.run cpos pins s1 σ H1 (fun vs H2 => ∃ ds h2, Kp H1 H2 ∧ RvL X.K H2 ds vs ∧ Abs X.K X.w h2 H2 ∧ m d ds h2 Q0) I1 ⟨ρ, h1, _, R.kp k1, A1, q1, fun ds h2 vs H2 q2 k2 r2 A2 => ⟨ds, h2, k2, r2, A2, q2⟩⟩
  rw [hs] at hA ⊢
  refine Calls.callWith_builtin (by show (false || (backTo cpos (starEach es X.env)).any (·.1)) = false; rw [hplain] <;> rfl) (Calls.evalArgs_plain ?_)
  exact thn hA fun us s2 ⟨vs, H2, I2, r2, ds, h2, k2, rL, A2, q2⟩ => hm pins s2 σ H2 x vs v us Q I2 r1 r2 ⟨d, ds, h2, Q0, rd.kp k2, rL, A2, q2, k.kp (k1.trans k2)⟩
theorem ge_meth0 {o : Expr} {name : Str} {apos cpos : Pos} {T id : String} {m : D → List D → AH → KD → Prop} {fo : DE} (pa : PlainAttrs T) (slot : Slot T name id) (hty : typeOf (.builtin id) = pure (.type "method_descriptor")) (hm : GM X id m) (hT : mty T) (ho : GE X o fo)
    (hbase : attributeBase o name X.env (eval o X.env) = eval o X.env := by rfl) (hline : (apos.endLine == cpos.line) = true := by rfl) : GE X (.Call (.Attribute o name apos) [] [] cpos) (dMeth T m fo daNil) := by
  refine ⟨fun pins s σ H Q I ⟨ρ, h, Q0, R, A, q, k⟩ => ?_⟩
  refine wpAny_Call_method0_late hbase hline (thn (ho.run pins s σ H (fun x H1 => ∃ d h1, Kp H H1 ∧ Rv X.K H1 d x ∧ Abs X.K X.w h1 H1 ∧ isT T h1 d = some true ∧ m d [] h1 Q0) I ⟨ρ, h, _, R, A, q, fun d h1 v H1 q1 k1 r1 A1 => ⟨d, h1, k1, r1, A1, q1.1, q1.2⟩⟩) fun v s1 ⟨x, H1, I1, r1, d, h1, k1, rd, A1, t, q1⟩ => ?_)
  obtain ⟨t1, t2⟩ := ty_is I1 A1 rd r1 hT t
  exact ⟨T, id, pa, slot, hty, t1, t2, Calls.callWith_builtin rfl (PySem.evalArgs_none (hm pins s1 σ H1 x [] v [] Q I1 r1 .nil ⟨d, [], h1, Q0, rd, .nil, A1, q1, k.kp k1⟩))⟩
theorem gm_append : GM X "list.append" mAppend := fun pins s σ H x vs v us Q I rx rv ⟨d, ds, h, Q0, rd, rL, A, q, k⟩ => by
  unfold mAppend at q
  split at q
  · rename_i a e
    split at q
    · rename_i ds' ea
      obtain ⟨z, q⟩ := q
      cases rd
      obtain ⟨xs, e1, r1⟩ := A _ _ ea
      cases rL with
      | @cons _ y _ _ ra rb =>
        cases rb
        have kw : Kp H (upd H a (.lst (xs ++ [y]))) := Kp.wr e1 trivial
        exact mt_append pins s σ H _ _ v us Q I rx rv ⟨a, xs, y, rfl, rfl, e1, by rw [← r1.length, sz_eq]; exact z, k _ _ _ _ q kw .non (A.wr (o := .lst (ds' ++ [e])) e1 trivial ⟨_, upd_same, (r1.append (.one ra)).kp kw⟩)⟩
    · exact q.elim
  · exact q.elim
end
end G
end

section
set_option Elab.async false
set_option linter.all false
set_option maxRecDepth 100000
set_option maxHeartbeats 4000000
/-! G layer, soundness 9: built-in functions and types called, slices, sorting. -/
namespace G
open PySem PySem.Spec PyProof.Rows L2
variable [Tb]
section
variable {X : Cx} {a b c e tg : Expr} {pos : Pos}
abbrev GB (X : Cx) (f : Value) (b : FS) : Prop := CallR X f fun vs H Q => ∃ ds h Q0, RvL X.K H ds vs ∧ Abs X.K X.w h H ∧ b ds h Q0 ∧ KQ X.K X.w H Q0 Q
theorem ge_callB {id : String} {x : Str} {p : Pos} {es : List Expr} {fb : FS} {fa : DA} (hc : GB X (.builtin id) fb) (hm : X.mg x = none) (hv : bootBuiltins x = some (.builtin id)) (ha : GA X (e :: es) fa) (hg : Gl X x := by rfl) (hn : x ≠ "__name__" := by decide) (hdb : (x == ("__debug__" : Str)) = false := by decide)
    (he : starEach (e :: es) X.env = (false, eval e X.env) :: starEach es X.env := by rfl) (hpl : (backTo pos (starEach es X.env)).any (·.1) = false := by rfl) : GE X (.Call (.Name x p) (e :: es) [] pos) (dCall fb fa) :=
  pe_imp (pe_callB hc hg hm hv ha hn hdb he hpl) fun σ H Q ⟨ρ, h, Q0, R, A, q, k⟩ => ⟨ρ, h, _, R, A, q, fun ds h1 vs H1 q1 k1 r1 A1 => ⟨ds, h1, Q0, r1, A1, q1, k.kp k1⟩⟩
theorem ge_callTy {T : String} {x : Str} {p : Pos} {es : List Expr} {fb : FS} {fa : DA} (hc : GB X (.type T) fb) (hm : X.mg x = none) (hv : bootBuiltins x = some (.type T)) (ha : GA X (e :: es) fa) (hg : Gl X x := by rfl) (hn : x ≠ "__name__" := by decide) (hdb : (x == ("__debug__" : Str)) = false := by decide)
    (he : starEach (e :: es) X.env = (false, eval e X.env) :: starEach es X.env := by rfl) (hpl : (backTo pos (starEach es X.env)).any (·.1) = false := by rfl) : GE X (.Call (.Name x p) (e :: es) [] pos) (dCall fb fa) :=
  pe_imp (pe_callTy hc hg hm hv ha hn hdb he hpl) fun σ H Q ⟨ρ, h, Q0, R, A, q, k⟩ => ⟨ρ, h, _, R, A, q, fun ds h1 vs H1 q1 k1 r1 A1 => ⟨ds, h1, Q0, r1, A1, q1, k.kp k1⟩⟩
theorem rvL_one {K : PySem.W.Frag} {H : Hp} {d : D} {vs : List V} (r : RvL K H [d] vs) : ∃ v, vs = [v] ∧ Rv K H d v := by
  cases r with
  | cons ra rb => cases rb; exact ⟨_, rfl, ra⟩
theorem gb_len : GB X (.builtin "len") bLen := fun pins s σ H vs us Q I r ⟨ds, h, Q0, rL, A, q, k⟩ => by
  unfold bLen at q
  split at q
  · rename_i x
    obtain ⟨v, rfl, rv⟩ := rvL_one rL
    split at q
    · rename_i z
      cases rv with
      | str _ o => exact call_len_str pins s σ H _ us Q I r ⟨z, rfl, o, k _ _ _ _ q (Kp.refl _) (.int _) A⟩
    · split at q
      · rename_i ds e1
        obtain ⟨a, vs, rfl, hq, rL'⟩ := sqOf_some A rv e1
        exact call_len_seq pins s σ H _ us Q I r ⟨a, vs, rfl, hq, by rw [← rL'.length]; exact k _ _ _ _ q (Kp.refl _) (.int _) A⟩
      · exact q.elim
  · exact q.elim
theorem intsOf_some {K : PySem.W.Frag} {H : Hp} : ∀ {ds : List D} {ns : List Int} {vs : List V}, intsOf ds = some ns → RvL K H ds vs → vs = ns.map V.int
  | [], ns, vs, e, r => by cases e; cases r; rfl
  | .int i :: ds, ns, vs, e, r => by
    simp only [intsOf, Option.map_eq_some_iff] at e
    obtain ⟨ms, e1, rfl⟩ := e
    cases r with
    | cons ra rb =>
      cases ra
      rw [intsOf_some e1 rb]; rfl
  | .non :: _, _, _, e, _ => by simp [intsOf] at e
  | .bl _ :: _, _, _, e, _ => by simp [intsOf] at e
  | .str _ :: _, _, _, e, _ => by simp [intsOf] at e
  | .tup _ :: _, _, _, e, _ => by simp [intsOf] at e
  | .rl _ :: _, _, _, e, _ => by simp [intsOf] at e
  | .rd _ _ :: _, _, _, e, _ => by simp [intsOf] at e
  | .ref _ :: _, _, _, e, _ => by simp [intsOf] at e
theorem lsOf_some {K : PySem.W.Frag} {w : World} {h : AH} {H : Hp} {x : D} {v : V} {ds : List D} (A : Abs K w h H) (r : Rv K H x v) (e : lsOf h x = some ds) : ∃ a vs, v = .ref a ∧ SqL K H a vs ∧ RvL K H ds vs := by
  cases r with
  | rl h1 h2 => cases e; exact ⟨_, _, rfl, h1.sq, h2⟩
  | ref a =>
    dsimp only [lsOf] at e
    split at e
    · rename_i q; cases e
      obtain ⟨vs, e1, r1⟩ := A _ _ q
      exact ⟨a, vs, rfl, SqL.of e1, r1⟩
    · cases e
  | _ => cases e
theorem gb_sum (hc : X.calm = true) : GB X (.builtin "sum") bSum := fun pins s σ H vs us Q I r ⟨ds, h, Q0, rL, A, q, k⟩ => by
  unfold bSum at q
  split at q
  · rename_i x
    obtain ⟨v, rfl, rv⟩ := rvL_one rL
    split at q
    · rename_i ns e1
      obtain ⟨ds, e2, e3⟩ := Option.bind_eq_some_iff.mp e1
      obtain ⟨a, vs, rfl, hq, rL'⟩ := lsOf_some A rv e2
      have := intsOf_some e3 rL'
      subst this
      exact cr_sum hc pins s σ H _ us Q I r ⟨a, ns, rfl, hq, k _ _ _ _ q (Kp.refl _) (.int _) A⟩
    · exact q.elim
  · exact q.elim
/-! ### dict(pairs) -/
theorem pairs_raw {pins : List (PySem.Addr × Obj)} {s : Shared} {σ : L2.St} {H : Hp} (I : L2.Inv X pins σ H s) : ∀ {ds : List D} {ps : List (D × D)} {vs : List V} {us : List Value}, pairsOf ds = some ps → (∀ p ∈ ps, pl 8 p.1 = true) → RvL X.K H ds vs → L2.Vals vs us →
    ∃ L : List GR.RE, Paired (EP X.K H) ps L ∧ Paired (fun (u : Value) (x : GR.RE) => ∃ T, u = .ref T ∧ PairAt s.heap T x.2.1 x.2.2) us L
  | [], ps, vs, us, e, hp, r, r2 => by cases e; cases r; cases r2; exact ⟨[], .nil, .nil⟩
  | .tup [kk, vv] :: ds, ps, vs, us, e, hp, r, r2 => by
    simp only [pairsOf, Option.map_eq_some_iff] at e
    obtain ⟨qs, e1, rfl⟩ := e
    cases r with
    | cons ra rb =>
      cases r2 with
      | cons sa sb =>
        obtain ⟨L, h1, h2⟩ := pairs_raw I e1 (fun p hq => hp p (List.mem_cons_of_mem _ hq)) rb sb
        cases ra with
        | tup hT hL =>
          cases sa
          obtain ⟨its, rv, ht, _⟩ := I.tuple hT
          cases hL with
          | cons x1 hL =>
            cases hL with
            | cons x2 hL =>
              cases hL
              cases rv with
              | cons y1 rv =>
                cases rv with
                | cons y2 rv =>
                  cases rv
                  have hk := hp (kk, vv) List.mem_cons_self
                  exact ⟨_, .cons (b := (nk kk, _, _)) ⟨rfl, hk, ⟨_, x1, y1⟩, _, x2, y2⟩ h1, .cons ⟨_, rfl, .inl ht⟩ h2⟩
  | .tup [] :: _, _, _, _, e, _, _, _ => by simp [pairsOf] at e
  | .tup [_] :: _, _, _, _, e, _, _, _ => by simp [pairsOf] at e
  | .tup (_ :: _ :: _ :: _) :: _, _, _, _, e, _, _, _ => by simp [pairsOf] at e
  | .non :: _, _, _, _, e, _, _, _ => by simp [pairsOf] at e
  | .int _ :: _, _, _, _, e, _, _, _ => by simp [pairsOf] at e
  | .bl _ :: _, _, _, _, e, _, _, _ => by simp [pairsOf] at e
  | .str _ :: _, _, _, _, e, _, _, _ => by simp [pairsOf] at e
  | .rl _ :: _, _, _, _, e, _, _, _ => by simp [pairsOf] at e
  | .rd _ _ :: _, _, _, _, e, _, _, _ => by simp [pairsOf] at e
  | .ref _ :: _, _, _, _, e, _, _, _ => by simp [pairsOf] at e
theorem ep_puts {K : PySem.W.Frag} {H : Hp} : ∀ {ps : List (D × D)} {L : List GR.RE}, Paired (EP K H) ps L → ∀ {kvs : List (D × D)} {M : List GR.RE}, Paired (EP K H) kvs M → Paired (EP K H) (dputs kvs ps) (GR.rputs M L)
  | _, _, .nil, _, _, m => m
  | p :: _, x :: _, .cons r t, kvs, M, m => by
    obtain ⟨a, b, c⟩ := x
    have h1 : a = nk p.1 := r.1
    subst h1
    show Paired _ (dputs (dput kvs p.1 p.2) _) (GR.rputs (GR.rput M (nk p.1) b c) _)
    exact ep_puts t (ep_put r m)
theorem dputs_nodup : ∀ (ps kvs : List (D × D)), (kvs.map (·.1)).Nodup → ((dputs kvs ps).map (·.1)).Nodup
  | [], kvs, h => h
  | p :: ps, kvs, h => dputs_nodup ps (dput kvs p.1 p.2) (dput_nodup h)
theorem dputs_len : ∀ (ps kvs : List (D × D)), (dputs kvs ps).length ≤ kvs.length + ps.length
  | [], kvs => Nat.le_refl _
  | p :: ps, kvs => by
    have h1 := dputs_len ps (dput kvs p.1 p.2)
    have h2 := dput_len kvs p.1 p.2
    show (dputs (dput kvs p.1 p.2) ps).length ≤ _
    simp only [List.length_cons]; omega
theorem pairsOf_len : ∀ {ds : List D} {ps : List (D × D)}, pairsOf ds = some ps → ps.length = ds.length
  | [], _, e => by cases e; rfl
  | d :: ds, ps, e => by
    unfold pairsOf at e
    split at e
    · rename_i h; cases h
    · rename_i h; cases h
      simp only [Option.map_eq_some_iff] at e
      obtain ⟨qs, e1, rfl⟩ := e
      simp [pairsOf_len e1]
    · cases e
theorem gb_dict (hc : X.calm = true) (hu : X.A.units + 64 < cLine) : GB X (.type "dict") bDict := fun pins s σ H vs us Q I r ⟨ds, h, Q0, rL, A, q, k⟩ => by
  unfold bDict at q
  split at q
  · rename_i x
    obtain ⟨v, rfl, rv⟩ := rvL_one rL
    split at q
    · rename_i ps e1
      obtain ⟨ds, e2, e3⟩ := Option.bind_eq_some_iff.mp e1
      obtain ⟨hp, q⟩ := q
      obtain ⟨a, vs, rfl, hq, rL'⟩ := lsOf_some A rv e2
      obtain ⟨u, rfl, ru⟩ := vals1 r
      cases ru
      obtain ⟨its, rits, ⟨o, n, ho, hcl, hdc, hdt⟩, hz⟩ := I.list hq
      obtain ⟨L, hL, hT⟩ := pairs_raw I e3 hp rL' rits
      have hTs : ∃ Ts : Nat → PySem.Addr, PairItems s.heap its.toArray Ts (L.map (·.2)) := by
        have key : ∀ {us : List Value} {L : List GR.RE}, Paired (fun (u : Value) (x : GR.RE) => ∃ T, u = .ref T ∧ PairAt s.heap T x.2.1 x.2.2) us L → ∃ Ts : Nat → PySem.Addr, us.length = L.length ∧ ∀ j k v, (L.map (·.2))[j]? = some (k, v) → us[j]? = some (.ref (Ts j)) ∧ PairAt s.heap (Ts j) k v := by
          intro us L hp
          induction hp with
          | nil => exact ⟨fun _ => 0, rfl, fun j k v e => by simp at e⟩
          | @cons u x us L r t ih =>
            obtain ⟨T, rfl, pT⟩ := r
            obtain ⟨Ts, l1, l2⟩ := ih
            refine ⟨fun j => match j with | 0 => T | j + 1 => Ts j, congrArg (· + 1) l1, fun j k v e => ?_⟩
            cases j with
            | zero =>
              simp only [List.map_cons, List.getElem?_cons_zero, Option.some.injEq] at e
              rw [show x.2.1 = k by rw [e], show x.2.2 = v by rw [e]] at pT
              exact ⟨rfl, pT⟩
            | succ j =>
              have := l2 j k v (by simpa using e)
              exact ⟨by simpa using this.1, this.2⟩
        obtain ⟨Ts, l1, l2⟩ := key hT
        exact ⟨Ts, by simp [l1], fun j k v e => by simpa using l2 j k v e⟩
      obtain ⟨Ts, hTs⟩ := hTs
      have hlen : L.length = ps.length := by
        have := congrArg List.length (ep_keys hL)
        simpa using this
      have hl2 := pairsOf_len e3
      have hl3 := rL'.length
      refine GR.dict_list (I.ok.hd hc) (by omega) ⟨o, n, ho, hcl, hdc, hdt⟩ hTs (fun p hp' => ?_) (by omega) fun h' tk es ep hR kk => ?_
      · obtain ⟨pp, hpp, rr⟩ := pMem hL p hp'
        obtain ⟨v, a1, a2⟩ := rr.2.2.1
        rw [rr.1]
        exact nested_of I 8 pp.1 v p.2.1 rr.2.1 a1 a2
      · have hb := dputs_len ps []
        obtain ⟨I1, A1, k1, n1⟩ := dic_new (kvs := dputs [] ps) (tk := tk) I A rfl hR kk (ep_puts hL .nil) (by rw [List.length_nil] at hb; omega) (dputs_nodup ps [] List.nodup_nil)
        exact ⟨.ref s.heap.objs.size, _, I1, rfl, k _ _ _ _ (newD.go q _ (A.nil n1)) k1 (.ref _) A1⟩
    · exact q.elim
  · exact q.elim

/-! ### sorted -/
theorem each_of {α β γ : Type} {F : α → β → Prop} {G : β → γ → Prop} {R : γ → α × β → Prop} (f : ∀ a b c, F a b → G b c → R c (a, b)) : ∀ {xs : List α} {ys : List β} {zs : List γ}, Paired F xs ys → Paired G ys zs → PySem.W.EachIs R zs (xs.zip ys)
  | _, _, _, .nil, .nil => .nil
  | _, _, _, .cons a t, .cons b u => .cons (f _ _ _ a b) (each_of f t u)
theorem rvL_paired {K : PySem.W.Frag} {H : Hp} : ∀ {ds : List D} {vs : List V}, RvL K H ds vs → Paired (Rv K H) ds vs
  | _, _, .nil => .nil
  | _, _, .cons a t => .cons a (rvL_paired t)
theorem zip_fst {α β : Type} : ∀ {xs : List α} {ys : List β}, xs.length = ys.length → (xs.zip ys).map Prod.fst = xs
  | [], [], _ => rfl
  | x :: xs, y :: ys, h => by rw [List.zip_cons_cons, List.map_cons, zip_fst (by simpa using h)]
  | [], _ :: _, h => by simp at h
  | _ :: _, [], h => by simp at h
theorem each_out {K : PySem.W.Frag} {H : Hp} : ∀ {us : List Value} {ps : List (D × V)}, PySem.W.EachIs (fun u (p : D × V) => Rv K H p.1 p.2 ∧ L2.RelV p.2 u) us ps → RvL K H (ps.map Prod.fst) (ps.map Prod.snd) ∧ L2.Vals (ps.map Prod.snd) us
  | _, _, .nil => ⟨.nil, .nil⟩
  | _, _, .cons r t => ⟨.cons r.1 (each_out t).1, .cons r.2 (each_out t).2⟩
theorem each_imp {α β : Type} {F G : α → β → Prop} (f : ∀ a b, F a b → G a b) : ∀ {xs : List α} {ys : List β}, PySem.W.EachIs F xs ys → PySem.W.EachIs G xs ys
  | _, _, .nil => .nil
  | _, _, .cons a t => .cons (f _ _ a) (each_imp f t)
theorem each_mem {α β : Type} {F : α → β → Prop} : ∀ {xs : List α} {ys : List β}, PySem.W.EachIs F xs ys → PySem.W.EachIs (fun a b => F a b ∧ b ∈ ys) xs ys
  | _, _, .nil => .nil
  | _, _, .cons a t => .cons ⟨a, List.mem_cons_self⟩ (each_imp (fun _ _ h => ⟨h.1, List.mem_cons_of_mem _ h.2⟩) (each_mem t))
theorem dle_tp (rev : Bool) {n : Nat} {x y : D} (hx : Dn n x) (hy : Dn n y) (h : alk x y = true) : PySem.W.dataLe rev tp x y = dle rev x y := by
  have h1 : PyProof.Rows.lexLt itemOrd (PySem.W.keyToks (tp x)) (PySem.W.keyToks (tp y)) = dlt x y := dlt_tp x y n n hx hy h
  have h2 : PyProof.Rows.lexLt itemOrd (PySem.W.keyToks (tp y)) (PySem.W.keyToks (tp x)) = dlt y x := dlt_tp y x n n hy hx ((alk_comm _ _).trans h)
  cases rev with
  | false =>
    show (!PyProof.Rows.lexLt itemOrd (PySem.W.keyToks (tp y)) (PySem.W.keyToks (tp x))) = _
    rw [h2]; rfl
  | true =>
    show (!PyProof.Rows.lexLt itemOrd (PySem.W.keyToks (tp x)) (PySem.W.keyToks (tp y))) = _
    rw [h1]; rfl
theorem gb_sorted (hu : X.A.units + 100 < cLine) : GB X (.builtin "sorted") (bSorted false) := fun pins s σ H vs us Q I r ⟨ds, h, Q0, rL, A, q, k⟩ => by
  unfold bSorted at q
  split at q
  · rename_i x
    obtain ⟨v, rfl, rv⟩ := rvL_one rL
    split at q
    · rename_i ds e1
      obtain ⟨⟨hal, hdt, hsort⟩, q⟩ := q
      obtain ⟨a, vs, rfl, hq, rL'⟩ := lsOf_some A rv e1
      obtain ⟨u, rfl, ru⟩ := vals1 r
      cases ru
      obtain ⟨its, rits, hpl, hz⟩ := I.list hq
      have hl := rL'.length
      have hE := each_of (R := fun u (p : D × V) => Rv X.K H p.1 p.2 ∧ L2.RelV p.2 u) (fun a b c h1 h2 => ⟨h1, h2⟩) (rvL_paired rL') rits
      have hmem : ∀ p ∈ ds.zip vs, p.1 ∈ ds := fun p hp => (List.of_mem_zip (a := p.1) (b := p.2) hp).1
      have hdn : ∀ p ∈ ds.zip vs, Dn 12 p.1 := fun p hp => dat_dn 12 _ (hdt _ (hmem p hp))
      have hER : PySem.W.EachIs (fun u (p : D × V) => ∃ as, Reads s.heap u (tp p.1) as) its (ds.zip vs) :=
        each_imp (fun u p ⟨⟨h1, h2⟩, hm⟩ => reads I A 12 _ _ _ _ (rei_dat 12 _ (hdt _ (hmem p hm))) h1 h2) (each_mem hE)
      have hfst : ((ds.zip vs).mergeSort (PySem.W.dataLe false fun p : D × V => tp p.1)).map Prod.fst = ds.mergeSort (dle false) := by
        rw [List.map_mergeSort (s := dle false), zip_fst hl]
        intro p hp p' hp'
        exact dle_tp false (hdn p hp) (hdn p' hp') (hal _ (hmem p hp) _ (hmem p' hp'))
      refine PySem.W.sorted_data (enc := fun p : D × V => tp p.1) hpl.isList hE hER ?_ ?_ ?_ ?_ fun out ho eo => ?_
      · intro d hd d' hd'
        obtain ⟨p, hp, rfl⟩ := List.mem_map.mp hd
        obtain ⟨p', hp', rfl⟩ := List.mem_map.mp hd'
        exact alike_tp _ _ 12 12 (hdn p hp) (hdn p' hp') (hal _ (hmem p hp) _ (hmem p' hp'))
      · rcases hsort with hs | hs
        · refine .inl fun d hd => ?_
          obtain ⟨p, hp, rfl⟩ := List.mem_map.mp hd
          obtain ⟨x, r, e⟩ := hs _ (hmem p hp)
          exact ⟨tp x, tpL r, by rw [e, tp, tpL]⟩
        · refine .inr fun d hd => ?_
          obtain ⟨p, hp, rfl⟩ := List.mem_map.mp hd
          obtain ⟨n1, n2⟩ := hs _ (hmem p hp)
          have hd' := hdn p hp
          refine ⟨tp_none hd' n1, fun xs e => ?_⟩
          cases e3 : p.1 <;> rw [e3] at e <;> simp [tp] at e
          exact n2 _ e3
      · rw [List.length_zip, hl, Nat.min_self]; exact hz
      · intro p hp
        have := (hdn p hp).tp.1
        omega
      · obtain ⟨r1, r2⟩ := each_out eo
        rw [hfst] at r1
        obtain ⟨n, e4⟩ := sortedAll_at s.heap its out.toArray
        have nn : H (s.heap.objs.size + 1) = none := I.hok.fresh (Nat.le_succ _)
        have hlen : (((ds.zip vs).mergeSort (PySem.W.dataLe false fun p : D × V => tp p.1)).map Prod.snd).length ≤ sizeLine := by
          rw [List.length_map, List.length_mergeSort, List.length_zip, hl, Nat.min_self]; exact hz
        refine ⟨.ref (s.heap.objs.size + 1), _, I.laid (a := s.heap.objs.size + 1) (t' := s.toks) (o := .lst (((ds.zip vs).mergeSort (PySem.W.dataLe false fun p : D × V => tp p.1)).map Prod.snd)) (fun b o e => sortedAll_old e) (Nat.le_succ _) ⟨hlen, out, n, r2, e4⟩, rfl, newL_ok q A r1 nn (Kp.refl _) k⟩
    · exact q.elim
  · exact q.elim

/-! ### isinstance -/
theorem ge_isT {T : String} {p p2 : Pos} {f : DE} (hT : T = "int" ∨ T = "bool" ∨ T = "str" ∨ T = "list" ∨ T = "tuple" ∨ T = "dict") (ha : GE X a f) (hm : X.mg "isinstance" = none) (hm2 : X.mg T = none) (hv : bootBuiltins T = some (.type T)) (hg : Gl X "isinstance" := by rfl) (hg2 : Gl X T := by rfl) (hn : (T : Str) ≠ "__name__" := by decide) (hd : ((T : Str) == ("__debug__" : Str)) = false := by decide)
    (he : starEach [a, .Name T p2] X.env = (false, eval a X.env) :: starEach [.Name T p2] X.env := by rfl) (hpl : (backTo pos (starEach [.Name T p2] X.env)).any (·.1) = false := by rfl) (hs : starEach [.Name T p2] X.env = (false, eval (.Name T p2) X.env) :: starEach [] X.env := by rfl) : GE X (.Call (.Name "isinstance" p) [a, .Name T p2] [] pos) (d1 (oIsT T) f) := by
  have hc : CallR X (.builtin "isinstance") fun vs H Q => ∃ d v h Q0, vs = [v, .ty T] ∧ Rv X.K H d v ∧ Abs X.K X.w h H ∧ oIsT T d h Q0 ∧ KQ X.K X.w H Q0 Q := fun pins s σ H vs us Q I r ⟨d, v, h, Q0, ev, rd, A, q, k⟩ => by
    subst ev
    obtain ⟨u1, u2, rfl, r1, r2⟩ := vals2 r
    cases (show u2 = Value.type T from r2)
    unfold oIsT at q
    split at q
    · rename_i b eb
      have fin : ∀ {Tx : String} {P : Heap → Prop}, PySem.W.KitX X.K u1 (.type Tx) P → P s.heap → u1 ≠ .builtin "__main__.__loader__#opaque" → kitB Tx T = some b → wpAny (model X.prog X.w) X.A (call (.builtin "isinstance") [u1, .type T]) (L2.EP X pins σ Q) X.xe s := fun Z pp nn ek =>
        PySem.W.kia_one Z I.kIn pp (kit_ty ek) nn fun tk => ⟨.bl b, H, I.tok tk, rfl, k _ _ _ _ q (Kp.refl _) (.bl _) A⟩
      have lst : ∀ {p : PySem.Addr} {vs : List V}, SqL X.K H p vs → PySem.W.KitAt p "list" s.heap := fun {p vs} hq => by
        obtain ⟨its, _, ⟨o, n, e, c, hd, _⟩, _⟩ := I.list hq
        exact ⟨o, e, c⟩
      cases rd with
      | non => cases r1; exact fin PySem.W.kitx_none True.intro (fun z => nomatch z) (by rcases hT with rfl | rfl | rfl | rfl | rfl | rfl <;> (simp [isT] at eb; subst eb; decide +kernel))
      | bl y => cases r1; exact fin PySem.W.kitx_bool True.intro (fun z => nomatch z) (by rcases hT with rfl | rfl | rfl | rfl | rfl | rfl <;> (simp [isT] at eb; subst eb; decide +kernel))
      | int i => obtain ⟨t, rfl⟩ := r1; exact fin PySem.W.kitx_int True.intro (fun z => nomatch z) (by rcases hT with rfl | rfl | rfl | rfl | rfl | rfl <;> (simp [isT] at eb; subst eb; decide +kernel))
      | str x o => obtain ⟨t, rfl⟩ := r1; exact fin PySem.W.kitx_str True.intro (fun z => nomatch z) (by rcases hT with rfl | rfl | rfl | rfl | rfl | rfl <;> (simp [isT] at eb; subst eb; decide +kernel))
      | tup h1 h2 =>
        cases r1
        obtain ⟨its, rv, ⟨o, ho, hc, m, hd⟩, _⟩ := I.tuple h1
        exact fin PySem.W.kitx_tuple ⟨o, ho, hc⟩ (fun z => nomatch z) (by rcases hT with rfl | rfl | rfl | rfl | rfl | rfl <;> (simp [isT] at eb; subst eb; decide +kernel))
      | rl h1 h2 => cases r1; exact fin PySem.W.kitx_list (lst h1.sq) (fun z => nomatch z) (by rcases hT with rfl | rfl | rfl | rfl | rfl | rfl <;> (simp [isT] at eb; subst eb; decide +kernel))
      | ref p =>
        cases r1
        dsimp only [isT] at eb
        split at eb
        · rename_i ds e
          obtain ⟨vs, e1, r1⟩ := A _ _ e
          exact fin PySem.W.kitx_list (lst (SqL.of e1)) (fun z => nomatch z) (by rcases hT with rfl | rfl | rfl | rfl | rfl | rfl <;> (simp at eb; subst eb; decide +kernel))
        · rename_i kvs e
          obtain ⟨L, es, ep, hR, _⟩ := dic_raw I A e
          exact fin PySem.W.kitx_dict hR.dic.typeIs (fun z => nomatch z) (by rcases hT with rfl | rfl | rfl | rfl | rfl | rfl <;> (simp at eb; subst eb; decide +kernel))
        · cases eb
    · exact q.elim
  refine pe_imp (pe_callB hc hg hm boot_isinstance (pa_cons ha (pa_cons (pe_bltn (v := .ty T) hg2 hm2 hv rfl hn hd) pa_nil hs) he) (by decide) (by decide) he hpl) fun σ H Q ⟨ρ, h, Q0, R, A, q, k⟩ => ⟨ρ, h, _, R, A, q, fun d h1 v H1 q1 k1 r1 A1 => ⟨d, v, h1, Q0, rfl, r1, A1, q1, k.kp k1⟩⟩

/-! ### slices -/
def tO (K : PySem.W.Frag) (w : World) (f : DO) : TO := fun σ H Q => ∃ ρ h Q0, RS K H ρ σ ∧ Abs K w h H ∧ f ρ h Q0 ∧ ∀ i h' H', Q0 i h' → Kp H H' → Abs K w h' H' → Q i H'
abbrev GOp (X : Cx) (e : Option Expr) (f : DO) : Prop := PO X e (tO X.K X.w f)
theorem po_imp {o : Option Expr} {t t' : TO} (h : PO X o t) (f : ∀ σ H Q, t' σ H Q → t σ H Q) : PO X o t' := ⟨fun pins s σ H Q I q => h.run pins s σ H Q I (f _ _ _ q)⟩
theorem go_none : GOp X none doNone := po_imp po_none fun σ H Q ⟨ρ, h, Q0, R, A, q, k⟩ => k _ _ _ q (Kp.refl _) A
theorem go_some {f : DE} (h : GE X e f) : GOp X (some e) (doSome f) := po_imp (po_some h) fun σ H Q ⟨ρ, h, Q0, R, A, q, k⟩ => ⟨ρ, h, _, R, A, q, fun d h1 v H1 q1 k1 r1 A1 => by
  cases d <;> first | exact q1.elim | skip
  cases r1
  exact ⟨_, rfl, k _ _ _ q1 k1 A1⟩⟩
theorem cut_rv {K : PySem.W.Frag} {H : Hp} {ds : List D} {vs : List V} (r : RvL K H ds vs) (lo hi : Option Int) : RvL K H (cut ds lo hi) (cutV vs lo hi) := by
  unfold cut cutV
  rw [← r.length]
  exact (r.drop _).take _
theorem rvL_rev {K : PySem.W.Frag} {H : Hp} : ∀ {ds : List D} {vs : List V}, RvL K H ds vs → RvL K H ds.reverse vs.reverse
  | _, _, .nil => .nil
  | _, _, .cons r t => by rw [List.reverse_cons, List.reverse_cons]; exact (rvL_rev t).append (.one r)
theorem sl_ok : SlR X fun x lo hi H Q => ∃ d h Q0, Rv X.K H d x ∧ Abs X.K X.w h H ∧ oSl d lo hi h Q0 ∧ KQ X.K X.w H Q0 Q := fun pins s σ H x v vl vu lo hi sl Q I rx hs pl pu ⟨d, h, Q0, rd, A, q, k⟩ => by
  unfold oSl at q
  split at q
  · rename_i z
    cases rd with
    | str _ o =>
      have ok : okS (cutS z lo hi) := by
        show (cutS z lo hi).length ≤ sizeLine
        have : (cutS z lo hi).length ≤ z.length := by
          unfold cutS Str.length
          simp only [List.size_toArray, List.length_take, List.length_drop, Array.length_toList]
          omega
        exact Nat.le_trans this o
      exact sl_str pins s σ H _ v vl vu lo hi sl Q I rx hs pl pu ⟨z, rfl, o, k _ _ _ _ q (Kp.refl _) (.str _ ok) A⟩
  · rename_i ds
    cases rd with
    | tup h1 h2 =>
      refine sl_tupA pins s σ H _ v vl vu lo hi sl Q I rx hs pl pu ⟨_, _, rfl, h1, fun e => ?_, fun e p n => ?_⟩
      · have : cut ds lo hi = ds := by
          unfold cut
          rw [← h2.length] at e
          rw [show sIx ds.length 0 lo = 0 from e.1, show sIx ds.length ds.length hi = ds.length from e.2]
          simp
        rw [this] at q
        exact k _ _ _ _ q (Kp.refl _) (.tup h1 h2) A
      · exact k _ _ _ _ q (Kp.new n) (.tup (SqT.of upd_same) ((cut_rv h2 lo hi).kp (Kp.new n))) (A.newH n)
  · split at q
    · rename_i ds e1
      obtain ⟨a, vs, rfl, hq, rL⟩ := lsOf_some A rd e1
      exact sl_list pins s σ H _ v vl vu lo hi sl Q I rx hs pl pu ⟨a, vs, rfl, hq, fun p n => newL_ok q A (cut_rv rL lo hi) n (Kp.refl _) k⟩
    · exact q.elim
theorem ge_slice {lo hi : Option Expr} {p2 : Pos} {f : DE} {fl fh : DO} (he : GE X e f) (hl : GOp X lo fl) (hh : GOp X hi fh) : GE X (.Subscript e (.Slice lo hi none p2) pos) (dSl f fl fh) :=
  pe_imp (pe_slice sl_ok he hl hh) fun σ H Q ⟨ρ, h, Q0, R, A, q, k⟩ => ⟨ρ, h, _, R, A, q, fun d h1 v H1 q1 k1 r1 A1 => ⟨ρ, h1, _, R.kp k1, A1, q1, fun l h2 H2 q2 k2 A2 => ⟨ρ, h2, _, R.kp (k1.trans k2), A2, q2, fun u h3 H3 q3 k3 A3 =>
    ⟨d, h3, Q0, r1.kp (k2.trans k3), A3, q3, k.kp (k1.trans (k2.trans k3))⟩⟩⟩⟩
theorem ge_rev {k : Nat} {p1 p2 p3 : Pos} {f : DE} (he : GE X e f) : GE X (.Subscript e (.Slice none none (some (.UnaryOp .USub (.Constant (.int 1) k p1) p2)) p3) pos) (d1 oRevSl f) :=
  pe_imp (pe_revL he) fun σ H Q ⟨ρ, h, Q0, R, A, q, k⟩ => ⟨ρ, h, _, R, A, q, fun d h1 v H1 q1 k1 r1 A1 => by
    unfold oRevSl at q1
    split at q1
    · rename_i ds e1
      obtain ⟨a, vs, rfl, hq, rL⟩ := lsOf_some A1 r1 e1
      exact ⟨a, vs, rfl, hq, fun p n => newL_ok q1 A1 (rvL_rev rL) n k1 k⟩
    · exact q1.elim⟩
end
end G
end

section
set_option Elab.async false
set_option linter.all false
set_option maxRecDepth 100000
set_option maxHeartbeats 4000000
/-! G layer, soundness 10: more methods of lists, dicts, texts. -/
namespace G
open PySem PySem.Spec PyProof.Rows L2
variable [Tb]
section
variable {X : Cx} {a b c e : Expr} {pos : Pos}
theorem gm_get (hu : X.A.units + 64 < cLine) : GM X "dict.get" mGet := fun pins s σ H x vs v us Q I rx rv ⟨d, ds, h, Q0, rd, rL, A, q, k⟩ => by
  unfold mGet at q
  split at q
  · rename_i a
    split at q
    · rename_i kvs ea
      cases rd; cases rx
      obtain ⟨L, es, ep, hR, hP, hz, hne, hnd, e4⟩ := dic_raw I A ea
      have go : ∀ (e dfl : D) (y yd : V) (u ud : Value) (more : List Value), (more = [] ∧ ud = .none ∨ more = [ud]) → pl 8 e = true → Rv X.K H e y → L2.RelV y u → Rv X.K H dfl yd → L2.RelV yd ud → Q0 ((dget kvs e).getD dfl) h →
          argsOk "dict.get" ⟨.ref a :: u :: more, []⟩ → wpAny (model X.prog X.w) X.A (call (.builtin "dict.get") (.ref a :: u :: more)) (L2.EP X pins σ Q) X.xe s := fun e dfl y yd u ud more hm hp re ry rdf ryd q ok => by
        obtain ⟨n1, n2⟩ := nested_of I 8 e y u hp re ry
        refine call_meetsIn F.slot_dict_get hR.dic.typeIs F.entry_dict_get ok (.of_wp (S := fun A R s' => A.units + 9 < cLine ∧ s' = s ∧ (nk e ∉ L.map (·.1) → R (.ok (.ret ud)) { s with toks := s.toks + (nk e).draws }) ∧
            ∀ (j : Nat) (en : DictEntry), (L.map (·.1))[j]? = some (nk e) → es[j]? = some en → R (.ok (.ret en.val)) { s with toks := s.toks + (nk e).draws }) fun A' R s' ⟨hu', es', r1, r2⟩ => ?_) ⟨by omega, rfl, fun hn => ?_, fun j en hj he => ?_⟩
        · subst es'
          exact GR.dget_any hm (by rw [Around.in1_units]; omega) n1 n2 hne hR.dic hR.ks r1 r2
        · have hn' : e ∉ kvs.map (·.1) := fun z => hn (by rw [ep_keys hP]; exact (nk_mem hp (ep_pl hP)).mpr z)
          rw [dget_none hn'] at q
          exact ⟨yd, H, I.tok _, ryd, k _ _ _ _ q (Kp.refl _) rdf A⟩
        · rw [hR.at_ j] at he
          cases e5 : L[j]? with
          | none => rw [e5] at he; cases he
          | some xx =>
            rw [e5] at he; cases he
            have ex : xx.1 = nk e := by
              rw [List.getElem?_map, e5] at hj
              exact Option.some.inj hj
            obtain ⟨d', v', g1, g2, g3⟩ := dget_of hp hP hnd e5 ex
            rw [g1] at q
            exact ⟨v', H, I.tok _, g3, k _ _ _ _ q (Kp.refl _) g2 A⟩
      split at q
      · rename_i e
        obtain ⟨hp, q⟩ := q
        cases rL with
        | cons r1 r2 =>
          cases r2
          cases rv with
          | cons s1 s2 =>
            cases s2
            exact go e .non _ .non _ .none [] (.inl ⟨rfl, rfl⟩) hp r1 s1 .non rfl q (F.args_dict_get_2 _ _)
      · rename_i e dfl
        obtain ⟨hp, q⟩ := q
        cases rL with
        | cons r1 r2 =>
          cases r2 with
          | cons r3 r4 =>
            cases r4
            cases rv with
            | cons s1 s2 =>
              cases s2 with
              | cons s3 s4 =>
                cases s4
                exact go e dfl _ _ _ _ _ (.inr rfl) hp r1 s1 r3 s3 q (F.args_dict_get_3 _ _ _)
      · exact q.elim
    · exact q.elim
  · exact q.elim
theorem gm_setdef (hu : X.A.units + 64 < cLine) : GM X "dict.setdefault" mSetDef := fun pins s σ H x vs v us Q I rx rv ⟨d, ds, h, Q0, rd, rL, A, q, k⟩ => by
  unfold mSetDef at q
  split at q
  · rename_i a e g
    split at q
    · rename_i kvs ea
      cases rd; cases rx
      obtain ⟨hp, hlt, q⟩ := q
      cases rL with
      | @cons _ y _ _ re rL =>
      cases rL with
      | @cons _ z _ _ rg rL =>
      cases rL
      cases rv with
      | @cons _ yv _ _ ry rv =>
      cases rv with
      | @cons _ zv _ _ rz rv =>
      cases rv
      obtain ⟨L, es, ep, hR, hP, hz, hne, hnd, e4⟩ := dic_raw I A ea
      obtain ⟨n1, n2⟩ := nested_of I 8 e y yv hp re ry
      have hlen : L.length = kvs.length := by
        have := congrArg List.length (ep_keys hP)
        simpa using this
      have hEP : EP X.K H (e, g) (nk e, yv, zv) := ⟨rfl, hp, ⟨y, re, ry⟩, z, rg, rz⟩
      have old : ∀ h', Heap.SameBut a s.heap h' → ∀ x ∈ GR.rput L (nk e) yv zv, NestedIs h' x.1 x.2.1 ∧ x.1.depth ≤ 8 := fun h' hs x hx => by
        rcases GR.rput_mem hx with ⟨y, hy, e1, e2⟩ | e'
        · rw [e1, e2]; exact ⟨GR.same_nested hR.dic hs (hR.keys y hy).1, (hR.keys y hy).2⟩
        · subst e'; exact ⟨GR.same_nested hR.dic hs n1, n2⟩
      refine call_meetsIn F.slot_dict_setdefault hR.dic.typeIs F.entry_dict_setdefault (F.args_dict_setdefault_3 _ _ _) (.of_wp (S := fun A R s' => A.units + 9 < cLine ∧ s' = s ∧
          (nk e ∉ L.map (·.1) → ∀ h', GR.Dic h' a (es.push ⟨(nk e).hash X.w, yv, zv⟩) (ep + 1) → Heap.SameBut a s.heap h' → R (.ok (.ret zv)) { s with heap := h', toks := s.toks + (nk e).draws }) ∧
            ∀ (j : Nat) (en : DictEntry), (L.map (·.1))[j]? = some (nk e) → es[j]? = some en → R (.ok (.ret en.val)) { s with toks := s.toks + (nk e).draws }) fun A' R s' ⟨hu', es', r1, r2⟩ => ?_) ⟨by omega, rfl, fun hn h' hd' hs' => ?_, fun j en hj he => ?_⟩
      · subst es'
        unfold Builtin.«dict.setdefault»
        refine wpAny_bind ?_
        unfold Builtin.Dict.keyAndDefault
        refine wpAny_bind (wpAny_notOrdered_dict hR.dic.typeIs ?_)
        show wpAny _ _ (pure (a, yv, some zv)) _ _ s'
        refine wpAny_pure ?_
        show wpAny _ _ (if (a == sysModules) = true then _ else (dictSetDefault a yv zv >>= _)) _ _ s'
        rw [if_neg (by rw [hne]; exact Bool.false_ne_true)]
        exact wpAny_bind (GR.setdefault_any (by rw [Around.in1_units]; omega) n1 n2 hR.dic hR.ks (by rw [List.length_map]; omega) (fun a b c d => wpAny_pure ⟨_, rfl, r1 a b c d⟩) fun a b c d => wpAny_pure ⟨_, rfl, r2 a b c d⟩)
      · have hn' : e ∉ kvs.map (·.1) := fun z => hn (by rw [ep_keys hP]; exact (nk_mem hp (ep_pl hP)).mpr z)
        rw [dget_none hn'] at q
        dsimp only at q
        have x' : GR.Rw X.w h' a (GR.rput L (nk e) yv zv) (es.push ⟨(nk e).hash X.w, yv, zv⟩) (ep + 1) := ⟨hd', by rw [GR.rput_new hn, Array.toList_push, hR.ents, List.map_append]; rfl, GR.rput_nodup hR.nd, old h' hs', by rw [Array.size_push, ← hR.ver]⟩
        have := dput_len kvs e g
        obtain ⟨I1, A1, k1⟩ := dic_wr (tk := s.toks + (nk e).draws) I A e4 hne x' hs' (ep_put hEP hP) (by rw [sz_eq]; omega) (dput_nodup hnd)
        exact ⟨z, _, I1, rz, k _ _ _ _ q k1 (rg.kp k1) A1⟩
      · rw [hR.at_ j] at he
        cases e5 : L[j]? with
        | none => rw [e5] at he; cases he
        | some xx =>
          rw [e5] at he; cases he
          have ex : xx.1 = nk e := by
            rw [List.getElem?_map, e5] at hj
            exact Option.some.inj hj
          obtain ⟨d', v', g1, g2, g3⟩ := dget_of hp hP hnd e5 ex
          rw [g1] at q
          dsimp only at q
          exact ⟨v', H, I.tok _, g3, k _ _ _ _ q (Kp.refl _) g2 A⟩
    · exact q.elim
  · exact q.elim
theorem gm_extend : GM X "list.extend" mExtend := fun pins s σ H x vs v us Q I rx rv ⟨d, ds, h, Q0, rd, rL, A, q, k⟩ => by
  unfold mExtend at q
  split at q
  · rename_i a b
    split at q
    · rename_i xs ys ea eb
      obtain ⟨z, q⟩ := q
      cases rd
      cases rL with
      | cons ra rb =>
        cases rb; cases ra
        obtain ⟨vs, e1, r1⟩ := A _ _ ea
        obtain ⟨us, e2, r2⟩ := A _ _ eb
        have l1 := r1.length
        have l2 := r2.length
        have kw : Kp H (upd H a (.lst (vs ++ us))) := Kp.wr e1 trivial
        exact mt_extend pins s σ H _ _ v _ Q I rx rv ⟨a, b, vs, us, rfl, rfl, e1, e2, by rw [sz_eq]; omega, k _ _ _ _ q kw .non (A.wr (o := .lst (xs ++ ys)) e1 trivial ⟨_, upd_same, (r1.append r2).kp kw⟩)⟩
    · exact q.elim
  · exact q.elim
theorem RvL.dropLast {K : PySem.W.Frag} {H : Hp} {ds : List D} {vs : List V} (r : RvL K H ds vs) : RvL K H ds.dropLast vs.dropLast := by
  rw [List.dropLast_eq_take, List.dropLast_eq_take, ← r.length]
  exact r.take _
theorem RvL.eraseIdx {K : PySem.W.Frag} {H : Hp} : ∀ {ds : List D} {vs : List V} (n : Nat), RvL K H ds vs → RvL K H (ds.eraseIdx n) (vs.eraseIdx n)
  | _, _, _, .nil => .nil
  | _, _, 0, .cons _ t => t
  | _, _, n + 1, .cons r t => .cons r (RvL.eraseIdx n t)
theorem ixN_seq {n : Nat} {i : Int} {j : Nat} (e : G.ixN n i = some j) : seqIndex? i n = some j := by
  unfold G.ixN at e
  by_cases h0 : 0 ≤ i
  · rw [if_pos h0] at e
    by_cases h1 : i < n
    · rw [if_pos h1] at e; cases e
      have h2 : ¬ i < 0 := by omega
      simp [seqIndex?, h0, h1, h2]
    · rw [if_neg h1] at e; cases e
  · rw [if_neg h0] at e
    by_cases h1 : -(n : Int) ≤ i
    · rw [if_pos h1] at e; cases e
      have h2 : i < 0 := by omega
      have h3 : 0 ≤ i + n := by omega
      simp [seqIndex?, h2, h3]
      omega
    · rw [if_neg h1] at e; cases e
theorem gm_pop : GM X "list.pop" mPop := fun pins s σ H x vs v us Q I rx rv ⟨d, ds, h, Q0, rd, rL, A, q, k⟩ => by
  unfold mPop at q
  split at q
  · rename_i a
    split at q
    · rename_i xs ea
      cases rd
      obtain ⟨ws, e1, r1⟩ := A _ _ ea
      split at q
      · obtain ⟨y, ey, q⟩ := q
        cases rL
        obtain ⟨yv, e2, r2⟩ := r1.get ey
        have kw : Kp H (upd H a (.lst ws.dropLast)) := Kp.wr e1 trivial
        exact mt_pop pins s σ H _ _ v _ Q I rx rv ⟨a, ws, yv, rfl, rfl, e1, by rw [← r1.length]; exact e2, k _ _ _ _ q kw (r2.kp kw) (A.wr (o := .lst xs.dropLast) e1 trivial ⟨_, upd_same, r1.dropLast.kp kw⟩)⟩
      · rename_i i
        obtain ⟨b1, b2, j, y, ej, ey, q⟩ := q
        cases rL with
        | cons ra rb =>
        cases rb; cases ra
        obtain ⟨yv, e2, r2⟩ := r1.get ey
        have kw : Kp H (upd H a (.lst (ws.eraseIdx j))) := Kp.wr e1 trivial
        exact mt_popAt pins s σ H _ _ v _ Q I rx rv ⟨a, ws, i, j, yv, rfl, rfl, e1, b1, b2, by rw [← r1.length]; exact ixN_seq ej, e2, k _ _ _ _ q kw (r2.kp kw) (A.wr (o := .lst (xs.eraseIdx j)) e1 trivial ⟨_, upd_same, (r1.eraseIdx j).kp kw⟩)⟩
      · exact q.elim
    · exact q.elim
  · exact q.elim
theorem gm_insert : GM X "list.insert" mInsert := fun pins s σ H x vs v us Q I rx rv ⟨d, ds, h, Q0, rd, rL, A, q, k⟩ => by
  unfold mInsert at q
  split at q
  · rename_i a i g
    split at q
    · rename_i xs ea
      obtain ⟨z, b1, b2, q⟩ := q
      cases rd
      obtain ⟨ws, e1, r1⟩ := A _ _ ea
      cases rL with
      | cons ra rL =>
      cases rL with
      | @cons _ y _ _ rg rL =>
      cases rL; cases ra
      have kw : Kp H (upd H a (.lst (ws.take i.toNat ++ [y] ++ ws.drop i.toNat))) := Kp.wr e1 trivial
      exact mt_insert pins s σ H _ _ v _ Q I rx rv ⟨a, ws, i, y, rfl, rfl, e1, by rw [← r1.length, sz_eq]; exact z, b1, b2, k _ _ _ _ q kw .non (A.wr (o := .lst (xs.take i.toNat ++ [g] ++ xs.drop i.toNat)) e1 trivial ⟨_, upd_same, (((r1.take _).append (.one rg)).append (r1.drop _)).kp kw⟩)⟩
    · exact q.elim
  · exact q.elim
theorem gm_clear : GM X "list.clear" mClear := fun pins s σ H x vs v us Q I rx rv ⟨d, ds, h, Q0, rd, rL, A, q, k⟩ => by
  unfold mClear at q
  split at q
  · rename_i a
    split at q
    · rename_i xs ea
      cases rd
      obtain ⟨ws, e1, r1⟩ := A _ _ ea
      cases rL
      have kw : Kp H (upd H a (.lst [])) := Kp.wr e1 trivial
      exact mt_clear pins s σ H _ _ v _ Q I rx rv ⟨a, ws, rfl, rfl, e1, k _ _ _ _ q kw .non (A.wr (o := .lst []) e1 trivial ⟨_, upd_same, .nil⟩)⟩
    · exact q.elim
  · exact q.elim
theorem strs_of {K : PySem.W.Frag} {H : Hp} : ∀ {ds : List D} {vs : List V} {ys : List Str}, RvL K H ds vs → strsOf ds = some ys → vs = ys.map V.str
  | _, _, _, .nil, e => by cases e; rfl
  | .str x :: ds, _, ys, .cons r t, e => by
    cases r
    simp only [strsOf, Option.map_eq_some_iff] at e
    obtain ⟨zs, e1, rfl⟩ := e
    rw [strs_of t e1]; rfl
  | .non :: _, _, _, .cons r t, e => by simp [strsOf] at e
  | .bl _ :: _, _, _, .cons r t, e => by simp [strsOf] at e
  | .int _ :: _, _, _, .cons r t, e => by simp [strsOf] at e
  | .tup _ :: _, _, _, .cons r t, e => by simp [strsOf] at e
  | .rl _ :: _, _, _, .cons r t, e => by simp [strsOf] at e
  | .rd _ _ :: _, _, _, .cons r t, e => by simp [strsOf] at e
  | .ref _ :: _, _, _, .cons r t, e => by simp [strsOf] at e
theorem gm_join : GM X "str.join" mJoin := fun pins s σ H x vs v us Q I rx rv ⟨d, ds, h, Q0, rd, rL, A, q, k⟩ => by
  unfold mJoin at q
  split at q
  · rename_i a y
    split at q
    · rename_i ys ey
      obtain ⟨z, q⟩ := q
      cases rd with
      | str _ oa =>
      cases rL with
      | cons ra rL =>
      cases rL
      cases e1 : sqOf h y with
      | none => rw [e1] at ey; cases ey
      | some ds =>
        rw [e1] at ey
        obtain ⟨p, ws, rfl, h1, h2⟩ := sqOf_some A ra e1
        have e2 := strs_of h2 ey
        subst e2
        have ok : okS (PySem.Str.join a ys) := by
          unfold okS
          rw [← show Txt.join a ys = PySem.Str.join a ys from StrLaws.glued_eq_join a ys]
          have := size_glued a ys
          have h3 : (Txt.join a ys).length = _ := this
          rw [h3, sz_eq]
          have : (ys.length - 1) * a.length ≤ ys.length * a.length := Nat.mul_le_mul_right _ (Nat.sub_le _ _)
          omega
        exact mt_join pins s σ H _ _ v _ Q I rx rv ⟨a, p, ys, rfl, rfl, h1, by rw [SZ] at z; exact z, by rw [show Txt.join a ys = PySem.Str.join a ys from StrLaws.glued_eq_join a ys]; exact k _ _ _ _ q (Kp.refl _) (.str _ ok) A⟩
    · exact q.elim
  · exact q.elim
end
end G
end

section
set_option Elab.async false
set_option linter.all false
set_option maxRecDepth 100000
set_option maxHeartbeats 4000000
/-! G layer, soundness 11: x += e, more built-ins. -/
namespace G
open PySem PySem.Spec PyProof.Rows L2
variable [Tb]
section
variable {X : Cx} {a b c e : Expr} {pos : Pos}
abbrev GIp (X : Cx) (op : Operator) (f : D → D → AH → KD → Prop) : Prop := PIp X op (R2ok X.K X.w f)
theorem gs_aug {i : Nat} {x : Str} {op : Operator} {f : D → D → AH → KD → Prop} {fe : DE} {pos' : Pos} (hN : X.N.Nodup) (he : GE X e fe) (ho : GIp X op f) (hi : X.N[i]? = some x := by rfl) (hx : Loc X.env.scope x := by first | exact Or.inl rfl | exact Or.inr rfl) (hf : X.fn x = true ∨ X.env.scope.names.lookup x = some .local := by first | exact .inl rfl | exact .inr rfl) :
    GS X (.AugAssign (.Name x pos') op e pos) (dAug f i fe) :=
  ps_imp (ps_aug (i := i) hN hi hx he ho hf) fun D σ H ⟨ρ, h, F, R, A, q, k⟩ => by
    unfold dAug onV at q
    split at q
    · rename_i d e1
      obtain ⟨v, e2, r⟩ := R.2 i d e1
      exact ⟨v, e2, ρ, h, _, R, A, q, fun y h1 u H1 q1 k1 r1 A1 => ⟨d, y, h1, _, r.kp k1, r1, A1, q1, fun z h2 w H2 q2 k2 r2 A2 => k.nx _ _ _ _ q2 (k1.trans k2) ((R.kp (k1.trans k2)).set r2) A2⟩⟩
    · exact q.elim
theorem ga_add : GIp X .Add oAddI := fun pins s σ H x y v u Q I rx ry ⟨d, e, h, Q0, rd, re, A, q, k⟩ => by
  cases d <;> cases e <;> first | exact q.elim | skip
  cases rd; cases re
  exact ip_add pins s σ H _ _ v u Q I rx ry ⟨_, _, rfl, rfl, k _ _ _ _ q (Kp.refl _) (.int _) A⟩
theorem ga_sub : GIp X .Sub oSub := fun pins s σ H x y v u Q I rx ry ⟨d, e, h, Q0, rd, re, A, q, k⟩ => by
  cases d <;> cases e <;> first | exact q.elim | skip
  cases rd; cases re
  exact ip_sub pins s σ H _ _ v u Q I rx ry ⟨_, _, rfl, rfl, k _ _ _ _ q (Kp.refl _) (.int _) A⟩
theorem gb_abs : GB X (.builtin "abs") bAbs := fun pins s σ H vs us Q I r ⟨ds, h, Q0, rL, A, q, k⟩ => by
  unfold bAbs at q
  split at q
  · rename_i i
    cases rL with
    | cons r1 rL =>
    cases rL; cases r1
    exact call_abs pins s σ H _ us Q I r ⟨i, rfl, k _ _ _ _ q (Kp.refl _) (.int _) A⟩
  · exact q.elim
theorem gb_int : GB X (.type "int") bInt := fun pins s σ H vs us Q I r ⟨ds, h, Q0, rL, A, q, k⟩ => by
  unfold bInt at q
  split at q
  · rename_i i
    cases rL with
    | cons r1 rL =>
    cases rL; cases r1
    exact call_int1 pins s σ H _ us Q I r (.inl ⟨i, rfl, k _ _ _ _ q (Kp.refl _) (.int _) A⟩)
  · rename_i i
    cases rL with
    | cons r1 rL =>
    cases rL; cases r1
    exact call_int1 pins s σ H _ us Q I r (.inr ⟨i, rfl, k _ _ _ _ q (Kp.refl _) (.int _) A⟩)
  · exact q.elim
theorem gb_tuple : GB X (.type "tuple") bTuple := fun pins s σ H vs us Q I r ⟨ds, h, Q0, rL, A, q, k⟩ => by
  unfold bTuple at q
  split at q
  · rename_i x
    split at q
    · rename_i es ex
      cases rL with
      | cons r1 rL =>
      cases rL
      obtain ⟨a, ws, rfl, h1, h2⟩ := sqOf_some A r1 ex
      rcases h1 with h1 | h1
      · exact call_tuple_of pins s σ H _ us Q I r ⟨a, ws, rfl, .inl ⟨h1, fun l nl => k _ _ _ _ q (Kp.new nl) (.tup (SqT.of upd_same) (h2.kp (Kp.new nl))) (A.newH nl)⟩⟩
      · exact call_tuple_of pins s σ H _ us Q I r ⟨a, ws, rfl, .inr ⟨h1, k _ _ _ _ q (Kp.refl _) (.tup h1 h2) A⟩⟩
    · exact q.elim
  · exact q.elim
end
end G
end

section
set_option Elab.async false
set_option linter.all false
set_option maxRecDepth 100000
set_option maxHeartbeats 4000000
/-! G layer, soundness 12: sorted by a lambda that takes a tuple's item. -/
namespace G
open PySem PySem.Spec PyProof.Rows L2
variable [Tb]
/-- a def with its code object -/
structure FunC (K : PySem.W.Frag) (x qual : Str) (st : Stmt) (f : Addr) (fd : FuncData) (c : Addr) : Prop where
  ex : ∃ (oc : Value) (od : Option Addr) (kV doc pm : Value) (an : Option Addr) (ct : Value) (osl : Array (Option Value)),
    fd = PySem.W.fnOf x qual (defArgs st) (defBody st) (defScope st) .none kV doc pm an (.ref c) ct ∧ K.lookup f = some ⟨oc, od, .func fd, osl⟩ ∧ PySem.W.codeIn K (.ref c) qual = true
theorem func_mk {K : PySem.W.Frag} {x qual : Str} {st : Stmt} {f c : Addr} {oc : Value} {od an : Option Addr} {osl : Array (Option Value)} {kV doc pm cdv ct : Value} (l : K.lookup f = some ⟨oc, od, .func (PySem.W.fnOf x qual (defArgs st) (defBody st) (defScope st) .none kV doc pm an cdv ct), osl⟩)
    (e : PySem.W.codeIn K cdv qual = true) (hc : cdv = .ref c) : FunC K x qual st f (PySem.W.fnOf x qual (defArgs st) (defBody st) (defScope st) .none kV doc pm an cdv ct) c := by
  subst hc
  exact ⟨oc, od, kV, doc, pm, an, ct, osl, rfl, l, e⟩
theorem fn_okC {P : Program} {w : World} {K : PySem.W.Frag} {mg : Str → Option Value} {base : Heap} {x qual : Str} {st : Stmt} {f c : Addr} {fd : FuncData} {N ps : List Str} {k : Nat} {b : DS} (F : FunC K x qual st f fd c) (S : FnScope N ps (defScope st))
    (body : ∀ (A : Around) (outer : List Env) (s : Shared) (H : Hp) (E : XK), Room k (A.deeper (envOfC qual (defScope st) s.heap.objs.size f (.ref c))) →
      GSs (cxOf CX0 P w K mg base N qual (defScope st) f (.ref c) A outer s H E).nox (defBody st) b) : FnG P w K mg base (k + 1) f fd ps (fnOf N.length ps.length b) := by
  obtain ⟨oc, od, kV, doc, pm, an, ct, osl, rfl, lk, hcd⟩ := F.ex
  refine fn_of lk hcd S (fun vs H Q E ⟨ds, h, Q0, r, A, q, _⟩ => by rw [← r.length]; exact q.1) fun A outer s H vs Q E hr ⟨ds, h, Q0, r, Ab, q, kq⟩ => ?_
  refine ⟨_, (body A outer s H E hr).nox, _, h, _, start_rs r, Ab, q.2, ⟨?_, ?_, ?_, ?_⟩⟩
  · intro ρ' h' σ' H' ⟨h0, sb, q'⟩ k' R' A'
    exact kq _ _ _ _ q' k' .non (A'.sub sb)
  · intro d h' v H' ⟨h0, sb, q'⟩ k' r' A'
    exact kq _ _ _ _ q' k' r' (A'.sub sb)
  · intro _ _ _ _ q'; exact q'.elim
  · intro _ _ _ _ q'; exact q'.elim

section
variable {X : Cx} {pins : List (Addr × Obj)} {σ : L2.St} {H : Hp} {s : Shared} {h : AH}
theorem reads0_list {n : Nat} (ih : ∀ d v u, dat n d = true → Rv X.K H d v → RelV v u → Reads s.heap u (tp d) []) : ∀ {ds : List D} {vs : List V} {us : List Value}, datL n ds = true → RvL X.K H ds vs → Vals vs us → ReadsAll s.heap us (tpL ds) []
  | [], _, _, _, r, r2 => by cases r; cases r2; exact .nil
  | d :: ds, _, _, e, r, r2 => by
    rw [datL, Bool.and_eq_true] at e
    cases r with
    | cons ra rb =>
      cases r2 with
      | cons sa sb => exact .cons (as := []) (bs := []) (ih _ _ _ e.1 ra sa) (reads0_list ih e.2 rb sb)
theorem reads0 (I : L2.Inv X pins σ H s) : ∀ (n : Nat) (d : D) (v : V) (u : Value), dat n d = true → Rv X.K H d v → RelV v u → Reads s.heap u (tp d) [] := by
  intro n
  induction n with
  | zero =>
    intro d v u e r r2
    cases d <;> simp [dat] at e
    all_goals cases r
    · cases r2; exact .none
    · cases r2; exact .bool _
    · obtain ⟨t, rfl⟩ := r2; exact .int _ t
    · obtain ⟨t, rfl⟩ := r2; exact .str _ t
  | succ n ih =>
    intro d v u e r r2
    cases d with
    | non => cases r; cases r2; exact .none
    | bl b => cases r; cases r2; exact .bool _
    | int i => cases r; obtain ⟨t, rfl⟩ := r2; exact .int _ t
    | str x => cases r; obtain ⟨t, rfl⟩ := r2; exact .str _ t
    | tup ds =>
      rw [dat] at e
      cases r with
      | tup h1 h2 =>
        cases r2
        obtain ⟨its, rv, ⟨o, ho, hc, m, hd⟩, _⟩ := I.tuple h1
        exact Reads.tuple ho hc hd (reads0_list ih e h2 rv)
    | _ => simp [dat] at e
/-- the call of lambda x: x[i] on a tuple -/
theorem lam_turn {prog : Program} {w : World} {A : Around} {s : Shared} {f c' t : Addr} {qual x : Str} {params : Arguments} {scope : Scope} {cl : List (Str × Addr)} {pm ctv u : Value} {i : Nat} {k : Nat} {p1 p2 p3 : Pos} {its : Array Value}
    (hd : A.depth < recursionLimit) (ho : s.heap.get? f = some (PySem.W.kla_obj "<lambda>" qual params (.Subscript (.Name x p1) (.Constant (.int (i : Int)) k p2) p3) scope cl pm c' ctv))
    (hc : ∃ (oc : Obj) (vs : Array Value) (tk : Tok), s.heap.get? c' = some oc ∧ oc.data = .fields vs ∧ vs[1]? = some (.str qual tk))
    (hk : scope.kind = .function) (hco : scope.isCoroutine = false) (hgen : scope.isGenerator = false) (hcell : ∀ y ∈ scope.names, y.2 ≠ .cell) (hloc : scope.names.lookup x = some .local)
    (hbind : ∀ v : Value, bindArgs (PySem.W.kla_fn "<lambda>" qual params (.Subscript (.Name x p1) (.Constant (.int (i : Int)) k p2) p3) scope cl pm (.ref c') ctv) ⟨[v], []⟩ = pure [(x, v)])
    (hdb : (x == ("__debug__" : Str)) = false) (ht : IsTup s.heap t its) (hi : its[i]? = some u) (hi2 : i < 2 ^ 63) (lim : s.heap.NoLimit) (hs : ∀ o j, subscripted (.Constant (.int (i : Int)) k p2) false o j = operate [o, j] (getItem o j)) :
    wpAny (model prog w) A (call (.ref f) [.ref t]) (fun v s' => v = u ∧ ∃ h' tk, s' = { s with heap := h', toks := tk } ∧ ∀ b o, s.heap.get? b = some o → h'.get? b = some o) (fun _ _ => False) s := by
  obtain ⟨oc, vs, tk, e1, e2, e3⟩ := hc
  have rc : codeAny (model prog w) A (.call (.ref f) ⟨[.ref t], []⟩) (fun r s' => r = .ok (.ret u) ∧ ∃ h' tk, s' = { s with heap := h', toks := tk } ∧ ∀ b o, s.heap.get? b = some o → h'.get? b = some o) s := by
    refine PySem.W.kla_callFunE hd ho rfl hco hgen rfl ⟨c', oc, vs, tk, rfl, e1, e2, e3⟩ ?_
    rw [hbind]
    refine wpAny_pure (wpAny_newFunctionEnv hcell (fun y hy => ?_) (fun h₁ hns hsb => ⟨lim.fresh _ hsb, ?_⟩) hk)
    · simp only [List.mem_singleton] at hy
      subst hy; exact hloc
    · have kp : ∀ b o, s.heap.get? b = some o → h₁.get? b = some o := fun b o e => hsb.extBut b o (Nat.ne_of_lt (Heap.lt_size e)) (Heap.get?_push_of_some _ e)
      obtain ⟨o, g1, g2, m, g3⟩ := ht
      have ht1 : IsTup h₁ t its := ⟨o, kp _ _ g1, g2, m, g3⟩
      have hlt : i < its.size := (Array.getElem?_eq_some_iff.mp hi).1
      refine PySem.W.kla_codeExpr (Subscript_ (wpAny_Name (wpAny_loadName_local hk hloc hns (v := .ref t) (by simp) (wpAny_Constant_int ?_)) hdb))
      refine subscriptTail_builtinR (x := u) ht1.typeIs slot_tuple_getitem.lookup (getItem_tuple (j := i) ht1 (by omega) (by omega) ?_ hi ⟨rfl, ?_⟩) (hs _ _)
      · unfold seqIndex?
        simp; omega
      · exact ⟨rfl, _, _, rfl, kp⟩
  refine wpAny_call (codeAny_mono rc fun r s' hq => ?_)
  obtain ⟨rfl, hq⟩ := hq
  exact ⟨rfl, hq⟩
theorem Abs.extN {K : PySem.W.Frag} {w : World} {h : AH} {H H' : Hp} (A : Abs K w h H) (e : LamX.ExtN H H') (t : LamX.Tabs Tb.T H') : Kp H H' ∧ Abs K w h H' := by
  have k : Kp H H' := ⟨fun a xs q => e a _ q (fun ps z => by cases z), fun a o u q => e a _ q (fun ps z => by cases z)⟩
  refine ⟨k, fun a o q => ?_, t⟩
  have r := A a o q
  obtain ⟨u, e1, m⟩ := r.some
  exact r.kp k ((e a u e1 fun ps z => by subst z; exact m).trans e1.symm)
theorem ge_sortK {i : Nat} {c P : Addr} {x : Str} {params : Arguments} {scope : Scope} {kc : Nat} {p p1 p2 p3 lpos kpos pos : Pos} {e : Expr} {f : DE}
    (hm : X.mg "sorted" = none) (TB : LamX.TabB X.base X.mg c P) (hcode : X.env.code = .ref c) (hmT : (P, X.env.qual ++ "<lambda>") ∈ Tb.T) (hu : ∀ p ∈ Tb.T, p.1 = P → p.2 = X.env.qual ++ "<lambda>") (hun : X.A.units + 100 < cLine) (hdep : X.A.in1.in1.depth < recursionLimit)
    (ha : GE X e f) (hi2 : i < 2 ^ 63 := by decide) (hk : scope.kind = .function := by rfl) (hco : scope.isCoroutine = false := by rfl) (hgen : scope.isGenerator = false := by rfl) (hcell : ∀ y ∈ scope.names, y.2 ≠ .cell := by decide) (hloc : scope.names.lookup x = some .local := by decide)
    (hfr0 : ∀ y ∈ scope.names, y.2 ≠ .free := by decide) (hdef : defaultsOf params X.env = ([], []) := by rfl)
    (hbind : ∀ (q : Str) (cl : List (Str × Addr)) (pm cv ctv v : Value), bindArgs (PySem.W.kla_fn "<lambda>" q params (.Subscript (.Name x p1) (.Constant (.int (i : Int)) kc p2) p3) scope cl pm cv ctv) ⟨[v], []⟩ = pure [(x, v)] := by intro _ _ _ _ _ _; rfl)
    (hdx : (x == ("__debug__" : Str)) = false := by decide) (hs : ∀ o j, subscripted (.Constant (.int (i : Int)) kc p2) false o j = operate [o, j] (getItem o j) := by exact fun _ _ => rfl)
    (hv : bootBuiltins "sorted" = some (.builtin "sorted") := by decide +kernel) (hg : Gl X "sorted" := by rfl) (hn : ("sorted" : Str) ≠ "__name__" := by decide) (hdb : (("sorted" : Str) == ("__debug__" : Str)) = false := by decide)
    (he : backTo pos (starEach [e] X.env) = (false, eval e X.env) :: backTo pos (starEach [] X.env) := by rfl) (hpl : (backTo pos (starEach [e] X.env)).any (·.1) = false := by rfl) (hst : starEach [e] X.env = (false, eval e X.env) :: starEach [] X.env := by rfl) :
    GE X (.Call (.Name "sorted" p) [e] [⟨some "key", .Lambda params (.Subscript (.Name x p1) (.Constant (.int (i : Int)) kc p2) p3) scope lpos, kpos⟩] pos) (d1 (oSortK i) f) := by
  refine ⟨fun pins s σ H Q I ⟨ρ, h, Q0, R, A, q, k⟩ => ?_⟩
  refine wpAny_Call_Name_kw (ld_blt I hg hm hv ?_ hn hdb)
  refine PyProof.Rows.callWith_kw (thn ((ga_cons ha ga_nil hst).run pos pins s σ H (fun vs H' => ∃ d h', oSortK i d h' Q0 ∧ Kp H H' ∧ RvL X.K H' [d] vs ∧ Abs X.K X.w h' H') I
    ⟨ρ, h, fun ds h1 => match ds with | [d] => oSortK i d h1 Q0 | _ => False, R, A, q, fun ds h' vs H' q1 k1 r1 A1 => ?_⟩) fun us s1 ⟨vs, H1, I1, r1, d, h1, q1, k1, rL, A1⟩ => ?_) he hpl (by rfl) (by rfl)
  · match ds, q1, r1 with
    | [d], q1, r1 => exact ⟨d, h', q1, k1, r1, A1⟩
    | [], q1, _ => exact q1.elim
    | _ :: _ :: _, q1, _ => exact q1.elim
  show wpAny _ _ (evalAll [do let v ← eval (.Lambda params (.Subscript (.Name x p1) (.Constant (.int (i : Int)) kc p2) p3) scope lpos) X.env; standAt pos; pure v]) _ _ s1
  refine wpAny_evalAll_cons (wpAny_bind (LamX.lam_make2 I1 TB hcode hmT hu A1.tabs hdef (fun y hy e => absurd e (hfr0 y hy)) fun fo c' pm ctv H2 s2 I2 eN T2 hf hfn hfr hco' => wpAny_bind (wpAny_standAt (wpAny_pure ?_))))
  refine wpAny_evalAll_nil ?_
  obtain ⟨k12, A2⟩ := A1.extN eN T2
  obtain ⟨v, rfl, rv⟩ := rvL_one rL
  unfold oSortK at q1
  split at q1
  · rename_i ds e1
    obtain ⟨htup, ⟨hal, hdt, hsort⟩, q1⟩ := q1
    obtain ⟨a, vs, rfl, hq, rL'⟩ := lsOf_some A2 (rv.kp k12) e1
    obtain ⟨u, rfl, ru⟩ := vals1 r1
    cases ru
    obtain ⟨its, rits, hpls, hz⟩ := I2.list hq
    have hl := rL'.length
    have hE := each_of (R := fun u (p : D × V) => Rv X.K H2 p.1 p.2 ∧ L2.RelV p.2 u) (fun a b c h1 h2 => ⟨h1, h2⟩) (rvL_paired rL') rits
    have hmem : ∀ p ∈ ds.zip vs, p.1 ∈ ds := fun p hp => (List.of_mem_zip (a := p.1) (b := p.2) hp).1
    have hmk : ∀ p ∈ ds.zip vs, kAt i p.1 ∈ ds.map (kAt i) := fun p hp => List.mem_map_of_mem (hmem p hp)
    have hdn : ∀ p ∈ ds.zip vs, Dn 12 (kAt i p.1) := fun p hp => dat_dn 12 _ (hdt _ (hmk p hp))
    have hfst : ((ds.zip vs).mergeSort (PySem.W.dataLe false fun p : D × V => tp (kAt i p.1))).map Prod.fst = ds.mergeSort (fun a b => dle false (kAt i a) (kAt i b)) := by
      rw [List.map_mergeSort (s := fun a b => dle false (kAt i a) (kAt i b)), zip_fst hl]
      intro p hp p' hp'
      exact dle_tp (x := kAt i p.1) (y := kAt i p'.1) false (hdn p hp) (hdn p' hp') (hal _ (hmk p hp) _ (hmk p' hp'))
    obtain ⟨⟨oc, cvs, tk, g1, g2, g3⟩, _, _⟩ := I2.hok c' _ hco'
    refine PySem.W.sorted_key_data (b := false) (fun p : D × V => tp (kAt i p.1)) hpls.isList hE ?_ ?_ ?_ ?_ (PyProof.Rows.ksk_s1 _ _) (fun _ => PyProof.Rows.ksk_l1 _ _) (fun _ => PyProof.Rows.ksk_t1 _ _) ?_ fun out cc h' tk' kp hfresh hD ho eo => ?_
    · intro d hd d' hd'
      obtain ⟨p, hp, rfl⟩ := List.mem_map.mp hd
      obtain ⟨p', hp', rfl⟩ := List.mem_map.mp hd'
      exact alike_tp _ _ 12 12 (hdn p hp) (hdn p' hp') (hal _ (hmk p hp) _ (hmk p' hp'))
    · rcases hsort with hs | hs
      · refine .inl fun d hd => ?_
        obtain ⟨p, hp, rfl⟩ := List.mem_map.mp hd
        obtain ⟨x, r, e⟩ := hs _ (hmk p hp)
        exact ⟨tp x, tpL r, by rw [e, tp, tpL]⟩
      · refine .inr fun d hd => ?_
        obtain ⟨p, hp, rfl⟩ := List.mem_map.mp hd
        obtain ⟨n1, n2⟩ := hs _ (hmk p hp)
        have hd' := hdn p hp
        refine ⟨tp_none hd' n1, fun xs e => ?_⟩
        cases e3 : kAt i p.1 <;> rw [e3] at e <;> simp [tp] at e
        exact n2 _ e3
    · rw [List.length_zip, hl, Nat.min_self]; exact hz
    · intro p hp
      have := (hdn p hp).tp.1
      omega
    · rintro v ⟨d, w'⟩ ⟨rd, rw'⟩ hx h' tk' kp
      obtain ⟨xs, y, e3, ey⟩ := htup _ (hmem _ hx)
      dsimp only at e3 rd rw' ⊢
      subst e3
      cases rd with
      | tup b1 b2 =>
        cases rw'
        obtain ⟨its2, rv2, ⟨o, o1, o2, m, o3⟩, _⟩ := I2.tuple b1
        obtain ⟨v', f1, f2⟩ := b2.get ey
        obtain ⟨w2, f3, f4⟩ := rv2.get f1
        have ek : kAt i (.tup xs) = y := by rw [kAt, ey]; rfl
        refine wpAny_mono (lam_turn (s := { s2 with heap := h', toks := tk' }) (its := its2.toArray) (u := w2) hdep (kp _ _ hf) ⟨oc, cvs, tk, kp _ _ g1, g2, g3⟩ hk hco hgen hcell hloc (fun v => hbind _ _ _ _ _ v) hdx ⟨o, kp _ _ o1, o2, m, o3⟩ (by simpa using f3) hi2 (I2.nolimit.keeps kp) hs) (fun v s' ⟨ev, h2, tk2, es, kp2⟩ => ?_) fun _ _ e => e
        subst ev
        subst es
        refine ⟨h2, tk2, rfl, kp2, ?_⟩
        have hy : dat 12 y = true := by
          have := hdt _ (hmk _ hx)
          rw [ek] at this; exact this
        rw [ek]
        exact PyProof.Rows.Reads.keeps (fun b o q => kp2 _ _ (kp _ _ q)) (reads0 I2 12 y _ _ hy f2 f4)
    · obtain ⟨r1, r2⟩ := each_out eo
      rw [hfst] at r1
      have nn : H2 (s2.heap.objs.size + 1) = none := I2.hok.fresh (Nat.le_succ _)
      have hlen : (((ds.zip vs).mergeSort (PySem.W.dataLe false fun p : D × V => tp (kAt i p.1))).map Prod.snd).length ≤ sizeLine := by
        rw [List.length_map, List.length_mergeSort, List.length_zip, hl, Nat.min_self]; exact hz
      exact ⟨.ref (s2.heap.objs.size + 1), _, I2.laid (a := s2.heap.objs.size + 1) (t' := tk') (o := .lst (((ds.zip vs).mergeSort (PySem.W.dataLe false fun p : D × V => tp (kAt i p.1))).map Prod.snd)) kp (Nat.le_succ _) ⟨hlen, out, cc, r2, hD⟩, rfl, newL_ok q1 A2 r1 nn (k1.trans k12) k⟩
  · exact q1.elim
end
end G
end

section
set_option Elab.async false
set_option linter.all false
set_option maxRecDepth 100000
set_option maxHeartbeats 4000000
/-! G layer, soundness 13: max of a list, list of a dict. -/
namespace G
open PySem PySem.Spec PyProof.Rows L2
variable [Tb]
mutual
theorem tp_inj : ∀ (n m : Nat) (x y : D), dat n x = true → dat m y = true → tp x = tp y → x = y
  | _, _, .non, y, _, h, e => by cases y <;> simp_all [tp, dat]
  | _, _, .bl _, y, _, h, e => by cases y <;> simp_all [tp, dat]
  | _, _, .int _, y, _, h, e => by cases y <;> simp_all [tp, dat]
  | _, _, .str _, y, _, h, e => by cases y <;> simp_all [tp, dat]
  | n + 1, m, .tup xs, y, g, h, e => by
    cases y with
    | tup ys =>
      cases m with
      | zero => simp [dat] at h
      | succ m =>
        rw [dat] at g h
        simp only [tp, PyData.tuple.injEq] at e
        rw [tp_injL n m xs ys g h e]
    | _ => simp [tp] at e
  | 0, _, .tup xs, y, g, h, e => by simp [dat] at g
  | n, _, .rl _, _, g, _, _ => by cases n <;> simp [dat] at g
  | n, _, .rd _ _, _, g, _, _ => by cases n <;> simp [dat] at g
  | n, _, .ref _, _, g, _, _ => by cases n <;> simp [dat] at g
theorem tp_injL : ∀ (n m : Nat) (xs ys : List D), datL n xs = true → datL m ys = true → tpL xs = tpL ys → xs = ys
  | _, _, [], ys, _, _, e => by cases ys <;> simp_all [tpL]
  | _, _, _ :: _, [], _, _, e => by simp [tpL] at e
  | n, m, x :: xs, y :: ys, g, h, e => by
    rw [datL, Bool.and_eq_true] at g h
    simp only [tpL, List.cons.injEq] at e
    rw [tp_inj n m x y g.1 h.1 e.1, tp_injL n m xs ys g.2 h.2 e.2]
end
theorem datL_all {n : Nat} : ∀ {ds : List D}, (∀ d ∈ ds, dat n d = true) → datL n ds = true
  | [], _ => rfl
  | d :: ds, h => by rw [datL, h d List.mem_cons_self, datL_all fun a ha => h a (List.mem_cons_of_mem _ ha)]; rfl
theorem pget {α β : Type} {F : α → β → Prop} : ∀ {xs : List α} {ys : List β} {i : Nat} {y : β}, Paired F xs ys → ys[i]? = some y → ∃ x, xs[i]? = some x ∧ F x y
  | _, _, _, _, .nil, e => by simp at e
  | _, _, 0, _, .cons r _, e => by simp at e; subst e; exact ⟨_, rfl, r⟩
  | _, _, i + 1, y, .cons _ t, e => by
    obtain ⟨u, h1, h2⟩ := pget (i := i) (y := y) t (by simpa using e)
    exact ⟨u, by simpa using h1, h2⟩
theorem dmax_mem : ∀ (ds : List D) (d : D), dmax d ds ∈ d :: ds
  | [], d => by simp [dmax]
  | y :: ds, d => by
    show ds.foldl (fun a y => if dlt a y then y else a) (if dlt d y = true then y else d) ∈ d :: y :: ds
    have := dmax_mem ds (if dlt d y = true then y else d)
    unfold dmax at this
    rcases List.mem_cons.mp this with e | e
    · rw [e]; split <;> simp
    · exact List.mem_cons_of_mem _ (List.mem_cons_of_mem _ e)
theorem dmax_tp : ∀ (ds : List D) (d : D), (∀ a ∈ d :: ds, dat 12 a = true) → (∀ a ∈ d :: ds, ∀ b ∈ d :: ds, alk a b = true) → PySem.W.maxD (tp d) (tpL ds) = tp (dmax d ds)
  | [], d, _, _ => rfl
  | y :: ds, d, hd, ha => by
    have e : PySem.W.dataLt (tp d) (tp y) = dlt d y := dlt_tp d y 12 12 (dat_dn 12 _ (hd _ (by simp))) (dat_dn 12 _ (hd _ (by simp))) (ha _ (by simp) _ (by simp))
    show PySem.W.maxD (if PySem.W.dataLt (tp d) (tp y) then tp y else tp d) (tpL ds) = tp (dmax (if dlt d y then y else d) ds)
    rw [e]
    have sub : ∀ a ∈ (if dlt d y = true then y else d) :: ds, a ∈ d :: y :: ds := fun a h => by
      rcases List.mem_cons.mp h with h | h
      · rw [h]; split <;> simp
      · exact List.mem_cons_of_mem _ (List.mem_cons_of_mem _ h)
    have := dmax_tp ds (if dlt d y = true then y else d) (fun a h => hd a (sub a h)) (fun a h b h' => ha a (sub a h) b (sub b h'))
    rw [← this]
    split <;> rfl
theorem dmin_mem : ∀ (ds : List D) (d : D), dmin d ds ∈ d :: ds
  | [], d => by simp [dmin]
  | y :: ds, d => by
    show ds.foldl (fun a y => if dlt y a then y else a) (if dlt y d = true then y else d) ∈ d :: y :: ds
    have := dmin_mem ds (if dlt y d = true then y else d)
    unfold dmin at this
    rcases List.mem_cons.mp this with e | e
    · rw [e]; split <;> simp
    · exact List.mem_cons_of_mem _ (List.mem_cons_of_mem _ e)
theorem dmin_tp : ∀ (ds : List D) (d : D), (∀ a ∈ d :: ds, dat 12 a = true) → (∀ a ∈ d :: ds, ∀ b ∈ d :: ds, alk a b = true) → PySem.W.minD (tp d) (tpL ds) = tp (dmin d ds)
  | [], d, _, _ => rfl
  | y :: ds, d, hd, ha => by
    have e : PySem.W.dataLt (tp y) (tp d) = dlt y d := dlt_tp y d 12 12 (dat_dn 12 _ (hd _ (by simp))) (dat_dn 12 _ (hd _ (by simp))) (ha _ (by simp) _ (by simp))
    show PySem.W.minD (if PySem.W.dataLt (tp y) (tp d) then tp y else tp d) (tpL ds) = tp (dmin (if dlt y d then y else d) ds)
    rw [e]
    have sub : ∀ a ∈ (if dlt y d = true then y else d) :: ds, a ∈ d :: y :: ds := fun a h => by
      rcases List.mem_cons.mp h with h | h
      · rw [h]; split <;> simp
      · exact List.mem_cons_of_mem _ (List.mem_cons_of_mem _ h)
    have := dmin_tp ds (if dlt y d = true then y else d) (fun a h => hd a (sub a h)) (fun a h b h' => ha a (sub a h) b (sub b h'))
    rw [← this]
    split <;> rfl
section
variable {X : Cx}
theorem gb_max (hc : X.calm = true) (hu : X.A.units + 100 < cLine) : GB X (.builtin "max") bMax := fun pins s σ H vs us Q I r ⟨ds, h, Q0, rL, A, q, k⟩ => by
  unfold bMax at q
  split at q
  · rename_i i j
    cases rL with
    | cons r1 rL =>
    cases rL with
    | cons r2 rL =>
    cases rL; cases r1; cases r2
    exact call_max2 hc pins s σ H _ us Q I r ⟨i, j, rfl, k _ _ _ _ q (Kp.refl _) (.int _) A⟩
  · rename_i x _
    obtain ⟨v, rfl, rv⟩ := rvL_one rL
    split at q
    · rename_i d ds e1
      obtain ⟨⟨ha, hd⟩, q⟩ := q
      obtain ⟨a, vs, rfl, hq, rL'⟩ := lsOf_some A rv e1
      obtain ⟨u, rfl, ru⟩ := vals1 r
      cases ru
      obtain ⟨its, rits, hpl, hz⟩ := I.list hq
      have hdt : datL 12 (d :: ds) = true := datL_all fun a h => (hd a h).1
      have hr : ReadsAll s.heap its (tpL (d :: ds)) [] := reads0_list (fun d v u e r r2 => reads0 I 12 d v u e r r2) hdt rL' rits
      have hdn : ∀ a ∈ d :: ds, Dn 12 a := fun a h => dat_dn 12 _ (hd a h).1
      have hdep : PyData.depthAll (tpL (d :: ds)) ≤ 12 := by
        have := (Dn.tup hdn).tp.1
        simp only [tp, PyData.depth] at this
        omega
      refine PySem.W.max_list_data (x := tp d) (xs := tpL ds) (as := []) (I.ok.hd hc) hpl.isList (by rw [List.toList_toArray]; exact hr) ⟨?_, ?_⟩ (by rw [show tp d :: tpL ds = tpL (d :: ds) from rfl]; omega) fun i v h' tk bs hv hR kp => ?_
      · intro x hx y hy
        rw [show tp d :: tpL ds = tpL (d :: ds) from rfl, tpL_map] at hx hy
        obtain ⟨p, hp, rfl⟩ := List.mem_map.mp hx
        obtain ⟨p', hp', rfl⟩ := List.mem_map.mp hy
        exact alike_tp _ _ 12 12 (hdn _ hp) (hdn _ hp') (ha _ hp _ hp')
      · intro x hx
        rw [show tp d :: tpL ds = tpL (d :: ds) from rfl, tpL_map] at hx
        obtain ⟨p, hp, rfl⟩ := List.mem_map.mp hx
        exact tp_none (hdn _ hp) (hd _ hp).2
      · have hv' : its[i]? = some v := by simpa using hv
        obtain ⟨v0, e2, r2⟩ := pget rits hv'
        obtain ⟨y, e3, r3⟩ := rL'.get' e2
        have hym := List.mem_of_getElem? e3
        have hRy : Reads h' v (tp y) [] := PyProof.Rows.Reads.keeps kp (reads0 I 12 y _ _ (hd _ hym).1 r3 r2)
        rw [dmax_tp ds d (fun a h => (hd a h).1) ha] at hR
        have hmm := dmax_mem ds d
        have e4 : tp y = tp (dmax d ds) := by
          rw [← PySem.SeqAt.readOf_plain (hdn _ hym).tp.2 hRy, ← PySem.SeqAt.readOf_plain (hdn _ hmm).tp.2 hR]
        have e5 := tp_inj 12 12 _ _ (hd _ hym).1 (hd _ hmm).1 e4
        rw [← e5] at q
        exact ⟨v0, H, I.kept (t' := tk) kp, r2, k _ _ _ _ q (Kp.refl _) r3 A⟩
    · exact q.elim
  · exact q.elim
theorem gb_min (hc : X.calm = true) (hu : X.A.units + 100 < cLine) : GB X (.builtin "min") bMin := fun pins s σ H vs us Q I r ⟨ds, h, Q0, rL, A, q, k⟩ => by
  unfold bMin at q
  split at q
  · rename_i i j
    cases rL with
    | cons r1 rL =>
    cases rL with
    | cons r2 rL =>
    cases rL; cases r1; cases r2
    exact call_min2 hc pins s σ H _ us Q I r ⟨i, j, rfl, k _ _ _ _ q (Kp.refl _) (.int _) A⟩
  · rename_i x _
    obtain ⟨v, rfl, rv⟩ := rvL_one rL
    split at q
    · rename_i d ds e1
      obtain ⟨⟨ha, hd⟩, q⟩ := q
      obtain ⟨a, vs, rfl, hq, rL'⟩ := lsOf_some A rv e1
      obtain ⟨u, rfl, ru⟩ := vals1 r
      cases ru
      obtain ⟨its, rits, hpl, hz⟩ := I.list hq
      have hdt : datL 12 (d :: ds) = true := datL_all fun a h => (hd a h).1
      have hr : ReadsAll s.heap its (tpL (d :: ds)) [] := reads0_list (fun d v u e r r2 => reads0 I 12 d v u e r r2) hdt rL' rits
      have hdn : ∀ a ∈ d :: ds, Dn 12 a := fun a h => dat_dn 12 _ (hd a h).1
      have hdep : PyData.depthAll (tpL (d :: ds)) ≤ 12 := by
        have := (Dn.tup hdn).tp.1
        simp only [tp, PyData.depth] at this
        omega
      refine PySem.W.min_list_data (x := tp d) (xs := tpL ds) (as := []) (I.ok.hd hc) hpl.isList (by rw [List.toList_toArray]; exact hr) ⟨?_, ?_⟩ (by rw [show tp d :: tpL ds = tpL (d :: ds) from rfl]; omega) fun i v h' tk bs hv hR kp => ?_
      · intro x hx y hy
        rw [show tp d :: tpL ds = tpL (d :: ds) from rfl, tpL_map] at hx hy
        obtain ⟨p, hp, rfl⟩ := List.mem_map.mp hx
        obtain ⟨p', hp', rfl⟩ := List.mem_map.mp hy
        exact alike_tp _ _ 12 12 (hdn _ hp) (hdn _ hp') (ha _ hp _ hp')
      · intro x hx
        rw [show tp d :: tpL ds = tpL (d :: ds) from rfl, tpL_map] at hx
        obtain ⟨p, hp, rfl⟩ := List.mem_map.mp hx
        exact tp_none (hdn _ hp) (hd _ hp).2
      · have hv' : its[i]? = some v := by simpa using hv
        obtain ⟨v0, e2, r2⟩ := pget rits hv'
        obtain ⟨y, e3, r3⟩ := rL'.get' e2
        have hym := List.mem_of_getElem? e3
        have hRy : Reads h' v (tp y) [] := PyProof.Rows.Reads.keeps kp (reads0 I 12 y _ _ (hd _ hym).1 r3 r2)
        rw [dmin_tp ds d (fun a h => (hd a h).1) ha] at hR
        have hmm := dmin_mem ds d
        have e4 : tp y = tp (dmin d ds) := by
          rw [← PySem.SeqAt.readOf_plain (hdn _ hym).tp.2 hRy, ← PySem.SeqAt.readOf_plain (hdn _ hmm).tp.2 hR]
        have e5 := tp_inj 12 12 _ _ (hd _ hym).1 (hd _ hmm).1 e4
        rw [← e5] at q
        exact ⟨v0, H, I.kept (t' := tk) kp, r2, k _ _ _ _ q (Kp.refl _) r3 A⟩
    · exact q.elim
  · exact q.elim
theorem ep_vals {K : PySem.W.Frag} {H : Hp} : ∀ {kvs : List (D × D)} {L : List GR.RE}, Paired (EP K H) kvs L → ∃ vs, RvL K H (kvs.map (·.1)) vs ∧ L2.Vals vs (L.map fun x => x.2.1)
  | _, _, .nil => ⟨[], .nil, .nil⟩
  | _, _, .cons r t => by
    obtain ⟨vs, h1, h2⟩ := ep_vals t
    obtain ⟨v, a1, a2⟩ := r.2.2.1
    exact ⟨v :: vs, .cons a1 h1, .cons a2 h2⟩
theorem gb_list (hc : X.calm = true) : GB X (.type "list") bList := fun pins s σ H vs us Q I r ⟨ds, h, Q0, rL, A, q, k⟩ => by
  unfold bList at q
  split at q
  · rename_i x
    obtain ⟨v, rfl, rv⟩ := rvL_one rL
    split at q
    · rename_i ds e1
      obtain ⟨a, vs, rfl, hq, rL'⟩ := sqOf_some A rv e1
      exact call_list_of pins s σ H _ us Q I r ⟨a, vs, rfl, hq, fun l n => newL_ok q A rL' n (Kp.refl _) k⟩
    · split at q
      · rename_i kvs e1
        rcases dcOf_some e1 with ⟨a, rfl, ea⟩ | ⟨ks, ws, rfl⟩
        · cases rv
          obtain ⟨u, rfl, ru⟩ := vals1 r
          cases ru
          obtain ⟨L, es, ep, hR, hP, hz, hne, hnd, e4⟩ := dic_raw I A ea
          obtain ⟨o, ho, hx, hd⟩ := hR.dic
          have hlen : L.length = kvs.length := by
            have := congrArg List.length (ep_keys hP)
            simpa using this
          have hes : es.size = L.length := by rw [← Array.length_toList, hR.ents, List.length_map]
          obtain ⟨vs, h1, h2⟩ := ep_vals hP
          refine PySem.W.kdl_call (kdl_raw (prog := X.prog) (w := X.w) hne hx hd) (I.ok.hd hc) ho (by omega) fun h' tk acc' c' hkeep hS hacc => ?_
          have hl1 := h1.length
          have eacc : acc'.toList = L.map fun x => x.2.1 := by
            apply List.ext_getElem?
            intro j
            by_cases hj : j < acc'.size
            · obtain ⟨en, g1, g2⟩ := hacc.2 j acc'[j] (Array.getElem?_eq_getElem hj)
              rw [hR.at_ j] at g1
              rw [Array.getElem?_toList, Array.getElem?_eq_getElem hj, List.getElem?_map]
              cases e5 : L[j]? with
              | none => rw [e5] at g1; cases g1
              | some x => rw [e5] at g1; cases g1; rw [g2]; rfl
            · have hn := hacc.1
              rw [List.getElem?_eq_none (by simpa using hj), List.getElem?_eq_none (by rw [List.length_map]; omega)]
          refine ⟨.ref s.heap.objs.size, upd H s.heap.objs.size (.lst vs), I.laid (t' := tk) hkeep (Nat.le_refl _) (show ObjOk X.prog X.w _ _ _ (.lst vs) from ⟨?_, acc'.toList, c', by rw [eacc]; exact h2, ?_⟩), rfl, newL_ok q A h1 (I.hok.fresh (Nat.le_refl _)) (Kp.refl _) k⟩
          · rw [← hl1, List.length_map]; exact hz
          · rw [Array.toArray_toList]; exact hS
        · cases rv
      · exact q.elim
  · exact q.elim
end
end G
end

section
set_option Elab.async false
set_option linter.all false
set_option maxRecDepth 100000
set_option maxHeartbeats 4000000
/-! G layer, soundness 14: list.index. -/
namespace G
open PySem PySem.Spec PyProof.Rows L2
variable [Tb]
theorem idxOf_at {α : Type} [DecidableEq α] {x : α} : ∀ {l : List α} {j : Nat}, l[j]? = some x → (∀ i, i < j → l[i]? ≠ some x) → l.idxOf x = j
  | [], _, h, _ => by simp at h
  | a :: l, 0, h, _ => by simp at h; subst h; simp
  | a :: l, j + 1, h, hn => by
    have e : ¬ a = x := fun z => hn 0 (by omega) (by simp [z])
    have ih := idxOf_at (l := l) (j := j) (by simpa using h) fun i hi z => hn (i + 1) (by omega) (by simpa using z)
    rw [List.idxOf_cons, ih]
    have : (a == x) = false := by simpa using e
    rw [this]; rfl
section
variable {X : Cx} {pins : List (Addr × Obj)} {σ : L2.St} {H : Hp} {s : Shared}
theorem nested_all (I : L2.Inv X pins σ H s) : ∀ {ds : List D} {vs : List V} {us : List Value}, (∀ d ∈ ds, pl 8 d = true) → RvL X.K H ds vs → Vals vs us → NestedAll s.heap (ds.map nk) us ∧ NestedKey.depthAll (ds.map nk) ≤ 8
  | [], _, _, _, r, r2 => by cases r; cases r2; exact ⟨.nil, by simp [NestedKey.depthAll]⟩
  | d :: ds, _, _, e, r, r2 => by
    cases r with
    | cons ra rb =>
      cases r2 with
      | cons sa sb =>
        obtain ⟨h1, h2⟩ := nested_of I 8 d _ _ (e d List.mem_cons_self) ra sa
        obtain ⟨h3, h4⟩ := nested_all I (fun x hx => e x (List.mem_cons_of_mem _ hx)) rb sb
        exact ⟨.cons h1 h3, by simp only [List.map_cons, NestedKey.depthAll]; omega⟩
theorem gm_index (hu : X.A.units + 100 < cLine) : GM X "list.index" mIndex := fun pins s σ H x vs v us Q I rx rv ⟨d, ds, h, Q0, rd, rL, A, q, k⟩ => by
  unfold mIndex at q
  split at q
  · rename_i y
    obtain ⟨yv, rfl, ry⟩ := rvL_one rL
    obtain ⟨u, rfl, ru⟩ := vals1 rv
    split at q
    · rename_i xs e1
      obtain ⟨hpl, hpy, j, hj, hn, q⟩ := q
      obtain ⟨a, ws, rfl, hq, rL'⟩ := lsOf_some A rd e1
      cases rx
      obtain ⟨its, rits, hpls, hz⟩ := I.list hq
      obtain ⟨n1, n2⟩ := nested_all I hpl rL' rits
      obtain ⟨n3, n4⟩ := nested_of I 8 y yv u hpy ry ru
      have hl := rL'.length
      have hjk : (xs.map nk)[j]? = some (nk y) := by rw [List.getElem?_map, hj]; rfl
      have hidx : (xs.map nk).idxOf (nk y) = j := idxOf_at hjk fun i hi z => by
        rw [List.getElem?_map] at z
        cases e2 : xs[i]? with
        | none => rw [e2] at z; cases z
        | some d' =>
          rw [e2] at z
          have z' : nk d' = nk y := Option.some.inj z
          have := nk_inj 8 8 d' y (hpl d' (List.mem_of_getElem? e2)) hpy z'
          subst this
          exact hn i hi e2
      refine PySem.SeqAt.call_list_index (ks := xs.map nk) (k := nk y) hpls.isList (PySem.SeqAt.ItemsEq.nested n1 n3 (by rw [Around.in1_units]; omega)) (by rw [List.length_map, hl]; exact hz) (List.mem_of_getElem? hjk) ?_
      rw [hidx]
      exact ⟨.int j, H, I.tok _, ⟨_, rfl⟩, k _ _ _ _ q (Kp.refl _) (.int _) A⟩
    · exact q.elim
  · exact q.elim
end
end G
end

section
set_option Elab.async false
set_option linter.all false
set_option maxRecDepth 100000
set_option maxHeartbeats 4000000
/-! G layer, soundness 15: list(reversed(a list)). -/
namespace G
open PySem PySem.Spec PyProof.Rows L2 RT
section
variable {prog : Program} {w : World} {A : Around} {E : Value → Shared → Prop} {s : Shared}
theorem ext_rev {it l S : Addr} {items : Array Value} {c : Nat} {R : Result → Shared → Prop} (hh : A.handled = none) (hit : s.heap.IsRevIter it l ((items.size : Int) - 1)) (hl : s.heap.IsList l items) (n1 : l ≠ it) (n2 : S ≠ it) (n3 : S ≠ l) (hz : items.size ≤ sizeLine)
    (hS : s.heap.get? S = some { cls := .type "list", data := .seq #[] c })
    (hR : ∀ h' tk acc c', (∀ b o, b ≠ S → b ≠ it → s.heap.get? b = some o → h'.get? b = some o) → h'.get? S = some { cls := .type "list", dict := none, data := .seq acc c', slots := #[] } → ItemsOf (fun i v => items[items.size - 1 - i]? = some v) acc items.size → R (.ok (.ret .none)) { s with heap := h', toks := tk }) :
    wpAny (model prog w) A.in1 (Builtin.List.listExtendWith (.ref S) (.ref it) .none) (fun fin s' => match fin with | .done f => R (.ok f) s' | .again c' => c'.quiet = true ∧ codeAny (model prog w) A c' R s') (fun e s' => R (.error e) s') s := by
  have tI : s.TypeIs (.ref it) "list_reverseiterator" := hit.typeIs
  have same : Builtin.List.listSameRef (.ref S) (.ref it) = false := by simp [Builtin.List.listSameRef, n2]
  have goes := (Walks.listRev (prog := prog) (w := w) (A := A.in1) hh it l n1 items).toS
  unfold Builtin.List.listExtendWith
  refine wpAny_bind (wpAny_typeOf tI ?_)
  rw [if_neg (by rw [same]; decide)]
  refine wpAny_bind (wpAny_pyIter_revIter hit (wpAny_bind (wpAny_holding ?_)))
  unfold Builtin.List.listLengthHint
  refine wpAny_bind (wpAny_specialOf tI nolen_lri ?_)
  show wpAny _ A.in1 (specialOf (Value.ref it) (Str.ofString "__length_hint__") >>= _) _ _ s
  refine wpAny_bind (wpAny_specialOf tI hint_lri ?_)
  generalize hq : ("list_reverseiterator.__length_hint__" : String) = q0
  wp_delta
  rw [show splitId q0 = some ("list_reverseiterator", "__length_hint__") from by rw [← hq]; decide +kernel]
  rw [← hq]
  refine wpAny_bind (wpAny_isInstance (b := true) tI (by rw [isSubtype_type]; kernel_rfl) (wpAny_pure ?_))
  rw [if_neg (by decide)]
  have st0 : (items.size : Int) - 1 - ((0 : Nat) : Int) = (items.size : Int) - 1 := by omega
  refine wpAny_pure ⟨plainId_quiet F.plain_extend_loop _, codeAny_extend_loopS goes hz S (by simp [n2, n3]) _ items.size 0 _ _ _ rfl (Nat.zero_le _) ⟨Nat.zero_le _, by rw [st0]; exact hit, hl⟩ hS (ItemsOf.nil _) fun s' acc c' hm e1 e2 => ?_⟩
  rw [Moved.eq_with hm]
  exact hR _ _ acc c' (fun b o h1 h2 e => hm.heap b o (by simp [h1, h2]) e) e1 e2
theorem list_of_rev {it l : Addr} {items : Array Value} {Q : Value → Shared → Prop} (hh : A.handled = none) (hit : s.heap.IsRevIter it l ((items.size : Int) - 1)) (hl : s.heap.IsList l items) (n1 : l ≠ it) (hz : items.size ≤ sizeLine)
    (hQ : ∀ h' tk acc c', (∀ b o, b ≠ it → s.heap.get? b = some o → h'.get? b = some o) → h'.get? s.heap.objs.size = some { cls := .type "list", dict := none, data := .seq acc c', slots := #[] } → ItemsOf (fun i v => items[items.size - 1 - i]? = some v) acc items.size → Q (.ref s.heap.objs.size) { s with heap := h', toks := tk }) :
    wpAny (model prog w) A (call (.type "list") [.ref it]) Q E s := by
  obtain ⟨oi, hoi, _⟩ := id hit
  obtain ⟨ol, hol, _⟩ := id hl
  have m2 : s.heap.objs.size ≠ it := Nat.ne_of_gt (Heap.lt_size hoi)
  have m3 : s.heap.objs.size ≠ l := Nat.ne_of_gt (Heap.lt_size hol)
  refine callType_codes (Q₁ := fun v s₁ => v = .ref s.heap.objs.size ∧ s₁ = { s with heap := s.heap.push { cls := .type "list", data := .seq #[] } }) F.called_list (F.typeCall_list_1 _) F.entry_list_init (code_list_new _ ⟨rfl, rfl⟩) ?_
  rintro _ _ ⟨rfl, rfl⟩
  have at0 : (s.heap.push { cls := .type "list", data := .seq #[] }).get? s.heap.objs.size = some { cls := .type "list", data := .seq #[] } := Heap.get?_push_size _ rfl
  refine ⟨⟨_, at0, rfl⟩, F.args_list_init_2 _ _, ?_⟩
  show wpAny _ _ (Builtin.List.listItems (.ref s.heap.objs.size) >>= fun old => Builtin.List.listUpdate (.ref s.heap.objs.size) (fun _ => #[]) >>= fun _ => letGo old.toList.reverse >>= fun _ => Builtin.List.listExtendWith (.ref s.heap.objs.size) (.ref it) .none) _ _ _
  refine wpAny_bind (m := Builtin.List.listItems _) ?_
  unfold Builtin.List.listItems
  refine wpAny_bind (wpAny_seqItems at0 rfl (wpAny_pure ?_))
  refine wpAny_bind (m := updateSeq s.heap.objs.size (fun _ => #[])) (wpAny_updateSeq at0 rfl (wpAny_bind (wpAny_letGo ?_)))
  have keep : ∀ b o, b ≠ s.heap.objs.size → s.heap.get? b = some o → ((s.heap.push { cls := .type "list", data := .seq #[] }).update s.heap.objs.size (Obj.mapSeq (fun _ => (#[] : Array Value)))).get? b = some o := fun b o n e => (Heap.get?_update_other _ _ (Ne.symm n)).trans (Heap.get?_push_of_some _ e)
  refine ext_rev (A := A.in1) hh (hit.at fun o e => keep it o m2.symm e) (hl.at fun o e => keep l o m3.symm e) n1 m2 m3 hz (Heap.get?_update_self (Obj.mapSeq (fun _ => (#[] : Array Value))) at0 rfl) fun h' tk acc c' k1 k2 k3 => ⟨rfl, ?_⟩
  exact hQ h' tk acc c' (fun b o n e => k1 b o (Nat.ne_of_lt (Heap.lt_size e)) n (keep b o (Nat.ne_of_lt (Heap.lt_size e)) e)) k2 k3
end
variable [Tb]
section
variable {X : Cx}
/-- list(reversed(xs)) -/
theorem ge_listRev {e : Expr} {p p2 pos pos2 : Pos} {f : DE} (hc : X.calm = true) (hm : X.mg "list" = none) (hm2 : X.mg "reversed" = none) (he : GE X e f) (hg : Gl X "list" := by rfl) (hg2 : Gl X "reversed" := by rfl)
    (hs : starEach [e] X.env = (false, eval e X.env) :: starEach [] X.env := by rfl)
    (hs2 : starEach [.Call (.Name "reversed" p2) [e] [] pos2] X.env = (false, eval (.Call (.Name "reversed" p2) [e] [] pos2) X.env) :: starEach [] X.env := by rfl) :
    GE X (.Call (.Name "list" p) [.Call (.Name "reversed" p2) [e] [] pos2] [] pos) (d1 oRevSl f) := by
  refine ⟨fun pins s σ H Q I ⟨ρ, h, Q0, R, A, q, k⟩ => ?_⟩
  refine Call_ (ld_blt I hg hm boot_list (callWith_type1 (args_cons (Call_ (ld_blt I hg2 hm2 boot_reversed (callWith_type1 (args_cons (thn (he.run pins s σ H (fun v H' => ∃ d h', oRevSl d h' Q0 ∧ Kp H H' ∧ Rv X.K H' d v ∧ Abs X.K X.w h' H') I ⟨ρ, h, _, R, A, q, fun d h' v H' a1 a2 a3 a4 => ⟨d, h', a1, a2, a3, a4⟩⟩) fun u s1 ⟨v, H1, I1, r1, d, h1, q1, k1, rv, A1⟩ => args_nil ?_) hs) hs rfl))) hs2) hs2 rfl))
  unfold oRevSl at q1
  split at q1
  · rename_i ds e1
    obtain ⟨a, vs, rfl, hq, rL⟩ := lsOf_some A1 rv e1
    cases r1
    obtain ⟨its, rits, hpl, hz⟩ := I1.list hq
    have hil := hpl.isList
    refine call_reversed_list hil (args_nil ?_)
    have kk : ∀ b o, s1.heap.get? b = some o → (s1.heap.push (revObj a ((its.toArray.size : Int) - 1))).get? b = some o := fun b o e => Heap.get?_push_of_some _ e
    have I2 : L2.Inv X pins σ H1 { s1 with heap := s1.heap.push (revObj a ((its.toArray.size : Int) - 1)) } := I1.kept (t' := s1.toks) kk
    have fp := I1.fpOk (H' := H1) (b := s1.heap.objs.size) (Nat.le_refl _) (I1.hok.fresh (Nat.le_refl _))
    obtain ⟨ol, hol, _⟩ := id hil
    have hna : a ≠ s1.heap.objs.size := Nat.ne_of_lt (Heap.lt_size hol)
    have hn : its.toArray.size ≤ sizeLine := by rw [List.size_toArray, ← rits.length]; exact hz
    have hsz : (s1.heap.push (revObj a ((its.toArray.size : Int) - 1))).objs.size = s1.heap.objs.size + 1 := by rw [size_push']
    refine list_of_rev (s := { s1 with heap := s1.heap.push (revObj a ((its.toArray.size : Int) - 1)) }) (I1.ok.hd hc) ⟨_, Heap.get?_push_size _ rfl, rfl, rfl⟩ (hil.push _) hna hn fun h' tk acc c' hk hS hi => ?_
    have hfr : H1 (s1.heap.push (revObj a ((its.toArray.size : Int) - 1))).objs.size = none := I2.hok.fresh (Nat.le_refl _)
    have hrev : Vals vs.reverse acc.toList := vals_rev rits hi
    refine ⟨.ref (s1.heap.push (revObj a ((its.toArray.size : Int) - 1))).objs.size, upd H1 (s1.heap.push (revObj a ((its.toArray.size : Int) - 1))).objs.size (.lst vs.reverse), ?_, rfl, newL_ok q1 A1 (rvL_rev rL) hfr k1 k⟩
    refine I2.turnedNew (t' := tk) (ch := [s1.heap.objs.size]) (fun b o hb e => hk b o (by simpa using hb) e) (fun b hb => by simp at hb; rw [hb]; exact fp) (Nat.le_refl _) (show ObjOk X.prog X.w _ _ _ (.lst vs.reverse) from ⟨by rw [List.length_reverse]; exact hz, acc.toList, c', hrev, by rw [Array.toArray_toList]; exact hS⟩)
  · exact q1.elim
end
end G
end

section
set_option Elab.async false
set_option linter.all false
set_option maxRecDepth 100000
set_option maxHeartbeats 4000000
/-! G layer, soundness 16: reversed(range(..)). -/
namespace G
open PySem PySem.Spec PyProof.Rows L2 RT
theorem rgi_hint_meets (r : Addr) (a m c : Int) : Meets (Builtin.«range_iterator.__length_hint__» ⟨[.ref r], []⟩) (fun _ R s => IsRangeIter s.heap r a m c ∧ ∀ u tk, R (.ok (.ret (.int m u))) { s with toks := tk }) :=
  .of_wp fun prog w A R s h => by obtain ⟨hp, g, d, tk, os⟩ := s; obtain ⟨hl, h⟩ := h; unfold IsRangeIter at hl; wp_walk; exact ⟨_, rfl, h _ _⟩
section
variable {prog : Program} {w : World} {A : Around} {E : Value → Shared → Prop} {s : Shared}
theorem ext_rgi {it S : Addr} {a c : Int} {m n0 : Nat} {R : Result → Shared → Prop} (hh : A.handled = none) (hit : IsRangeIter s.heap it a (m : Int) c) (n2 : S ≠ it) (hz : m ≤ 2 ^ 24)
    (hS : s.heap.get? S = some { cls := .type "list", data := .seq #[] n0 })
    (hR : ∀ h' tk acc c', (∀ b o, b ≠ S → b ≠ it → s.heap.get? b = some o → h'.get? b = some o) → h'.get? S = some { cls := .type "list", dict := none, data := .seq acc c', slots := #[] } → ItemsOf (fun i v => ∃ t, v = .int (a + (i : Nat) * c) t) acc m → R (.ok (.ret .none)) { s with heap := h', toks := tk }) :
    wpAny (model prog w) A.in1 (Builtin.List.listExtendWith (.ref S) (.ref it) .none) (fun fin s' => match fin with | .done f => R (.ok f) s' | .again c' => c'.quiet = true ∧ codeAny (model prog w) A c' R s') (fun e s' => R (.error e) s') s := by
  have tI : s.TypeIs (.ref it) "range_iterator" := ⟨_, hit, rfl⟩
  have same : Builtin.List.listSameRef (.ref S) (.ref it) = false := by simp [Builtin.List.listSameRef, n2]
  have W := (Walks.range (prog := prog) (w := w) (A := A.in1) hh it a c m).toS
  unfold Builtin.List.listExtendWith
  refine wpAny_bind (wpAny_typeOf tI ?_)
  rw [if_neg (by rw [same]; decide)]
  refine wpAny_bind (wpAny_pyIter_rangeiter hit (wpAny_bind (wpAny_holding ?_)))
  unfold Builtin.List.listLengthHint
  refine wpAny_bind (wpAny_specialOf tI F.nolen_ra ?_)
  show wpAny _ A.in1 (specialOf (Value.ref it) (Str.ofString "__length_hint__") >>= _) _ _ s
  refine wpAny_bind (wpAny_specialOf tI F.hint_ra ?_)
  generalize hq : ("range_iterator.__length_hint__" : String) = q0
  wp_delta
  rw [show splitId q0 = some ("range_iterator", "__length_hint__") from by rw [← hq]; decide +kernel]
  rw [← hq]
  refine wpAny_bind (wpAny_isInstance (b := true) tI (by rw [isSubtype_type]; kernel_rfl) ?_)
  show wpAny _ A.in1 (call (.builtin "range_iterator.__length_hint__") [.ref it] >>= _) _ _ _
  refine wpAny_bind (call_meets F.slot_range_iterator_length_hint tI F.entry_range_iterator_length_hint (F.args_range_iterator_length_hint_1 _) (rgi_hint_meets it a m c) ⟨hit, fun u tk => ?_⟩)
  have hk : Builtin.List.listTooLong (Int.toNat (m : Int)) = false := by simp [Builtin.List.listTooLong, sizeLine]; omega
  have key : ∀ (h : Heap) (c₁ tk : Nat), IsRangeIter h it (a + ((0 : Nat) : Int) * c) ((m : Int) - ((0 : Nat) : Int)) c → (∀ b o, b ≠ S → s.heap.get? b = some o → h.get? b = some o) →
      h.get? S = some { cls := .type "list", data := .seq #[] c₁ } → codeAny (model prog w) A (.builtin "list.extend.loop" ⟨[.ref S, .ref it, .none], []⟩) R { s with heap := h, toks := tk } := by
    intro h c₁ tk hit hk hS₁
    refine codeAny_extend_loopS W (by rw [sizeLine_eq]; omega) S (by simp [n2]) .none m 0 _ #[] c₁ rfl (Nat.zero_le _) hit hS₁ (ItemsOf.nil _) fun s' acc' c' hm hS' hacc => ?_
    rw [Moved.eq_with hm]
    exact hR s'.heap s'.toks acc' c' (fun b o h1 h2 e => hm.heap b o (by simp [h1, h2]) (hk b o h1 e)) hS' hacc
  have st0 : IsRangeIter s.heap it (a + ((0 : Nat) : Int) * c) ((m : Int) - ((0 : Nat) : Int)) c := by simpa using hit
  refine wpAny_bind (m := asInt? (.int (m : Int) u)) (wpAny_pure ?_)
  dsimp only
  rw [if_neg (by rw [hk]; decide)]
  refine wpAny_pure ?_
  rw [if_neg (by decide)]
  exact wpAny_pure ⟨plainId_quiet F.plain_extend_loop _, key _ _ _ st0 (fun _ _ _ e => e) hS⟩
theorem list_of_rgi {it : Addr} {a c : Int} {m : Nat} {Q : Value → Shared → Prop} (hh : A.handled = none) (hit : IsRangeIter s.heap it a (m : Int) c) (hz : m ≤ 2 ^ 24)
    (hQ : ∀ h' tk acc c', (∀ b o, b ≠ it → s.heap.get? b = some o → h'.get? b = some o) → h'.get? s.heap.objs.size = some { cls := .type "list", dict := none, data := .seq acc c', slots := #[] } → ItemsOf (fun i v => ∃ t, v = .int (a + (i : Nat) * c) t) acc m → Q (.ref s.heap.objs.size) { s with heap := h', toks := tk }) :
    wpAny (model prog w) A (call (.type "list") [.ref it]) Q E s := by
  have m2 : s.heap.objs.size ≠ it := Nat.ne_of_gt (Heap.lt_size hit)
  refine callType_codes (Q₁ := fun v s₁ => v = .ref s.heap.objs.size ∧ s₁ = { s with heap := s.heap.push { cls := .type "list", data := .seq #[] } }) F.called_list (F.typeCall_list_1 _) F.entry_list_init (code_list_new _ ⟨rfl, rfl⟩) ?_
  rintro _ _ ⟨rfl, rfl⟩
  have at0 : (s.heap.push { cls := .type "list", data := .seq #[] }).get? s.heap.objs.size = some { cls := .type "list", data := .seq #[] } := Heap.get?_push_size _ rfl
  refine ⟨⟨_, at0, rfl⟩, F.args_list_init_2 _ _, ?_⟩
  show wpAny _ _ (Builtin.List.listItems (.ref s.heap.objs.size) >>= fun old => Builtin.List.listUpdate (.ref s.heap.objs.size) (fun _ => #[]) >>= fun _ => letGo old.toList.reverse >>= fun _ => Builtin.List.listExtendWith (.ref s.heap.objs.size) (.ref it) .none) _ _ _
  refine wpAny_bind (m := Builtin.List.listItems _) ?_
  unfold Builtin.List.listItems
  refine wpAny_bind (wpAny_seqItems at0 rfl (wpAny_pure ?_))
  refine wpAny_bind (m := updateSeq s.heap.objs.size (fun _ => #[])) (wpAny_updateSeq at0 rfl (wpAny_bind (wpAny_letGo ?_)))
  have keep : ∀ b o, b ≠ s.heap.objs.size → s.heap.get? b = some o → ((s.heap.push { cls := .type "list", data := .seq #[] }).update s.heap.objs.size (Obj.mapSeq (fun _ => (#[] : Array Value)))).get? b = some o := fun b o n e => (Heap.get?_update_other _ _ (Ne.symm n)).trans (Heap.get?_push_of_some _ e)
  refine ext_rgi (A := A.in1) (a := a) (c := c) (m := m) hh (keep it _ m2.symm hit) m2 hz (Heap.get?_update_self (Obj.mapSeq (fun _ => (#[] : Array Value))) at0 rfl) fun h' tk acc c' k1 k2 k3 => ⟨rfl, ?_⟩
  exact hQ h' tk acc c' (fun b o n e => k1 b o (Nat.ne_of_lt (Heap.lt_size e)) n (keep b o (Nat.ne_of_lt (Heap.lt_size e)) e)) k2 k3
end
theorem rng_rev_get {m i : Nat} (h : i < m) : (rng 0 m).reverse[i]? = some (.int (((m : Int) - 1) + (i : Int) * (-1))) := by
  have hl : (rng 0 m).length = m := by simp [rng]
  rw [List.getElem?_reverse (by rw [hl]; exact h), hl]
  simp [rng, show m - 1 - i < m by omega]
  omega
theorem rng_rev_len (m : Nat) : (rng 0 m).reverse.length = m := by simp [rng]
variable [Tb]
theorem js_rrng {K : PySem.W.Frag} {w : World} {H : Hp} {m : Nat} {lo : Int} (hlo : lo = (m : Int) - 1) : JS K w H (Itc lo (-1) m) (srcV (rng 0 m).reverse) := fun i h H1 k A ok => by
  refine ⟨fun d e => ?_, fun z => by rw [show (srcV (rng 0 m).reverse).ds = (rng 0 m).reverse from rfl, rng_rev_len] at z; exact z⟩
  have hi : i < m := by
    have := (List.getElem?_eq_some_iff.mp e).1
    rw [show (srcV (rng 0 m).reverse).ds = (rng 0 m).reverse from rfl, rng_rev_len] at this; exact this
  have ed : some (D.int (((m : Int) - 1) + (i : Int) * (-1))) = some d := by
    rw [← e]; exact (rng_rev_get hi).symm
  cases ed
  exact ⟨hi, fun x H' ⟨e1, e2⟩ => by subst e1; subst e2; subst hlo; exact ⟨Kp.refl _, A, .int _⟩⟩
section
variable {X : Cx} {a tg : Expr}
theorem rvL_rrng {K : PySem.W.Frag} {H : Hp} (n : Nat) : RvL K H (rng 0 n).reverse (((List.range n).map fun i => V.int (0 + (i : Nat))).reverse) := by
  refine rvL_rev ?_
  unfold rng
  induction (List.range n) with
  | nil => exact .nil
  | cons b r ih => exact .cons (.int _) ih
theorem vals_items {us : List Value} {vs : List V} (hl : vs.length = us.length) (h : ∀ (i : Nat) (u : Value), us[i]? = some u → ∃ v : V, vs[i]? = some v ∧ RelV v u) : Vals vs us := by
  induction us generalizing vs with
  | nil =>
    cases vs with
    | nil => exact .nil
    | cons _ _ => simp at hl
  | cons u us ih =>
    cases vs with
    | nil => simp at hl
    | cons v vs =>
      obtain ⟨v', e, r⟩ := h 0 u rfl
      simp at e; subst e
      exact .cons r (ih (by simpa using hl) fun i u' hu => by simpa using h (i + 1) u' (by simpa using hu))
/-- range(n) as an argument -/
def prA (ta : TA) : L2.St → Hp → (Int → Int → Hp → Prop) → Prop := fun σ H R => ta σ H fun vs H1 => ∃ n, vs = [.int n] ∧ R 0 n H1
theorem prg_A {ta : TA} {p2 pos2 : Pos} (hg : Gl X "range") (hm : X.mg "range" = none) (ha : PA X [a] ta) (hs : starEach [a] X.env = [(false, eval a X.env)] := by rfl) : PRg X (.Call (.Name "range" p2) [a] [] pos2) (prA ta) := by
  intro pins s σ H Q I h
  refine Call_ (ld_blt I hg hm boot_range (PyProof.Rows.callWith_type1 (thn (ha.run pos2 pins s σ H _ I h) fun us s1 ⟨vs, H1, I1, r1, q1⟩ => ?_) hs rfl))
  obtain ⟨n, e, q⟩ := q1
  subst e
  cases r1 with
  | cons r rr =>
    cases rr
    obtain ⟨t, rfl⟩ := r
    exact call_range_1 ⟨_, 0, n, _, _, _, H1, rfl, IsRange.new _ _ _ _ _ _ _, I1.kept fun b u e => Heap.get?_push_of_some _ e, q⟩
/-- for x in reversed(range(n)) -/
theorem gi_rrng {f : DA} {p p2 pos pos2 : Pos} (hm : X.mg "reversed" = none) (hm2 : X.mg "range" = none) (ha : GA X [a] f) (hg : Gl X "reversed" := by rfl) (hg2 : Gl X "range" := by rfl)
    (hs : starEach [a] X.env = [(false, eval a X.env)] := by rfl) (hs2 : starEach [.Call (.Name "range" p2) [a] [] pos2] X.env = (false, eval (.Call (.Name "range" p2) [a] [] pos2) X.env) :: starEach [] X.env := by rfl) :
    GI X tg (.Call (.Name "reversed" p) [.Call (.Name "range" p2) [a] [] pos2] [] pos) (iRevRng f) :=
  pi_imp (pi_revR hg hm (prg_A hg2 hm2 ha hs) hs2) fun σ H R ⟨ρ, h, R0, RR, A, q, k⟩ => ⟨ρ, h, _, RR, A, q, fun ds h1 vs H1 q1 k1 r1 A1 => by
    split at q1
    · rename_i j
      cases r1 with
      | cons ra rb =>
        cases rb; cases ra
        refine ⟨j, rfl, by omega, by omega, q1.1, q1.2.1, ?_⟩
        rw [show j - 0 = j by omega]
        exact k _ _ _ _ q1.2.2 k1 A1 (js_rrng (m := j.toNat) (by omega))
    · exact q1.elim⟩
/-- list(reversed(range(n))) -/
theorem ge_rrng {f : DA} {p p1 p2 pos pos1 pos2 : Pos} (hc : X.calm = true) (hm0 : X.mg "list" = none) (hm : X.mg "reversed" = none) (hm2 : X.mg "range" = none) (ha : GA X [a] f) (hg0 : Gl X "list" := by rfl) (hg : Gl X "reversed" := by rfl) (hg2 : Gl X "range" := by rfl)
    (hs : starEach [a] X.env = [(false, eval a X.env)] := by rfl) (hs2 : starEach [.Call (.Name "range" p2) [a] [] pos2] X.env = (false, eval (.Call (.Name "range" p2) [a] [] pos2) X.env) :: starEach [] X.env := by rfl)
    (hs3 : starEach [.Call (.Name "reversed" p1) [.Call (.Name "range" p2) [a] [] pos2] [] pos1] X.env = (false, eval (.Call (.Name "reversed" p1) [.Call (.Name "range" p2) [a] [] pos2] [] pos1) X.env) :: starEach [] X.env := by rfl) :
    GE X (.Call (.Name "list" p) [.Call (.Name "reversed" p1) [.Call (.Name "range" p2) [a] [] pos2] [] pos1] [] pos) (dRevRng f) := by
  refine ⟨fun pins s σ H Q I ⟨ρ, h, Q0, R, A, q, k⟩ => ?_⟩
  refine Call_ (ld_blt I hg0 hm0 boot_list (callWith_type1 (args_cons (Call_ (ld_blt I hg hm boot_reversed (callWith_type1 (args_cons (thn (prg_A hg2 hm2 ha hs pins s σ H (fun lo n H1 => lo = 0 ∧ (n : Int) ≤ SZ ∧ -(2 ^ 62) ≤ n ∧ ∃ h1, Abs X.K X.w h1 H1 ∧ Kp H H1 ∧ newL (rng 0 n.toNat).reverse h1 Q0) I ⟨ρ, h, _, R, A, q, fun d h1 v H1 q1 k1 r1 A1 => ?_⟩) fun x s1 hx => args_nil ?_) hs2) hs2 rfl))) hs3) hs3 rfl))
  · split at q1
    · rename_i j
      cases r1 with
      | cons ra rb =>
        cases rb; cases ra
        exact ⟨j, rfl, rfl, q1.2.1, q1.1, h1, A1, k1, q1.2.2⟩
    · exact q1.elim
  obtain ⟨r, lo, n, t, u, v, H1, rfl, hr, I1, rfl, hn1, hn2, h1, A1, k1, qn⟩ := hx
  have hsz : (SZ : Int) = 16777216 := rfl
  have hn : Builtin.Range.rangeSize 0 n 1 = ((n.toNat : Nat) : Int) := by
    have := rangeSize_nat 0 n
    rwa [show n - 0 = n by omega] at this
  refine call_reversed_range hr (smallRev_one (by omega) (by omega) (by omega) (by omega)) (args_nil ?_)
  have I2 : L2.Inv X pins σ H1 { s1 with heap := s1.heap.push (rngRevObj 0 n 1) } := I1.kept (t' := s1.toks) fun b o e => Heap.get?_push_of_some _ e
  have fp := I1.fpOk (H' := H1) (b := s1.heap.objs.size) (Nat.le_refl _) (I1.hok.fresh (Nat.le_refl _))
  refine list_of_rgi (s := { s1 with heap := s1.heap.push (rngRevObj 0 n 1) }) (it := s1.heap.objs.size) (a := (n.toNat : Int) - 1) (c := -1) (m := n.toNat) (I1.ok.hd hc) ?_ (by omega) fun h' tk acc c' hk hS hi => ?_
  · have e1 : (n.toNat : Int) - 1 = 0 + (Builtin.Range.rangeSize 0 n 1 - 1) * 1 := by rw [hn]; omega
    show IsRangeIter _ _ _ _ _
    rw [e1]
    exact (by rw [← hn]; exact Heap.get?_push_size _ rfl)
  have hfr : H1 (s1.heap.push (rngRevObj 0 n 1)).objs.size = none := I2.hok.fresh (Nat.le_refl _)
  have hlen : ((List.range n.toNat).map fun i => V.int (0 + (i : Nat))).reverse.length = n.toNat := by simp
  have hvs : Vals ((List.range n.toNat).map fun i => V.int (0 + (i : Nat))).reverse acc.toList := by
    refine vals_items (by rw [hlen, Array.length_toList]; exact hi.1.symm) fun i u hu => ?_
    have hlt : i < n.toNat := by
      have := (List.getElem?_eq_some_iff.mp hu).1
      rw [Array.length_toList, hi.1] at this; exact this
    obtain ⟨t', rfl⟩ := hi.2 i u (by rw [← hu, Array.getElem?_toList])
    refine ⟨.int ((n.toNat : Int) - 1 + (i : Int) * (-1)), ?_, ⟨t', rfl⟩⟩
    rw [List.getElem?_reverse (by simpa using hlt)]
    simp [show n.toNat - 1 - i < n.toNat by omega]
    omega
  refine ⟨.ref (s1.heap.push (rngRevObj 0 n 1)).objs.size, upd H1 (s1.heap.push (rngRevObj 0 n 1)).objs.size (.lst ((List.range n.toNat).map fun i => V.int (0 + (i : Nat))).reverse), ?_, rfl, newL_ok qn A1 (rvL_rrng _) hfr k1 k⟩
  refine I2.turnedNew (t' := tk) (ch := [s1.heap.objs.size]) (fun b o hb e => hk b o (by simpa using hb) e) (fun b hb => by simp at hb; rw [hb]; exact fp) (Nat.le_refl _) (show ObjOk X.prog X.w _ _ _ (.lst _) from ⟨by rw [hlen, sizeLine_eq]; omega, acc.toList, c', hvs, by rw [Array.toArray_toList]; exact hS⟩)
end
end G
end

section
set_option Elab.async false
set_option linter.all false
set_option maxRecDepth 100000
set_option maxHeartbeats 4000000
/-! G layer, soundness 17: ==, of plain data, of dicts with any plain keys, of tuples of two dicts. -/
namespace G
open PySem PySem.Spec PyProof.Rows L2
variable [Tb]
theorem dget_val {kvs : List (D × D)} {k v : D} (h : dget kvs k = some v) : ∃ p ∈ kvs, p.2 = v := by
  induction kvs with
  | nil => simp [dget] at h
  | cons p r ih =>
    obtain ⟨a, b⟩ := p
    rw [dget] at h
    split at h
    · cases h; exact ⟨_, List.mem_cons_self, rfl⟩
    · obtain ⟨q, h1, h2⟩ := ih h; exact ⟨q, List.mem_cons_of_mem _ h1, h2⟩
/-- the entries la, looked for among lb -/
inductive RHits (prog : Program) (w : World) (A : Around) (s : Shared) (lb : List GR.RE) : List GR.RE → Bool → Prop
  | nil : RHits prog w A s lb [] true
  | miss {x : GR.RE} {r : List GR.RE} : x.1 ∉ lb.map (·.1) → RHits prog w A s lb (x :: r) false
  | hit {x y : GR.RE} {r : List GR.RE} {e b : Bool} : y ∈ lb → y.1 = x.1 → SeqAt.EqIn prog w A s x.2.2 y.2.2 e → RHits prog w A s lb r b → RHits prog w A s lb (x :: r) (e && b)
theorem RHits.inv {prog : Program} {w : World} {A : Around} {s : Shared} {lb : List GR.RE} {x : GR.RE} {r : List GR.RE} {b : Bool} (h : RHits prog w A s lb (x :: r) b) :
    (x.1 ∉ lb.map (·.1) ∧ b = false) ∨ ∃ y e b', y ∈ lb ∧ y.1 = x.1 ∧ SeqAt.EqIn prog w A s x.2.2 y.2.2 e ∧ RHits prog w A s lb r b' ∧ b = (e && b') := by
  cases h with
  | miss hn => exact .inl ⟨hn, rfl⟩
  | hit hy he hq hr => exact .inr ⟨_, _, _, hy, he, hq, hr, rfl⟩
section
variable {prog : Program} {w : World} {A : Around} {E : Value → Shared → Prop} {s : Shared}
theorem rw_pairs {nm : String} {a b : PySem.Addr} {la lb : List GR.RE} {es es' : Array DictEntry} {ep ep' : Nat} {r : Bool} {Q : Bool → Shared → Prop} (ha : (a == sysModules) = false) (hb : (b == sysModules) = false) (hu : A.units + 8 < cLine)
    (da : GR.Rw w s.heap a la es ep) (db : GR.Rw w s.heap b lb es' ep') (hits : la.length = lb.length → RHits prog w A s lb la r) (h : Q (la.length == lb.length && r) s) :
    wpAny (model prog w) A (Builtin.Dict.samePairs nm a b) Q E s := by
  obtain ⟨oa, hoa, _, hda⟩ := da.dic
  obtain ⟨ob, hob, _, hdb⟩ := db.dic
  have hla : la.length = es.size := by rw [← Array.length_toList, da.ents, List.length_map]
  have hlb : lb.length = es'.size := by rw [← Array.length_toList, db.ents, List.length_map]
  rw [hla, hlb] at h
  unfold Builtin.Dict.samePairs Builtin.Dict.showsAll
  rw [if_neg (show ¬ (a == sysModules) = true by rw [ha]; exact Bool.false_ne_true), if_neg (show ¬ (b == sysModules) = true by rw [hb]; exact Bool.false_ne_true)]
  refine wpAny_bind (wpAny_pure (wpAny_bind (wpAny_pure ?_)))
  refine wpAny_bind (wpAny_dictEntries hoa hda ?_)
  dsimp only
  refine wpAny_bind (wpAny_dictEntries hob hdb ?_)
  by_cases hsz : es.size = es'.size
  case neg =>
    rw [if_pos (by simpa using hsz)]
    have hbf : (es.size == es'.size) = false := by simpa using hsz
    rw [hbf, Bool.false_and] at h
    exact wpAny_bind (wpAny_rule (wpAny_pure h))
  case pos =>
    have h' : Q r s := by simpa [hsz] using h
    have hits' := hits (by rw [hla, hlb]; exact hsz)
    rw [if_neg (by rw [hsz]; simp)]
    refine wpAny_bind (wpAny_dictEpoch hoa hda ?_)
    refine wpAny_bind ?_
    rw [Std.Legacy.Range.forIn_eq_forIn_range']
    simp only [Std.Legacy.Range.size, Nat.sub_zero, Nat.add_sub_cancel, Nat.div_one]
    refine wpAny_forIn_list _
      (fun rest q s' => s' = s ∧ q = (none, ()) ∧ ∃ i, rest = List.range' i (es.size - i) ∧ i ≤ es.size ∧ RHits prog w A s lb (la.drop i) r)
      _ ?_ ?_ _ _ ⟨rfl, rfl, 0, by simp, Nat.zero_le _, hits'⟩
    · rintro x rest q s' ⟨rfl, rfl, i, hr, hi, hpre⟩
      have hlt : i < es.size := by
        rcases Nat.lt_or_ge i es.size with h | h
        · exact h
        · rw [Nat.sub_eq_zero_of_le h] at hr; simp at hr
      obtain ⟨rfl, hrest⟩ : x = i ∧ rest = List.range' (i + 1) (es.size - (i + 1)) := by
        have e : es.size - i = (es.size - (i + 1)) + 1 := by omega
        rw [e, List.range'_succ] at hr
        injection hr with h1 h2
        exact ⟨h1, h2⟩
      refine wpAny_bind (wpAny_dictEntries hoa hda ?_)
      have hlt' : x < la.length := by rw [hla]; exact hlt
      have hex : es[x]? = some (GR.ent w la[x]) := by rw [da.at_ x, List.getElem?_eq_getElem hlt']; rfl
      rw [hex]
      have hdrop : la.drop x = la[x] :: la.drop (x + 1) := List.drop_eq_getElem_cons hlt'
      obtain ⟨k1, k2⟩ := da.keys _ (List.getElem_mem hlt')
      rw [hdrop] at hpre
      generalize la[x] = p at hpre k1 k2 ⊢
      show wpAny _ _ (holding [p.2.1, p.2.2] _ >>= _) _ _ _
      refine wpAny_bind (wpAny_holding (wpAny_bind (GR.find_any hu k1 k2 hob hdb db.ks (fun hn => ?_) fun j hj => ?_)))
      · rcases hpre.inv with ⟨_, er⟩ | ⟨y, _, _, hy, ey, _⟩
        · rw [er] at h'
          refine wpAny_pure ?_
          show wpAny _ _ (if (!false) = true then _ else _) _ _ _
          rw [if_pos (by decide)]
          exact wpAny_pure (wpAny_pure h')
        · exact absurd (List.mem_map.mpr ⟨y, hy, ey⟩) hn
      · rw [List.getElem?_map] at hj
        obtain ⟨y0, ey0, ey1⟩ := Option.map_eq_some_iff.mp hj
        have hjx : es'[j]? = some (GR.ent w y0) := by rw [db.at_ j, ey0]; rfl
        refine wpAny_bind (wpAny_dictEntries hob hdb ?_)
        rw [hjx]
        rcases hpre.inv with ⟨hn, _⟩ | ⟨y, e, b', hy, ey, he, hrr, er⟩
        · exact absurd (List.mem_map.mpr ⟨y0, List.mem_of_getElem? ey0, ey1⟩) hn
        · have eyy : y = y0 := by
            obtain ⟨i', hi'⟩ := List.mem_iff_getElem?.mp hy
            have g1 : (lb.map (·.1))[i']? = some p.1 := by rw [List.getElem?_map, hi']; exact congrArg some ey
            have g2 : (lb.map (·.1))[j]? = some p.1 := by rw [List.getElem?_map, ey0]; exact congrArg some ey1
            have := db.ks.uniq g1 g2
            rw [this, ey0] at hi'
            exact (Option.some.inj hi').symm
          subst eyy
          refine wpAny_holding (he _ _ ?_)
          cases e with
          | false =>
            rw [er, Bool.false_and] at h'
            show wpAny _ _ (if (!false) = true then _ else _) _ _ _
            rw [if_pos (by decide)]
            exact wpAny_pure (wpAny_pure h')
          | true =>
            rw [Bool.true_and] at er
            rw [← er] at hrr
            show wpAny _ _ (if (!true) = true then _ else _) _ _ _
            rw [if_neg (by decide)]
            refine wpAny_bind (wpAny_dictEpoch hoa hda ?_)
            rw [if_neg (by simp)]
            exact wpAny_pure ⟨rfl, rfl, x + 1, hrest, hlt, hrr⟩
    · rintro q s' ⟨rfl, rfl, i, hr, hi, hpre⟩
      have hin : i = es.size := by
        rcases Nat.lt_or_ge i es.size with h | h
        · have e : es.size - i = (es.size - (i + 1)) + 1 := by omega
          rw [e, List.range'_succ] at hr; exact nomatch hr
        · exact Nat.le_antisymm hi h
      refine wpAny_pure ?_
      rw [hin, ← hla, List.drop_length] at hpre
      cases hpre
      exact h'
theorem rw_eq {a b : PySem.Addr} {la lb : List GR.RE} {es es' : Array DictEntry} {ep ep' : Nat} {r : Bool} {Q : Value → Shared → Prop} (ha : (a == sysModules) = false) (hb : (b == sysModules) = false) (hu : A.units + 10 < cLine)
    (da : GR.Rw w s.heap a la es ep) (db : GR.Rw w s.heap b lb es' ep') (hits : la.length = lb.length → RHits prog w A.in1 s lb la r) (h : Q (.bool (la.length == lb.length && r)) s) :
    wpAny (model prog w) A (compareOp .Eq (.ref a) (.ref b)) Q E s := by
  refine wpAny_richCompare_same_room (op := .Eq) da.dic.typeIs db.dic.typeIs PySem.F.slot_dict_eq (wpAny_call_entry PySem.F.slot_dict_eq da.dic.typeIs PySem.F.entry_dict_eq ?_ (PySem.F.args_dict_eq_2 _ _)) (by omega)
  show wpAny _ _ (Builtin.Dict.dictSlotArgs "__eq__" ⟨[.ref a, .ref b], []⟩ >>= _) _ _ s
  refine wpAny_bind ?_
  unfold Builtin.Dict.dictSlotArgs
  refine wpAny_bind (wpAny_notOrdered_dict da.dic.typeIs ?_)
  show wpAny _ _ (pure (Value.ref a, Value.ref b)) _ _ s
  refine wpAny_pure ?_
  refine wpAny_bind (wpAny_isInstance (T := "dict") db.dic.typeIs PySem.F.sub_dict_dict ?_)
  simp only [Bool.not_true, Bool.false_eq_true, if_false]
  refine wpAny_bind (wpAny_pure (wpAny_bind (wpAny_pure ?_)))
  refine wpAny_bind (rw_pairs ha hb (by show A.units + 1 + 8 < cLine; omega) da db hits ?_)
  refine wpAny_pure ⟨_, rfl, ?_, ?_⟩
  · exact fun x => nomatch x
  · simpa using h
theorem rw_ne {a b : PySem.Addr} {la lb : List GR.RE} {es es' : Array DictEntry} {ep ep' : Nat} {r : Bool} {Q : Value → Shared → Prop} (ha : (a == sysModules) = false) (hb : (b == sysModules) = false) (hu : A.units + 10 < cLine)
    (da : GR.Rw w s.heap a la es ep) (db : GR.Rw w s.heap b lb es' ep') (hits : la.length = lb.length → RHits prog w A.in1 s lb la r) (h : Q (.bool (!(la.length == lb.length && r))) s) :
    wpAny (model prog w) A (compareOp .NotEq (.ref a) (.ref b)) Q E s := by
  refine wpAny_richCompare_same_room (op := .NotEq) da.dic.typeIs db.dic.typeIs PySem.F.slot_dict_ne (wpAny_call_entry PySem.F.slot_dict_ne da.dic.typeIs PySem.F.entry_dict_ne ?_ (PySem.F.args_dict_ne_2 _ _)) (by omega)
  show wpAny _ _ (Builtin.Dict.dictSlotArgs "__ne__" ⟨[.ref a, .ref b], []⟩ >>= _) _ _ s
  refine wpAny_bind ?_
  unfold Builtin.Dict.dictSlotArgs
  refine wpAny_bind (wpAny_notOrdered_dict da.dic.typeIs ?_)
  show wpAny _ _ (pure (Value.ref a, Value.ref b)) _ _ s
  refine wpAny_pure ?_
  refine wpAny_bind (wpAny_isInstance (T := "dict") db.dic.typeIs PySem.F.sub_dict_dict ?_)
  simp only [Bool.not_true, Bool.false_eq_true, if_false]
  refine wpAny_bind (wpAny_pure (wpAny_bind (wpAny_pure ?_)))
  refine wpAny_bind (rw_pairs ha hb (by show A.units + 1 + 8 < cLine; omega) da db hits ?_)
  refine wpAny_pure ⟨_, rfl, ?_, ?_⟩
  · exact fun x => nomatch x
  · simpa using h
end
section
variable {X : Cx} {pins : List (PySem.Addr × Obj)} {σ : L2.St} {H : Hp} {s : Shared} {h : AH}
theorem ep_len {K : PySem.W.Frag} {H : Hp} {kvs : List (D × D)} {L : List GR.RE} (r : Paired (EP K H) kvs L) : L.length = kvs.length := by
  have := congrArg List.length (ep_keys r)
  simpa using this
theorem hits_of (I : L2.Inv X pins σ H s) (A : Abs X.K X.w h H) {B : Around} (hu : B.units + 16 < cLine) {kb : List (D × D)} {lb : List GR.RE} (rb : Paired (EP X.K H) kb lb) (nb : (kb.map (·.1)).Nodup) (ob : dOkE h kb) : ∀ {ka : List (D × D)} {la : List GR.RE}, Paired (EP X.K H) ka la → dOkE h ka → RHits X.prog X.w B s lb la (ka.all (hitE h kb))
  | _, _, .nil, _ => .nil
  | (k, d) :: r, x :: qs, .cons hq t, oa => by
    have ih := hits_of I A hu rb nb ob t fun p hp => oa p (List.mem_cons_of_mem _ hp)
    obtain ⟨z, hz⟩ := oa _ List.mem_cons_self
    obtain ⟨e1, e2, _, v, h1, h2⟩ := hq
    rw [List.all_cons]
    by_cases hm : k ∈ kb.map (·.1)
    · have hm' : nk k ∈ lb.map (·.1) := by rw [ep_keys rb]; exact (nk_mem e2 (ep_pl rb)).mpr hm
      obtain ⟨j, hj⟩ := List.mem_iff_getElem?.mp hm'
      rw [List.getElem?_map] at hj
      obtain ⟨y, ey, ek⟩ := Option.map_eq_some_iff.mp hj
      obtain ⟨d', v', g1, g2, g3⟩ := dget_of e2 rb nb ey ek
      obtain ⟨p, hp, rfl⟩ := dget_val g1
      obtain ⟨z', hz'⟩ := ob p hp
      have : hitE h kb (k, d) = deqv z z' := by
        have hz2 : rei h 10 d = some z := hz
        simp only [hitE, g1, hz2, hz']
      rw [this]
      obtain ⟨as, r1⟩ := reads I A _ _ _ _ _ hz h1 h2
      obtain ⟨bs, r2⟩ := reads I A _ _ _ _ _ hz' g2 g3
      have n1 := rei_dn _ _ _ hz
      have n2 := rei_dn _ _ _ hz'
      have := SeqAt.eqAt_plain _ _ B s _ _ as bs r1 r2 n1.tp.2 n2.tp.2 (by have := n1.tp.1; omega)
      rw [eqv_tp _ _ _ _ n1 n2] at this
      exact .hit (List.mem_of_getElem? ey) (ek.trans e1.symm) (this.inModel _ _) ih
    · have : hitE h kb (k, d) = false := by simp [hitE, dget_none hm]
      rw [this, Bool.false_and]
      refine .miss fun z => hm ?_
      rw [e1, ep_keys rb] at z
      exact (nk_mem e2 (ep_pl rb)).mp z
end
section
variable {X : Cx} {pins : List (PySem.Addr × Obj)} {σ : L2.St} {H : Hp} {s : Shared} {h : AH}
theorem dd_eq (I : L2.Inv X pins σ H s) (A : Abs X.K X.w h H) {B : Around} (hu : B.units + 30 < cLine) {a b : PySem.Addr} {Q0 : Bool → Prop} {E : Value → Shared → Prop} {Q : Value → Shared → Prop} (q : dEqB h a b Q0) (k : ∀ r, Q0 r → Q (.bool r) s) : wpAny (model X.prog X.w) B (compareOp .Eq (.ref a) (.ref b)) Q E s := by
  unfold dEqB at q
  split at q
  · rename_i ka kb ea eb
    obtain ⟨oa, ob, q⟩ := q
    obtain ⟨la, es, ep, d1, ra, _, sa, na, _⟩ := dic_raw I A ea
    obtain ⟨lb, es', ep', d2, rb, _, sb, nb, _⟩ := dic_raw I A eb
    refine rw_eq sa sb (by omega) d1 d2 (fun _ => hits_of I A (by show B.units + 1 + _ < _; omega) rb nb ob ra oa) (k _ ?_)
    rw [ep_len ra, ep_len rb]
    exact q
  · exact q.elim
theorem dd_ne (I : L2.Inv X pins σ H s) (A : Abs X.K X.w h H) {B : Around} (hu : B.units + 30 < cLine) {a b : PySem.Addr} {Q0 : Bool → Prop} {E : Value → Shared → Prop} {Q : Value → Shared → Prop} (q : dEqB h a b Q0) (k : ∀ r, Q0 r → Q (.bool (!r)) s) : wpAny (model X.prog X.w) B (compareOp .NotEq (.ref a) (.ref b)) Q E s := by
  unfold dEqB at q
  split at q
  · rename_i ka kb ea eb
    obtain ⟨oa, ob, q⟩ := q
    obtain ⟨la, es, ep, d1, ra, _, sa, na, _⟩ := dic_raw I A ea
    obtain ⟨lb, es', ep', d2, rb, _, sb, nb, _⟩ := dic_raw I A eb
    refine rw_ne sa sb (by omega) d1 d2 (fun _ => hits_of I A (by show B.units + 1 + _ < _; omega) rb nb ob ra oa) (k _ ?_)
    rw [ep_len ra, ep_len rb]
    exact q
  · exact q.elim
theorem dEqB_det {h : AH} {a b : PySem.Addr} {Q : Bool → Prop} (q : dEqB h a b Q) : ∃ r, Q r ∧ dEqB h a b fun r' => r' = r := by
  unfold dEqB at q ⊢
  split at q
  · obtain ⟨oa, ob, q⟩ := q
    exact ⟨_, q, oa, ob, rfl⟩
  · exact q.elim
end
section
variable {X : Cx}
theorem gc_eq (hu : X.A.units + 64 < cLine) : GC X .Eq oEq := fun pins s σ H x y v u Q I rx ry ⟨d, e, h, Q0, rd, re, A, q, k⟩ => by
  replace q := q.un
  unfold oEqB at q
  split at q
  · rename_i x' y' e1 e2
    obtain ⟨as, r1⟩ := reads I A _ _ _ _ _ e1 rd rx
    obtain ⟨bs, r2⟩ := reads I A _ _ _ _ _ e2 re ry
    have n1 := rei_dn _ _ _ e1
    have n2 := rei_dn _ _ _ e2
    refine SeqAt.eq_plain r1 r2 n1.tp.2 n2.tp.2 (by have := n1.tp.1; omega) ⟨.bl _, H, I, rfl, ?_⟩
    rw [eqv_tp _ _ _ _ n1 n2]
    exact k _ _ _ _ q (Kp.refl _) (.bl _) A
  · split at q
    · cases rd; cases re; cases rx; cases ry
      exact dd_eq I A (by omega) q fun r hr => ⟨.bl _, H, I, rfl, k _ _ _ _ hr (Kp.refl _) (.bl _) A⟩
    · exact q.elim
theorem gc_ne (hu : X.A.units + 64 < cLine) : GC X .NotEq oNe := fun pins s σ H x y v u Q I rx ry ⟨d, e, h, Q0, rd, re, A, q, k⟩ => by
  replace q := q.un
  unfold oEqB at q
  split at q
  · rename_i x' y' e1 e2
    obtain ⟨as, r1⟩ := reads I A _ _ _ _ _ e1 rd rx
    obtain ⟨bs, r2⟩ := reads I A _ _ _ _ _ e2 re ry
    have n1 := rei_dn _ _ _ e1
    have n2 := rei_dn _ _ _ e2
    refine SeqAt.ne_plain r1 r2 n1.tp.2 n2.tp.2 (by have := n1.tp.1; omega) ⟨.bl _, H, I, rfl, ?_⟩
    rw [eqv_tp _ _ _ _ n1 n2]
    exact k _ _ _ _ q (Kp.refl _) (.bl _) A
  · split at q
    · cases rd; cases re; cases rx; cases ry
      exact dd_ne I A (by omega) q fun r hr => ⟨.bl _, H, I, rfl, k _ _ _ _ hr (Kp.refl _) (.bl _) A⟩
    · exact q.elim
/-- two tuples of two dicts -/
theorem gc_eqT (hu : X.A.units + 64 < cLine) : GC X .Eq oEqT := fun pins s σ H x y v u Q I rx ry ⟨d, e, h, Q0, rd, re, A, q, k⟩ => by
  obtain ⟨a, b, c, d', rfl, rfl, n1, n2, q⟩ := q.un
  obtain ⟨r1, q, g1⟩ := dEqB_det q
  obtain ⟨r2, q, g2⟩ := dEqB_det q
  cases rd with
  | tup t1 l1 =>
    cases re with
    | tup t2 l2 =>
      cases rx; cases ry
      obtain ⟨its, ri, ti, _⟩ := I.tuple t1
      obtain ⟨its', ri', ti', _⟩ := I.tuple t2
      cases l1 with
      | cons x1 x2 => cases x2 with
        | cons x3 x4 => cases x4; cases l2 with
          | cons y1 y2 => cases y2 with
            | cons y3 y4 =>
              cases y4; cases x1; cases x3; cases y1; cases y3
              cases ri with
              | cons z1 z2 => cases z2 with
                | cons z3 z4 => cases z4; cases ri' with
                  | cons u1 u2 => cases u2 with
                    | cons u3 u4 =>
                      cases u4; cases z1; cases z3; cases u1; cases u3
                      refine SeqAt.rcIn_tuples (e := fun i => if i = 0 then r1 else r2) ti ti' (by omega) (fun j h1 h2 => ?_) ⟨.bl _, H, I, rfl, k (.bl (r1 && r2)) _ _ _ q (Kp.refl _) ?_ A⟩
                      · match j, h1, h2 with
                        | 0, _, _ => exact SeqAt.EqIn.of_refs n1 fun E Q hq => dd_eq I A (by show X.A.units + 1 + _ < _; omega) g1 fun r hr => by subst hr; exact hq
                        | 1, _, _ => exact SeqAt.EqIn.of_refs n2 fun E Q hq => dd_eq I A (by show X.A.units + 1 + _ < _; omega) g2 fun r hr => by subst hr; exact hq
                      · refine show Rv X.K H (.bl (r1 && r2)) (.bl (((List.range 2).all fun i => if i = 0 then r1 else r2) && true)) from ?_
                        have : (((List.range 2).all fun i => if i = 0 then r1 else r2) && true) = (r1 && r2) := by
                          cases r1 <;> cases r2 <;> rfl
                        rw [this]
                        exact .bl _
end
end G
end

section
set_option Elab.async false
set_option linter.all false
set_option maxRecDepth 100000
set_option maxHeartbeats 4000000
/-! G layer, soundness 18: list.count, dict displays with entries. -/
namespace G
open PySem PySem.Spec PyProof.Rows L2
variable [Tb]
theorem countP_tp {n : Nat} {x : D} (hx : Dn n x) : ∀ {ys : List D}, (∀ y ∈ ys, Dn n y) → ((tpL ys).countP fun y => PyData.eqv y (tp x)) = ys.countP fun y => deqv y x
  | [], _ => rfl
  | y :: ys, h => by
    rw [tpL, List.countP_cons, List.countP_cons, eqv_tp y x n n (h y List.mem_cons_self) hx, countP_tp hx fun z hz => h z (List.mem_cons_of_mem _ hz)]
section
variable {X : Cx} {pins : List (Addr × Obj)} {σ : L2.St} {H : Hp} {s : Shared}
theorem gm_count (hu : X.A.units + 100 < cLine) : GM X "list.count" mCount := fun pins s σ H x vs v us Q I rx rv ⟨d, ds, h, Q0, rd, rL, A, q, k⟩ => by
  unfold mCount at q
  split at q
  · rename_i y
    obtain ⟨yv, rfl, ry⟩ := rvL_one rL
    obtain ⟨u, rfl, ru⟩ := vals1 rv
    split at q
    · rename_i ys y' e2 e1
      obtain ⟨xs, e3, e4⟩ := Option.bind_eq_some_iff.mp e2
      obtain ⟨as, r1⟩ := reads I A _ _ _ _ _ e1 ry ru
      have n1 := rei_dn _ _ _ e1
      have nL : ∀ y ∈ ys, Dn 12 y := fun y hy => let ⟨z, _, q⟩ := pMem (mapO_some e4) y hy; rei_dn _ _ _ q
      have dL : PyData.depthAll (tpL ys) ≤ 12 := depthAll_le fun p hp => by
        rw [tpL_map] at hp
        obtain ⟨d, hd, e⟩ := List.mem_map.mp hp
        rw [← e]; exact (nL d hd).tp.1
      have pL : PyData.plainAll (tpL ys) = true := plainAll_of fun p hp => by
        rw [tpL_map] at hp
        obtain ⟨d, hd, e⟩ := List.mem_map.mp hp
        rw [← e]; exact (nL d hd).tp.2
      have b1 := n1.tp.1
      obtain ⟨a, ws, rfl, hq, rL'⟩ := lsOf_some A rd e3
      cases rx
      obtain ⟨its, rits, hpls, hz⟩ := I.list hq
      obtain ⟨bs, r2⟩ := reads_list (fun d d' v u => reads I A 12 d d' v u) e4 rL' rits
      refine SeqAt.count_list_data (vs := its.toArray) hpls.isList r2 r1 pL n1.tp.2 (by omega) ?_
      rw [countP_tp n1 nL]
      exact ⟨.int _, H, I.tok _, ⟨_, rfl⟩, k _ _ _ _ q (Kp.refl _) (.int _) A⟩
    · exact q.elim
  · exact q.elim
end
/-! ### displays -/
def RvP (K : PySem.W.Frag) (H : Hp) : List (D × D) → List (V × V) → Prop := Paired fun p q => Rv K H p.1 q.1 ∧ Rv K H p.2 q.2
def tP (K : PySem.W.Frag) (w : World) (f : DP) (σ : L2.St) (H : Hp) (Q : List (V × V) → Hp → Prop) : Prop :=
  ∃ ρ h Q0, RS K H ρ σ ∧ Abs K w h H ∧ f ρ h Q0 ∧ ∀ ps h' vs H', Q0 ps h' → Kp H H' → RvP K H' ps vs → Abs K w h' H' → Q vs H'
structure GP (X : Cx) (pos : Pos) (keys : List (Option Expr)) (values : List Expr) (f : DP) : Prop where
  go : ∃ trs, PPs X pos keys values trs ∧ ∀ σ H Q, tP X.K X.w f σ H Q → tPairs trs σ H Q
section
variable {X : Cx} {pos : Pos}
theorem gp_nil : GP X pos [] [] dpNil := ⟨[], pps_nil, fun σ H Q ⟨ρ, h, Q0, R, A, q, k⟩ => k _ _ _ _ q (Kp.refl _) .nil A⟩
theorem gp_cons {a b : Expr} {ks : List (Option Expr)} {vs : List Expr} {fa fb : DE} {f : DP} (ha : GE X a fa) (hb : GE X b fb) (hr : GP X pos ks vs f) : GP X pos (some a :: ks) (b :: vs) (dpCons fa fb f) := by
  obtain ⟨trs, h1, h2⟩ := hr
  exact ⟨(tE X.K X.w fa, tE X.K X.w fb) :: trs, pps_cons ha hb h1, fun σ H Q ⟨ρ, h, Q0, R, A, q, k⟩ =>
    ⟨ρ, h, _, R, A, q, fun d h1 v H1 q1 k1 r1 A1 => ⟨ρ, h1, _, R.kp k1, A1, q1, fun e h3 u H2 q2 k2 r2 A2 =>
      h2 σ H2 _ ⟨ρ, h3, _, R.kp (k1.trans k2), A2, q2, fun ps h4 vs H3 q3 k3 r3 A3 =>
        k _ _ _ _ q3 ((k1.trans k2).trans k3) (.cons ⟨r1.kp (k2.trans k3), r2.kp k3⟩ r3) A3⟩⟩⟩⟩
theorem pairs_of {pins : List (Addr × Obj)} {σ : L2.St} {H : Hp} {s : Shared} (I : L2.Inv X pins σ H s) : ∀ {ps : List (D × D)} {vs : List (V × V)} {ws : List (Value × Value)}, RvP X.K H ps vs → VV vs ws → (∀ p ∈ ps, pl 8 p.1 = true) →
    ∃ L : List GR.RE, Paired (EP X.K H) ps L ∧ ws = L.map (·.2) ∧ ∀ x ∈ L, NestedIs s.heap x.1 x.2.1 ∧ x.1.depth ≤ 8
  | [], _, _, r, r2, _ => by cases r; cases r2; exact ⟨[], .nil, rfl, fun _ h => by cases h⟩
  | (a, b) :: ps, _, _, r, r2, hp => by
    cases r with
    | cons ra rb =>
      cases r2 with
      | @cons _ y _ _ sa sb =>
        obtain ⟨L, h1, h2, h3⟩ := pairs_of I rb sb fun p hq => hp p (List.mem_cons_of_mem _ hq)
        have hk := hp (a, b) List.mem_cons_self
        obtain ⟨y1, y2⟩ := y
        refine ⟨(nk a, y1, y2) :: L, .cons ⟨rfl, hk, ⟨_, ra.1, sa.1⟩, _, ra.2, sa.2⟩ h1, by rw [h2]; rfl, ?_⟩
        intro x hx
        rcases List.mem_cons.mp hx with e | hx
        · subst e; exact nested_of I 8 a _ _ hk ra.1 sa.1
        · exact h3 x hx
theorem rput_len (L : List GR.RE) (k : NestedKey) (u v : Value) : (GR.rput L k u v).length ≤ L.length + 1 := by
  induction L with
  | nil => simp [GR.rput]
  | cons x r ih =>
    rw [GR.rput]
    split
    · simp
    · simp only [List.length_cons]; omega
theorem storeAll_raw {P : Program} {w : World} {A : Around} {E : Value → Shared → Prop} (hu : A.units + 8 < cLine) {d : Addr} : ∀ (M : List GR.RE) (s : Shared) (L : List GR.RE) (es : Array DictEntry) (ep : Nat) (Q : PUnit → Shared → Prop),
    GR.Rw w s.heap d L es ep → (∀ x ∈ M, NestedIs s.heap x.1 x.2.1 ∧ x.1.depth ≤ 8) → L.length + M.length ≤ sizeLine →
    (∀ h' tk es' ep', GR.Rw w h' d (GR.rputs L M) es' ep' → Heap.SameBut d s.heap h' → Q PUnit.unit { s with heap := h', toks := tk }) →
    wpAny (model P w) A (storeAll d (M.map (·.2))) Q E s
  | [], s, L, es, ep, Q, hR, _, _, hQ => by
    unfold storeAll
    rw [List.map_nil, List.forIn_nil]
    exact wpAny_pure (hQ s.heap s.toks es ep hR (Heap.SameBut.refl _ _))
  | x :: M, s, L, es, ep, Q, hR, hM, hz, hQ => by
    rw [List.length_cons] at hz
    unfold storeAll
    rw [List.map_cons, List.forIn_cons]
    obtain ⟨m1, m2⟩ := hM x List.mem_cons_self
    refine wpAny_bind (wpAny_bind (GR.set_rw (k := x.1) hu m1 m2 hR (by omega) fun h' es' ep' x' hs => wpAny_pure ?_))
    refine storeAll_raw hu M _ _ es' ep' Q x' (fun y hy => ?_) (by have := rput_len L x.1 x.2.1 x.2.2; omega) fun h2 tk es2 ep2 x2 hs2 => hQ h2 tk es2 ep2 x2 (hs.trans hs2)
    obtain ⟨z1, z2⟩ := hM y (List.mem_cons_of_mem _ hy)
    exact ⟨GR.same_nested hR.dic hs z1, z2⟩
theorem ge_disp (hu : X.A.units + 64 < cLine) {keys : List (Option Expr)} {values : List Expr} {f : DP} (hp : GP X pos keys values f) (hall : keys.all (·.isSome) = true := by rfl) (hl : keys.length = values.length := by rfl) (h0 : keys ≠ [] := by exact List.cons_ne_nil _ _)
    (h15 : keys.length ≤ 15 := by exact of_decide_eq_true rfl) : GE X (.Dict keys values pos) (dDisp f) := by
  obtain ⟨trs, hp, himp⟩ := hp
  refine ⟨fun pins s σ H Q I ⟨ρ, h, Q0, R, A, q, k⟩ => ?_⟩
  obtain ⟨I1, A1, k1, n1⟩ := dic_new (kvs := []) (L := []) (tk := s.toks) (h' := s.heap.push { cls := .type "dict", data := .dict #[] }) I A rfl ⟨⟨_, Heap.get?_push_size _ rfl, ⟨rfl, rfl, rfl⟩, rfl⟩, rfl, List.nodup_nil, (fun _ hx => by cases hx), rfl⟩ (fun b o e => Heap.get?_push_of_some _ e) .nil (Nat.zero_le _) List.nodup_nil
  have q1 := newD.go q s.heap.objs.size (A.nil n1)
  refine wpAny_Dict_any hall hl h0 h15 (thn (hp.run pins _ σ _ (fun vs H2 => ∃ ps h2, Kp H H2 ∧ RvP X.K H2 ps vs ∧ Abs X.K X.w h2 H2 ∧ fillD (.ref s.heap.objs.size) ps h2 Q0) I1 (himp σ _ _ ⟨ρ, _, _, R.kp k1, A1, q1, fun ps h2 vs H2 q2 k2 r2 A2 => ⟨ps, h2, k1.trans k2, r2, A2, q2⟩⟩)) fun ws s2 ⟨vs, H2, I2, rel, ps, h2, k2, r2, A2, q2⟩ => ?_)
  obtain ⟨e2, l15, hpl, q3⟩ := q2.un
  obtain ⟨L, es, ep, hR, hP, hz, hne, hnd, e4⟩ := dic_raw I2 A2 e2
  cases hP
  obtain ⟨M, c1, c2, c3⟩ := pairs_of I2 r2 rel hpl
  subst c2
  have hlen : M.length = ps.length := by
    have := congrArg List.length (ep_keys c1)
    simpa using this
  refine storeAll_raw (by omega) M _ _ es ep _ hR c3 (by rw [List.length_nil, sizeLine_eq]; omega) fun h' tk es' ep' x' hs' => ?_
  have hb := dputs_len ps []
  obtain ⟨I3, A3, k3⟩ := dic_wr (tk := tk) I2 A2 e4 hne x' hs' (ep_puts c1 .nil) (by rw [sizeLine_eq]; rw [List.length_nil] at hb; omega) (dputs_nodup ps [] List.nodup_nil)
  exact ⟨.ref s.heap.objs.size, _, I3, rfl, k _ _ _ _ q3 (k2.trans k3) (.ref _) A3⟩
end
end G
end

section
set_option Elab.async false
set_option linter.all false
set_option maxRecDepth 100000
set_option maxHeartbeats 4000000
/-! G layer, soundness 19: sorted, of tuples that rise in their first place. -/
namespace G
open PySem PySem.Spec PyProof.Rows L2
variable [Tb]
/-- a tuple whose first place reads as a tuple of these ints -/
def KT (h : Heap) (u : Value) (ns : List Int) : Prop := ∃ a o xs n f r, u = .ref a ∧ h.get? a = some o ∧ o.cls = .type "tuple" ∧ o.data = .seq xs n ∧ xs.toList = f :: r ∧ Reads h f (tp (.tup (ns.map .int))) []
theorem alkL_ints : ∀ a b : List Int, alkL (a.map .int) (b.map .int) = true
  | [], _ => by simp [alkL]
  | _ :: _, [] => by simp [alkL]
  | x :: a, y :: b => by simp only [List.map_cons, alkL, alk, alkL_ints a b]; rfl
theorem dat_tints (ns : List Int) : dat 1 (.tup (ns.map .int)) = true := by
  rw [dat]
  induction ns with
  | nil => rfl
  | cons x r ih => simp only [List.map_cons, datL, ih, Bool.and_true]; rfl
theorem dlt_ints' : ∀ a b : List Int, dltL (a.map .int) (b.map .int) = decide (a < b)
  | [], [] => by simp [dltL]
  | [], _ :: _ => by simp [dltL]
  | _ :: _, [] => by simp [dltL]
  | x :: a, y :: b => by
    simp only [List.map_cons, dltL, dlt, dlt_ints' a b]
    rw [show decide (D.int x = D.int y) = decide (x = y) by simp, Bool.eq_iff_iff]
    simp [List.cons_lt_cons_iff]
theorem alike_ints (a b : List Int) : PySem.W.alike (tp (.tup (a.map .int))) (tp (.tup (b.map .int))) = true :=
  alike_tp _ _ 1 1 (dat_dn _ _ (dat_tints a)) (dat_dn _ _ (dat_tints b)) (by rw [alk]; exact alkL_ints a b)
theorem KT.keep {h h' : Heap} {u : Value} {ns : List Int} {l : Addr} (x : KT h u ns) (k : ∀ b o, b ≠ l → h.get? b = some o → h'.get? b = some o) (hl : ∀ o, h.get? l = some o → o.cls = .type "list") : KT h' u ns := by
  obtain ⟨a, o, xs, n, f, r, e, ho, hc, hd, hx, rd⟩ := x
  refine ⟨a, o, xs, n, f, r, e, k a o (fun z => ?_) ho, hc, hd, hx, PySem.W.Reads.keepBut k hl _ _ _ (alike_ints ns ns) rd (by simp)⟩
  subst z
  have := hl o ho
  rw [hc] at this
  exact absurd (Value.type.inj this) (by decide)
theorem ints_inj : ∀ a b : List Int, a.map D.int = b.map D.int → a = b
  | [], [], _ => rfl
  | [], _ :: _, e => by cases e
  | _ :: _, [], e => by cases e
  | x :: a, y :: b, e => by
    simp only [List.map_cons, List.cons.injEq, D.int.injEq] at e
    rw [e.1, ints_inj a b e.2]
theorem KT.uniq {h : Heap} {u : Value} {a b : List Int} (x : KT h u a) (y : KT h u b) : a = b := by
  obtain ⟨a1, o, xs, n, f, r, e, ho, hc, hd, hx, rd⟩ := x
  obtain ⟨a2, o', xs', n', f', r', e', ho', hc', hd', hx', rd'⟩ := y
  rw [e] at e'; cases e'
  rw [ho] at ho'; cases ho'
  rw [hd] at hd'; cases hd'
  rw [hx] at hx'; cases hx'
  have := PySem.W.alike_unique _ _ _ _ _ (alike_ints a b) rd rd'
  have h2 := tp_inj 1 1 _ _ (dat_tints a) (dat_tints b) this
  injection h2 with h3
  exact ints_inj a b h3
section
variable {prog : Program} {w : World} {A : Around} {s : Shared}
theorem kat_refl {b fin : Bool} {Q : Bool → Shared → Prop} (h : Q fin s) : ∀ (l : List Value) (i : Nat), PySem.W.KatLex prog w A b fin Q (l.zip l) i s
  | [], _ => PySem.W.kat_nil h
  | x :: l, i => PySem.W.kat_cons (SeqAt.EqAt.same x prog w _ _ (PySem.W.kat_yes (kat_refl h l (i + 1))))
theorem kt_cmp {u v : Value} {a b : List Int} (hu : A.units + 64 < cLine) (x : KT s.heap u a) (y : KT s.heap v b) (hne : u = v ∨ a ≠ b) : wpAny (model prog w) A (keyLt' (tuples' false) u v) (fun r s' => s' = s ∧ r = decide (a < b)) (fun _ _ => False) s := by
  obtain ⟨a1, o, xs, n, f, r, rfl, ho, hc, hd, hx, rd⟩ := id x
  obtain ⟨a2, o', xs', n', f', r', rfl, ho', hc', hd', hx', rd'⟩ := id y
  refine PySem.W.kat_lt ho hd ho' hd' ?_
  by_cases e : a = b
  · have huv := hne.resolve_right fun z => z e
    cases huv
    rw [ho] at ho'; cases ho'
    rw [hd] at hd'; cases hd'
    subst e
    refine kat_refl ?_ _ _
    refine ⟨rfl, ?_⟩
    rw [decide_eq_false (Nat.lt_irrefl _), decide_eq_false (List.lt_irrefl _)]
  · rw [hx, hx', List.zip_cons_cons]
    have d1 := dat_dn _ _ (dat_tints a)
    have d2 := dat_dn _ _ (dat_tints b)
    have t1 := d1.tp
    have t2 := d2.tp
    refine PySem.W.kat_cons (SeqAt.eqAt_plain _ _ A s _ _ _ _ rd rd' t1.2 t2.2 (by omega) prog w _ _ ?_)
    have hf : decide (D.tup (a.map .int) = D.tup (b.map .int)) = false := decide_eq_false fun z => e (ints_inj a b (by injection z))
    rw [eqv_tp _ _ _ _ d1 d2, deqv_alk _ _ (by rw [alk]; exact alkL_ints a b), hf]
    refine PySem.W.kat_no ?_
    rw [Bool.false_and]
    refine PySem.W.kat_one _ _ (PySem.W.lt_data rd rd' (alike_ints a b) (by simp [tp]) (by omega) ?_)
    rw [dlt_tp _ _ _ _ d1 d2 (by rw [alk]; exact alkL_ints a b)]
    show s = s ∧ _
    exact ⟨rfl, dlt_ints' a b⟩
/-- the place of a value in a list -/
noncomputable def plIn (us : List Value) (u : Value) : Nat := open Classical in if h : ∃ i, us[i]? = some u then h.choose else 0
theorem pl_get {us : List Value} {u : Value} (h : u ∈ us) : us[plIn us u]? = some u := by
  have q : ∃ i, us[i]? = some u := List.mem_iff_getElem?.mp h
  unfold plIn
  rw [dif_pos q]
  exact q.choose_spec
theorem katTups_of {h : Heap} : ∀ {us : List Value} {ks : List (List Int)}, us.length = ks.length → (∀ (i : Nat) (u : Value) (k : List Int), us[i]? = some u → ks[i]? = some k → KT h u k) → ∃ fs, PySem.W.KatTups h us fs ∧ fs.length = us.length ∧ ∀ f ∈ fs, ∃ ns : List Int, Reads h f (tp (.tup (ns.map .int))) []
  | [], _, _, _ => ⟨[], PySem.W.KatTups.nil, rfl, fun f hf => by cases hf⟩
  | u :: us, [], e, _ => by simp at e
  | u :: us, k :: ks, e, hk => by
    obtain ⟨fs, h1, h2, h3⟩ := katTups_of (us := us) (ks := ks) (by simpa using e) fun i v k a b => hk (i + 1) v k (by simpa using a) (by simpa using b)
    obtain ⟨a, o, xs, n, f, r, rfl, ho, hc, hd, hx, rd⟩ := hk 0 u k rfl rfl
    refine ⟨f :: fs, PySem.W.KatTups.cons ho hc hd (by rw [← Array.getElem?_toList, hx]; rfl) h1, by simp [h2], fun g hg => ?_⟩
    rcases List.mem_cons.mp hg with e | hg
    · exact ⟨k, e ▸ rd⟩
    · exact h3 g hg
theorem sortI_core {E : Value → Shared → Prop} {l : Addr} {us : List Value} {ks : List (List Int)} {Q : Value → Shared → Prop} (hu : A.units + 90 < cLine) (hl : s.heap.IsList l us.toArray) (hz : us.length ≤ sizeLine) (hlen : us.length = ks.length)
    (hk : ∀ (i : Nat) (u : Value) (k : List Int), us[i]? = some u → ks[i]? = some k → KT s.heap u k) (hp : ks.Pairwise fun a b => a < b)
    (h : Q (.ref (s.heap.objs.size + 1)) { s with heap := PyProof.Rows.sortedAll s.heap us us.toArray }) : wpAny (model prog w) A (call (.builtin "sorted") [.ref l]) Q E s := by
  have key : ∀ i u, us[i]? = some u → ∃ k, ks[i]? = some k ∧ KT s.heap u k := fun i u e => by
    have hi := (List.getElem?_eq_some_iff.mp e).1
    exact ⟨_, List.getElem?_eq_getElem (hlen ▸ hi), hk i u _ e (List.getElem?_eq_getElem (hlen ▸ hi))⟩
  have kin : ∀ (i j : Nat) (a : List Int), ks[i]? = some a → ks[j]? = some a → i = j := fun i j a e1 e2 => by
    obtain ⟨h1, g1⟩ := List.getElem?_eq_some_iff.mp e1
    obtain ⟨h2, g2⟩ := List.getElem?_eq_some_iff.mp e2
    rcases Nat.lt_trichotomy i j with z | z | z
    · exact absurd (List.pairwise_iff_getElem.mp hp i j h1 h2 z) (by rw [g1, g2]; exact List.lt_irrefl _)
    · exact z
    · exact absurd (List.pairwise_iff_getElem.mp hp j i h2 h1 z) (by rw [g1, g2]; exact List.lt_irrefl _)
  let kk : Value → List Int := fun u => (ks[plIn us u]?).getD []
  have kks : ∀ u ∈ us, KT s.heap u (kk u) ∧ ks[plIn us u]? = some (kk u) := fun u hu' => by
    obtain ⟨k, e1, e2⟩ := key _ u (pl_get hu')
    have : kk u = k := by show (ks[plIn us u]?).getD [] = k; rw [e1]; rfl
    rw [this]
    exact ⟨e2, e1⟩
  have kinj : ∀ u ∈ us, ∀ v ∈ us, kk u = kk v → u = v := fun u h1 v h2 e => by
    have a1 := (kks u h1).2
    have a2 := (kks v h2).2
    rw [e] at a1
    have := kin _ _ _ a1 a2
    have b1 := pl_get h1
    rw [this, pl_get h2] at b1
    exact (Option.some.inj b1).symm
  refine SrtO.sorted_ord (ltv := fun v u => decide (kk v < kk u)) ⟨fun x y q => ?_, fun x y z q1 q2 => ?_⟩ hl hz (fun h2 h₁ a ha kp => ?_) fun out hs hb => ?_
  · exact decide_eq_false fun z => List.lt_irrefl _ (List.lt_trans (of_decide_eq_true q) z)
  · refine decide_eq_false fun z' => ?_
    have p1 := List.not_lt.mp (of_decide_eq_false q1)
    have p2 := List.not_lt.mp (of_decide_eq_false q2)
    exact absurd z' (List.not_lt.mpr (List.le_trans p1 p2))
  · intro h' keep
    have kt1 : ∀ u ∈ us, KT h₁ u (kk u) := fun u hu' => (kks u hu').1.keep (l := a) (fun b o _ e => (kp b o e).2) fun o e => absurd rfl (kp a o e).1
    have kt2 : ∀ u ∈ us, KT h' u (kk u) := fun u hu' => (kt1 u hu').keep (l := a) keep fun o e => by
      have e' : some o = some (seqObj "list" us.toArray 0) := e.symm.trans ha
      cases e'; rfl
    obtain ⟨fs, f1, f2, f3⟩ := katTups_of (h := h') hlen fun i u k e1 e2 => by
      have hm := List.mem_of_getElem? e1
      have : kk u = k := by
        obtain ⟨k', g1, g2⟩ := key i u e1
        rw [e2] at g1; cases g1
        exact (kks u hm).1.uniq g2
      rw [← this]
      exact kt2 u hm
    refine ⟨tuples' false, fun Q' E' hq => ?_, fun p q hp' hq' => ?_⟩
    · refine PySem.W.kat_kind (T := .type "tuple") f1 (by omega) (fun f hf => ?_) (by rfl) ?_
      · obtain ⟨ns, rd⟩ := f3 f hf
        have := PySem.W.looks_reads (M := model prog w) rd
        rw [show PySem.W.dataType (tp (.tup (ns.map .int))) = Value.type "tuple" by rw [tp]; rfl] at this
        exact this
      · have e : (Value.type "tuple" != Value.type "tuple") = false := by first | decide +kernel | rfl | decide
        rw [e]
        exact hq
    · refine kt_cmp (by show A.units + 1 + 1 + 64 < cLine; omega) (kt2 _ hp') (kt2 _ hq') ?_
      by_cases z : kk p.1 = kk q.1
      · exact .inl (kinj _ hp' _ hq' z)
      · exact .inr z
  · have eo : out = us := by
      refine List.Perm.eq_of_pairwise (le := fun x y => decide (kk y < kk x) = false) (fun x y hx hy h1 h2 => ?_) hs ?_ hb.perm
      · have hx' := hb.perm.mem_iff.mp hx
        exact kinj x hx' y hy (List.le_antisymm (List.not_lt.mp (of_decide_eq_false h1)) (List.not_lt.mp (of_decide_eq_false h2)))
      · rw [List.pairwise_iff_getElem]
        intro i j hi hj hij
        refine decide_eq_false fun z => ?_
        have g1 := (kks _ (List.getElem_mem hi)).1
        have g2 := (kks _ (List.getElem_mem hj)).1
        have t1 := g1.uniq (hk i _ _ (List.getElem?_eq_getElem hi) (List.getElem?_eq_getElem (hlen ▸ hi)))
        have t2 := g2.uniq (hk j _ _ (List.getElem?_eq_getElem hj) (List.getElem?_eq_getElem (hlen ▸ hj)))
        rw [t1, t2] at z
        exact List.lt_irrefl _ (List.lt_trans z (List.pairwise_iff_getElem.mp hp i j _ _ hij))
    subst eo
    exact h
end
section
variable {X : Cx}
theorem kIn_of (ns : List Int) (r : List D) : kIn (.tup (.tup (ns.map .int) :: r)) = ns := by
  show ((intsOf (ns.map .int)).getD []) = ns
  have : ∀ l : List Int, intsOf (l.map .int) = some l := by
    intro l
    induction l with
    | nil => rfl
    | cons x l ih => rw [List.map_cons, intsOf, ih]; rfl
  rw [this]; rfl
theorem kt_of {pins : List (Addr × Obj)} {σ : L2.St} {H : Hp} {s : Shared} {h : AH} (I : L2.Inv X pins σ H s) (A : Abs X.K X.w h H) {ns : List Int} {r : List D} {v : V} {u : Value} (rv : Rv X.K H (.tup (.tup (ns.map .int) :: r)) v) (ru : RelV v u) : KT s.heap u ns := by
  cases rv with
  | tup h1 h2 =>
    cases ru
    obtain ⟨its, rits, ⟨o, ho, hc, m, hd⟩, _⟩ := I.tuple h1
    cases h2 with
    | cons q1 q2 =>
      cases rits with
      | cons p1 p2 =>
        exact ⟨_, o, _, m, _, _, rfl, ho, hc, hd, rfl, reads0 I 1 _ _ _ (dat_tints ns) q1 p1⟩
theorem gb_sortI (hu : X.A.units + 100 < cLine) : GB X (.builtin "sorted") bSortI := fun pins s σ H vs us Q I r ⟨ds, h, Q0, rL, A, q, k⟩ => by
  unfold bSortI at q
  split at q
  · rename_i x
    obtain ⟨v, rfl, rv⟩ := rvL_one rL
    split at q
    · rename_i ds e1
      obtain ⟨hK, q⟩ := q
      obtain ⟨a, vs, rfl, hq, rL'⟩ := lsOf_some A rv e1
      obtain ⟨u, rfl, ru⟩ := vals1 r
      cases ru
      obtain ⟨its, rits, hpl, hz⟩ := I.list hq
      have hl := rL'.length
      have hl2 := rits.length
      refine sortI_core (ks := ds.map kIn) (by omega) hpl.isList (by omega) (by rw [List.length_map]; omega) (fun i u k' e2 e3 => ?_) (List.pairwise_map.mpr hK.up) ?_
      · rw [List.getElem?_map] at e3
        obtain ⟨d, e4, rfl⟩ := Option.map_eq_some_iff.mp e3
        obtain ⟨ns, r, rfl⟩ := hK.el d (List.mem_of_getElem? e4)
        obtain ⟨v, e5, rv5⟩ := rL'.get e4
        obtain ⟨u', e6, ru6⟩ := rits.get e5
        rw [e2] at e6; cases e6
        rw [kIn_of]
        exact kt_of I A rv5 ru6
      · obtain ⟨n, e4⟩ := sortedAll_at s.heap its its.toArray
        have nn : H (s.heap.objs.size + 1) = none := I.hok.fresh (Nat.le_succ _)
        exact ⟨.ref (s.heap.objs.size + 1), _, I.laid (a := s.heap.objs.size + 1) (t' := s.toks) (o := .lst vs) (fun b o e => sortedAll_old e) (Nat.le_succ _) ⟨hz, its, n, rits, e4⟩, rfl, newL_ok q A rL' nn (Kp.refl _) k⟩
    · exact q.elim
  · exact q.elim
end
end G
end

section
set_option Elab.async false
set_option linter.all false
set_option maxRecDepth 100000
set_option maxHeartbeats 4000000
/-! G layer, soundness 20: for k, v in d.items(). -/
namespace G
open PySem PySem.Spec PyProof.Rows L2
variable [Tb]
/-- at d stands a dict of the entries kvs -/
def KI (K : PySem.W.Frag) (H : Hp) (d : Addr) (kvs : List (D × D)) : Prop := (d == sysModules) = false ∧ ∃ es : Array DictEntry, H d = some (.ext (RawD d es es.size)) ∧ Paired (fun (p : D × D) e => (∃ v, Rv K H p.1 v ∧ RelV v e.key) ∧ ∃ v, Rv K H p.2 v ∧ RelV v e.val) kvs es.toList
/-- a walk over a dict's entries -/
def Itq (K : PySem.W.Frag) (d : Addr) (kvs : List (D × D)) : It :=
  ⟨fun i H => i < kvs.length ∧ KI K H d kvs, fun i H x H' => ∃ T v1 v2 p, x = .ref T ∧ H T = none ∧ H' = upd H T (.tup [v1, v2]) ∧ kvs[i]? = some p ∧ Rv K H p.1 v1 ∧ Rv K H p.2 v2, fun i H => kvs.length ≤ i ∧ KI K H d kvs⟩
theorem ki_of {K : PySem.W.Frag} {w : World} {h : AH} {H : Hp} {d : Addr} {kvs : List (D × D)} (A : Abs K w h H) (e : h d = some (.dic kvs)) : KI K H d kvs := by
  obtain ⟨h1, h2, h3, es, ep, h4, h5, rfl⟩ := A d _ e
  refine ⟨h2, es, h4, ?_⟩
  generalize es.toList = l at h5
  clear e h1 h3 h4
  induction h5 with
  | nil => exact .nil
  | cons r _ ih => exact .cons ⟨r.2.2.1, r.2.2.2⟩ ih
theorem js_items {K : PySem.W.Frag} {w : World} {H : Hp} {d : Addr} {kvs : List (D × D)} : JS K w H (Itq K d kvs) (srcI d kvs) := fun i h H1 k A ok => by
  have r := ki_of A ok
  refine ⟨fun x e => ?_, fun z => ⟨by simpa [srcI] using z, r⟩⟩
  have e' : (kvs.map fun p => D.tup [p.1, p.2])[i]? = some x := e
  rw [List.getElem?_map] at e'
  obtain ⟨p, ep, rfl⟩ := Option.map_eq_some_iff.mp e'
  refine ⟨⟨(List.getElem?_eq_some_iff.mp ep).1, r⟩, fun y H' ⟨T, v1, v2, p', e1, nT, e2, e3, r1, r2⟩ => ?_⟩
  subst e1; subst e2
  rw [ep] at e3; cases e3
  exact ⟨Kp.new nT, A.newH nT, .tup (SqT.of upd_same) (.cons (r1.kp (Kp.new nT)) (.cons (r2.kp (Kp.new nT)) .nil))⟩
section
variable {X : Cx} {e : Expr} {pos : Pos}
theorem ki_raw {pins : List (Addr × Obj)} {σ : L2.St} {H : Hp} {s : Shared} {d : Addr} {kvs : List (D × D)} (I : L2.Inv X pins σ H s) (r : KI X.K H d kvs) : ∃ (es : Array DictEntry), s.heap.DictRaw d es es.size ∧ es.size = kvs.length ∧ Paired (fun (p : D × D) e => (∃ v, Rv X.K H p.1 v ∧ RelV v e.key) ∧ ∃ v, Rv X.K H p.2 v ∧ RelV v e.val) kvs es.toList := by
  obtain ⟨_, es, e1, e2⟩ := r
  obtain ⟨⟨o, o1, o2, o3⟩, _, _⟩ := I.hok d _ e1
  have hl : es.size = kvs.length := by
    have := Paired.length e2
    rw [this, Array.length_toList]
  exact ⟨es, ⟨o, o1, o2, o3⟩, hl, e2⟩
theorem turn_itemsX {P : Program} {w : World} {K : PySem.W.Frag} {elts : List Expr} {kk : Nat} {tpos : Pos} {d : Addr} {kvs : List (D × D)} (it : Addr) : Turn P w K (.Tuple elts kk tpos) (Itq K d kvs) [it] it (fun i h => ∃ ok ov, IsItemIter h it d i kvs.length kvs.length ok ov) where
  mem := List.mem_singleton.mpr rfl
  obj := fun i h st b hb => by
    obtain ⟨ok, ov, e⟩ := st
    rw [List.mem_singleton.mp hb]
    exact ⟨_, e, fun v z => nomatch z⟩
  keep := fun i h h' st k => let ⟨ok, ov, e⟩ := st; ⟨ok, ov, k it (List.mem_singleton.mpr rfl) _ e⟩
  item := by
    rintro X rfl rfl rfl hc i pins s σ H E I hf ⟨ok, ov, he⟩ ⟨hi, hr⟩
    obtain ⟨es, hD, hl, hp⟩ := ki_raw I hr
    obtain ⟨en, en1, ⟨v1, a1, b1⟩, v2, a2, b2⟩ := pair_at hp (List.getElem?_eq_getElem hi)
    rw [Array.getElem?_toList] at en1
    rw [← hl] at he
    have hie : i < es.size := by rw [hl]; exact hi
    have eq1 : es[i] = en := by rw [Array.getElem?_eq_getElem hie] at en1; exact Option.some.inj en1
    rw [hl] at hD
    have hlt : it < s.heap.objs.size := Heap.lt_size he
    refine wpAny_pyNext_items_item_raw (ep := kvs.length) (by rw [← hl]; exact he) hD hie fun h' ho hT hz hk => ?_
    rw [eq1] at ho hT
    refine ⟨_, rfl, wpAny_letOwnedTupleGo_items (s := { s with heap := h' }) ho fun h'' he' sb => ?_⟩
    have hT2 : h''.get? s.heap.objs.size = some { cls := .type "tuple", data := .seq #[en.key, en.val] } := (sb.2 _ (Nat.ne_of_gt hlt)).trans hT
    have new : ObjOk X.prog X.w (upd H s.heap.objs.size (.tup [v1, v2])) h'' s.heap.objs.size (.tup [v1, v2]) :=
      ⟨by show 2 ≤ sizeLine; decide, [en.key, en.val], .cons b1 (.cons b2 .nil), ⟨_, hT2, rfl, _, rfl⟩⟩
    have I1 : Inv X pins σ (upd H s.heap.objs.size (.tup [v1, v2])) { s with heap := h'' } :=
      I.turnedNew (t' := s.toks) (ch := [it]) (fun b ob hb e => (sb.2 b (by simpa using hb)).trans (hk b ob (by simpa using hb) e)) hf (Nat.le_refl _) new
    refine ⟨.ref s.heap.objs.size, _, I1, rfl, ⟨_, v1, v2, _, rfl, I.hok.fresh (Nat.le_refl _), rfl, List.getElem?_eq_getElem hi, a1, a2⟩, ⟨en.key, en.val, ?_⟩, fun b hb => ?_⟩
    · rw [← hl]; rw [← hl] at he'; exact he'
    · have e : b = it := by simpa using hb
      rw [e, upd_ne (Nat.ne_of_lt hlt)]
      exact (hf it (by simp)).1
  done := by
    rintro X rfl rfl rfl hc i pins s σ H E I hf ⟨ok, ov, he⟩ ⟨hi, hr⟩
    obtain ⟨es, hD, hl, hp⟩ := ki_raw I hr
    have fp := hf it (List.mem_singleton.mpr rfl)
    rw [← hl] at he
    refine wpAny_pyNext_items_end_raw (I.ok.hd hc) he hD (by rw [hl]; exact hi) fun h' eb => ⟨rfl, ?_⟩
    exact I.turnedL (t' := s.toks) (ch := [it]) (fun b ob hb e => eb b ob (fun z => hb (List.mem_singleton.mpr z)) e) (fun b hb => by rw [List.mem_singleton.mp hb]; exact fp)
  self := fun A i s Q E st h => let ⟨_, _, e⟩ := st; PySem.W.kcp_self e h
theorem gi_items {f : DE} {apos cpos tpos : Pos} {elts : List Expr} {kk : Nat} (he : GE X e f) (hbase : attributeBase e "items" X.env (eval e X.env) = eval e X.env := by rfl) (hline : (apos.endLine == cpos.line) = true := by rfl) :
    GI X (.Tuple elts kk tpos) (.Call (.Attribute e "items" apos) [] [] cpos) (G.iItems f) := by
  refine ⟨fun pins s σ H R I ⟨ρ, h, R0, RR, A, q, k⟩ => ?_⟩
  refine wpAny_Call_method (T := "dict") (id := "dict.items") hbase rfl hline F.plainAttrs_dict F.slot_dict_items F.type_dict_items (thn (he.run pins s σ H (fun v H1 => ∃ d kvs, v = .ref d ∧ KI X.K H1 d kvs ∧ R (Itq X.K d kvs) H1) I ⟨ρ, h, _, RR, A, q, fun d h1 v H1 q1 k1 r1 A1 => ?_⟩) fun u s1 ⟨x, H1, I1, rx, d, kvs, ex, hk, q⟩ => ?_)
  · unfold walkI at q1
    cases r1 with
    | ref a =>
      dsimp only at q1
      split at q1
      · rename_i kvs e
        exact ⟨a, kvs, rfl, ki_of A1 e, k _ _ _ _ q1 k1 A1 js_items⟩
      · exact q1.elim
    | _ => exact q1.elim
  subst ex
  obtain rfl : u = Value.ref d := rx
  obtain ⟨es, hD, hl, hp⟩ := ki_raw I1 hk
  have hs := hk.1
  have hnd : ∀ a, Value.ref d = .ref a → ∃ o, s1.heap.get? a = some o ∧ o.dict = none := fun a e => by
    cases e
    obtain ⟨o, o1, o2, _⟩ := hD
    exact ⟨o, o1, o2.2.1⟩
  refine ⟨hD.typeIs, hnd, ?_⟩
  have I2 : Inv X pins σ H1 { s1 with heap := s1.heap.push { cls := .type "dict_items", data := .fields #[.ref d] } } := I1.kept (t' := s1.toks) fun b ob q => Heap.get?_push_of_some _ q
  have fin : wpAny (model X.prog X.w) X.A (pyIter (.ref s1.heap.objs.size)) (PIE X pins σ (.Tuple elts kk tpos) R) X.xe { s1 with heap := s1.heap.push { cls := .type "dict_items", data := .fields #[.ref d] } } := by
    refine wpAny_pyIter_items_raw (d := d) ⟨_, Heap.get?_push_size _ rfl, rfl, rfl⟩ (hD.at fun o e => Heap.get?_push_of_some _ e) (pi_one (tk := s1.toks) I2 _ (turn_itemsX _) ⟨.none, .none, ?_⟩ q)
    rw [← hl]
    exact Heap.get?_push_size _ rfl
  show wpAny _ _ (callWith cpos (.builtin "dict.items") [.ref d] [] []) _ X.xe s1
  exact method_meetsIn F.slot_dict_items F.entry_dict_items rfl (PySem.evalArgs_none ⟨rfl, hD.typeIs, F.args_dict_items_1 _, _, meets_dict_items_raw d hs, ⟨⟨es, _, hD⟩, fin⟩⟩)
end
end G
end

section
set_option Elab.async false
set_option linter.all false
set_option maxRecDepth 100000
set_option maxHeartbeats 4000000
/-! G layer, soundness 21: sorted of a list, or of a dict's keys. -/
namespace G
open PySem PySem.Spec PyProof.Rows L2
variable [Tb]
section
variable {X : Cx}
theorem gb_sortD (hc : X.calm = true) (hu : X.A.units + 100 < cLine) : GB X (.builtin "sorted") bSortD := fun pins s σ H vs us Q I r ⟨ds, h, Q0, rL, A, q, k⟩ => by
  unfold bSortD at q
  split at q
  · rename_i x
    split at q
    · rename_i ds e1
      exact gb_sorted hu pins s σ H vs us Q I r ⟨[x], h, Q0, rL, A, by unfold bSorted; simp only [e1]; exact q, k⟩
    · split at q
      · rename_i kvs e1
        obtain ⟨⟨hal, hdt, hsort⟩, q⟩ := q
        obtain ⟨v, rfl, rv⟩ := rvL_one rL
        rcases dcOf_some e1 with ⟨a, rfl, ea⟩ | ⟨ks, ws, rfl⟩
        · cases rv
          obtain ⟨u, rfl, ru⟩ := vals1 r
          cases ru
          obtain ⟨L, es, ep, hR, hP, hz, hne, hnd, e4⟩ := dic_raw I A ea
          obtain ⟨o, ho, hx, hd⟩ := hR.dic
          have hlen : L.length = kvs.length := by
            have := congrArg List.length (ep_keys hP)
            simpa using this
          have hes : es.size = L.length := by rw [← Array.length_toList, hR.ents, List.length_map]
          obtain ⟨vs, h1, h2⟩ := ep_vals hP
          refine Calls.call_function_entry PyProof.Rows.kind_sorted PyProof.Rows.plain_sorted PyProof.Rows.entry_sorted (PyProof.Rows.args_sorted1 _) ?_
          unfold Builtin.«sorted»
          refine wpAny_bind (m := checkCount "sorted" 1 1 _) (wpAny_pure ?_)
          refine wpAny_bind (PySem.W.kdu_collect (A := X.A.in1) (kdl_raw (prog := X.prog) (w := X.w) hne hx hd) (I.ok.hd hc) ho (by omega) fun h' tk acc' hkeep hacc => ?_)
          have eacc : acc'.toList = L.map fun x => x.2.1 := by
            apply List.ext_getElem?
            intro j
            by_cases hj : j < acc'.size
            · obtain ⟨en, g1, g2⟩ := hacc.2 j acc'[j] (Array.getElem?_eq_getElem hj)
              rw [hR.at_ j] at g1
              rw [Array.getElem?_toList, Array.getElem?_eq_getElem hj, List.getElem?_map]
              cases e5 : L[j]? with
              | none => rw [e5] at g1; cases g1
              | some x => rw [e5] at g1; cases g1; rw [g2]; rfl
            · have hn := hacc.1
              rw [List.getElem?_eq_none (by simpa using hj), List.getElem?_eq_none (by rw [List.length_map]; omega)]
          have hal' : acc'.toList.length = L.length := by rw [eacc, List.length_map]
          rw [← eacc] at h2
          generalize acc'.toList = its at h2 hal' ⊢
          clear eacc hacc
          have I1 : L2.Inv X pins σ H { s with heap := h', toks := tk } := I.kept hkeep
          refine wpAny_bind (wpAny_newList ?_ (by rw [hal']; omega))
          have hoL : (h'.push (seqObj "list" its.toArray 0)).get? h'.objs.size = some (seqObj "list" its.toArray 0) := Heap.get?_push_size _ rfl
          show wpAny _ _ _ _ _ { s with heap := h'.push (seqObj "list" its.toArray 0), toks := tk }
          have I2 : L2.Inv X pins σ H { s with heap := h'.push (seqObj "list" its.toArray 0), toks := tk } := I1.kept (t' := tk) fun b o e => Heap.get?_push_of_some _ e
          have hl := h1.length
          generalize hds : kvs.map (·.1) = ds at hal hdt hsort q h1 hl
          have hE := each_of (R := fun u (p : D × V) => Rv X.K H p.1 p.2 ∧ L2.RelV p.2 u) (fun a b c h1 h2 => ⟨h1, h2⟩) (rvL_paired h1) h2
          have hmem : ∀ p ∈ ds.zip vs, p.1 ∈ ds := fun p hp => (List.of_mem_zip (a := p.1) (b := p.2) hp).1
          have hdn : ∀ p ∈ ds.zip vs, Dn 12 p.1 := fun p hp => dat_dn 12 _ (hdt _ (hmem p hp))
          have hER : PySem.W.EachIs (fun u (p : D × V) => ∃ as, Reads (h'.push (seqObj "list" its.toArray 0)) u (tp p.1) as ∧ h'.objs.size ∉ as) its (ds.zip vs) :=
            each_imp (fun u p ⟨⟨h1, h2⟩, hm⟩ => ⟨[], reads0 I2 12 _ _ _ (hdt _ (hmem p hm)) h1 h2, by simp⟩) (each_mem hE)
          have hfst : ((ds.zip vs).mergeSort (PySem.W.dataLe false fun p : D × V => tp p.1)).map Prod.fst = ds.mergeSort (dle false) := by
            rw [List.map_mergeSort (s := dle false), zip_fst hl]
            intro p hp p' hp'
            exact dle_tp false (hdn p hp) (hdn p' hp') (hal _ (hmem p hp) _ (hmem p' hp'))
          have hzl : (ds.zip vs).length ≤ sizeLine := by
            rw [List.length_zip, hl, Nat.min_self]
            have := congrArg List.length hds
            rw [List.length_map] at this
            omega
          refine wpAny_bind (wpAny_holding (PySem.W.list_sort_data (s := { s with heap := h'.push (seqObj "list" its.toArray 0), toks := tk }) (enc := fun p : D × V => tp p.1) hoL hE hER ?_ ?_ hzl ?_ fun out hlo eo => ?_))
          · intro d hd d' hd'
            obtain ⟨p, hp, rfl⟩ := List.mem_map.mp hd
            obtain ⟨p', hp', rfl⟩ := List.mem_map.mp hd'
            exact alike_tp _ _ 12 12 (hdn p hp) (hdn p' hp') (hal _ (hmem p hp) _ (hmem p' hp'))
          · rcases hsort with hs | hs
            · refine .inl fun d hd => ?_
              obtain ⟨p, hp, rfl⟩ := List.mem_map.mp hd
              obtain ⟨x, r, e⟩ := hs _ (hmem p hp)
              exact ⟨tp x, tpL r, by rw [e, tp, tpL]⟩
            · refine .inr fun d hd => ?_
              obtain ⟨p, hp, rfl⟩ := List.mem_map.mp hd
              obtain ⟨n1, n2⟩ := hs _ (hmem p hp)
              have hd' := hdn p hp
              refine ⟨tp_none hd' n1, fun xs e => ?_⟩
              cases e3 : p.1 <;> rw [e3] at e <;> simp [tp] at e
              exact n2 _ e3
          · intro p hp
            have := (hdn p hp).tp.1
            show X.A.units + 1 + 1 + _ < cLine
            omega
          · obtain ⟨r1, r2⟩ := each_out eo
            rw [hfst] at r1
            obtain ⟨n, e4'⟩ := PyProof.Rows.sortedHeap_at (vs := its) (out := out.toArray) hoL
            have nn : H h'.objs.size = none := I1.hok.fresh (Nat.le_refl _)
            have hlen' : (((ds.zip vs).mergeSort (PySem.W.dataLe false fun p : D × V => tp p.1)).map Prod.snd).length ≤ sizeLine := by
              rw [List.length_map, List.length_mergeSort]; exact hzl
            refine wpAny_pure ⟨_, rfl, .ref h'.objs.size, _, I1.laid (t' := tk) (o := .lst (((ds.zip vs).mergeSort (PySem.W.dataLe false fun p : D × V => tp p.1)).map Prod.snd)) (fun b o e => ?_) (Nat.le_refl _) ⟨hlen', out, n, r2, e4'⟩, rfl, newL_ok q A r1 nn (Kp.refl _) k⟩
            have hb : b < h'.objs.size := Heap.lt_size e
            rw [PyProof.Rows.sortedHeap_old (Nat.ne_of_lt hb) (by rw [size_push']; exact Nat.lt_succ_of_lt hb)]
            exact Heap.get?_push_of_some _ e
        · cases rv
      · exact q.elim
  · exact q.elim
end
end G
end

section
set_option Elab.async false
set_option linter.all false
set_option maxRecDepth 100000
set_option maxHeartbeats 4000000
/-! G layer, soundness 22: dict.clear (what is cleared is told no more). -/
namespace G
open PySem PySem.Spec PyProof.Rows L2
variable [Tb]
section
variable {X : Cx}
theorem gm_dclear : GM X "dict.clear" mDClear := fun pins s σ H x vs v us Q I rx rv ⟨d, ds, h, Q0, rd, rL, A, q, k⟩ => by
  unfold mDClear at q
  split at q
  · rename_i a
    split at q
    · rename_i kvs ea
      cases rd; cases rx; cases rL; cases rv
      obtain ⟨L, es, ep, hR, hP, hz, hne, hnd, e4⟩ := dic_raw I A ea
      have hlen : L.length = kvs.length := by
        have := congrArg List.length (ep_keys hP)
        simpa using this
      have hes : es.size = L.length := by rw [← Array.length_toList, hR.ents, List.length_map]
      refine call_meetsIn F.slot_dict_clear hR.dic.typeIs F.entry_dict_clear (F.args_dict_clear_1 _) (meets_dict_clear_raw a) ⟨es, ep, hR.dic, by omega, fun h' hr' hs' => ?_⟩
      have hd' : GR.Dic h' a #[] (ep + 1) := hr'
      have k1 : Kp H (upd H a (.ext (RawD a #[] (ep + 1)))) := Kp.wr e4 trivial
      have A1 : Abs X.K X.w (hid h a) (upd H a (.ext (RawD a #[] (ep + 1)))) := ⟨fun b o e => ?_, tabs_wr A.tabs e4 trivial fun q z => ?_⟩
      · exact ⟨.non, _, I.write (t' := s.toks) (x := a) (e := a) (by rw [e4]; trivial) (.inl rfl) (fun b u hb q => (hs'.2 b hb).trans q) (let ⟨o, ho, _⟩ := hd'; ⟨o, ho⟩) (raw_obj hd'), rfl, k _ _ _ _ q k1 .non A1⟩
      · unfold hid at e
        split at e
        · cases e
        · rename_i hb
          exact (A b o e).kp k1 (upd_ne hb)
      · obtain ⟨ob, q1, _, q2⟩ := (I.hok a _ e4).1
        have z2 : RawD a es ep s.heap := ⟨ob, q1, by assumption, q2⟩
        have z3 : ∃ (oc : Obj) (vs : Array Value) (t : Tok), s.heap.get? a = some oc ∧ oc.data = .fields vs ∧ vs[1]? = some (.str q t) := by
          have := congrArg (fun o => match o with | HO.ext f => f s.heap | _ => False) z
          exact this.mp z2
        obtain ⟨oc, vs, t, r1, r2, _⟩ := z3
        rw [q1] at r1; cases r1
        rw [q2] at r2; cases r2
    · exact q.elim
  · exact q.elim
end
end G
end

section
set_option Elab.async false
set_option linter.all false
set_option maxRecDepth 100000
set_option maxHeartbeats 4000000
/-! G layer, soundness 23: a tuple times a whole number. -/
namespace G
open PySem PySem.Spec PyProof.Rows L2
theorem tuple_mul1 (l : Addr) (items : Array Value) (n : Nat) (dd : Option Addr) (sl : Array (Option Value)) (x : Int) (u : Tok) (c0 : (decide (x < -(2 ^ 63)) || decide (x ≥ 2 ^ 63)) = false) (c1 : (items.isEmpty || x == 1) = true) :
    Meets (Builtin.«tuple.__mul__» ⟨[.ref l, .int x u], []⟩) (fun _ R s => s.heap.get? l = some { cls := .type "tuple", dict := dd, data := .seq items n, slots := sl } ∧
      R (.ok (.ret (Value.ref l))) s) :=
  .of_wp fun prog w A R s h => by
    obtain ⟨hp, g, d, tk, os⟩ := s
    obtain ⟨hl, h⟩ := h
    have f1 := AutoSeq1.idx_int
    wp_walk using wpAny_loadPart' hl
    repeat (first
      | (refine wpAny_ite_false (decide_eq_false (by rw [c0]; exact Bool.false_ne_true)) ?_; wp_walk using wpAny_loadPart' hl)
      | (refine wpAny_ite_true (decide_eq_true (by rw [c1])) ?_; wp_walk using wpAny_loadPart' hl))
    exact ⟨_, rfl, h⟩
theorem tuple_mul0 (l : Addr) (items : Array Value) (n : Nat) (dd : Option Addr) (sl : Array (Option Value)) (x : Int) (u : Tok) (c0 : (decide (x < -(2 ^ 63)) || decide (x ≥ 2 ^ 63)) = false) (c1 : (items.isEmpty || x == 1) = false) (c2 : (decide (x ≤ 0) || items.isEmpty) = true) :
    Meets (Builtin.«tuple.__mul__» ⟨[.ref l, .int x u], []⟩) (fun _ R s => s.heap.get? l = some { cls := .type "tuple", dict := dd, data := .seq items n, slots := sl } ∧
      R (.ok (.ret (Value.ref s.heap.objs.size))) { s with heap := s.heap.push { cls := Value.type "tuple", data := Data.seq #[] }, toks := s.toks }) :=
  .of_wp fun prog w A R s h => by
    obtain ⟨hp, g, d, tk, os⟩ := s
    obtain ⟨hl, h⟩ := h
    have f1 := AutoSeq1.idx_int
    wp_walk using wpAny_loadPart' hl
    repeat (first
      | (refine wpAny_ite_false (decide_eq_false (by rw [c0]; exact Bool.false_ne_true)) ?_; wp_walk using wpAny_loadPart' hl)
      | (refine wpAny_ite_false (decide_eq_false (by rw [c1]; exact Bool.false_ne_true)) ?_; wp_walk using wpAny_loadPart' hl)
      | (refine wpAny_ite_true (decide_eq_true (by rw [c2])) ?_; wp_walk using wpAny_loadPart' hl))
    exact ⟨_, rfl, h⟩
variable [Tb]
section
variable {X : Cx}
theorem go_mulT : GO X .Mult oMulT := fun pins s σ H x y v u Q I rx ry ⟨d, e, h, Q0, rd, re, A, q, k⟩ => by
  cases d with
  | tup ds =>
    cases e with
    | int j =>
      obtain ⟨⟨hne, hz, j0, j1⟩, q⟩ := q
      cases rd with
      | tup hT r1 =>
      rename_i l xs _
      cases re
      have ll := r1.length
      have hne' : xs ≠ [] := fun e => by subst e; exact hne (List.eq_nil_of_length_eq_zero ll)
      by_cases h2 : 2 ≤ j
      · exact op_repT pins s σ H _ _ v u Q I rx ry ⟨_, _, _, rfl, rfl, hT, hne', h2, by omega, by omega, fun p n => k _ _ _ _ q (Kp.new n) (.tup (SqT.of upd_same) ((rvL_rep r1 _).kp (Kp.new n))) (A.newH n)⟩
      · cases rx
        obtain ⟨t, rfl⟩ := ry
        obtain ⟨its, r, ⟨⟨cls, dd, data, sl⟩, ho, hc, n, hd⟩, hs⟩ := I.tuple hT
        simp only at hc hd
        subst hc hd
        have hle : its.length = xs.length := r.length.symm
        have hn : its ≠ [] := fun e => hne' (by
          rw [e] at hle
          exact List.eq_nil_of_length_eq_zero hle.symm)
        have hi : its.toArray.isEmpty = false := by
          cases its with
          | nil => exact absurd rfl hn
          | cons a b => rfl
        have c0 : (decide (j < -(2 ^ 63)) || decide (j ≥ 2 ^ 63)) = false := by
          rw [decide_eq_false (by omega), decide_eq_false (by omega)] <;> rfl
        by_cases h1 : j = 1
        · subst h1
          refine wpAny_binaryOp_repeat_ref (T := "tuple") (U := "int") (by decide) ⟨_, ho, rfl⟩ (fun s' => typeIs_int s' 1 t) noFill_tuple_mul F.fills_int_mul F.slot_int_rmul repeat_tuple F.slot_int_index.lookup
            (call_meets F.slot_int_rmul (typeIs_int s 1 t) F.entry_int_rmul (F.args_int_rmul_2 _ _) (int_rmul_tuple 1 t l its.toArray n dd sl)
              ⟨ho, rfl, ⟨_, ho, rfl⟩, call_meets F.slot_tuple_mul ⟨_, ho, rfl⟩ F.entry_tuple_mul (F.args_tuple_mul_2 _ _) (tuple_mul1 l its.toArray n dd sl 1 t c0 (by rw [hi]; rfl)) ⟨ho, ?_⟩⟩)
          have q' : Q0 (.tup ds) h := by
            have e : (List.replicate (1 : Int).toNat ds).flatten = ds := by simp
            rw [e] at q; exact q
          exact ⟨.ref l, _, I, rfl, k _ _ _ _ q' (Kp.refl _) (.tup hT r1) A⟩
        · have j00 : j = 0 := by omega
          subst j00
          refine wpAny_binaryOp_repeat_ref (T := "tuple") (U := "int") (by decide) ⟨_, ho, rfl⟩ (fun s' => typeIs_int s' 0 t) noFill_tuple_mul F.fills_int_mul F.slot_int_rmul repeat_tuple F.slot_int_index.lookup
            (call_meets F.slot_int_rmul (typeIs_int s 0 t) F.entry_int_rmul (F.args_int_rmul_2 _ _) (int_rmul_tuple 0 t l its.toArray n dd sl)
              ⟨ho, rfl, ⟨_, ho, rfl⟩, call_meets F.slot_tuple_mul ⟨_, ho, rfl⟩ F.entry_tuple_mul (F.args_tuple_mul_2 _ _) (tuple_mul0 l its.toArray n dd sl 0 t c0 (by rw [hi]; rfl) rfl) ⟨ho, ?_⟩⟩)
          have fr : H s.heap.objs.size = none := I.hok.fresh (Nat.le_refl _)
          refine ⟨.ref s.heap.objs.size, _, I.laid (t' := s.toks) (o := .tup []) (fun b ob q => Heap.get?_push_of_some _ q) (Nat.le_refl _) ?_, rfl, k _ _ _ _ q (Kp.new fr) (.tup (SqT.of upd_same) .nil) (A.newH fr)⟩
          exact ⟨by rw [sizeLine_eq]; decide, _, .nil, IsTup.new _ _⟩
    | _ => exact q.elim
  | _ => exact q.elim
end
end G
end

section
set_option Elab.async false
set_option linter.all false
set_option maxRecDepth 100000
set_option maxHeartbeats 4000000
/-! G layer, soundness 24: slices with a step, ranges with a step. -/
namespace G
open PySem PySem.Spec PyProof.Rows L2
theorem step_range {n : Nat} {k : Int} (hk : 0 < k) : sliceRange 0 (n : Int) k = stepIx n k := by
  unfold sliceRange stepIx
  rw [if_pos hk]
theorem step_bounds {n : Nat} {k : Int} (hk : 0 < k) : sliceBounds none none (some k) n = (0, (n : Int), k) := by
  unfold sliceBounds
  simp [hk]
theorem rvL_at {K : PySem.W.Frag} {H : Hp} : ∀ {ds : List D} {vs : List V}, RvL K H ds vs → ∀ i : Nat, (ds[i]? = none ∧ vs[i]? = none) ∨ ∃ d v, ds[i]? = some d ∧ vs[i]? = some v ∧ Rv K H d v
  | _, _, .nil, i => .inl ⟨by simp, by simp⟩
  | _, _, .cons r t, 0 => .inr ⟨_, _, rfl, rfl, r⟩
  | _, _, .cons r t, i + 1 => by simpa using rvL_at t i
theorem rvL_pick {K : PySem.W.Frag} {H : Hp} {ds : List D} {vs : List V} (r : RvL K H ds vs) : ∀ is : List Nat, RvL K H (is.filterMap fun i => ds[i]?) (is.filterMap fun i => vs[i]?)
  | [] => .nil
  | i :: is => by
    rcases rvL_at r i with ⟨h1, h2⟩ | ⟨d, v, h1, h2, h3⟩
    · rw [List.filterMap_cons_none h1, List.filterMap_cons_none h2]; exact rvL_pick r is
    · rw [List.filterMap_cons_some h1, List.filterMap_cons_some h2]; exact .cons h3 (rvL_pick r is)
theorem vals_at {vs : List V} {us : List Value} (r : Vals vs us) (i : Nat) : (vs[i]? = none ∧ us[i]? = none) ∨ ∃ v u, vs[i]? = some v ∧ us[i]? = some u ∧ RelV v u := by
  cases e : vs[i]? with
  | none => exact .inl ⟨rfl, r.none_of e⟩
  | some v =>
    obtain ⟨u, h1, h2⟩ := r.get e
    exact .inr ⟨v, u, rfl, h1, h2⟩
theorem vals_pick {vs : List V} {us : List Value} (r : Vals vs us) : ∀ is : List Nat, Vals (is.filterMap fun i => vs[i]?) (is.filterMap fun i => us[i]?)
  | [] => .nil
  | i :: is => by
    rcases vals_at r i with ⟨h1, h2⟩ | ⟨d, v, h1, h2, h3⟩
    · rw [List.filterMap_cons_none h1, List.filterMap_cons_none h2]; exact vals_pick r is
    · rw [List.filterMap_cons_some h1, List.filterMap_cons_some h2]; exact .cons h3 (vals_pick r is)
theorem step_le {n : Nat} {k : Int} (hk : 0 < k) : (stepIx n k).length ≤ n := by
  unfold stepIx
  rw [List.length_map, List.length_range]
  split
  · rename_i h
    have := PySem.ceilDiv_le (n : Int) k (by omega) (by omega)
    rw [show (n : Int) - 0 + k - 1 = (n : Int) + k - 1 by omega]
    omega
  · simp
variable [Tb]
section
variable {X : Cx} {e st a b c tg : Expr}
def tStepL (K : PySem.W.Frag) (te ts : TE) : TE := fun σ H Q => te σ H fun x H1 => tPart ts σ H1 fun o H2 => ∃ a xs k, x = .ref a ∧ o = some k ∧ 0 < k ∧ SqL K H2 a xs ∧ ∀ p, H2 p = none → Q (.ref p) (upd H2 p (.lst ((stepIx xs.length k).filterMap fun i => xs[i]?)))
theorem pe_stepL {te ts : TE} {p3 pos : Pos} (he : PE X e te) (hst0 : PE X st ts) : PE X (.Subscript e (.Slice none none (some st) p3) pos) (tStepL X.K te ts) := by
  refine ⟨fun pins s σ H Q I h => ?_⟩
  refine Subscript_ (thn (he.run pins s σ H _ I h) fun v s1 ⟨x, H1, I1, r1, q1⟩ => ?_)
  have hst : PO X (some st) (tPart ts) := po_some hst0
  refine wpAny_Slice (thn (po_none.run pins s1 σ H1 (fun o H2 => o = none ∧ H2 = H1) I1 ⟨rfl, rfl⟩) fun vl s2 ⟨l, H2, I2, pl, el, e2⟩ => ?_)
  subst el e2
  refine thn (po_none.run pins s2 σ H2 (fun o H3 => o = none ∧ H3 = H2) I2 ⟨rfl, rfl⟩) fun vu s3 ⟨u, H3, I3, pu, eu, e3⟩ => ?_
  subst eu e3
  refine thn (hst.run pins s3 σ H3 _ I3 q1) fun vs s4 ⟨o, H4, I4, ps, a, xs, k, ex, eo, hk, hx, q⟩ => ?_
  subst eo ex
  cases r1
  have I5 : Inv X pins σ H4 { s4 with heap := s4.heap.push { cls := .type "slice", data := .fields #[vl, vu, vs] } } := I4.kept (t' := s4.toks) fun b ob q => Heap.get?_push_of_some _ q
  obtain ⟨its, r, ht, hz⟩ := I5.list hx
  have hlen := r.length
  show wpAny (model X.prog X.w) X.A (subscriptTail e (.Slice none none (some st) p3) (.ref a) (.ref s4.heap.objs.size)) (L2.EP X pins σ Q) X.xe { s4 with heap := s4.heap.push { cls := .type "slice", data := .fields #[vl, vu, vs] } }
  refine tail_any (ops := [.ref a, .ref s4.heap.objs.size]) ht.isList.typeIs (PySem.slot_list_getitem.lookup) ?_ (by with_unfolding_all rfl)
  refine wpAny_getItem_list_slice ht.isList (Heap.IsSliceOf.new _ vl vu vs) pl pu ps (by intro z; cases z; omega) ?_ (by rw [List.size_toArray]; omega)
  have ep : slicePick its.toArray none none (some k) = ((stepIx xs.length k).filterMap fun i => its[i]?).toArray := by
    unfold slicePick
    rw [step_bounds hk]
    show ((sliceRange 0 ((its.toArray.size : Nat) : Int) k).filterMap _).toArray = _
    rw [step_range hk, List.size_toArray, ← hlen]
    rw [show (fun i => its.toArray[i]?) = fun i => its[i]? from funext fun i => by simp]
  rw [ep]
  have l1 : ((stepIx xs.length k).filterMap fun i => xs[i]?).length ≤ sizeLine := Nat.le_trans (List.length_filterMap_le _ _) (Nat.le_trans (step_le hk) hz)
  refine ⟨.ref _, _, I5.laid (t' := s4.toks) (o := .lst ((stepIx xs.length k).filterMap fun i => xs[i]?)) (fun b ob q => Heap.get?_push_of_some _ q) (Nat.le_refl _) ?_, rfl, q _ (I5.hok.fresh (Nat.le_refl _))⟩
  exact ⟨l1, _, 0, vals_pick r _, Heap.get?_push_size _ rfl⟩
theorem ge_step {p3 pos : Pos} {f g : DE} (he : GE X e f) (hs : GE X st g) : GE X (.Subscript e (.Slice none none (some st) p3) pos) (d2 oStep f g) :=
  pe_imp (pe_stepL he hs) fun σ H Q ⟨ρ, h, Q0, R, A, q, k⟩ => ⟨ρ, h, _, R, A, q, fun d h1 v H1 q1 k1 r1 A1 => ⟨ρ, h1, _, R.kp k1, A1, q1, fun y h2 u H2 q2 k2 r2 A2 => by
    have q2 := q2.un
    split at q2
    · rename_i ds e1
      split at q2
      · rename_i kk _
        obtain ⟨hk, q2⟩ := q2
        obtain ⟨a, vs, rfl, hq, rL⟩ := lsOf_some A2 (r1.kp k2) e1
        cases r2
        refine ⟨kk, rfl, a, vs, kk, rfl, rfl, hk, hq, fun p n => newL_ok (ds := stepD kk ds) q2 A2 ?_ n (k1.trans k2) k⟩
        unfold stepD
        rw [← rL.length]
        exact rvL_pick rL _
      · exact q2.elim
    · exact q2.elim⟩⟩
theorem fits_of {i : Int} (a : -(2 ^ 63) ≤ i) (b : i < 2 ^ 63) : Builtin.Range.rangeFitsLong i = true := by
  unfold Builtin.Range.rangeFitsLong
  simp only [Bool.and_eq_true, decide_eq_true_eq]
  exact ⟨a, b⟩
theorem div_le_self {x c : Int} (hx : 0 ≤ x) (hc : 0 < c) : 0 ≤ x / c ∧ x / c ≤ x := ⟨Int.ediv_nonneg hx (by omega), Int.ediv_le_self _ hx⟩
theorem rgC_up {i j c : Int} (a1 : -(2 ^ 62) ≤ i) (a2 : i < 2 ^ 62) (b1 : -(2 ^ 62) ≤ j) (b2 : j < 2 ^ 62) (c0 : 0 < c) (c1 : c < 1073741824) : RgC i j c (rngN i j c) := by
  have es : Builtin.Range.rangeSize i j c = ((rngN i j c : Nat) : Int) ∧ Builtin.Range.rangeSize i j c < 2 ^ 63 := by
    unfold Builtin.Range.rangeSize rngN
    rw [if_pos c0]
    split
    · rename_i h
      obtain ⟨h1, h2⟩ := div_le_self (x := j - i - 1) (c := c) (by omega) c0
      exact ⟨by omega, by omega⟩
    · exact ⟨rfl, by decide⟩
  refine ⟨by omega, by omega, ?_, es.1⟩
  unfold Builtin.Range.small
  rw [fits_of (by omega) (by omega), fits_of (i := j) (by omega) (by omega), fits_of (i := c) (by omega) (by omega), fits_of (i := Builtin.Range.rangeSize i j c) (by omega) (by omega), if_pos c0, fits_of (i := j + (c - 1)) (by omega) (by omega)]
  simp
theorem js_rng3 {K : PySem.W.Frag} {w : World} {H : Hp} {lo c : Int} {n : Nat} : JS K w H (Itc lo c n) (srcV (rng3 lo c n)) := fun i h H1 k A ok => by
  have hl : (srcV (rng3 lo c n)).ds.length = n := by simp [srcV, rng3]
  refine ⟨fun d e => ?_, fun z => by rw [hl] at z; exact z⟩
  have hi : i < n := by
    have := (List.getElem?_eq_some_iff.mp e).1
    rw [hl] at this; exact this
  have ed : some (D.int (lo + (i : Int) * c)) = some d := by
    rw [← e]; simp [srcV, rng3, hi]
  cases ed
  exact ⟨hi, fun x H' ⟨e1, e2⟩ => by subst e1; subst e2; exact ⟨Kp.refl _, A, .int _⟩⟩
theorem gi_rng3 {f : DA} {p pos : Pos} (hm : X.mg "range" = none) (ha : GA X [a, b, c] f) (hg : Gl X "range" := by rfl)
    (hs : starEach [a, b, c] X.env = (false, eval a X.env) :: starEach [b, c] X.env := by rfl) (hpl : (backTo pos (starEach [b, c] X.env)).any (·.1) = false := by rfl) : GI X tg (.Call (.Name "range" p) [a, b, c] [] pos) (iRng3 f) :=
  pi_imp (pi_range3 hg hm ha hs hpl) fun σ H R ⟨ρ, h, R0, RR, A, q, k⟩ => ⟨ρ, h, _, RR, A, q, fun ds h1 vs H1 q1 k1 r1 A1 => by
    split at q1
    · rename_i i j l
      cases r1 with
      | cons ra rb =>
        cases rb with
        | cons rc rd =>
          cases rd with
          | cons re rf =>
          cases rf; cases ra; cases rc; cases re
          obtain ⟨⟨a1, a2, b1, b2, c0, c1⟩, q1⟩ := q1
          exact ⟨i, j, l, _, rfl, rgC_up a1 a2 b1 b2 c0 c1, k _ _ _ _ q1 k1 A1 js_rng3⟩
    · exact q1.elim⟩
end
end G
end

section
set_option Elab.async false
set_option linter.all false
set_option maxRecDepth 100000
set_option maxHeartbeats 4000000
/-! G layer, soundness 25: lists put together, whatever holds them. -/
namespace G
open PySem PySem.Spec PyProof.Rows L2
variable [Tb]
section
variable {X : Cx}
def rCatL (K : PySem.W.Frag) : R2 := fun x y H Q => ∃ l b xs zs, x = .ref l ∧ y = .ref b ∧ SqL K H l xs ∧ SqL K H b zs ∧ xs.length + zs.length ≤ sizeLine ∧ ∀ p, H p = none → Q (.ref p) (upd H p (.lst (xs ++ zs)))
theorem op_catL : OpR X (binaryOp .Add) (rCatL X.K) := by
  intro pins s σ H x y v u Q I rx ry h
  obtain ⟨l, b, xs, zs, rfl, rfl, hH, hB, hz, q⟩ := h
  cases rx
  cases ry
  obtain ⟨its, r, ⟨⟨cls, dd, data, sl⟩, n, ho, hc, hdn, hd⟩, hs⟩ := I.list hH
  obtain ⟨its2, r2, ⟨⟨cls2, dd2, data2, sl2⟩, n2, ho2, hc2, hdn2, hd2⟩, hs2⟩ := I.list hB
  simp only at hc hd hc2 hd2
  subst hc hd hc2 hd2
  have l1 := r.length
  have l2 := r2.length
  refine concat_meets ⟨_, ho, rfl⟩ ⟨_, ho2, rfl⟩ noFill_list_add seq_list_add PySem.F.slot_list_add PySem.F.entry_list_add (PySem.F.args_list_add_2 _ _) (list_addW l b its.toArray its2.toArray n n2 dd dd2 sl sl2 (by rw [List.size_toArray, List.size_toArray]; omega)) ⟨ho, ho2, ?_⟩
  have ea : its.toArray ++ its2.toArray = (its ++ its2).toArray := by simp
  rw [ea]
  exact ⟨.ref _, _, I.lnew (t' := s.toks) (r.append r2) (by rw [List.length_append]; omega), rfl, q _ I.fresh⟩
theorem go_addL : GO X .Add oAddL := fun pins s σ H x y v u Q I rx ry ⟨d, e, h, Q0, rd, re, A, q, k⟩ => by
  have q := q.un
  split at q
  · rename_i ds es e1 e2
    obtain ⟨z, q⟩ := q
    obtain ⟨a, vs, rfl, hq, r1⟩ := lsOf_some A rd e1
    obtain ⟨b, us, rfl, hq2, r2⟩ := lsOf_some A re e2
    have l1 := r1.length
    have l2 := r2.length
    exact op_catL pins s σ H _ _ v u Q I rx ry ⟨a, b, vs, us, rfl, rfl, hq, hq2, by rw [sz_eq]; omega, fun p n => newL_ok q A (r1.append r2) n (Kp.refl _) k⟩
  · exact q.elim
end
end G
end

section
set_option Elab.async false
set_option linter.all false
set_option maxRecDepth 100000
set_option maxHeartbeats 4000000
/-! G layer, soundness 26: len of a dict. -/
namespace PySem
section
open Sem (wp)
variable {prog : Program} {w : World} {A : Around} {E : Value → Shared → Prop} {s : Shared}
theorem call_len_rawB {d : Addr} {es : Array DictEntry} {ep : Nat} {Q : Value → Shared → Prop} (hd : (d == sysModules) = false) (hm : s.heap.DictRaw d es ep) (hfit : (es.size : Int) < 2 ^ 63)
    (h : Q (.int es.size (s.toks + 1)) { s with toks := s.toks + 1 + 1 }) : wpAny (model prog w) A (call (.builtin "len") [.ref d]) Q E s := by
  refine Calls.call_function_entry kind_len plain_len entry_len (args_len1 _) ?_
  unfold Builtin.«len»
  refine wpAny_bind (m := oneArg "len" _) (wpAny_pure ?_)
  refine wpAny_bind (m := callSpecial? (.ref d) (Str.ofString "__len__")) (wpAny_callSpecial?_slot (name := Str.ofString "__len__") hm.typeIs F.slot_dict_len
    (call_meetsIn F.slot_dict_len hm.typeIs F.entry_dict_len (F.args_dict_len_1 _) (meets_dict_len_raw d hd) ⟨es, ep, hm, ?_⟩))
  show wpAny _ _ _ _ _ { s with toks := s.toks + 1 }
  refine wpAny_bind (wpAny_holding (wpAny_pure ?_))
  refine wpAny_bind (wpAny_letGo ?_)
  show wpAny _ _ (if ((es.size : Nat) : Int) < 0 then _ else _) _ _ _
  rw [if_neg (by omega)]
  show wpAny _ _ (if ((es.size : Nat) : Int) ≥ 2 ^ 63 then _ else _) _ _ _
  rw [if_neg (by omega)]
  exact wpAny_bind (wpAny_mkInt (wpAny_pure ⟨_, rfl, h⟩))
end
end PySem
namespace G
open PySem PySem.Spec PyProof.Rows L2
variable [Tb]
section
variable {X : Cx}
theorem gb_lenD : GB X (.builtin "len") bLenD := fun pins s σ H vs us Q I r ⟨ds, h, Q0, rL, A, q, k⟩ => by
  unfold bLenD at q
  split at q
  · rename_i a
    split at q
    · rename_i kvs ea
      obtain ⟨v, rfl, rv⟩ := rvL_one rL
      cases rv
      obtain ⟨u, rfl, rx⟩ := vals1 r
      obtain rfl : u = .ref a := rx
      obtain ⟨es, hD, hl, _⟩ := ki_raw I (ki_of A ea)
      obtain ⟨hlen, hsys, _⟩ := A a _ ea
      refine call_len_rawB hsys hD (by rw [sizeLine_eq] at hlen; omega) ?_
      rw [hl]
      exact ⟨.int ((kvs.length : Nat) : Int), H, I.tok _, ⟨_, rfl⟩, k _ _ _ _ q (Kp.refl _) (.int _) A⟩
    · exact gb_len pins s σ H vs us Q I r ⟨_, h, Q0, rL, A, q, k⟩
  · exact gb_len pins s σ H vs us Q I r ⟨_, h, Q0, rL, A, q, k⟩
end
end G
end

section
set_option Elab.async false
set_option linter.all false
set_option maxRecDepth 100000
set_option maxHeartbeats 4000000
/-! G layer, soundness 27: str, f-strings. -/
namespace G
open PySem PySem.Spec PyProof.Rows L2
variable [Tb]
section
variable {X : Cx} {pos : Pos}
theorem okI {i : Int} (h : i.natAbs.log2 < 1920) : okS (Str.ofString (toString i)) := int_text_fits h
theorem gb_str : GB X (.type "str") bStr := fun pins s σ H vs us Q I r ⟨ds, h, Q0, rL, A, q, k⟩ => by
  unfold bStr at q
  split at q
  · rename_i i
    obtain ⟨v, rfl, rv⟩ := rvL_one rL
    cases rv
    exact call_str_int pins s σ H _ us Q I r ⟨i, rfl, q.1, k _ _ _ _ q.2 (Kp.refl _) (.str _ (okI q.1)) A⟩
  · rename_i x
    obtain ⟨v, rfl, rv⟩ := rvL_one rL
    cases rv with
    | str _ o => exact SkE.call_str_str pins s σ H _ us Q I r ⟨x, rfl, k _ _ _ _ q (Kp.refl _) (.str _ o) A⟩
  · exact q.elim
theorem ge_fmt {e : Expr} {f : DE} (he : GE X e f) : GE X (.FormattedValue e (-1) none pos) (d1 oFmt f) :=
  pe_imp (pe_fmt he) fun σ H Q ⟨ρ, h, Q0, R, A, q, k⟩ => ⟨ρ, h, _, R, A, q, fun d h1 v H1 q1 k1 r1 A1 => by
    unfold oFmt at q1
    split at q1
    · cases r1 with
      | str _ o => exact .inl ⟨_, rfl, o, k _ _ _ _ q1 k1 (.str _ o) A1⟩
    · rename_i i
      cases r1
      exact .inr ⟨i, rfl, q1.1, k _ _ _ _ q1.2 k1 (.str _ (okI q1.1)) A1⟩
    · exact q1.elim⟩
def GJ (X : Cx) (es : List Expr) (g : DJ) : Prop := ∃ ts, PJ X es ts ∧ ∀ (acc : Str) (σ : L2.St) (H : Hp) (Q : Str → Hp → Prop) (ρ : Lo) (h : AH) (Q0 : Str → AH → Prop), okS acc → RS X.K H ρ σ → Abs X.K X.w h H → g acc ρ h Q0 →
  (∀ y h1 H1, Q0 y h1 → Kp H H1 → okS y → Abs X.K X.w h1 H1 → Q y H1) → tJs ts acc σ H Q
theorem gj_nil : GJ X [] djNil := ⟨[], .nil, fun acc σ H Q ρ h Q0 o R A q k => k _ _ _ q (Kp.refl _) o A⟩
theorem gj_cons {e : Expr} {es : List Expr} {f : DE} {g : DJ} (he : GE X e f) (hr : GJ X es g) : GJ X (e :: es) (djCons f g) := by
  obtain ⟨ts, hp, hk⟩ := hr
  refine ⟨_, .cons he hp, fun acc σ H Q ρ h Q0 o R A q k => ?_⟩
  refine ⟨ρ, h, _, R, A, q, fun d h1 v H1 q1 k1 r1 A1 => ?_⟩
  unfold oCat at q1
  split at q1
  · rename_i y
    cases r1 with
    | str _ oy =>
      have hz : okS (acc ++ y) := by unfold okS; rw [sz_eq] at *; exact q1.1
      exact ⟨y, rfl, hz, hk (acc ++ y) σ H1 Q ρ h1 Q0 hz (R.kp k1) A1 q1.2 fun y' h2 H2 q2 k2 o2 A2 => k _ _ _ q2 (k1.trans k2) o2 A2⟩
  · exact q1.elim
theorem ge_fstr {v1 v2 : Expr} {rest : List Expr} {g : DJ} (h : GJ X (v1 :: v2 :: rest) g) : GE X (.JoinedStr (v1 :: v2 :: rest) pos) (dFstr g) := by
  obtain ⟨ts, hp, hk⟩ := h
  exact pe_imp (pe_joined hp) fun σ H Q ⟨ρ, h, Q0, R, A, q, k⟩ => hk Str.empty σ H _ ρ h _ (Nat.zero_le _) R A q fun y h1 H1 q1 k1 o1 A1 => k _ _ _ _ q1 k1 (.str _ o1) A1
end
end G
end

section
set_option Elab.async false
set_option linter.all false
set_option maxRecDepth 100000
set_option maxHeartbeats 4000000
/-! G layer, soundness 28: a text times 0 or 1. -/
namespace G
open PySem PySem.Spec PyProof.Rows L2
variable [Tb]
section
variable {X : Cx}
theorem go_mulS : GO X .Mult oMulS := fun pins s σ H x y v u Q I rx ry ⟨d, e, h, Q0, rd, re, A, q, k⟩ => by
  cases d with
  | str z =>
    cases e with
    | int j =>
      obtain ⟨⟨j0, j1⟩, q⟩ := q
      cases rd with
      | str _ o =>
      cases re
      obtain ⟨t, rfl⟩ := rx
      obtain ⟨t2, rfl⟩ := ry
      have hj : j = 0 ∨ j = 1 := by omega
      rcases hj with rfl | rfl
      · refine PySem.P.mul_str (by decide) (fun z => absurd (by decide) z) (fun z => absurd (by decide) z) ?_
        rw [if_pos (by decide)]
        exact ⟨Nat.zero_le _, .str Str.empty, H, I.tok _, ⟨_, rfl⟩, k _ _ _ _ q (Kp.refl _) (.str _ (Nat.zero_le _)) A⟩
      · refine PySem.P.mul_str (by decide) (fun _ z => by simp at z) (fun _ z => by simp at z) ?_
        rw [if_neg (by decide), if_pos (by simp)]
        exact ⟨.str z, H, I, ⟨_, rfl⟩, k _ _ _ _ q (Kp.refl _) (.str _ o) A⟩
    | _ => exact q.elim
  | _ => exact q.elim
end
end G
end

section
set_option Elab.async false
set_option linter.all false
set_option maxRecDepth 100000
set_option maxHeartbeats 4000000
/-! G layer, soundness 29: text in text, // by great numbers, walks of texts, all, calls of what a name holds. -/
namespace G
open PySem PySem.Spec PyProof.Rows L2
variable [Tb]
section
variable {X : Cx} {a b c e tg : Expr} {pos : Pos}
theorem gc_inS : GC X .In oInS := op_use op_in_str fun x y H Q ⟨d, e, h, Q0, rd, re, A, q, k⟩ => by
  cases d <;> cases e <;> first | exact q.elim | skip
  cases rd; cases re
  refine ⟨_, _, rfl, rfl, ?_⟩
  have := k _ _ _ _ q (Kp.refl _) (.bl _) A
  unfold inS at this
  exact this
theorem gc_notInS : GC X .NotIn oNotInS := op_use op_notin_str fun x y H Q ⟨d, e, h, Q0, rd, re, A, q, k⟩ => by
  cases d <;> cases e <;> first | exact q.elim | skip
  cases rd; cases re
  refine ⟨_, _, rfl, rfl, ?_⟩
  have := k _ _ _ _ q (Kp.refl _) (.bl _) A
  unfold inS at this
  exact this
theorem go_divW : GO X .FloorDiv oDivW := op_use op_fdivW fun x y H Q ⟨d, e, h, Q0, rd, re, A, q, k⟩ => by
  cases d <;> cases e <;> first | exact q.elim | skip
  cases rd; cases re
  obtain ⟨⟨c, c2⟩, q⟩ := q
  refine ⟨_, _, rfl, rfl, wide_div (b := 8000) c ?_ (by decide) (by decide), k _ _ _ _ q (Kp.refl _) (.int _) A⟩
  exact Nat.lt_trans (show _ < (2 : Nat) ^ 200 by omega) (Nat.pow_lt_pow_right (by decide) (by decide))
theorem js_txt {K : PySem.W.Frag} {w : World} {H : Hp} {z : Str} : JS K w H (Its z) (srcV (chrs z)) := fun i h H1 k A ok => by
  have hl : (chrs z).length = z.cps.size := by unfold chrs; rw [List.length_map, Array.length_toList]
  refine ⟨fun d e => ?_, fun y => ?_⟩
  · have e' : (chrs z)[i]? = some d := e
    unfold chrs at e'
    rw [List.getElem?_map] at e'
    obtain ⟨c, hc, rfl⟩ := Option.map_eq_some_iff.mp e'
    rw [Array.getElem?_toList] at hc
    have hi := (Array.getElem?_eq_some_iff.mp hc).1
    refine ⟨hi, fun x H' ⟨e3, c', hc', hx⟩ => ?_⟩
    subst e3
    rw [hc] at hc'; cases hc'
    subst hx
    exact ⟨Kp.refl _, A, .str _ (show 1 ≤ sizeLine by decide)⟩
  · show z.cps.size ≤ i
    rw [← hl]; exact y
theorem gi_txt {f : DE} (he : GE X e f) : GI X tg e (G.iTxt f) :=
  pi_imp (pi_str he) fun σ H R ⟨ρ, h, R0, RR, A, q, k⟩ => ⟨ρ, h, _, RR, A, q, fun d h1 v H1 q1 k1 r1 A1 => by
    cases d <;> first | exact q1.elim | skip
    cases r1
    exact ⟨_, rfl, k _ _ _ _ q1 k1 A1 js_txt⟩⟩
theorem blsOf_some {K : PySem.W.Frag} {H : Hp} : ∀ {ds : List D} {bs : List Bool} {vs : List V}, blsOf ds = some bs → RvL K H ds vs → vs = bs.map V.bl
  | [], bs, vs, e, r => by cases e; cases r; rfl
  | .bl i :: ds, bs, vs, e, r => by
    simp only [blsOf, Option.map_eq_some_iff] at e
    obtain ⟨ms, e1, rfl⟩ := e
    cases r with
    | cons ra rb =>
      cases ra
      rw [blsOf_some e1 rb]; rfl
  | .non :: _, _, _, e, _ => by simp [blsOf] at e
  | .int _ :: _, _, _, e, _ => by simp [blsOf] at e
  | .str _ :: _, _, _, e, _ => by simp [blsOf] at e
  | .tup _ :: _, _, _, e, _ => by simp [blsOf] at e
  | .rl _ :: _, _, _, e, _ => by simp [blsOf] at e
  | .rd _ _ :: _, _, _, e, _ => by simp [blsOf] at e
  | .ref _ :: _, _, _, e, _ => by simp [blsOf] at e
theorem gb_all (hc : X.calm = true) : GB X (.builtin "all") bAll := fun pins s σ H vs us Q I r ⟨ds, h, Q0, rL, A, q, k⟩ => by
  unfold bAll at q
  split at q
  · rename_i x
    obtain ⟨v, rfl, rv⟩ := rvL_one rL
    split at q
    · rename_i bs e1
      obtain ⟨ds, e2, e3⟩ := Option.bind_eq_some_iff.mp e1
      obtain ⟨a, vs, rfl, hq, rL'⟩ := lsOf_some A rv e2
      rw [blsOf_some e3 rL'] at hq
      exact cr_all hc pins s σ H _ us Q I r ⟨a, bs, rfl, hq, k _ _ _ _ q (Kp.refl _) (.bl _) A⟩
    · exact q.elim
  · exact q.elim
theorem ge_callV {k : Nat} {f : Addr} {fd : FuncData} {ps : List Str} {sp : FS} {x : Str} {p : Pos} {es : List Expr} {fa : DA} (i : Nat) (F : FnG X.prog X.w X.K X.mg X.base k f fd ps sp) (hr : Room k X.A) (hk : PySem.W.keepIn X.K (.ref f) = true) (hb : Binds X.K fd ps [])
    (ha : GA X (e :: es) fa) (hN : X.N[i]? = some x := by rfl) (hv : Vis X.env.scope x := by first | exact Or.inl rfl | exact Or.inr (Or.inl rfl) | exact Or.inr (Or.inr rfl)) (hdb : (x == ("__debug__" : Str)) = false := by decide) (hcd : (x == ("__classdict__" : Str)) = false := by decide) (he : starEach (e :: es) X.env = (false, eval e X.env) :: starEach es X.env := by rfl) (hpl : (backTo pos (starEach es X.env)).any (·.1) = false := by rfl) :
    GE X (.Call (.Name x p) (e :: es) [] pos) (dCallV i f sp fa) := by
  refine ⟨fun pins s σ H Q I ⟨ρ, h, Q0, R, A, q, k⟩ => ?_⟩
  unfold dCallV onV at q
  split at q
  · rename_i d ed
    obtain ⟨rfl, q⟩ := q
    obtain ⟨v, e1, r⟩ := R.2 i _ ed
    cases r
    refine wpAny_Call_Name_kw (thn ((pv i hN hv hdb hcd).run pins s σ H (fun v H' => v = .ref f ∧ H' = H) I ⟨_, e1, rfl, rfl⟩) fun u s1 ⟨v, H1, I1, r, e2, e3⟩ => ?_)
    subst e2 e3
    cases r
    refine PySem.W.callWith_K (h₀ := X.base) I1.ok.mod.kin hk (thn (ha.run pos pins s1 σ H1 (fun us H' => spG X.K X.w sp (us ++ []) H' Q fun _ _ _ => False) I1 ⟨ρ, h, _, R, A, q, fun ds h1 vs H1 q1 k1 r1 A1 => ⟨ds, h1, Q0, by rw [List.append_nil]; exact r1, A1, q1, k.kp k1⟩⟩) fun us s2 ⟨vs, H2, I2, r2, q2⟩ => ⟨I2.kIn, ?_⟩) he hpl
    exact run_fn F hr hb .nil pass0 I2 r2 q2
  · exact q.elim
end
end G
end

section
set_option Elab.async false
set_option linter.all false
set_option maxRecDepth 100000
set_option maxHeartbeats 4000000
/-! G layer: the end of a law. -/
namespace G
open PySem PySem.Spec PyProof.Rows L2
variable [Tb]
theorem rvL_ints {K : PySem.W.Frag} {H : Hp} : ∀ ns : List Int, RvL K H (ns.map D.int) (ns.map V.int)
  | [] => .nil
  | n :: ns => .cons (.int n) (rvL_ints ns)
theorem sp_law {K : PySem.W.Frag} {w : World} {f : FS} {m : Nat} (hf : ∀ ns : List Int, ns.length ≤ m → f [.rl (ns.map .int)] (fun _ => none) fun d _ => d = .bl true) (H : Hp) (a : PySem.Addr) (ns : List Int) (hl : ns.length ≤ m) (ho : Only H) (hS : SqL K H a (ns.map V.int)) (hT : LamX.Tabs Tb.T H) :
    spG K w f [.ref a] H (fun v _ => v = .bl true) fun _ _ _ => False := by
  have hr : RoL K H a (ns.map V.int) := by
    rcases hS with (h | ⟨o, h⟩) | h
    · rcases ho a with e | ⟨o, xs, e⟩
      · rw [e] at h; cases h
      · rw [e] at h; cases h
    · exact .inl ⟨o, h⟩
    · exact .inr h
  refine ⟨[.rl (ns.map .int)], fun _ => none, fun d _ => d = .bl true, .cons (.rl hr (rvL_ints ns)) .nil, ⟨fun _ _ (e : none = some _) => (nomatch e), hT⟩, hf ns hl, fun d h' v H' e k r A => ?_⟩
  subst e
  cases r
  rfl
theorem hu64 {k : Nat} {A : Around} (hr : Room k A) : A.units + 64 < cLine := by have := hr.un; omega
theorem hu100 {k : Nat} {A : Around} (hr : Room k A) : A.units + 100 < cLine := by have := hr.un; omega
/-- a module's constant tuple -/
theorem rv_ktup {K : PySem.W.Frag} {a : PySem.Addr} {o : Obj} {its : Array Value} {n : Nat} {vs : List V} {ds : List D} (e : K.lookup a = some o) (hc : o.cls = .type "tuple") (hd : o.data = .seq its n) (hz : its.size ≤ sizeLine) (hv : L2.Vals vs its.toList) (r : ∀ H, RvL K H ds vs) (H : Hp) : Rv K H (.tup ds) (.ref a) :=
  .tup (.inr ⟨o, its, n, e, hc, hd, hz, hv⟩) (r H)
/-- no tables -/
@[reducible] def tb0 : Tb := ⟨[]⟩
theorem sp_law0 {K : PySem.W.Frag} {w : World} {f : FS} {m : Nat} (hf : ∀ ns : List Int, ns.length ≤ m → f [.rl (ns.map .int)] (fun _ => none) fun d _ => d = .bl true) (H : Hp) (a : PySem.Addr) (ns : List Int) (hl : ns.length ≤ m) (ho : Only H) (hS : SqL K H a (ns.map V.int)) :
    @spG tb0 K w f [.ref a] H (fun v _ => v = .bl true) fun _ _ _ => False :=
  @sp_law tb0 K w f m hf H a ns hl ho hS fun p hp => by cases hp
theorem hdp {k : Nat} {A : Around} (hr : Room k A) : A.in1.in1.depth < recursionLimit := by
  have h := hr.dp
  show A.depth < recursionLimit
  omega
/-- how a lambda in a def of the top is named -/
abbrev lamQ (n : Str) : Str := (n ++ ".<locals>.") ++ "<lambda>"
/-- the law's promise, whatever tracks the script -/
def spT (K : PySem.W.Frag) (cs : List (PySem.Addr × PySem.Addr)) (m : Nat) : Sp := fun vs H Q _ => ∃ (a : PySem.Addr) (ns : List Int), vs = [.ref a] ∧ ns.length ≤ m ∧ (∀ p ∈ cs, H p.2 = some (.tbl #[])) ∧ SqL K H a (ns.map V.int) ∧ Q = fun v _ => v = .bl true
theorem tabs_new {T : List (PySem.Addr × Str)} {H : Hp} (h : ∀ p ∈ T, H p.1 = some (.tbl #[])) : LamX.Tabs T H := fun p hp => LamX.TabS.nil (h p hp)
theorem froz {P : Program} {w : World} {K : PySem.W.Frag} {mg : Str → Option Value} {base : Heap} {k m : Nat} {fa : PySem.Addr} {fd : FuncData} {x : Str} {f : FS} {cs : List (PySem.Addr × PySem.Addr)}
    (hf : ∀ ns : List Int, ns.length ≤ m → f [.rl (ns.map .int)] (fun _ => none) fun d _ => d = .bl true) (hT : ∀ p ∈ Tb.T, ∃ c, (c, p.1) ∈ cs) (F : FnG P w K mg base k fa fd [x] f) : FnOk P w K mg base CX0 k fa fd [x] (spT K cs m) := by
  have go : ∀ (H : Hp) (a : PySem.Addr) (ns : List Int), ns.length ≤ m → (∀ p ∈ cs, H p.2 = some (.tbl #[])) → RoL K H a (ns.map V.int) → spG K w f [.ref a] H (fun v _ => v = .bl true) fun _ _ _ => False := by
    intro H a ns hl ht hr
    refine ⟨[.rl (ns.map .int)], fun _ => none, fun d _ => d = .bl true, .cons (.rl hr (rvL_ints ns)) .nil, ⟨fun _ _ (e : none = some _) => (nomatch e), tabs_new fun p hp => ?_⟩, hf ns hl, fun d h' v H' e k r A => ?_⟩
    · obtain ⟨c, hc⟩ := hT p hp
      exact ht _ hc
    · subst e
      cases r
      rfl
  refine ⟨fun vs H Q E ⟨a, ns, e, _⟩ => by rw [e]; rfl, fun A outer s H args us vs Q E hr e0 hb rv ⟨a, ns, e, hl, ht, hS, eQ⟩ => ?_⟩
  subst e
  subst eQ
  rcases hS with (hS | ⟨o, hS⟩) | hS
  · obtain ⟨z, its, n, r1, r2⟩ := e0.hok a _ hS
    have ne : ∀ b u, H b = some u → (∀ ys, u ≠ .lst ys) → b ≠ a := fun b u q1 q2 q3 => by subst q3; rw [hS] at q1; cases q1; exact q2 _ rfl
    have nn : ∀ b, H b = none → b ≠ a := fun b q1 q3 => by subst q3; rw [hS] at q1; cases q1
    let H2 : Hp := upd H a (.frz { cls := .type "list", data := .seq its.toArray n } (.lst (ns.map V.int)))
    have at_ : ∀ b, b ≠ a → H2 b = H b := fun b q => upd_ne q
    have hok2 : HOk P w H2 s.heap := fun b u q => by
      by_cases hb : b = a
      · subst hb
        have q' : some (HO.frz _ _) = some u := (upd_same (H := H)).symm.trans q
        cases q'
        exact ⟨r2, z, its, n, r1, r2⟩
      · rw [at_ b hb] at q
        exact (e0.hok b u q).stay (fun _ _ _ q => q) (fun d q => by rw [at_ d (ne d _ q fun _ z => by cases z)]; exact q) fun d xs q => by rw [at_ d (ne d _ q fun _ z => by cases z)]; exact q
    have e2 : Env0 P w K mg base A outer s H2 := ⟨e0.frames, e0.mod, fun b o q => ⟨(e0.bs b o q).1, by rw [at_ b (nn b (e0.bs b o q).2)]; exact (e0.bs b o q).2⟩, e0.bsz, e0.funs, fun b q => by rw [at_ b (nn b (e0.frf b q))]; exact e0.frf b q, hok2, e0.bare⟩
    have hgo := go H2 a ns hl (fun p hp => by rw [at_ _ (ne _ _ (ht p hp) fun _ z => by cases z)]; exact ht p hp) (.inl ⟨_, upd_same⟩)
    refine codeAny_mono (F.run A outer s H2 args us _ _ _ hr e2 hb rv hgo) fun r s' q => ?_
    cases r with
    | error e =>
      exact q
    | ok fl =>
      cases fl with
      | ret u =>
        obtain ⟨v, H3, w1, w2, un, w3, w4, w5⟩ := q
        refine ⟨v, H3, w1, w2, ⟨fun b o q1 q2 => un.keep b o q1 (by rw [at_ b (nn b q2)]; exact q2), fun b o q1 q2 => un.slot b o q1 (by rw [at_ b (nn b q2)]; exact q2), fun b o q1 q2 => un.free b o q1 (by rw [at_ b (nn b q2)]; exact q2), un.there,
          fun b xs q1 => un.tups b xs (by rw [at_ b (ne b _ q1 fun _ z => by cases z)]; exact q1), fun b o u q1 => un.frzs b o u (by rw [at_ b (ne b _ q1 fun _ z => by cases z)]; exact q1), fun b ps q1 => un.tbls b ps (by rw [at_ b (ne b _ q1 fun _ z => by cases z)]; exact q1)⟩, w3, w4, w5⟩
      | _ => exact q
  · exact F.run A outer s H args us _ _ _ hr e0 hb rv (go H a ns hl ht (.inl ⟨o, hS⟩))
  · exact F.run A outer s H args us _ _ _ hr e0 hb rv (go H a ns hl ht (.inr hS))
end G
end

section
set_option linter.all false
set_option autoImplicit false
/-! G layer: plain lemmas for the laws: equality of plain data, rules for readings, dicts, lists. -/
namespace G
open PySem (Str)

/-! ### plain data -/
mutual
theorem pl_mono : ∀ (n m : Nat) (d : D), n ≤ m → pl n d = true → pl m d = true
  | _, _, .non, _, _ => by simp [pl]
  | _, _, .int _, _, _ => by simp [pl]
  | _, _, .str _, _, _ => by simp [pl]
  | n + 1, m + 1, .tup ds, h, e => by
    rw [pl] at e ⊢
    exact plL_mono n m ds (by omega) e
  | n + 1, 0, .tup ds, h, _ => by omega
  | 0, m, .tup ds, _, e => by simp [pl] at e
  | n, m, .bl _, _, e => by cases n <;> simp [pl] at e
  | n, m, .rl _, _, e => by cases n <;> simp [pl] at e
  | n, m, .rd _ _, _, e => by cases n <;> simp [pl] at e
  | n, m, .ref _, _, e => by cases n <;> simp [pl] at e
theorem plL_mono : ∀ (n m : Nat) (ds : List D), n ≤ m → plL n ds = true → plL m ds = true
  | _, _, [], _, _ => rfl
  | n, m, d :: ds, h, e => by
    rw [plL, Bool.and_eq_true] at e ⊢
    exact ⟨pl_mono n m d h e.1, plL_mono n m ds h e.2⟩
end
theorem plL_iff {n : Nat} : ∀ {ds : List D}, plL n ds = true ↔ ∀ d ∈ ds, pl n d = true
  | [] => by simp [plL]
  | d :: ds => by rw [plL, Bool.and_eq_true, plL_iff (ds := ds)]; simp
mutual
theorem rei_pl {h : AH} : ∀ (n : Nat) (d : D), pl n d = true → rei h n d = some d
  | n, .non, _ => by cases n <;> rfl
  | n, .int _, _ => by cases n <;> rfl
  | n, .str _, _ => by cases n <;> rfl
  | n + 1, .tup ds, e => by rw [pl] at e; rw [rei, mapO_pl n ds e]; rfl
  | 0, .tup ds, e => by simp [pl] at e
  | n, .bl _, e => by cases n <;> simp [pl] at e
  | n, .rl _, e => by cases n <;> simp [pl] at e
  | n, .rd _ _, e => by cases n <;> simp [pl] at e
  | n, .ref _, e => by cases n <;> simp [pl] at e
theorem mapO_pl {h : AH} : ∀ (n : Nat) (ds : List D), plL n ds = true → mapO (rei h n) ds = some ds
  | _, [], _ => rfl
  | n, d :: ds, e => by
    rw [plL, Bool.and_eq_true] at e
    rw [mapO, rei_pl n d e.1, mapO_pl n ds e.2]
end
mutual
/-- plain data and lists of such -/
def plq : D → Bool
  | .non => true
  | .int _ => true
  | .str _ => true
  | .tup ds => plqL ds
  | .rl ds => plqL ds
  | _ => false
def plqL : List D → Bool
  | [] => true
  | d :: ds => plq d && plqL ds
end
mutual
theorem plq_pl : ∀ (n : Nat) (d : D), pl n d = true → plq d = true
  | n, .non, _ => rfl
  | n, .int _, _ => rfl
  | n, .str _, _ => rfl
  | n + 1, .tup ds, e => by rw [pl] at e; rw [plq]; exact plqL_pl n ds e
  | 0, .tup ds, e => by simp [pl] at e
  | n, .bl _, e => by cases n <;> simp [pl] at e
  | n, .rl _, e => by cases n <;> simp [pl] at e
  | n, .rd _ _, e => by cases n <;> simp [pl] at e
  | n, .ref _, e => by cases n <;> simp [pl] at e
theorem plqL_pl : ∀ (n : Nat) (ds : List D), plL n ds = true → plqL ds = true
  | _, [], _ => rfl
  | n, d :: ds, e => by
    rw [plL, Bool.and_eq_true] at e
    rw [plqL, plq_pl n d e.1, plqL_pl n ds e.2]; rfl
end
mutual
theorem deqv_plq : ∀ (x y : D), plq x = true → plq y = true → deqv x y = decide (x = y)
  | .non, y, _, h => by cases y <;> simp_all [plq, deqv]
  | .int a, y, _, h => by cases y <;> simp_all [plq, deqv, Bool.beq_eq_decide_eq]
  | .str a, y, _, h => by cases y <;> simp_all [plq, deqv, Bool.beq_eq_decide_eq]
  | .tup a, y, e, h => by
    cases y <;> first | (simp [plq] at h; done) | (simp [deqv]; done) | skip
    rw [plq] at e h
    rw [deqv, deqvL_plq _ _ e h]; simp
  | .rl a, y, e, h => by
    cases y <;> first | (simp [plq] at h; done) | (simp [deqv]; done) | skip
    rw [plq] at e h
    rw [deqv, deqvL_plq _ _ e h]; simp
  | .bl _, y, e, _ => by simp [plq] at e
  | .rd _ _, y, e, _ => by simp [plq] at e
  | .ref _, y, e, _ => by simp [plq] at e
theorem deqvL_plq : ∀ (x y : List D), plqL x = true → plqL y = true → deqvL x y = decide (x = y)
  | [], [], _, _ => by simp [deqvL]
  | [], _ :: _, _, _ => by simp [deqvL]
  | _ :: _, [], _, _ => by simp [deqvL]
  | x :: xs, y :: ys, e, h => by
    rw [plqL, Bool.and_eq_true] at e h
    rw [deqvL, deqv_plq x y e.1 h.1, deqvL_plq xs ys e.2 h.2]
    by_cases z : x = y <;> simp [z]
end
/-- x is, lists at addresses put by value, the plain x' -/
def Pv (h : AH) (x x' : D) : Prop := rei h 12 x = some x' ∧ plq x' = true
theorem Pv.pl {h : AH} {n : Nat} {x : D} (e : pl n x = true) (hn : n ≤ 12 := by omega) : Pv h x x := ⟨rei_pl 12 x (pl_mono n 12 x hn e), plq_pl n x e⟩
theorem Pv.lst {h : AH} {a : Addr} {ds : List D} {n : Nat} (e : h a = some (.lst ds)) (hp : plL n ds = true) (hn : n ≤ 11 := by omega) : Pv h (.ref a) (.rl ds) := by
  refine ⟨?_, by rw [plq]; exact plqL_pl n ds hp⟩
  rw [rei, e]
  dsimp only
  rw [mapO_pl 11 ds (plL_mono n 11 ds hn hp)]; rfl
theorem Pv.rl {h : AH} {ds : List D} {n : Nat} (hp : plL n ds = true) (hn : n ≤ 11 := by omega) : Pv h (.rl ds) (.rl ds) := by
  refine ⟨?_, by rw [plq]; exact plqL_pl n ds hp⟩
  rw [rei, mapO_pl 11 ds (plL_mono n 11 ds hn hp)]; rfl
theorem oEqB_pv {h : AH} {x y x' y' : D} {Q : Bool → Prop} (a : Pv h x x') (b : Pv h y y') (q : Q (decide (x' = y'))) : oEqB x y h Q := by
  unfold oEqB
  rw [a.1, b.1]
  dsimp only
  rw [deqv_plq _ _ a.2 b.2]; exact q
theorem oEq_pv {h : AH} {x y x' y' : D} {Q : KD} (a : Pv h x x') (b : Pv h y y') (q : Q (.bl (decide (x' = y'))) h) : oEq x y h Q := by refine ⟨?_⟩; exact oEqB_pv a b q
theorem oNe_pv {h : AH} {x y x' y' : D} {Q : KD} (a : Pv h x x') (b : Pv h y y') (q : Q (.bl (!decide (x' = y'))) h) : oNe x y h Q := by refine ⟨?_⟩; exact oEqB_pv a b q

/-! ### rules -/
theorem up_at {h : AH} {a b : Addr} {o : O} {x : Option O} (n : b ≠ a) (e : h b = x) : up h a o b = x := by rw [up_ne n]; exact e
theorem ix_lst {h : AH} {a : Addr} {ds : List D} {i : Int} {Q : KD} (e : h a = some (.lst ds)) (q : ∃ d, atI ds i = some d ∧ Q d h) : oIx (.ref a) (.int i) h Q := by
  refine ⟨?_⟩
  simp only [dcOf, e, sqOf, lsOf]
  exact q
theorem ix_dic {h : AH} {a : Addr} {kvs : List (D × D)} {k : D} {Q : KD} (e : h a = some (.dic kvs)) (q : pl 8 k = true ∧ ∃ v, dget kvs k = some v ∧ Q v h) : oIx (.ref a) k h Q := by
  refine ⟨?_⟩
  simp only [dcOf, e]
  exact q
theorem ix_tup {h : AH} {ds : List D} {i : Int} {Q : KD} (q : ∃ d, atI ds i = some d ∧ Q d h) : oIx (.tup ds) (.int i) h Q := by refine ⟨?_⟩; exact q
theorem ix_rl {h : AH} {ds : List D} {i : Int} {Q : KD} (q : ∃ d, atI ds i = some d ∧ Q d h) : oIx (.rl ds) (.int i) h Q := by refine ⟨?_⟩; exact q
theorem atI_last {α : Type} (xs : List α) (x : α) : atI (xs ++ [x]) (-1) = some x := by
  unfold atI ixN
  rw [if_neg (by omega), if_pos (by simp only [List.length_append, List.length_cons, List.length_nil]; omega)]
  simp only [Option.bind_some, List.length_append, List.length_cons, List.length_nil]
  rw [show (-1 + ((xs.length + (0 + 1) : Nat) : Int)).toNat = xs.length by omega]
  simp
theorem atI_nat {α : Type} {xs : List α} {i : Nat} {x : α} (e : xs[i]? = some x) : atI xs (i : Int) = some x := by
  have := (List.getElem?_eq_some_iff.mp e).1
  unfold atI ixN
  rw [if_pos (by omega), if_pos (by omega)]
  simpa using e
theorem atI_int {α : Type} {xs : List α} {i : Int} (h0 : 0 ≤ i) (h1 : i < xs.length) : ∃ x, xs[i.toNat]? = some x ∧ atI xs i = some x := by
  have h2 : i.toNat < xs.length := by omega
  refine ⟨xs[i.toNat], by simp [h2], ?_⟩
  unfold atI ixN
  rw [if_pos h0, if_pos h1]
  simp [h2]
theorem app_lst {h : AH} {a : Addr} {ds : List D} {d : D} {Q : KD} (e : h a = some (.lst ds)) (q : ds.length < SZ ∧ Q .non (up h a (.lst (ds ++ [d])))) : mAppend (.ref a) [d] h Q := by
  unfold mAppend
  simp only [e]
  exact q
theorem isT_lst {h : AH} {a : Addr} {ds : List D} (e : h a = some (.lst ds)) : isT "list" h (.ref a) = some true := by simp [isT, e]
theorem isT_dic {h : AH} {a : Addr} {kvs : List (D × D)} (e : h a = some (.dic kvs)) : isT "dict" h (.ref a) = some true := by simp [isT, e]
theorem oIsT_lst {h : AH} {a : Addr} {ds : List D} {T : String} {Q : KD} (e : h a = some (.lst ds)) (q : Q (.bl (T == "list")) h) : oIsT T (.ref a) h Q := by
  unfold oIsT
  simp only [isT, e]
  exact q
theorem len_lst {h : AH} {a : Addr} {ds : List D} {Q : KD} (e : h a = some (.lst ds)) (q : Q (.int ds.length) h) : bLen [.ref a] h Q := by
  unfold bLen
  simp only [sqOf, lsOf, e]
  exact q
theorem len_dic {h : AH} {a : Addr} {kvs : List (D × D)} {Q : KD} (e : h a = some (.dic kvs)) (q : Q (.int kvs.length) h) : bLenD [.ref a] h Q := by
  unfold bLenD
  simp only [e]
  exact q
theorem mulS_s {h : AH} {x : Str} {k : Int} {Q : KD} (q : (0 ≤ k ∧ k ≤ 1) ∧ Q (.str (if k = 1 then x else PySem.Str.empty)) h) : oMulS (.str x) (.int k) h Q := by unfold oMulS; exact q
theorem fmt_str {h : AH} {y : Str} {Q : KD} (q : Q (.str y) h) : oFmt (.str y) h Q := by unfold oFmt; exact q
theorem fmt_int {h : AH} {i : Int} {Q : KD} (q : i.natAbs.log2 < 1920 ∧ Q (.str (PySem.Str.ofString (toString i))) h) : oFmt (.int i) h Q := by unfold oFmt; exact q
theorem cat_str {acc y : Str} {h : AH} {Q : Str → AH → Prop} (q : (acc ++ y).length ≤ SZ ∧ Q (acc ++ y) h) : oCat acc (.str y) h Q := by unfold oCat; exact q
theorem str_int {h : AH} {i : Int} {Q : KD} (q : i.natAbs.log2 < 1920 ∧ Q (.str (PySem.Str.ofString (toString i))) h) : bStr [.int i] h Q := by unfold bStr; exact q
theorem str_str {h : AH} {y : Str} {Q : KD} (q : Q (.str y) h) : bStr [.str y] h Q := by unfold bStr; exact q
theorem all_ls {h : AH} {x : D} {ds : List D} {Q : KD} (e : lsOf h x = some ds) (q : ∃ bs, blsOf ds = some bs ∧ Q (.bl (bs.all id)) h) : bAll [x] h Q := by
  obtain ⟨bs, g, q⟩ := q
  unfold bAll
  simp only [e, Option.bind_some, g]
  exact q
theorem bls_map : ∀ bs : List Bool, blsOf (bs.map .bl) = some bs
  | [] => rfl
  | n :: ns => by
    show (blsOf (ns.map .bl)).map (n :: ·) = _
    rw [bls_map ns]; rfl
theorem len_tup {h : AH} {ds : List D} {Q : KD} (q : Q (.int ds.length) h) : bLen [.tup ds] h Q := by unfold bLen; exact q
theorem len_rl {h : AH} {ds : List D} {Q : KD} (q : Q (.int ds.length) h) : bLen [.rl ds] h Q := by unfold bLen; exact q
theorem len_str {h : AH} {s : Str} {Q : KD} (q : Q (.int s.length) h) : bLen [.str s] h Q := by unfold bLen; exact q
theorem ls_lst {h : AH} {a : Addr} {ds : List D} (e : h a = some (.lst ds)) : lsOf h (.ref a) = some ds := by simp only [lsOf, e]
theorem ls_rl {h : AH} {ds : List D} : lsOf h (.rl ds) = some ds := rfl
theorem sq_tup {h : AH} {ds : List D} : sqOf h (.tup ds) = some ds := rfl
theorem sq_rl {h : AH} {ds : List D} : sqOf h (.rl ds) = some ds := rfl
theorem sq_lst {h : AH} {a : Addr} {ds : List D} (e : h a = some (.lst ds)) : sqOf h (.ref a) = some ds := by simp only [sqOf, lsOf, e]
theorem dict_ls {h : AH} {x : D} {ds : List D} {Q : KD} (e : lsOf h x = some ds) (q : ∃ ps, pairsOf ds = some ps ∧ (∀ x ∈ ps, pl 8 x.1 = true) ∧ newD (dputs [] ps) h Q) : bDict [x] h Q := by
  obtain ⟨ps, g, q⟩ := q
  unfold bDict
  simp only [e, Option.bind_some, g]
  exact q
theorem sl_ls {h : AH} {x : D} {ds : List D} {lo hi : Option Int} {Q : KD} (e : lsOf h x = some ds) (q : newL (cut ds lo hi) h Q) : oSl x lo hi h Q := by
  unfold oSl
  cases x <;> first | (simp only [e]; exact q) | (simp [lsOf] at e; done)
theorem rev_ls {h : AH} {x : D} {ds : List D} {Q : KD} (e : lsOf h x = some ds) (q : newL ds.reverse h Q) : oRevSl x h Q := by
  unfold oRevSl
  simp only [e]
  exact q
theorem list_sq {h : AH} {x : D} {ds : List D} {Q : KD} (e : sqOf h x = some ds) (q : newL ds h Q) : bList [x] h Q := by
  unfold bList
  simp only [e]
  exact q
theorem list_dic {h : AH} {a : Addr} {kvs : List (D × D)} {Q : KD} (e : h a = some (.dic kvs)) (q : newL (kvs.map (·.1)) h Q) : bList [.ref a] h Q := by
  unfold bList
  simp only [sqOf, lsOf, dcOf, e]
  exact q
theorem max_ls {h : AH} {x d : D} {ds : List D} {Q : KD} (e : lsOf h x = some (d :: ds)) (q : ((∀ a ∈ d :: ds, ∀ b ∈ d :: ds, alk a b = true) ∧ ∀ a ∈ d :: ds, dat 12 a = true ∧ a ≠ .non) ∧ Q (dmax d ds) h) : bMax [x] h Q := by
  unfold bMax
  cases x <;> first | (simp only [e]; exact q) | (simp [lsOf] at e; done)
theorem sum_ls {h : AH} {x : D} {ds : List D} {Q : KD} (e : lsOf h x = some ds) (q : ∃ ns, intsOf ds = some ns ∧ Q (.int ns.sum) h) : bSum [x] h Q := by
  obtain ⟨ns, g, q⟩ := q
  unfold bSum
  simp only [e, Option.bind_some, g]
  exact q
theorem sorted_ls {h : AH} {x : D} {ds : List D} {rev : Bool} {Q : KD} (e : lsOf h x = some ds) (q : sortable ds ∧ newL (ds.mergeSort (dle rev)) h Q) : bSorted rev [x] h Q := by
  unfold bSorted
  simp only [e]
  exact q
theorem walkD_lst {h : AH} {a : Addr} {ds : List D} {R : Src → AH → Prop} (e : h a = some (.lst ds)) (q : R (srcL a ds) h) : walkD h (.ref a) R := by
  unfold walkD
  simp only [e]
  exact q
theorem walkD_dic {h : AH} {a : Addr} {kvs : List (D × D)} {R : Src → AH → Prop} (e : h a = some (.dic kvs)) (q : R (srcK a (kvs.map (·.1))) h) : walkD h (.ref a) R := by
  unfold walkD
  simp only [e]
  exact q
theorem walkI_dic {h : AH} {a : Addr} {kvs : List (D × D)} {R : Src → AH → Prop} (e : h a = some (.dic kvs)) (q : R (srcI a kvs) h) : walkI h (.ref a) R := by
  unfold walkI
  simp only [e]
  exact q
theorem walkD_tup {h : AH} {ds : List D} {R : Src → AH → Prop} (q : R (srcV ds) h) : walkD h (.tup ds) R := by unfold walkD; exact q
theorem walkD_rl {h : AH} {ds : List D} {R : Src → AH → Prop} (q : R (srcV ds) h) : walkD h (.rl ds) R := by unfold walkD; exact q
theorem walkL_lst {h : AH} {a : Addr} {ds : List D} {R : Src → AH → Prop} (e : h a = some (.lst ds)) (q : R (srcL a ds) h) : walkL h (.ref a) R := by
  unfold walkL
  simp only [e]
  exact q
theorem walkL_rl {h : AH} {ds : List D} {R : Src → AH → Prop} (q : R (srcV ds) h) : walkL h (.rl ds) R := by unfold walkL; exact q
theorem newL_i {ds : List D} {h : AH} {Q : KD} (q : ∀ p, h p = none → Q (.ref p) (up h p (.lst ds))) : newL ds h Q := by unfold newL; exact q
theorem newD_i {ds : List (D × D)} {h : AH} {Q : KD} (q : ∀ p, h p = none → Q (.ref p) (up h p (.dic ds))) : newD ds h Q := by unfold newD; exact q
theorem oAdd_lst {h : AH} {a b : Addr} {xs ys : List D} {Q : KD} (e1 : h a = some (.lst xs)) (e2 : h b = some (.lst ys)) (q : xs.length + ys.length ≤ SZ ∧ newL (xs ++ ys) h Q) : addR a b h Q := by
  unfold addR
  simp only [e1, e2]
  exact q
theorem tru_lst {h : AH} {a : Addr} {ds : List D} {Q : Bool → Prop} (e : h a = some (.lst ds)) (q : Q (!ds.isEmpty)) : onB (tru h (.ref a)) Q := by
  rw [show tru h (.ref a) = some (!ds.isEmpty) by unfold tru; simp only [e]]
  exact q
theorem put_lst {h : AH} {a : Addr} {ds : List D} {i : Int} {v : D} {Q : AH → Prop} (e : h a = some (.lst ds)) (q : ∃ k, ixN ds.length i = some k ∧ Q (up h a (.lst (ds.set k v)))) : oPut (.ref a) (.int i) v h Q := by
  refine ⟨?_⟩
  simp only [e]
  exact q
theorem put_dic {h : AH} {a : Addr} {kvs : List (D × D)} {k v : D} {Q : AH → Prop} (e : h a = some (.dic kvs)) (q : pl 8 k = true ∧ kvs.length < SZ ∧ Q (up h a (.dic (dput kvs k v)))) : oPut (.ref a) k v h Q := by
  refine ⟨?_⟩
  simp only [e]
  exact q
theorem Sb.add {h0 h : AH} {a : Addr} {o : O} (s : Sb h0 h) (e : h a = some o) : Sb (up h0 a o) h := fun p u q => by
  by_cases z : p = a
  · subst z; rw [up_same] at q; rw [e, q]
  · rw [up_ne z] at q; exact s p u q
theorem Sb.upf {h0 h : AH} {a : Addr} {o : O} (s : Sb h0 h) (n : h0 a = none) : Sb h0 (up h a o) := fun p u q => by
  have : p ≠ a := fun z => by rw [z, n] at q; cases q
  rw [up_ne this]; exact s p u q
theorem Sb.at {h0 h : AH} {a : Addr} {x : O} (s : Sb h0 h) (e : h0 a = some x) : h a = some x := s a x e
theorem ne_f1 {h : AH} {a b : Addr} {o : O} (y : h b = none) (x : h a = some o) : a ≠ b := ne_of x y
theorem ne_f2 {h : AH} {a b : Addr} {o : O} (y : h b = none) (x : h a = some o) : b ≠ a := ne_of' x y
theorem Sb.nn {h0 h : AH} {a : Addr} (s : Sb h0 h) (n : h a = none) : h0 a = none := by
  cases e : h0 a with
  | none => rfl
  | some o => rw [s a o e] at n; cases n
theorem Sb.upf' {h0 h : AH} {a : Addr} {o : O} (s : Sb h0 h) (n : h a = none) : Sb h0 (up h a o) := s.upn n

/-! ### dicts -/
theorem dget_put (kvs : List (D × D)) (k v k' : D) : dget (dput kvs k v) k' = if k = k' then some v else dget kvs k' := by
  induction kvs with
  | nil => simp [dput, dget]
  | cons p r ih =>
    obtain ⟨a, b⟩ := p
    rw [dput]
    by_cases e : a = k
    · rw [if_pos e]
      by_cases e2 : k = k'
      · simp [dget, e, e2]
      · simp [dget, e, e2]
    · rw [if_neg e]
      rw [dget, dget]
      by_cases e2 : a = k'
      · rw [if_pos e2, if_pos e2, if_neg (fun z => e (e2.trans z.symm))]
      · rw [if_neg e2, if_neg e2, ih]
theorem dget_puts_not {ps : List (D × D)} {k : D} : ∀ {kvs : List (D × D)}, k ∉ ps.map (·.1) → dget (dputs kvs ps) k = dget kvs k := by
  induction ps with
  | nil => intro kvs _; rfl
  | cons p r ih =>
    intro kvs h
    have h1 : ¬ p.1 = k := fun e => h (by simp [e])
    show dget (dputs (dput kvs p.1 p.2) r) k = _
    rw [ih (fun z => h (List.mem_cons_of_mem _ z)), dget_put, if_neg h1]
theorem dget_puts_mem {ps : List (D × D)} {k v : D} : ∀ {kvs : List (D × D)}, (ps.map (·.1)).Nodup → (k, v) ∈ ps → dget (dputs kvs ps) k = some v := by
  induction ps with
  | nil => intro kvs _ h; cases h
  | cons p r ih =>
    intro kvs hn h
    rw [List.map_cons, List.nodup_cons] at hn
    show dget (dputs (dput kvs p.1 p.2) r) k = _
    rcases List.mem_cons.mp h with e | h
    · subst e
      rw [dget_puts_not hn.1, dget_put, if_pos rfl]
    · exact ih hn.2 h

/-! ### small things -/
theorem enum_get : ∀ {ds : List D} {n i : Nat} {d : D}, (enumD n ds)[i]? = some d → ∃ x, ds[i]? = some x ∧ d = .tup [.int ((n + i : Nat)), x]
  | [], _, _, _, h => by simp [enumD] at h
  | x :: xs, n, 0, d, h => by
    simp [enumD] at h
    exact ⟨x, rfl, by rw [← h]; rfl⟩
  | x :: xs, n, i + 1, d, h => by
    have h' : (enumD (n + 1) xs)[i]? = some d := by simpa [enumD] using h
    obtain ⟨y, h1, h2⟩ := enum_get h'
    exact ⟨y, by simpa using h1, by rw [h2, show n + 1 + i = n + (i + 1) by omega]⟩
theorem enum_len : ∀ (ds : List D) (n : Nat), (enumD n ds).length = ds.length
  | [], _ => rfl
  | _ :: xs, n => congrArg (· + 1) (enum_len xs (n + 1))
theorem cut_take {α : Type} (xs : List α) (n : Nat) : cut xs none (some (n : Int)) = xs.take n := by
  unfold cut sIx
  dsimp only
  rw [if_neg (by omega), List.drop_zero, Nat.sub_zero]
  rw [show min ((n : Int)).toNat xs.length = min n xs.length by simp]
  exact List.take_eq_take_min.symm
theorem four (n : Int) (a b c d : D) : ∃ x, (x = a ∨ x = b ∨ x = c ∨ x = d) ∧ atI [a, b, c, d] (n % 4) = some x := by
  have h : n % 4 = 0 ∨ n % 4 = 1 ∨ n % 4 = 2 ∨ n % 4 = 3 := by omega
  rcases h with h | h | h | h <;> rw [h] <;> simp [atI, ixN]
theorem ints_map : ∀ ns : List Int, intsOf (ns.map .int) = some ns
  | [] => rfl
  | n :: ns => by
    show (intsOf (ns.map .int)).map (n :: ·) = _
    rw [ints_map ns]; rfl
theorem three (n : Int) (a b c : D) : atI [a, b, c] (n % 3) = some a ∨ atI [a, b, c] (n % 3) = some b ∨ atI [a, b, c] (n % 3) = some c := by
  have h : n % 3 = 0 ∨ n % 3 = 1 ∨ n % 3 = 2 := by omega
  rcases h with h | h | h <;> rw [h] <;> simp [atI, ixN]

/-- lists at addresses put by value, to a depth -/
def PvN (h : AH) (n : Nat) (x x' : D) : Prop := rei h n x = some x' ∧ plq x' = true
theorem PvN.pl {h : AH} {n m : Nat} {x : D} (e : G.pl m x = true) (hn : m ≤ n := by omega) : PvN h n x x := ⟨rei_pl n x (pl_mono m n x hn e), plq_pl m x e⟩
inductive PvL (h : AH) (n : Nat) : List D → List D → Prop
  | nil : PvL h n [] []
  | cons {x x' : D} {xs xs' : List D} : PvN h n x x' → PvL h n xs xs' → PvL h n (x :: xs) (x' :: xs')
theorem PvL.map {h : AH} {n : Nat} : ∀ {xs xs' : List D}, PvL h n xs xs' → mapO (rei h n) xs = some xs' ∧ plqL xs' = true
  | _, _, .nil => ⟨rfl, rfl⟩
  | _, _, .cons a b => by
    obtain ⟨h1, h2⟩ := b.map
    refine ⟨by rw [mapO, a.1, h1], ?_⟩
    rw [plqL, a.2, h2]; rfl
theorem PvL.pl {h : AH} {n m : Nat} : ∀ {xs : List D}, plL m xs = true → m ≤ n → PvL h n xs xs
  | [], _, _ => .nil
  | x :: xs, e, hn => by
    rw [plL, Bool.and_eq_true] at e
    exact .cons (.pl e.1 hn) (PvL.pl e.2 hn)
theorem PvN.lst {h : AH} {n : Nat} {a : Addr} {ds ds' : List D} (e : h a = some (.lst ds)) (p : PvL h n ds ds') : PvN h (n + 1) (.ref a) (.rl ds') := by
  refine ⟨?_, by rw [plq]; exact p.map.2⟩
  rw [rei, e]
  dsimp only
  rw [p.map.1]; rfl
theorem PvN.rl {h : AH} {n : Nat} {ds ds' : List D} (p : PvL h n ds ds') : PvN h (n + 1) (.rl ds) (.rl ds') := by
  refine ⟨?_, by rw [plq]; exact p.map.2⟩
  rw [rei, p.map.1]; rfl
theorem PvN.tup {h : AH} {n : Nat} {ds ds' : List D} (p : PvL h n ds ds') : PvN h (n + 1) (.tup ds) (.tup ds') := by
  refine ⟨?_, by rw [plq]; exact p.map.2⟩
  rw [rei, p.map.1]; rfl
theorem oIsT_bl {h : AH} {b : Bool} {T : String} {Q : KD} (q : Q (.bl (T == "bool" || T == "int")) h) : oIsT T (.bl b) h Q := by unfold oIsT isT; exact q
theorem oIsT_int {h : AH} {b : Int} {T : String} {Q : KD} (q : Q (.bl (T == "int")) h) : oIsT T (.int b) h Q := by unfold oIsT isT; exact q
theorem oIsT_str {h : AH} {b : Str} {T : String} {Q : KD} (q : Q (.bl (T == "str")) h) : oIsT T (.str b) h Q := by unfold oIsT isT; exact q
theorem oIsT_tup {h : AH} {b : List D} {T : String} {Q : KD} (q : Q (.bl (T == "tuple")) h) : oIsT T (.tup b) h Q := by unfold oIsT isT; exact q
theorem oIsT_rl {h : AH} {b : List D} {T : String} {Q : KD} (q : Q (.bl (T == "list")) h) : oIsT T (.rl b) h Q := by unfold oIsT isT; exact q
theorem oIsT_non {h : AH} {T : String} {Q : KD} (q : Q (.bl (T == "NoneType")) h) : oIsT T .non h Q := by unfold oIsT isT; exact q
theorem sl_tup {h : AH} {ds : List D} {lo hi : Option Int} {Q : KD} (q : Q (.tup (cut ds lo hi)) h) : oSl (.tup ds) lo hi h Q := by unfold oSl; exact q
theorem sl_str {h : AH} {s : Str} {lo hi : Option Int} {Q : KD} (q : Q (.str ⟨(cut s.cps.toList lo hi).toArray⟩) h) : oSl (.str s) lo hi h Q := by unfold oSl; exact q
theorem get_dic {h : AH} {a : Addr} {kvs : List (D × D)} {k : D} {Q : KD} (e : h a = some (.dic kvs)) (q : G.pl 8 k = true ∧ Q ((dget kvs k).getD .non) h) : mGet (.ref a) [k] h Q := by
  unfold mGet
  simp only [e]
  exact q
theorem get_dic2 {h : AH} {a : Addr} {kvs : List (D × D)} {k d : D} {Q : KD} (e : h a = some (.dic kvs)) (q : G.pl 8 k = true ∧ Q ((dget kvs k).getD d) h) : mGet (.ref a) [k, d] h Q := by
  unfold mGet
  simp only [e]
  exact q
theorem setdef_dic {h : AH} {a : Addr} {kvs : List (D × D)} {k d : D} {Q : KD} (e : h a = some (.dic kvs)) (q : G.pl 8 k = true ∧ kvs.length < SZ ∧ match dget kvs k with
    | some v => Q v h
    | none => Q d (up h a (.dic (dput kvs k d)))) : mSetDef (.ref a) [k, d] h Q := by
  unfold mSetDef
  simp only [e]
  exact q
theorem ext_lst {h : AH} {a b : Addr} {xs ys : List D} {Q : KD} (e : h a = some (.lst xs)) (e2 : h b = some (.lst ys)) (q : xs.length + ys.length ≤ SZ ∧ Q .non (up h a (.lst (xs ++ ys)))) : mExtend (.ref a) [.ref b] h Q := by
  unfold mExtend
  simp only [e, e2]
  exact q
theorem pop_lst {h : AH} {a : Addr} {xs : List D} {Q : KD} (e : h a = some (.lst xs)) (q : ∃ y, xs[xs.length - 1]? = some y ∧ Q y (up h a (.lst xs.dropLast))) : mPop (.ref a) [] h Q := by
  unfold mPop
  simp only [e]
  exact q
theorem popAt_lst {h : AH} {a : Addr} {xs : List D} {i : Int} {Q : KD} (e : h a = some (.lst xs)) (q : ∃ (k : Nat) (y : D), i = (k : Int) ∧ k < 2 ^ 60 ∧ xs[k]? = some y ∧ Q y (up h a (.lst (xs.eraseIdx k)))) : mPop (.ref a) [.int i] h Q := by
  obtain ⟨k, y, rfl, h1, h2, h3⟩ := q
  unfold mPop
  simp only [e]
  have hl := (List.getElem?_eq_some_iff.mp h2).1
  refine ⟨by omega, by omega, k, y, ?_, h2, h3⟩
  unfold ixN
  rw [if_pos (by omega), if_pos (by omega)]
  simp
theorem ins_lst {h : AH} {a : Addr} {xs : List D} {i : Int} {d : D} {Q : KD} (e : h a = some (.lst xs)) (q : ∃ k : Nat, i = (k : Int) ∧ k < 2 ^ 60 ∧ xs.length < SZ ∧ Q .non (up h a (.lst (xs.take k ++ [d] ++ xs.drop k)))) : mInsert (.ref a) [.int i, d] h Q := by
  obtain ⟨k, rfl, h1, h2, h3⟩ := q
  unfold mInsert
  simp only [e]
  rw [Int.toNat_natCast]
  exact ⟨h2, by omega, by omega, h3⟩
theorem clr_dic {h : AH} {a : Addr} {kvs : List (D × D)} {Q : KD} (e : h a = some (.dic kvs)) (q : Q .non (hid h a)) : mDClear (.ref a) [] h Q := by
  unfold mDClear
  simp only [e]
  exact q
theorem hid_at {h : AH} {a b : Addr} {o : O} (n : b ≠ a) (e : h b = some o) : hid h a b = some o := by unfold hid; rw [if_neg n]; exact e
theorem clr_lst {h : AH} {a : Addr} {xs : List D} {Q : KD} (e : h a = some (.lst xs)) (q : Q .non (up h a (.lst []))) : mClear (.ref a) [] h Q := by
  unfold mClear
  simp only [e]
  exact q
theorem join_sq {h : AH} {a : Str} {y : D} {ds : List D} {Q : KD} (e : sqOf h y = some ds) (q : ∃ ys, strsOf ds = some ys ∧ (ys.map (·.length)).sum + ys.length * a.length ≤ SZ ∧ Q (.str (PySem.Str.join a ys)) h) : mJoin (.str a) [y] h Q := by
  obtain ⟨ys, g, q⟩ := q
  unfold mJoin
  simp only [e, Option.bind_some, g]
  exact q
theorem rng_get {lo : Int} {n i : Nat} {d : D} (e : (srcV (rng lo n)).ds[i]? = some d) : i < n ∧ d = .int (lo + (i : Nat)) := by
  have e' : (rng lo n)[i]? = some d := e
  have hi : i < n := by
    have := (List.getElem?_eq_some_iff.mp e').1
    simpa [rng] using this
  refine ⟨hi, ?_⟩
  simp [rng, hi] at e'
  exact e'.symm
theorem rng_len (lo : Int) (n : Nat) : (srcV (rng lo n)).ds.length = n := by simp [srcV, rng]
/-! ### data with truths -/
mutual
def dqq : D → Bool
  | .non => true
  | .bl _ => true
  | .int _ => true
  | .str _ => true
  | .tup ds => dqqL ds
  | .rl ds => dqqL ds
  | _ => false
def dqqL : List D → Bool
  | [] => true
  | d :: ds => dqq d && dqqL ds
end
mutual
theorem deqv_self : ∀ x : D, dqq x = true → deqv x x = true
  | .non, _ => rfl
  | .bl _, _ => by simp [deqv]
  | .int _, _ => by simp [deqv]
  | .str _, _ => by simp [deqv]
  | .tup ds, h => by rw [dqq] at h; rw [deqv]; exact deqvL_self ds h
  | .rl ds, h => by rw [dqq] at h; rw [deqv]; exact deqvL_self ds h
  | .rd _ _, h => by simp [dqq] at h
  | .ref _, h => by simp [dqq] at h
theorem deqvL_self : ∀ x : List D, dqqL x = true → deqvL x x = true
  | [], _ => rfl
  | d :: ds, h => by
    rw [dqqL, Bool.and_eq_true] at h
    rw [deqvL, deqv_self d h.1, deqvL_self ds h.2]; rfl
end
mutual
theorem rei_datq {h : AH} : ∀ (n : Nat) (d : D), dat n d = true → rei h n d = some d ∧ dqq d = true
  | n, .non, _ => by cases n <;> exact ⟨rfl, rfl⟩
  | n, .bl _, _ => by cases n <;> exact ⟨rfl, rfl⟩
  | n, .int _, _ => by cases n <;> exact ⟨rfl, rfl⟩
  | n, .str _, _ => by cases n <;> exact ⟨rfl, rfl⟩
  | n + 1, .tup ds, e => by
    rw [dat] at e
    obtain ⟨h1, h2⟩ := mapO_datq n ds e
    exact ⟨by rw [rei, h1]; rfl, by rw [dqq]; exact h2⟩
  | 0, .tup ds, e => by simp [dat] at e
  | n, .rl _, e => by cases n <;> simp [dat] at e
  | n, .rd _ _, e => by cases n <;> simp [dat] at e
  | n, .ref _, e => by cases n <;> simp [dat] at e
theorem mapO_datq {h : AH} : ∀ (n : Nat) (ds : List D), datL n ds = true → mapO (rei h n) ds = some ds ∧ dqqL ds = true
  | _, [], _ => ⟨rfl, rfl⟩
  | n, d :: ds, e => by
    rw [datL, Bool.and_eq_true] at e
    obtain ⟨h1, h2⟩ := rei_datq (h := h) n d e.1
    obtain ⟨h3, h4⟩ := mapO_datq (h := h) n ds e.2
    exact ⟨by rw [mapO, h1, h3], by rw [dqqL, h2, h4]; rfl⟩
end
mutual
theorem dat_mono : ∀ (n m : Nat) (d : D), n ≤ m → dat n d = true → dat m d = true
  | _, _, .non, _, _ => by simp [dat]
  | _, _, .bl _, _, _ => by simp [dat]
  | _, _, .int _, _, _ => by simp [dat]
  | _, _, .str _, _, _ => by simp [dat]
  | n + 1, m + 1, .tup ds, h, e => by
    rw [dat] at e ⊢
    exact datL_mono n m ds (by omega) e
  | n + 1, 0, .tup ds, h, _ => by omega
  | 0, m, .tup ds, _, e => by simp [dat] at e
  | n, m, .rl _, _, e => by cases n <;> simp [dat] at e
  | n, m, .rd _ _, _, e => by cases n <;> simp [dat] at e
  | n, m, .ref _, _, e => by cases n <;> simp [dat] at e
theorem datL_mono : ∀ (n m : Nat) (ds : List D), n ≤ m → datL n ds = true → datL m ds = true
  | _, _, [], _, _ => rfl
  | n, m, d :: ds, h, e => by
    rw [datL, Bool.and_eq_true] at e ⊢
    exact ⟨dat_mono n m d h e.1, datL_mono n m ds h e.2⟩
end
theorem datL_iff {n : Nat} : ∀ {ds : List D}, datL n ds = true ↔ ∀ d ∈ ds, dat n d = true
  | [] => by simp [datL]
  | d :: ds => by rw [datL, Bool.and_eq_true, datL_iff (ds := ds)]; simp
/-- x is, lists at addresses put by value, z -/
def Dv (h : AH) (n : Nat) (x z : D) : Prop := rei h n x = some z ∧ dqq z = true
theorem Dv.dat {h : AH} {n m : Nat} {x : D} (e : G.dat m x = true) (hn : m ≤ n := by omega) : Dv h n x x := rei_datq n x (dat_mono m n x hn e)
inductive DvL (h : AH) (n : Nat) : List D → List D → Prop
  | nil : DvL h n [] []
  | cons {x x' : D} {xs xs' : List D} : Dv h n x x' → DvL h n xs xs' → DvL h n (x :: xs) (x' :: xs')
theorem DvL.map {h : AH} {n : Nat} : ∀ {xs xs' : List D}, DvL h n xs xs' → mapO (rei h n) xs = some xs' ∧ dqqL xs' = true
  | _, _, .nil => ⟨rfl, rfl⟩
  | _, _, .cons a b => by
    obtain ⟨h1, h2⟩ := b.map
    refine ⟨by rw [mapO, a.1, h1], ?_⟩
    rw [dqqL, a.2, h2]; rfl
theorem DvL.dat {h : AH} {n m : Nat} : ∀ {xs : List D}, datL m xs = true → m ≤ n → DvL h n xs xs
  | [], _, _ => .nil
  | x :: xs, e, hn => by
    rw [datL, Bool.and_eq_true] at e
    exact .cons (.dat e.1 hn) (DvL.dat e.2 hn)
theorem Dv.lst {h : AH} {n : Nat} {a : Addr} {ds ds' : List D} (e : h a = some (.lst ds)) (p : DvL h n ds ds') : Dv h (n + 1) (.ref a) (.rl ds') := by
  refine ⟨?_, by rw [dqq]; exact p.map.2⟩
  rw [rei, e]
  dsimp only
  rw [p.map.1]; rfl
theorem Dv.rl {h : AH} {n : Nat} {ds ds' : List D} (p : DvL h n ds ds') : Dv h (n + 1) (.rl ds) (.rl ds') := by
  refine ⟨?_, by rw [dqq]; exact p.map.2⟩
  rw [rei, p.map.1]; rfl
theorem Dv.tup {h : AH} {n : Nat} {ds ds' : List D} (p : DvL h n ds ds') : Dv h (n + 1) (.tup ds) (.tup ds') := by
  refine ⟨?_, by rw [dqq]; exact p.map.2⟩
  rw [rei, p.map.1]; rfl
theorem oEq_same {h : AH} {x y z : D} {Q : KD} (a : Dv h 12 x z) (b : Dv h 12 y z) (q : Q (.bl true) h) : oEq x y h Q := by
  refine ⟨?_⟩; unfold oEqB
  rw [a.1, b.1]
  dsimp only
  rw [deqv_self z a.2]; exact q
theorem oNe_same {h : AH} {x y z : D} {Q : KD} (a : Dv h 12 x z) (b : Dv h 12 y z) (q : Q (.bl false) h) : oNe x y h Q := by
  refine ⟨?_⟩; unfold oEqB
  rw [a.1, b.1]
  dsimp only
  rw [deqv_self z a.2]; exact q
theorem deqv_nil (xs : List D) : deqv (.rl xs) (.rl []) = xs.isEmpty := by cases xs <;> simp [deqv, deqvL]
theorem oEq_nil {h : AH} {x y : D} {xs : List D} {Q : KD} (a : Dv h 12 x (.rl xs)) (b : Dv h 12 y (.rl [])) (q : Q (.bl xs.isEmpty) h) : oEq x y h Q := by
  refine ⟨?_⟩; unfold oEqB
  rw [a.1, b.1]
  dsimp only
  rw [deqv_nil]; exact q
theorem oNe_nil {h : AH} {x y : D} {xs : List D} {Q : KD} (a : Dv h 12 x (.rl xs)) (b : Dv h 12 y (.rl [])) (q : Q (.bl (!xs.isEmpty)) h) : oNe x y h Q := by
  refine ⟨?_⟩; unfold oEqB
  rw [a.1, b.1]
  dsimp only
  rw [deqv_nil]; exact q
theorem oNe_bl {h : AH} {a b : Bool} {Q : KD} (q : Q (.bl (!(a == b))) h) : oNe (.bl a) (.bl b) h Q := by refine ⟨?_⟩; unfold oEqB; exact q
theorem oEq_bl {h : AH} {a b : Bool} {Q : KD} (q : Q (.bl (a == b)) h) : oEq (.bl a) (.bl b) h Q := by refine ⟨?_⟩; unfold oEqB; exact q
mutual
theorem pl_dat : ∀ (n : Nat) (d : D), pl n d = true → dat n d = true
  | n, .non, _ => by cases n <;> rfl
  | n, .int _, _ => by cases n <;> rfl
  | n, .str _, _ => by cases n <;> rfl
  | n + 1, .tup ds, e => by rw [pl] at e; rw [dat]; exact plL_dat n ds e
  | 0, .tup ds, e => by simp [pl] at e
  | n, .bl _, e => by cases n <;> rfl
  | n, .rl _, e => by cases n <;> simp [pl] at e
  | n, .rd _ _, e => by cases n <;> simp [pl] at e
  | n, .ref _, e => by cases n <;> simp [pl] at e
theorem plL_dat : ∀ (n : Nat) (ds : List D), plL n ds = true → datL n ds = true
  | _, [], _ => rfl
  | n, d :: ds, e => by
    rw [plL, Bool.and_eq_true] at e
    rw [datL, pl_dat n d e.1, plL_dat n ds e.2]; rfl
end
theorem mulOk_l {i j : Int} (a : -18446744073709551616 < i) (b : i < 18446744073709551616) : mulOk i j := .inl ⟨by simpa using a, by simpa using b⟩
theorem mulOk_r {i j : Int} (a : -18446744073709551616 < j) (b : j < 18446744073709551616) : mulOk i j := .inr (.inl ⟨by simpa using a, by simpa using b⟩)
theorem ix_str {h : AH} {s : Str} {i : Int} {Q : KD} (q : ∃ c, atI s.cps.toList i = some c ∧ Q (.str ⟨#[c]⟩) h) : oIx (.str s) (.int i) h Q := by refine ⟨?_⟩; exact q
theorem any_plq {x : D} (hx : plq x = true) : ∀ {ds : List D}, plqL ds = true → (ds.any fun y => deqv y x) = decide (x ∈ ds)
  | [], _ => rfl
  | d :: ds, e => by
    rw [plqL, Bool.and_eq_true] at e
    rw [List.any_cons, any_plq hx e.2, deqv_plq _ _ e.1 hx]
    by_cases z : d = x
    · subst z; simp
    · have z' : ¬ x = d := fun w => z w.symm
      simp [z, z']
theorem inB_lst {h : AH} {a : Addr} {ds ds' : List D} {x x' : D} {Q : Bool → Prop} (e : h a = some (.lst ds)) (ex : Pv h x x') (ed : PvL h 12 ds ds') (q : Q (decide (x' ∈ ds'))) : oInB x (.ref a) h Q := by
  unfold oInB
  simp only [dcOf, e, sqOf, lsOf, Option.bind_some, ex.1, ed.map.1]
  rw [any_plq ex.2 ed.map.2]
  exact q
theorem in_lst {h : AH} {a : Addr} {ds : List D} {x : D} {Q : KD} (e : h a = some (.lst ds)) (q : ∃ x' ds', Pv h x x' ∧ PvL h 12 ds ds' ∧ Q (.bl (decide (x' ∈ ds'))) h) : oIn x (.ref a) h Q := by
  obtain ⟨x', ds', ex, ed, q⟩ := q
  refine ⟨?_⟩
  exact inB_lst e ex ed q
theorem notIn_lst {h : AH} {a : Addr} {ds : List D} {x : D} {Q : KD} (e : h a = some (.lst ds)) (q : ∃ x' ds', Pv h x x' ∧ PvL h 12 ds ds' ∧ Q (.bl (!decide (x' ∈ ds'))) h) : oNotIn x (.ref a) h Q := by
  obtain ⟨x', ds', ex, ed, q⟩ := q
  refine ⟨?_⟩
  exact inB_lst e ex ed q
theorem plL_strs (ts : List Str) : plL 0 (ts.map .str) = true := plL_iff.mpr fun d hd => by
  obtain ⟨x, _, rfl⟩ := List.mem_map.mp hd
  rfl
theorem strs_map : ∀ ts : List Str, strsOf (ts.map .str) = some ts
  | [] => rfl
  | t :: ts => by
    show (strsOf (ts.map .str)).map (t :: ·) = _
    rw [strs_map ts]; rfl
theorem get_map {α : Type} {f : α → D} {xs : List α} {i : Nat} {d : D} (e : (xs.map f)[i]? = some d) : ∃ x, xs[i]? = some x ∧ f x = d := by
  rw [List.getElem?_map] at e
  cases h : xs[i]? with
  | none => rw [h] at e; cases e
  | some x => rw [h] at e; exact ⟨x, rfl, Option.some.inj e⟩
theorem in_tup {h : AH} {ds : List D} {x : D} {Q : KD} (q : ∃ x' ds', Pv h x x' ∧ PvL h 12 ds ds' ∧ Q (.bl (decide (x' ∈ ds'))) h) : oIn x (.tup ds) h Q := by
  obtain ⟨x', ds', ex, ed, q⟩ := q
  refine ⟨?_⟩; unfold oInB
  simp only [dcOf, sqOf, Option.bind_some, ex.1, ed.map.1]
  rw [any_plq ex.2 ed.map.2]
  exact q
theorem min_ii {h : AH} {i j : Int} {Q : KD} (q : Q (.int (if j < i then j else i)) h) : bMin [.int i, .int j] h Q := by unfold bMin; exact q
theorem max_ii {h : AH} {i j : Int} {Q : KD} (q : Q (.int (if j > i then j else i)) h) : bMax [.int i, .int j] h Q := by unfold bMax; exact q
/-! ### ways apart and together -/
theorem onT_i {b : Bool} {p q : Prop} (h1 : b = true → p) (h0 : b = false → q) : onT b p q := by
  cases b with
  | true => exact h1 rfl
  | false => exact h0 rfl
theorem onT_d {c : Prop} [Decidable c] {p q : Prop} (h1 : c → p) (h0 : ¬ c → q) : onT (decide c) p q := onT_i (fun e => h1 (of_decide_eq_true e)) (fun e => h0 (of_decide_eq_false e))
theorem onT_nd {c : Prop} [Decidable c] {p q : Prop} (h0 : ¬ c → p) (h1 : c → q) : onT (!decide c) p q := onT_i (fun e => h0 (by simpa using e)) (fun e => h1 (by simpa using e))
structure Bx (C : Prop) : Prop where
  un : C
theorem join {α : Type} {H C : α → Prop} {g : Prop} (m : (∀ a, H a → Bx (C a)) → g) (k : ∀ a, H a → C a) : g := m fun a h => ⟨k a h⟩
theorem oEq_ss {h : AH} {x y : Str} {Q : KD} (q : Q (.bl (decide (x = y))) h) : oEq (.str x) (.str y) h Q := by
  refine oEq_pv (.pl (n := 0) rfl) (.pl (n := 0) rfl) ?_
  rw [show decide (D.str x = D.str y) = decide (x = y) by simp]; exact q
theorem oNe_ss {h : AH} {x y : Str} {Q : KD} (q : Q (.bl (!decide (x = y))) h) : oNe (.str x) (.str y) h Q := by
  refine oNe_pv (.pl (n := 0) rfl) (.pl (n := 0) rfl) ?_
  rw [show decide (D.str x = D.str y) = decide (x = y) by simp]; exact q
theorem oEq_ii {h : AH} {x y : Int} {Q : KD} (q : Q (.bl (decide (x = y))) h) : oEq (.int x) (.int y) h Q := by
  refine oEq_pv (.pl (n := 0) rfl) (.pl (n := 0) rfl) ?_
  rw [show decide (D.int x = D.int y) = decide (x = y) by simp]; exact q
theorem oNe_ii {h : AH} {x y : Int} {Q : KD} (q : Q (.bl (!decide (x = y))) h) : oNe (.int x) (.int y) h Q := by
  refine oNe_pv (.pl (n := 0) rfl) (.pl (n := 0) rfl) ?_
  rw [show decide (D.int x = D.int y) = decide (x = y) by simp]; exact q
theorem oEq_sst {h : AH} {x y : Str} {Q : KD} (e : x = y) (q : Q (.bl true) h) : oEq (.str x) (.str y) h Q := oEq_ss (by rw [decide_eq_true e]; exact q)
theorem oEq_ssf {h : AH} {x y : Str} {Q : KD} (e : ¬ x = y) (q : Q (.bl false) h) : oEq (.str x) (.str y) h Q := oEq_ss (by rw [decide_eq_false e]; exact q)
theorem oNe_sst {h : AH} {x y : Str} {Q : KD} (e : x = y) (q : Q (.bl false) h) : oNe (.str x) (.str y) h Q := oNe_ss (by rw [decide_eq_true e]; exact q)
theorem oNe_ssf {h : AH} {x y : Str} {Q : KD} (e : ¬ x = y) (q : Q (.bl true) h) : oNe (.str x) (.str y) h Q := oNe_ss (by rw [decide_eq_false e]; exact q)
theorem oEq_iit {h : AH} {x y : Int} {Q : KD} (e : x = y) (q : Q (.bl true) h) : oEq (.int x) (.int y) h Q := oEq_ii (by rw [decide_eq_true e]; exact q)
theorem oEq_iif {h : AH} {x y : Int} {Q : KD} (e : ¬ x = y) (q : Q (.bl false) h) : oEq (.int x) (.int y) h Q := oEq_ii (by rw [decide_eq_false e]; exact q)
theorem oNe_iit {h : AH} {x y : Int} {Q : KD} (e : x = y) (q : Q (.bl false) h) : oNe (.int x) (.int y) h Q := oNe_ii (by rw [decide_eq_true e]; exact q)
theorem oNe_iif {h : AH} {x y : Int} {Q : KD} (e : ¬ x = y) (q : Q (.bl true) h) : oNe (.int x) (.int y) h Q := oNe_ii (by rw [decide_eq_false e]; exact q)
theorem join1 {C g : Prop} (m : Bx C → g) (k : C) : g := m ⟨k⟩
theorem sortK_ls {i : Nat} {h : AH} {x : D} {ds : List D} {Q : KD} (e : lsOf h x = some ds) (q : (∀ d ∈ ds, ∃ xs y, d = .tup xs ∧ xs[i]? = some y) ∧ sortable (ds.map (kAt i)) ∧ newL (ds.mergeSort fun a b => dle false (kAt i a) (kAt i b)) h Q) : oSortK i x h Q := by
  unfold oSortK
  simp only [e]
  exact q
theorem dput_keysP : ∀ (kvs : List (D × D)) (k v : D), (dput kvs k v).map (·.1) = if k ∈ kvs.map (·.1) then kvs.map (·.1) else kvs.map (·.1) ++ [k]
  | [], k, v => by simp [dput]
  | (a, b) :: r, k, v => by
    rw [dput]
    by_cases e : a = k
    · rw [if_pos e]; simp [e]
    · rw [if_neg e, List.map_cons, dput_keysP r k v]
      have e' : ¬ k = a := fun z => e z.symm
      by_cases h : k ∈ r.map (·.1)
      · rw [if_pos h, if_pos (show k ∈ ((a, b) :: r).map (·.1) from List.mem_cons_of_mem _ h)]; rfl
      · rw [if_neg h, if_neg (show ¬ k ∈ ((a, b) :: r).map (·.1) by simp only [List.map_cons, List.mem_cons, not_or]; exact ⟨e', h⟩)]; rfl
theorem dget_noneP : ∀ {kvs : List (D × D)} {k : D}, dget kvs k = none ↔ k ∉ kvs.map (·.1)
  | [], k => by simp [dget]
  | (a, b) :: r, k => by
    rw [dget]
    by_cases e : a = k
    · rw [if_pos e]; simp [e]
    · rw [if_neg e, dget_noneP (kvs := r)]
      have e' : ¬ k = a := fun z => e z.symm
      simp [e']
theorem dput_lenP (kvs : List (D × D)) (k v : D) : (dput kvs k v).length ≤ kvs.length + 1 := by
  have := congrArg List.length (dput_keysP kvs k v)
  rw [List.length_map] at this
  rw [this]
  split <;> simp
theorem dput_nodupP {kvs : List (D × D)} {k v : D} (h : (kvs.map (·.1)).Nodup) : ((dput kvs k v).map (·.1)).Nodup := by
  rw [dput_keysP]
  split
  · exact h
  · rename_i hn
    rw [List.nodup_append]
    refine ⟨h, by simp, fun a ha b hb => ?_⟩
    simp at hb
    intro e
    exact hn (by rw [← hb, ← e]; exact ha)
theorem cut_drop {α : Type} (xs : List α) (n : Nat) : cut xs (some (n : Int)) none = xs.drop n := by
  unfold cut sIx
  dsimp only
  rw [if_neg (by omega), show min ((n : Int)).toNat xs.length = min n xs.length by simp]
  by_cases h : n ≤ xs.length
  · rw [Nat.min_eq_left h, List.take_of_length_le (by simp)]
  · rw [Nat.min_eq_right (by omega), List.drop_length, List.drop_eq_nil_of_le (by omega)]; simp
mutual
theorem dlt_irr : ∀ d : D, dlt d d = false
  | .non => by simp [dlt]
  | .bl a => by cases a <;> simp [dlt]
  | .int a => by simp [dlt]
  | .str a => by simp [dlt, List.lt_irrefl]
  | .tup a => by rw [dlt]; exact dltL_irr a
  | .rl a => by simp [dlt]
  | .rd a b => by simp [dlt]
  | .ref a => by simp [dlt]
theorem dltL_irr : ∀ d : List D, dltL d d = false
  | [] => by simp [dltL]
  | x :: xs => by simp [dltL, dlt_irr x, dltL_irr xs]
end
theorem addL_ls {h : AH} {x y : D} {xs ys : List D} {Q : KD} (e1 : lsOf h x = some xs) (e2 : lsOf h y = some ys) (q : xs.length + ys.length ≤ SZ ∧ newL (xs ++ ys) h Q) : oAddL x y h Q := by
  refine ⟨?_⟩
  simp only [e1, e2]
  exact q
theorem step_ls {h : AH} {x : D} {ds : List D} {k : Int} {Q : KD} (e : lsOf h x = some ds) (q : 0 < k ∧ newL (stepD k ds) h Q) : oStep x (.int k) h Q := by
  refine ⟨?_⟩
  simp only [e]
  exact q
theorem step_mem {k : Int} {ds : List D} {d : D} (h : d ∈ stepD k ds) : d ∈ ds := by
  obtain ⟨i, _, e⟩ := List.mem_filterMap.mp h
  exact List.mem_of_getElem? e
theorem step_len {k : Int} {ds : List D} (hk : 0 < k) : (stepD k ds).length ≤ ds.length := by
  refine Nat.le_trans (List.length_filterMap_le _ _) ?_
  unfold stepIx
  rw [List.length_map, List.length_range]
  split
  · rename_i h
    have h1 : ((ds.length : Int) - 0 + k - 1) / k ≤ ds.length := by
      apply Int.ediv_le_of_le_mul hk
      have : 0 ≤ ((ds.length : Int) - 1) * (k - 1) := Int.mul_nonneg (by omega) (by omega)
      have e : ((ds.length : Int) - 1) * (k - 1) = ds.length * k - ds.length - k + 1 := by
        rw [Int.sub_mul, Int.mul_sub, Int.mul_sub, Int.mul_one, Int.one_mul, Int.mul_one]; omega
      omega
    omega
  · simp
theorem cut_map {α β : Type} (f : α → β) (xs : List α) (lo hi : Option Int) : cut (xs.map f) lo hi = (cut xs lo hi).map f := by
  unfold cut
  rw [List.length_map, List.map_take, List.map_drop]
theorem cut_mem {α : Type} {xs : List α} {lo hi : Option Int} {x : α} (h : x ∈ cut xs lo hi) : x ∈ xs := List.mem_of_mem_drop (List.mem_of_mem_take h)
theorem cut_len {α : Type} (xs : List α) (lo hi : Option Int) : (cut xs lo hi).length ≤ xs.length := by
  unfold cut
  rw [List.length_take, List.length_drop]; omega
theorem rng3_get {lo c : Int} {n i : Nat} {d : D} (e : (srcV (rng3 lo c n)).ds[i]? = some d) : i < n ∧ d = .int (lo + (i : Nat) * c) := by
  have e' : (rng3 lo c n)[i]? = some d := e
  have hi : i < n := by
    have := (List.getElem?_eq_some_iff.mp e').1
    simpa [rng3] using this
  refine ⟨hi, ?_⟩
  simp [rng3, hi] at e'
  exact e'.symm
theorem rng3_len (lo c : Int) (n : Nat) : (srcV (rng3 lo c n)).ds.length = n := by simp [srcV, rng3]
theorem rngN_lt {i j c : Int} {n : Nat} (hc : 0 < c) (h : n < rngN i j c) : i + (n : Int) * c < j := by
  unfold rngN at h
  split at h
  · rename_i hij
    have h1 : (n : Int) ≤ (j - i - 1) / c := by omega
    have h2 : (n : Int) * c ≤ j - i - 1 := (Int.le_ediv_iff_mul_le hc).mp h1
    omega
  · simp at h
theorem index_ls {h : AH} {x v : D} {ds : List D} {Q : KD} (e : lsOf h x = some ds) (q : (∀ d ∈ ds, pl 8 d = true) ∧ pl 8 v = true ∧ ∃ j : Nat, ds[j]? = some v ∧ (∀ i, i < j → ds[i]? ≠ some v) ∧ Q (.int j) h) : mIndex x [v] h Q := by
  unfold mIndex
  simp only [e]
  exact q
theorem in_dic {h : AH} {a : Addr} {kvs : List (D × D)} {x : D} {Q : KD} (e : h a = some (.dic kvs)) (q : pl 8 x = true ∧ Q (.bl (decide (x ∈ kvs.map (·.1)))) h) : oIn x (.ref a) h Q := by
  refine ⟨?_⟩; unfold oInB
  simp only [dcOf, e]
  exact q
theorem notIn_dic {h : AH} {a : Addr} {kvs : List (D × D)} {x : D} {Q : KD} (e : h a = some (.dic kvs)) (q : pl 8 x = true ∧ Q (.bl (!decide (x ∈ kvs.map (·.1)))) h) : oNotIn x (.ref a) h Q := by
  refine ⟨?_⟩; unfold oInB
  simp only [dcOf, e]
  exact q
theorem min_ls {h : AH} {x d : D} {ds : List D} {Q : KD} (e : lsOf h x = some (d :: ds)) (q : ((∀ a ∈ d :: ds, ∀ b ∈ d :: ds, alk a b = true) ∧ ∀ a ∈ d :: ds, dat 12 a = true ∧ a ≠ .non) ∧ Q (dmin d ds) h) : bMin [x] h Q := by
  unfold bMin
  cases x <;> first | (simp only [e]; exact q) | (simp [lsOf] at e; done)
theorem mul_lst {h : AH} {a : Addr} {xs : List D} {k : Int} {Q : KD} (e : h a = some (.lst xs)) (q : ∃ n : Nat, k = (n : Int) ∧ xs.length * n ≤ SZ ∧ n < 2 ^ 60 ∧ newL (List.replicate n xs).flatten h Q) : mulR a k h Q := by
  obtain ⟨n, rfl, h1, h2, h3⟩ := q
  unfold mulR
  simp only [e]
  rw [Int.toNat_natCast]
  exact ⟨⟨by omega, by omega⟩, h1, h3⟩
theorem rep_one {α : Type} (n : Nat) (x : α) : (List.replicate n [x]).flatten = List.replicate n x := by
  induction n with
  | zero => rfl
  | succ n ih => rw [List.replicate_succ, List.flatten_cons, ih, List.replicate_succ]; rfl
theorem joinP {P C g : Prop} (m : (P → Bx C) → g) (k : P → C) : g := m fun p => ⟨k p⟩
theorem fill_dic {h : AH} {p : Addr} {ps : List (D × D)} {Q : KD} (e : h p = some (.dic [])) (q : ps.length ≤ 15 ∧ (∀ x ∈ ps, pl 8 x.1 = true) ∧ Q (.ref p) (up h p (.dic (dputs [] ps)))) : fillD (.ref p) ps h Q := ⟨⟨e, q⟩⟩
theorem countP_plq {x : D} (hx : plq x = true) : ∀ {ds : List D}, plqL ds = true → (ds.countP fun y => deqv y x) = ds.countP fun y => decide (y = x)
  | [], _ => rfl
  | d :: ds, e => by
    rw [plqL, Bool.and_eq_true] at e
    rw [List.countP_cons, List.countP_cons, countP_plq hx e.2, deqv_plq _ _ e.1 hx]
theorem count_ls {h : AH} {x v : D} {ds : List D} {Q : KD} (e : lsOf h x = some ds) (q : plL 8 ds = true ∧ pl 8 v = true ∧ Q (.int ((ds.countP fun y => decide (y = v) : Nat) : Int)) h) : mCount x [v] h Q := by
  unfold mCount
  obtain ⟨q1, q2, q3⟩ := q
  simp only [e, Option.bind_some, mapO_pl 12 ds (plL_mono 8 12 ds (by omega) q1), rei_pl 12 v (pl_mono 8 12 v (by omega) q2)]
  rw [countP_plq (plq_pl 8 v q2) (plqL_pl 8 ds q1)]
  exact q3
theorem rei_dic {h : AH} {a : Addr} {ka : List (D × D)} (e : h a = some (.dic ka)) : ∀ n, rei h n (.ref a) = none
  | 0 => by simp [rei]
  | n + 1 => by simp [rei, e]
theorem eqB_dd {h : AH} {a b : Addr} {ka kb : List (D × D)} {Q : Bool → Prop} (e1 : h a = some (.dic ka)) (e2 : h b = some (.dic kb)) (o1 : dOkE h ka) (o2 : dOkE h kb) (q : Q (ka.length == kb.length && ka.all (hitE h kb))) : oEqB (.ref a) (.ref b) h Q := by
  unfold oEqB
  simp only [rei_dic e1]
  unfold dEqB
  simp only [e1, e2]
  exact ⟨o1, o2, q⟩
theorem dputs_snoc (kvs ps : List (D × D)) (x : D × D) : dputs kvs (ps ++ [x]) = dput (dputs kvs ps) x.1 x.2 := by unfold dputs; rw [List.foldl_append]; rfl
theorem dput_new : ∀ {kvs : List (D × D)} {k v : D}, k ∉ kvs.map (·.1) → dput kvs k v = kvs ++ [(k, v)]
  | [], _, _, _ => rfl
  | (a, b) :: r, k, v, h => by
    rw [dput, if_neg (fun e => h (by simp [e])), dput_new fun q => h (List.mem_cons_of_mem _ q)]; rfl
theorem dputs_new : ∀ {ps kvs : List (D × D)}, ((kvs ++ ps).map (·.1)).Nodup → dputs kvs ps = kvs ++ ps
  | [], kvs, _ => by simp [dputs]
  | p :: ps, kvs, h => by
    have e : dput kvs p.1 p.2 = kvs ++ [p] := dput_new fun q => by
      rw [List.map_append, List.nodup_append] at h
      exact h.2.2 _ q p.1 (by simp) rfl
    show dputs (dput kvs p.1 p.2) ps = _
    rw [e, dputs_new (by rw [List.append_assoc]; exact h), List.append_assoc]; rfl
theorem sortI_ls {h : AH} {x : D} {ds : List D} {Q : KD} (e : lsOf h x = some ds) (q : incK ds ∧ newL ds h Q) : bSortI [x] h Q := by
  unfold bSortI
  simp only [e]
  exact q
theorem sortD_ls {h : AH} {x : D} {ds : List D} {Q : KD} (e : lsOf h x = some ds) (q : sortable ds ∧ newL (ds.mergeSort (dle false)) h Q) : bSortD [x] h Q := by
  unfold bSortD
  simp only [e]
  exact q
theorem sortD_dic {h : AH} {a : Addr} {kvs : List (D × D)} {Q : KD} (e : h a = some (.dic kvs)) (q : sortable (kvs.map (·.1)) ∧ newL ((kvs.map (·.1)).mergeSort (dle false)) h Q) : bSortD [.ref a] h Q := by
  unfold bSortD
  have e1 : lsOf h (.ref a) = none := by simp only [lsOf, e]
  have e2 : dcOf h (.ref a) = some kvs := by simp only [dcOf, e]
  simp only [e1, e2]
  exact q
theorem oIsT_dic {h : AH} {a : Addr} {kvs : List (D × D)} {T : String} {Q : KD} (e : h a = some (.dic kvs)) (q : Q (.bl (T == "dict")) h) : oIsT T (.ref a) h Q := by
  unfold oIsT isT
  simp only [e]
  exact q
/-- == of two dicts that hold the same -/
theorem hit_self {h : AH} {kvs : List (D × D)} (nd : (kvs.map (·.1)).Nodup) (hv : ∀ p ∈ kvs, ∃ z, Dv h 10 p.2 z) : dOkE h kvs ∧ kvs.all (hitE h kvs) = true := by
  have key : ∀ {kvs : List (D × D)}, (kvs.map (·.1)).Nodup → ∀ p ∈ kvs, dget kvs p.1 = some p.2 := by
    intro kvs
    induction kvs with
    | nil => intro _ p hp; cases hp
    | cons x r ih =>
      intro nd p hp
      rw [List.map_cons, List.nodup_cons] at nd
      obtain ⟨a, b⟩ := x
      rcases List.mem_cons.mp hp with e | hp
      · subst e; rw [dget, if_pos rfl]
      · rw [dget, if_neg (fun z => nd.1 (by rw [show (a, b).1 = a from rfl, z]; exact List.mem_map.mpr ⟨p, hp, rfl⟩)), ih nd.2 p hp]
  refine ⟨fun p hp => let ⟨z, hz⟩ := hv p hp; ⟨z, hz.1⟩, ?_⟩
  rw [List.all_eq_true]
  intro p hp
  obtain ⟨z, hz⟩ := hv p hp
  unfold hitE
  simp only [key nd p hp, hz.1]
  exact deqv_self _ hz.2
theorem eqB_same {h : AH} {a b : Addr} {kvs : List (D × D)} {Q : Bool → Prop} (e1 : h a = some (.dic kvs)) (e2 : h b = some (.dic kvs)) (nd : (kvs.map (·.1)).Nodup) (hv : ∀ p ∈ kvs, ∃ z, Dv h 10 p.2 z) (q : Q true) : oEqB (.ref a) (.ref b) h Q := by
  obtain ⟨o, e⟩ := hit_self nd hv
  refine eqB_dd e1 e2 o o ?_
  rw [e]
  simpa using q
theorem eqB_nil {h : AH} {a b : Addr} {kvs : List (D × D)} {Q : Bool → Prop} (e1 : h a = some (.dic kvs)) (e2 : h b = some (.dic [])) (hv : ∀ p ∈ kvs, ∃ z, Dv h 10 p.2 z) (q : Q kvs.isEmpty) : oEqB (.ref a) (.ref b) h Q := by
  refine eqB_dd e1 e2 (fun p hp => let ⟨z, hz⟩ := hv p hp; ⟨z, hz.1⟩) (fun p hp => by cases hp) ?_
  cases kvs with
  | nil => exact q
  | cons x r =>
    have : ((x :: r).length == ([] : List (D × D)).length && (x :: r).all (hitE h [])) = false := by simp
    rw [this]
    exact q
theorem dputs_ndP : ∀ {ps kvs : List (D × D)}, (kvs.map (·.1)).Nodup → ((dputs kvs ps).map (·.1)).Nodup
  | [], kvs, h => h
  | p :: ps, kvs, h => dputs_ndP (ps := ps) (dput_nodupP h)
theorem dput_map (f : D → D) : ∀ (kvs : List (D × D)) (k v : D), (dput kvs k v).map (fun p => (p.1, f p.2)) = dput (kvs.map fun p => (p.1, f p.2)) k (f v)
  | [], _, _ => rfl
  | (a, b) :: r, k, v => by
    rw [dput, List.map_cons, dput]
    by_cases e : a = k
    · rw [if_pos e, if_pos e]; rfl
    · rw [if_neg e, if_neg e, List.map_cons, dput_map f r k v]
theorem dputs_map (f : D → D) : ∀ (ps kvs : List (D × D)), (dputs kvs ps).map (fun p => (p.1, f p.2)) = dputs (kvs.map fun p => (p.1, f p.2)) (ps.map fun p => (p.1, f p.2))
  | [], kvs => rfl
  | p :: ps, kvs => by
    show (dputs (dput kvs p.1 p.2) ps).map _ = _
    rw [dputs_map f ps, dput_map]
    rfl
theorem dput_memP : ∀ {kvs : List (D × D)} {k v : D} {x : D × D}, x ∈ dput kvs k v → x ∈ kvs ∨ x.1 = k ∧ x.2 = v
  | [], _, _, _, h => by rw [dput, List.mem_singleton] at h; subst h; exact .inr ⟨rfl, rfl⟩
  | (a, b) :: r, k, v, x, h => by
    rw [dput] at h
    split at h
    · rename_i e
      rcases List.mem_cons.mp h with z | z
      · subst z; exact .inr ⟨e, rfl⟩
      · exact .inl (List.mem_cons_of_mem _ z)
    · rcases List.mem_cons.mp h with z | z
      · exact .inl (z ▸ List.mem_cons_self)
      · exact (dput_memP z).imp (List.mem_cons_of_mem _) id
theorem dputs_memP : ∀ {ps kvs : List (D × D)} {x : D × D}, x ∈ dputs kvs ps → x ∈ kvs ∨ x ∈ ps
  | [], kvs, x, h => .inl h
  | p :: ps, kvs, x, h => by
    rcases dputs_memP (ps := ps) h with h | h
    · rcases dput_memP h with h | ⟨h1, h2⟩
      · exact .inl h
      · exact .inr (by rw [show x = p from Prod.ext h1 h2]; exact List.mem_cons_self)
    · exact .inr (List.mem_cons_of_mem _ h)
theorem dputs_lenP : ∀ (ps kvs : List (D × D)), (dputs kvs ps).length ≤ kvs.length + ps.length
  | [], kvs => Nat.le_refl _
  | p :: ps, kvs => by
    have h1 := dputs_lenP ps (dput kvs p.1 p.2)
    have h2 := dput_lenP kvs p.1 p.2
    show (dputs (dput kvs p.1 p.2) ps).length ≤ _
    rw [List.length_cons]; omega
end G
end

section
set_option linter.all false
set_option autoImplicit false
set_option maxRecDepth 10000
/-! What the defs of pagefolk_k47_shown_as_text do, in the words of the G layer; printed by pp.py. -/
namespace K47
open G
/-- stretches_of: 0 row, 1 kind, 2 found, 3 place, 4 told, 5 value -/
def b_stretches_of : DS :=
(dSeq (dSet 2 (dLst daNil))
(dSeq (dFor (G.iEnum (daCons (dVar 0) daNil)) (G.gTup 2 (G.gCons (gVar 3) (G.gCons (gVar 4) G.gNil)))
(dSeq (dSet 5 (dMeth "dict" mGet (dCall bDict (daCons (d2 oIx (dVar 4) (dInt 2)) daNil)) (daCons (dVar 1) daNil)))
(dIf (tQ (d1 oNotN (dVar 5)))
(dIf (G.tAnd (tQ (d2 oNe (dVar 2) (dLst daNil))) (G.tAnd (tQ (d2 oEq (d2 oIx (d2 oIx (dVar 2) (d1 oNeg (dInt 1))) (dInt 0)) (dVar 5))) (tQ (d2 oEq (d2 oIx (d2 oIx (dVar 2) (d1 oNeg (dInt 1))) (dInt 2)) (d2 oSub (dVar 3) (dInt 1))))))
(dAsg (dTup (daCons (dVar 5) (daCons (d2 oIx (d2 oIx (dVar 2) (d1 oNeg (dInt 1))) (dInt 1)) (daCons (dVar 3) daNil)))) (G.gSub (dVar 2) (d1 oNeg (dInt 1))))
(dExp (dMeth "list" mAppend (dVar 2) (daCons (dTup (daCons (dVar 5) (daCons (dVar 3) (daCons (dVar 3) daNil)))) daNil))))
dNx)))
(dRet (dVar 2))))
@[irreducible] def f_stretches_of : FS := fnOf 6 2 (b_stretches_of)
/-- mark_rows: 0 row, 1 kinds, 2 name, 3 text, 4 marks, 5 kind, 6 value, 7 rows, 8 begin, 9 end -/
def b_mark_rows : DS :=
(dSeq (dSet 1 (dLst daNil))
(dSeq (dFor (iSeq (dVar 0)) (G.gTup 3 (G.gCons (gVar 2) (G.gCons (gVar 3) (G.gCons (gVar 4) G.gNil))))
(dExp (dMeth "list" mExtend (dVar 1) (daCons (dComp (iSeq (dVar 4)) (G.gTup 2 (G.gCons (gVar 5) (G.gCons (gVar 6) G.gNil))) (tQ (d2 oNotIn (dVar 5) (dVar 1))) (dVar 5) [5, 6]) daNil))))
(dSeq (dSet 7 (dLst daNil))
(dSeq (dFor (iSeq (dCall bSortD (daCons (dVar 1) daNil))) (gVar 5)
(dFor (iSeq (dCall f_stretches_of (daCons (dVar 0) (daCons (dVar 5) daNil)))) (G.gTup 3 (G.gCons (gVar 6) (G.gCons (gVar 8) (G.gCons (gVar 9) G.gNil))))
(dExp (dMeth "list" mAppend (dVar 7) (daCons (dFstr (djCons (dStr (PySem.Str.ofString "mark ")) (djCons (d1 oFmt (dVar 5)) (djCons (dStr (PySem.Str.ofString " ")) (djCons (d1 oFmt (dVar 6)) (djCons (dStr (PySem.Str.ofString " ")) (djCons (d1 oFmt (dVar 8)) (djCons (dStr (PySem.Str.ofString " ")) (djCons (d1 oFmt (dVar 9)) djNil))))))))) daNil)))))
(dRet (dVar 7))))))
@[irreducible] def f_mark_rows : FS := fnOf 10 1 (b_mark_rows)
/-- note_rows: 0 row, 1 notes, 2 names, 3 rows, 4 name, 5 word, 6 sign, 7 place, 8 told -/
def b_note_rows : DS :=
(dSeq (dSet 2 (dComp (iSeq (dVar 0)) (gVar 8) G.tYes (d2 oIx (dVar 8) (dInt 0)) [8]))
(dSeq (dSet 3 (dLst daNil))
(dSeq (dFor (iSeq (dVar 1)) (G.gTup 3 (G.gCons (gVar 4) (G.gCons (gVar 5) (G.gCons (gVar 6) G.gNil))))
(dSeq (dSet 7 (dStr (PySem.Str.ofString "loose")))
(dSeq (dIf (tQ (d1 oNotN (dVar 6)))
(dSet 7 (dCall bStr (daCons (dMeth "list" mIndex (dVar 2) (daCons (dVar 6) daNil)) daNil)))
dNx)
(dExp (dMeth "list" mAppend (dVar 3) (daCons (d2 oAdd (d2 oAdd (d2 oAdd (dStr (PySem.Str.ofString "note ")) (dVar 5)) (dStr (PySem.Str.ofString " "))) (dVar 7)) daNil))))))
(dRet (dVar 3)))))
@[irreducible] def f_note_rows : FS := fnOf 9 2 (b_note_rows)
/-- table_rows: 0 table, 1 rows, 2 columns, 3 words, 4 line, 5 word -/
def b_table_rows : DS :=
(dSeq (dAsg (dVar 0) (G.gTup 3 (G.gCons (gVar 1) (G.gCons (gVar 2) (G.gCons (gVar 3) G.gNil)))))
(dSeq (dIf (tQ (d2 oEq (dVar 2) (dLst daNil)))
(dRet (dLst daNil))
dNx)
(dRet (dComp (iSeq (dVar 3)) (gVar 4) G.tYes (d2 oAdd (dStr (PySem.Str.ofString "cells ")) (dMeth "str" mJoin (dStr (PySem.Str.ofString " ")) (daCons (dComp (iSeq (dVar 4)) (gVar 5) G.tYes (dOr (dVar 5) (dStr (PySem.Str.ofString "-"))) [5]) daNil))) [4]))))
@[irreducible] def f_table_rows : FS := fnOf 6 1 (b_table_rows)
/-- entry_rows: 0 entry, 1 number, 2 part, 3 row, 4 notes, 5 table, 6 rows, 7 told -/
def b_entry_rows : DS :=
(dSeq (dAsg (dVar 0) (G.gTup 5 (G.gCons (gVar 1) (G.gCons (gVar 2) (G.gCons (gVar 3) (G.gCons (gVar 4) (G.gCons (gVar 5) G.gNil)))))))
(dSeq (dSet 6 (dLst (daCons (d2 oAdd (dStr (PySem.Str.ofString "part ")) (dOr (dVar 1) (dStr (PySem.Str.ofString ".")))) daNil)))
(dSeq (dIf (tQ (d1 oIsN (dVar 3)))
(dRet (d2 oAdd (dVar 6) (dLst (daCons (dStr (PySem.Str.ofString "closed")) daNil))))
dNx)
(dSeq (dIf (tQ (d2 oNe (dVar 3) (dLst daNil)))
(dExp (dMeth "list" mAppend (dVar 6) (daCons (d2 oAdd (dStr (PySem.Str.ofString "text ")) (dMeth "str" mJoin (dStr (PySem.Str.ofString "")) (daCons (dComp (iSeq (dVar 3)) (gVar 7) G.tYes (d2 oIx (dVar 7) (dInt 1)) [7]) daNil))) daNil)))
dNx)
(dRet (d2 oAdd (d2 oAdd (d2 oAdd (dVar 6) (dCall f_mark_rows (daCons (dVar 3) daNil))) (dCall f_note_rows (daCons (dVar 3) (daCons (dVar 4) daNil)))) (dCall f_table_rows (daCons (dVar 5) daNil))))))))
@[irreducible] def f_entry_rows : FS := fnOf 8 1 (b_entry_rows)
/-- shown: 0 entries, 1 rows, 2 entry -/
def b_shown : DS :=
(dSeq (dSet 1 (dLst daNil))
(dSeq (dFor (iSeq (dVar 0)) (gVar 2)
(dExp (dMeth "list" mExtend (dVar 1) (daCons (dCall f_entry_rows (daCons (dVar 2) daNil)) daNil))))
(dRet (dMeth "str" mJoin (dStr (PySem.Str.ofString "\n")) (daCons (dVar 1) daNil)))))
@[irreducible] def f_shown : FS := fnOf 3 1 (b_shown)
/-- _law_cell_at: 0 _law_script, 1 _law_k -/
def b_l_cell_at : DS :=
(dSeq (dIf (tQ (d2 oLt (dVar 1) (dCall bLen (daCons (dVar 0) daNil))))
(dRet (d2 oIx (dVar 0) (dVar 1)))
dNx)
(dRet (dInt 0)))
@[irreducible] def f_l_cell_at : FS := fnOf 2 2 (b_l_cell_at)
/-- _law_drawn: 0 _law_cell, 1 _law_digits -/
def b_l_drawn : DS :=
(dSeq (dIf (G.tAnd (tV (dVar 1)) (tQ (d2 oGe (dVar 0) (d2 oPow (dInt 10) (dInt 18)))))
(dRet (dLst (daCons (dVar 0) (daCons (dInt 0) daNil))))
dNx)
(dRet (dLst (daCons (d2 oMod (dVar 0) (dInt 2147483629)) (daCons (dInt 1) daNil)))))
@[irreducible] def f_l_drawn : FS := fnOf 2 2 (b_l_drawn)
/-- _law_draw: 0 _law_drawn_here, 1 _law_many, 2 _law_number -/
def b_l_draw : DS :=
(dSeq (dSet 2 (d2 oIx (dVar 0) (dInt 0)))
(dSeq (dIf (tQ (d2 oEq (d2 oIx (dVar 0) (dInt 1)) (dInt 0)))
(dSeq (dAsg (d2 oDiv (dVar 2) (dVar 1)) (G.gSub (dVar 0) (dInt 0)))
(dRet (d2 oMod (dVar 2) (dVar 1))))
dNx)
(dSeq (dAsg (d2 oMod (d2 oAdd (d2 oMul (dVar 2) (dInt 69621)) (dInt 48271)) (dInt 2147483629)) (G.gSub (dVar 0) (dInt 0)))
(dRet (d2 oMod (d2 oDiv (d2 oMod (d2 oMul (d2 oIx (dVar 0) (dInt 0)) (dInt 16807)) (dInt 2147483647)) (dInt 64)) (dVar 1))))))
@[irreducible] def f_l_draw : FS := fnOf 3 2 (b_l_draw)
/-- _law_row: 0 _law_drawn_here, 1 _law_row_here, 2 _law_k, 3 _law_marks_here, 4 _law_kind, 5 _law_way, 6 _law_text -/
def b_l_row : DS :=
(dSeq (dSet 1 (dLst daNil))
(dSeq (dFor (iRng1 (daCons (dCall f_l_draw (daCons (dVar 0) (daCons (dInt 15) daNil))) daNil)) (gVar 2)
(dSeq (dSet 3 (dLst daNil))
(dSeq (dFor (iSeq (dLst (daCons (dStr (PySem.Str.ofString "b")) (daCons (dStr (PySem.Str.ofString "bold")) (daCons (dStr (PySem.Str.ofString "ink")) daNil))))) (gVar 4)
(dSeq (dSet 5 (dCall f_l_draw (daCons (dVar 0) (daCons (dInt 3) daNil))))
(dIf (tQ (d2 oGt (dVar 5) (dInt 0)))
(dExp (dMeth "list" mAppend (dVar 3) (daCons (dTup (daCons (dVar 4) (daCons (d2 oIx (dLst (daCons (dStr (PySem.Str.ofString "thin")) (daCons (dStr (PySem.Str.ofString "x")) daNil))) (d2 oSub (dVar 5) (dInt 1))) daNil))) daNil)))
dNx)))
(dSeq (dSet 6 (d2 oIx (dLst (daCons (dStr (PySem.Str.ofString "a")) (daCons (dStr (PySem.Str.ofString "z")) (daCons (dStr (PySem.Str.ofString " ")) (daCons (dStr (PySem.Str.ofString ".")) (daCons (dStr (PySem.Str.ofString ",")) (daCons (dStr (PySem.Str.ofString "*pic")) (daCons (dStr (PySem.Str.ofString "#1.2")) (daCons (dStr (PySem.Str.ofString "#?")) (daCons (dStr (PySem.Str.ofString "#")) daNil)))))))))) (dCall f_l_draw (daCons (dVar 0) (daCons (dInt 9) daNil)))))
(dExp (dMeth "list" mAppend (dVar 1) (daCons (dTup (daCons (dTup (daCons (dStr (PySem.Str.ofString "ann")) (daCons (d2 oAdd (dInt 5) (dVar 2)) (daCons (dInt 0) daNil)))) (daCons (dVar 6) (daCons (dVar 3) daNil)))) daNil)))))))
(dRet (dVar 1))))
@[irreducible] def f_l_row : FS := fnOf 7 1 (b_l_row)
/-- _law_notes: 0 _law_drawn_here, 1 _law_row_here, 2 _law_notes_here, 3 _law_k, 4 _law_names, 5 _law_told -/
def b_l_notes : DS :=
(dSeq (dSet 2 (dLst daNil))
(dSeq (dFor (iRng1 (daCons (dCall f_l_draw (daCons (dVar 0) (daCons (dInt 4) daNil))) daNil)) (gVar 3)
(dSeq (dSet 4 (d2 oAdd (dComp (iSeq (dVar 1)) (gVar 5) G.tYes (d2 oIx (dVar 5) (dInt 0)) [5]) (dLst (daCons dNon daNil))))
(dExp (dMeth "list" mAppend (dVar 2) (daCons (dTup (daCons (dTup (daCons (dStr (PySem.Str.ofString "bo")) (daCons (d2 oAdd (dInt 30) (dVar 3)) daNil))) (daCons (d2 oIx (dLst (daCons (dStr (PySem.Str.ofString "hm")) (daCons (dStr (PySem.Str.ofString "look")) daNil))) (d2 oMod (dVar 3) (dInt 2))) (daCons (d2 oIx (dVar 4) (dCall f_l_draw (daCons (dVar 0) (daCons (dCall bLen (daCons (dVar 4) daNil)) daNil)))) daNil)))) daNil)))))
(dRet (dVar 2))))
@[irreducible] def f_l_notes : FS := fnOf 6 2 (b_l_notes)
/-- _law_table: 0 _law_drawn_here, 1 _law_rows, 2 _law_columns, 3 _law_words, 4 _law_row_here, 5 _law_k, 6 _law_column -/
def b_l_table : DS :=
(dSeq (dSet 1 (dComp (iRng1 (daCons (dCall f_l_draw (daCons (dVar 0) (daCons (dInt 4) daNil))) daNil)) (gVar 5) G.tYes (dTup (daCons (dStr (PySem.Str.ofString "ann")) (daCons (d2 oAdd (dInt 50) (dVar 5)) daNil))) [5]))
(dSeq (dSet 2 (dComp (iRng1 (daCons (dCall f_l_draw (daCons (dVar 0) (daCons (dInt 4) daNil))) daNil)) (gVar 5) G.tYes (dTup (daCons (dStr (PySem.Str.ofString "ann")) (daCons (d2 oAdd (dInt 60) (dVar 5)) daNil))) [5]))
(dSeq (dSet 3 (dLst daNil))
(dSeq (dFor (iSeq (dVar 1)) (gVar 4)
(dExp (dMeth "list" mAppend (dVar 3) (daCons (dComp (iSeq (dVar 2)) (gVar 6) G.tYes (d2 oIx (dLst (daCons (dStr (PySem.Str.ofString "")) (daCons (dStr (PySem.Str.ofString "ten")) (daCons (dStr (PySem.Str.ofString "abcdefgh")) daNil)))) (dCall f_l_draw (daCons (dVar 0) (daCons (dInt 3) daNil)))) [6]) daNil))))
(dRet (dTup (daCons (dVar 1) (daCons (dVar 2) (daCons (dVar 3) daNil)))))))))
@[irreducible] def f_l_table : FS := fnOf 7 1 (b_l_table)
/-- _law_document: 0 _law_script, 1 _law_digits, 2 _law_entries, 3 _law_k, 4 _law_drawn_here, 5 _law_number, 6 _law_part, 7 _law_row_here -/
def b_l_document : DS :=
(dSeq (dSet 1 (d2 oEq (d2 oMod (dCall f_l_cell_at (daCons (dVar 0) (daCons (dInt 0) daNil))) (dInt 2)) (dInt 1)))
(dSeq (dSet 2 (dLst daNil))
(dSeq (dFor (iRng1 (daCons (d2 oAdd (dInt 1) (d2 oMod (d2 oDiv (dCall f_l_cell_at (daCons (dVar 0) (daCons (dInt 0) daNil))) (dInt 2)) (dInt 5))) daNil)) (gVar 3)
(dSeq (dSet 4 (dCall f_l_drawn (daCons (dCall f_l_cell_at (daCons (dVar 0) (daCons (d2 oAdd (dInt 1) (dVar 3)) daNil))) (daCons (dVar 1) daNil))))
(dSeq (dSet 5 (d2 oIx (dLst (daCons (dStr (PySem.Str.ofString "")) (daCons (dStr (PySem.Str.ofString "1")) (daCons (dStr (PySem.Str.ofString "1.1")) (daCons (dStr (PySem.Str.ofString "1.1.12")) (daCons (dStr (PySem.Str.ofString "2")) daNil)))))) (dVar 3)))
(dSeq (dSet 6 (d2 oIx (dLst (daCons (dTup (daCons (dStr (PySem.Str.ofString "")) (daCons (dInt 0) daNil))) (daCons (dTup (daCons (dStr (PySem.Str.ofString "bo")) (daCons (d2 oAdd (dInt 70) (dVar 3)) daNil))) daNil))) (dCall bInt (daCons (d2 oGt (dVar 3) (dInt 0)) daNil))))
(dIf (tQ (d2 oEq (dCall f_l_draw (daCons (dVar 4) (daCons (dInt 5) daNil))) (dInt 4)))
(dExp (dMeth "list" mAppend (dVar 2) (daCons (dTup (daCons (dVar 5) (daCons (dVar 6) (daCons dNon (daCons dNon (daCons dNon daNil)))))) daNil)))
(dSeq (dSet 7 (dCall f_l_row (daCons (dVar 4) daNil)))
(dExp (dMeth "list" mAppend (dVar 2) (daCons (dTup (daCons (dVar 5) (daCons (dVar 6) (daCons (dVar 7) (daCons (dCall f_l_notes (daCons (dVar 4) (daCons (dVar 7) daNil))) (daCons (dCall f_l_table (daCons (dVar 4) daNil)) daNil)))))) daNil)))))))))
(dRet (dVar 2)))))
@[irreducible] def f_l_document : FS := fnOf 8 1 (b_l_document)
/-- _law_value: 0 _law_told, 1 _law_kind, 2 _law_one, 3 _law_value_here -/
def b_l_value : DS :=
(dSeq (dFor (iSeq (d2 oIx (dVar 0) (dInt 2))) (G.gTup 2 (G.gCons (gVar 2) (G.gCons (gVar 3) G.gNil)))
(dIf (tQ (d2 oEq (dVar 2) (dVar 1)))
(dRet (dVar 3))
dNx))
(dRet (dStr (PySem.Str.ofString ""))))
@[irreducible] def f_l_value : FS := fnOf 4 2 (b_l_value)
/-- _law_marks: 0 _law_row_here, 1 _law_rows, 2 _law_kind, 3 _law_begin, 4 _law_k, 5 _law_value_here -/
def b_l_marks : DS :=
(dSeq (dSet 1 (dLst daNil))
(dSeq (dFor (iSeq (dLst (daCons (dStr (PySem.Str.ofString "b")) (daCons (dStr (PySem.Str.ofString "bold")) (daCons (dStr (PySem.Str.ofString "ink")) daNil))))) (gVar 2)
(dSeq (dSet 3 (dInt 0))
(dFor (iRng2 (daCons (dInt 1) (daCons (d2 oAdd (dCall bLen (daCons (dVar 0) daNil)) (dInt 1)) daNil))) (gVar 4)
(dSeq (dSet 5 (dCall f_l_value (daCons (d2 oIx (dVar 0) (dVar 3)) (daCons (dVar 2) daNil))))
(dIf (G.tOr (tQ (d2 oEq (dVar 4) (dCall bLen (daCons (dVar 0) daNil)))) (tQ (d2 oNe (dCall f_l_value (daCons (d2 oIx (dVar 0) (dVar 4)) (daCons (dVar 2) daNil))) (dVar 5))))
(dSeq (dIf (tQ (d2 oNe (dVar 5) (dStr (PySem.Str.ofString ""))))
(dExp (dMeth "list" mAppend (dVar 1) (daCons (dMeth "str" mJoin (dStr (PySem.Str.ofString " ")) (daCons (dLst (daCons (dStr (PySem.Str.ofString "mark")) (daCons (dVar 2) (daCons (dVar 5) (daCons (dCall bStr (daCons (dVar 3) daNil)) (daCons (dCall bStr (daCons (d2 oSub (dVar 4) (dInt 1)) daNil)) daNil)))))) daNil)) daNil)))
dNx)
(dSet 3 (dVar 4)))
dNx)))))
(dRet (dVar 1))))
@[irreducible] def f_l_marks : FS := fnOf 6 1 (b_l_marks)
/-- _law_due: 0 _law_entries, 1 _law_rows, 2 _law_number, 3 _law_part, 4 _law_row_here, 5 _law_notes_here, 6 _law_table_here, 7 _law_text, 8 _law_told, 9 _law_name, 10 _law_word, 11 _law_sign, 12 _law_places, 13 _law_line_words, 14 _law_cells, 15 _law_k -/
def b_l_due : DS :=
(dSeq (dSet 1 (dLst daNil))
(dSeq (dFor (iSeq (dVar 0)) (G.gTup 5 (G.gCons (gVar 2) (G.gCons (gVar 3) (G.gCons (gVar 4) (G.gCons (gVar 5) (G.gCons (gVar 6) G.gNil))))))
(dSeq (dExp (dMeth "list" mAppend (dVar 1) (daCons (d2 oAdd (d2 oAdd (dStr (PySem.Str.ofString "part ")) (dVar 2)) (d2 oMulS (dStr (PySem.Str.ofString ".")) (dCall bInt (daCons (d2 oEq (dVar 2) (dStr (PySem.Str.ofString ""))) daNil)))) daNil)))
(dIf (tQ (d1 oIsN (dVar 4)))
(dExp (dMeth "list" mAppend (dVar 1) (daCons (dStr (PySem.Str.ofString "closed")) daNil)))
(dSeq (dSet 7 (dStr (PySem.Str.ofString "")))
(dSeq (dFor (iSeq (dVar 4)) (gVar 8)
(dSet 7 (d2 oAdd (dVar 7) (d2 oIx (dVar 8) (dInt 1)))))
(dSeq (dSet 1 (d2 oAdd (d2 oAdd (dVar 1) (d2 oMul (dLst (daCons (d2 oAdd (dStr (PySem.Str.ofString "text ")) (dVar 7)) daNil)) (dCall bInt (daCons (d2 oNe (dVar 4) (dLst daNil)) daNil)))) (dCall f_l_marks (daCons (dVar 4) daNil))))
(dSeq (dFor (iSeq (dVar 5)) (G.gTup 3 (G.gCons (gVar 9) (G.gCons (gVar 10) (G.gCons (gVar 11) G.gNil))))
(dSeq (dSet 12 (dComp (iRng1 (daCons (dCall bLen (daCons (dVar 4) daNil)) daNil)) (gVar 15) (tQ (d2 oEq (d2 oIx (d2 oIx (dVar 4) (dVar 15)) (dInt 0)) (dVar 11))) (dVar 15) [15]))
(dExp (dMeth "list" mAppend (dVar 1) (daCons (d2 oAdd (d2 oAdd (d2 oAdd (dStr (PySem.Str.ofString "note ")) (dVar 10)) (dStr (PySem.Str.ofString " "))) (d2 oIx (d2 oAdd (dComp (iSeq (dVar 12)) (gVar 15) G.tYes (dCall bStr (daCons (dVar 15) daNil)) [15]) (dLst (daCons (dStr (PySem.Str.ofString "loose")) daNil))) (dInt 0))) daNil)))))
(dFor (iSeq (d2 oIx (dVar 6) (dInt 2))) (gVar 13)
(dSeq (dSet 14 (dComp (iSeq (dVar 13)) (gVar 10) G.tYes (d2 oAdd (dVar 10) (d2 oMulS (dStr (PySem.Str.ofString "-")) (dCall bInt (daCons (d2 oEq (dVar 10) (dStr (PySem.Str.ofString ""))) daNil)))) [10]))
(dSet 1 (d2 oAdd (dVar 1) (d2 oMul (dLst (daCons (d2 oAdd (dStr (PySem.Str.ofString "cells ")) (dMeth "str" mJoin (dStr (PySem.Str.ofString " ")) (daCons (dVar 14) daNil))) daNil)) (dCall bInt (daCons (d2 oNe (d2 oIx (dVar 6) (dInt 1)) (dLst daNil)) daNil))))))))))))))
(dRet (dMeth "str" mJoin (dStr (PySem.Str.ofString "\n")) (daCons (dVar 1) daNil)))))
@[irreducible] def f_l_due : FS := fnOf 16 1 (b_l_due)
/-- law: 0 _law_script, 1 _law_entries, 2 _law_again, 3 _law_found -/
def b_law : DS :=
(dSeq (dSet 1 (dCall f_l_document (daCons (dVar 0) daNil)))
(dSeq (dSet 2 (dCall f_l_document (daCons (dVar 0) daNil)))
(dSeq (dSet 3 (dCall f_shown (daCons (dVar 1) daNil)))
(dRet (dAnd (d1 (oIsT "str") (dVar 3)) (dAnd (d2 oEq (dVar 3) (dCall f_l_due (daCons (dVar 1) daNil))) (d2 oEq (dVar 1) (dVar 2))))))))
@[irreducible] def f_law : FS := fnOf 4 1 (b_law)
end K47
end

section
set_option linter.all false
set_option autoImplicit false
set_option maxRecDepth 100000
set_option maxHeartbeats 4000000
namespace K47
open G
open PySem (Str)
local macro_rules | `(tactic| fail $s:str) => match s.getString with
  | "ne" => `(tactic| first | assumption | (apply Ne.symm; assumption) | exact ne_f1 (by assumption) (by fail "lk") | exact ne_f2 (by assumption) (by fail "lk") | grind [up, Sb])
  | "lk" => `(tactic| first | assumption | exact up_same | (refine up_at ?_ ?_; (· fail "ne"); fail "lk") | (refine Sb.at ?_ ?_; (· assumption); fail "lk"))
  | "sd" => `(tactic| first | (with_reducible show -(2 ^ 62) ≤ (_ : Int); first | omega | (simp only [List.length_map]; omega)) | (with_reducible show (_ : Int) < 2 ^ 62; first | omega | (simp only [List.length_map]; omega)) | assumption | rfl | (apply isT_lst; fail "lk") | (apply isT_dic; fail "lk") | decide | (simp only [List.length_cons, List.length_nil]; decide) | exact mulOk_l (by decide) (by decide) | exact mulOk_r (by decide) (by decide) | exact mulOk_l (by omega) (by omega) | exact mulOk_r (by omega) (by omega) | omega | (simp only [List.length_map]; omega))
  | "ls" => `(tactic| first | exact sq_tup | exact sq_rl | exact ls_rl | (apply ls_lst; fail "lk") | (apply sq_lst; fail "lk"))
  | "st" => `(tactic| first
  | ((with_reducible apply ix_lst); (· fail "lk"))
  | with_reducible apply ix_tup
  | with_reducible apply ix_str
  | with_reducible apply in_tup
  | with_reducible apply min_ii
  | with_reducible apply max_ii
  | ((with_reducible apply in_lst); (· fail "lk"))
  | ((with_reducible apply in_dic); (· fail "lk"))
  | ((with_reducible apply notIn_dic); (· fail "lk"))
  | ((with_reducible apply notIn_lst); (· fail "lk"))
  | with_reducible apply ix_rl
  | ((with_reducible apply ix_dic); (· fail "lk"))
  | ((with_reducible apply app_lst); (· fail "lk"))
  | ((with_reducible apply len_lst); (· fail "lk"))
  | with_reducible apply len_tup
  | with_reducible apply mulS_s
  | with_reducible apply fmt_str
  | with_reducible apply fmt_int
  | with_reducible apply cat_str
  | with_reducible apply str_int
  | with_reducible apply str_str
  | with_reducible apply len_rl
  | with_reducible apply len_str
  | ((with_reducible apply oIsT_lst); (· fail "lk"))
  | ((with_reducible apply dict_ls); (· fail "ls"))
  | ((with_reducible apply sl_ls); (· fail "ls"))
  | ((with_reducible apply rev_ls); (· fail "ls"))
  | ((with_reducible apply list_sq); (· fail "ls"))
  | ((with_reducible apply list_dic); (· fail "lk"))
  | ((with_reducible apply step_ls); (· fail "ls"))
  | ((with_reducible apply addL_ls); (· fail "ls"); (· fail "ls"))
  | ((with_reducible apply index_ls); (· fail "ls"))
  | ((with_reducible apply count_ls); (· fail "ls"))
  | ((with_reducible apply fill_dic); (· fail "lk"))
  | ((with_reducible apply max_ls); (· fail "ls"))
  | ((with_reducible apply sortK_ls); (· fail "ls"))
  | ((with_reducible apply sum_ls); (· fail "ls"))
  | ((with_reducible apply all_ls); (· fail "ls"))
  | ((with_reducible apply sorted_ls); (· fail "ls"))
  | ((with_reducible apply sortI_ls); (· fail "ls"))
  | ((with_reducible apply sortD_ls); (· fail "ls"))
  | ((with_reducible apply sortD_dic); (· fail "lk"))
  | ((with_reducible apply oIsT_dic); (· fail "lk"))
  | ((with_reducible apply walkD_lst); (· fail "lk"))
  | ((with_reducible apply walkD_dic); (· fail "lk"))
  | ((with_reducible apply walkI_dic); (· fail "lk"))
  | with_reducible apply walkD_tup
  | with_reducible apply walkD_rl
  | ((with_reducible apply walkL_lst); (· fail "lk"))
  | with_reducible apply walkL_rl
  | ((with_reducible apply mul_lst); (· fail "lk"))
  | ((with_reducible apply min_ls); (· fail "ls"))
  | ((with_reducible apply oAdd_lst); (· fail "lk"); (· fail "lk"))
  | ((with_reducible apply put_lst); (· fail "lk"))
  | ((with_reducible apply put_dic); (· fail "lk"))
  | ((with_reducible apply tru_lst); (· fail "lk"))
  | with_reducible apply oIsT_bl
  | with_reducible apply oIsT_int
  | with_reducible apply oIsT_str
  | with_reducible apply oIsT_tup
  | with_reducible apply oIsT_rl
  | with_reducible apply oIsT_non
  | with_reducible apply sl_tup
  | with_reducible apply sl_str
  | ((with_reducible apply get_dic); (· fail "lk"))
  | ((with_reducible apply get_dic2); (· fail "lk"))
  | ((with_reducible apply setdef_dic); (· fail "lk"))
  | ((with_reducible apply ext_lst); (· fail "lk"); (· fail "lk"))
  | ((with_reducible apply pop_lst); (· fail "lk"))
  | ((with_reducible apply popAt_lst); (· fail "lk"))
  | ((with_reducible apply ins_lst); (· fail "lk"))
  | ((with_reducible apply clr_lst); (· fail "lk"))
  | ((with_reducible apply clr_dic); (· fail "lk"))
  | ((with_reducible apply join_sq); (· fail "ls"))
  | ((with_reducible apply oEq_sst); (· with_reducible rfl))
  | ((with_reducible apply oEq_ssf); (· first | assumption | decide))
  | ((with_reducible apply oNe_sst); (· with_reducible rfl))
  | ((with_reducible apply oNe_ssf); (· first | assumption | decide))
  | ((with_reducible apply oEq_iit); (· with_reducible rfl))
  | ((with_reducible apply oEq_iif); (· first | assumption | decide))
  | ((with_reducible apply oNe_iit); (· with_reducible rfl))
  | ((with_reducible apply oNe_iif); (· first | assumption | decide))
  | refine Exists.intro _ (And.intro (rfl : atI _ _ = some _) ?_)
  | refine Exists.intro _ (And.intro (rfl : ixN _ _ = some _) ?_)
  | ((with_reducible refine And.intro ?_ ?_); (· fail "sd")))
  | _ => Lean.Macro.throwUnsupported
local macro_rules | `(tactic| nofun) => `(tactic| fail "ne")
local macro_rules | `(tactic| bv_omega) => `(tactic| fail "lk")
local macro_rules | `(tactic| ac_rfl) => `(tactic| fail "sd")
local macro_rules | `(tactic| trivial) => `(tactic| ((conv => whnf); repeat (fail "st"; (conv => whnf))))
/-! ### a heap without some addresses -/
def hm (h : AH) (S : List Addr) : AH := fun x => if x ∈ S then none else h x
theorem hm_in {h : AH} {S : List Addr} {x : Addr} (e : x ∈ S) : hm h S x = none := if_pos e
theorem hm_out {h : AH} {S : List Addr} {x : Addr} (e : x ∉ S) : hm h S x = h x := if_neg e
theorem hm_sb (h : AH) (S : List Addr) : Sb (hm h S) h := fun p u q => by
  unfold hm at q
  split at q
  · cases q
  · exact q
theorem hm_nn {h : AH} {S : List Addr} {x : Addr} (e : h x = none) : hm h S x = none := by
  unfold hm
  split
  · rfl
  · exact e
theorem hm_trans {h h1 h2 : AH} {S T : List Addr} (a : Sb (hm h S) h1) (b : Sb (hm h1 T) h2) (sub : ∀ x ∈ T, x ∈ S) : Sb (hm h S) h2 := fun x o e => by
  have hx : x ∉ S := fun z => by rw [hm_in z] at e; cases e
  exact b x o (by rw [hm_out fun z => hx (sub x z)]; exact a x o e)
theorem hm_get {h h' : AH} {S : List Addr} {x : Addr} {o : O} (a : Sb (hm h S) h') (e : h x = some o) (n : x ∉ S) : h' x = some o := a x o (by rw [hm_out n]; exact e)
theorem hm_of {h h' : AH} {S : List Addr} (s : Sb h h') : Sb (hm h S) h' := (hm_sb h S).trans s
theorem hm_wid {h h' : AH} {S T : List Addr} (s : Sb (hm h S) h') (sub : ∀ x ∈ S, x ∈ T) : Sb (hm h T) h' := fun x o e => by
  have hx : x ∉ T := fun z => by rw [hm_in z] at e; cases e
  rw [hm_out hx] at e
  exact hm_get s e fun z => hx (sub x z)
theorem sb_hm {h0 h h' : AH} {S : List Addr} (a : Sb h0 h) (b : Sb (hm h S) h') (n : ∀ x ∈ S, h0 x = none) : Sb h0 h' := fun x o e => b x o (by rw [hm_out (fun z => by rw [n x z] at e; cases e)]; exact a x o e)
/-! ### draws of a document -/
structure Dw where
  n : Int
  m : Int
def Dw.ok (s : Dw) : Prop := s.m = 0 ∨ (s.m = 1 ∧ 0 ≤ s.n ∧ s.n < 2147483629)
def drw (s : Dw) (k : Int) : Int := if s.m = 0 then s.n % k else ((s.n * 69621 + 48271) % 2147483629 * 16807 % 2147483647 / 64) % k
def nxt (s : Dw) (k : Int) : Dw := if s.m = 0 then ⟨s.n / k, s.m⟩ else ⟨(s.n * 69621 + 48271) % 2147483629, s.m⟩
abbrev encW (s : Dw) : O := .lst [.int s.n, .int s.m]
theorem nxt_ok {s : Dw} (k : Int) (h : s.ok) : (nxt s k).ok := by
  unfold nxt
  by_cases c : s.m = 0
  · rw [if_pos c]; exact .inl c
  · rw [if_neg c]
    rcases h with h | ⟨h, h1, h2⟩
    · exact absurd h c
    · exact .inr ⟨h, Int.emod_nonneg _ (by omega), Int.emod_lt_of_pos _ (by omega)⟩
theorem drw_bd (s : Dw) {k : Int} (h : 0 < k) : 0 ≤ drw s k ∧ drw s k < k := by
  unfold drw
  split
  · exact ⟨Int.emod_nonneg _ (by omega), Int.emod_lt_of_pos _ h⟩
  · exact ⟨Int.emod_nonneg _ (by omega), Int.emod_lt_of_pos _ h⟩
theorem l_draw_ok {h : AH} {p : Addr} {s : Dw} {k : Int} {Q : KD} (e : h p = some (encW s)) (ok : s.ok) (k0 : 0 < k) (k1 : k < 1000000) (q : Q (.int (drw s k)) (up h p (encW (nxt s k)))) : f_l_draw [.ref p, .int k] h Q := by
  unfold f_l_draw
  trivial
  refine oEq_ii ?_
  trivial
  refine onT_d (fun hm => ?_) (fun hm => ?_)
  · have e1 : drw s k = s.n % k := if_pos hm
    have e2 : nxt s k = ⟨s.n / k, s.m⟩ := if_pos hm
    rw [e1, e2] at q
    trivial
    exact ⟨_, Sb.refl _, q⟩
  · have hb : 0 ≤ s.n ∧ s.n < 2147483629 := (ok.resolve_left hm).2
    have e1 : drw s k = ((s.n * 69621 + 48271) % 2147483629 * 16807 % 2147483647 / 64) % k := if_neg hm
    have e2 : nxt s k = ⟨(s.n * 69621 + 48271) % 2147483629, s.m⟩ := if_neg hm
    rw [e1, e2] at q
    have b1 : 0 ≤ (s.n * 69621 + 48271) % 2147483629 := Int.emod_nonneg _ (by omega)
    have b2 : (s.n * 69621 + 48271) % 2147483629 < 2147483629 := Int.emod_lt_of_pos _ (by omega)
    clear e1 e2
    trivial
    exact ⟨_, Sb.refl _, q⟩
/-! ### the document, of draws -/
def kinds3 : List Str := [Str.ofString "b", Str.ofString "bold", Str.ofString "ink"]
def texts9 : List Str := [Str.ofString "a", Str.ofString "z", Str.ofString " ", Str.ofString ".", Str.ofString ",", Str.ofString "*pic", Str.ofString "#1.2", Str.ofString "#?", Str.ofString "#"]
structure Tk where
  k : Nat
  tx : Str
  mks : List (Str × Str)
structure Nn where
  k : Nat
  wd : Str
  sg : D
structure Bd where
  row : List Tk
  nts : List Nn
  rn : Nat
  cn : Nat
  wds : List (List Str)
structure En where
  num : Str
  pt : D
  bd : Option Bd
abbrev nm5 (k : Nat) : D := .tup [.str (Str.ofString "ann"), .int (5 + (k : Int)), .int 0]
def mkN (s : Dw) : Nat → List (Str × Str) × Dw
  | 0 => ([], s)
  | i + 1 =>
    let a := mkN s i
    (a.1 ++ (if 0 < drw a.2 3 then [((kinds3[i]?).getD Str.empty, if drw a.2 3 = 1 then Str.ofString "thin" else Str.ofString "x")] else []), nxt a.2 3)
def rowN (s : Dw) : Nat → List Tk × Dw
  | 0 => ([], s)
  | i + 1 =>
    let a := rowN s i
    let b := mkN a.2 3
    (a.1 ++ [⟨i, (texts9[(drw b.2 9).toNat]?).getD Str.empty, b.1⟩], nxt b.2 9)
def rowF (s : Dw) : List Tk × Dw := rowN (nxt s 15) (drw s 15).toNat
def nsN (row : List Tk) (s : Dw) : Nat → List Nn × Dw
  | 0 => ([], s)
  | i + 1 =>
    let a := nsN row s i
    (a.1 ++ [⟨i, if i % 2 = 0 then Str.ofString "hm" else Str.ofString "look", (((row.map fun t => nm5 t.k) ++ [.non])[(drw a.2 (row.length + 1)).toNat]?).getD .non⟩], nxt a.2 (row.length + 1))
def nsF (row : List Tk) (s : Dw) : List Nn × Dw := nsN row (nxt s 4) (drw s 4).toNat
def wdN (s : Dw) : Nat → List Str × Dw
  | 0 => ([], s)
  | i + 1 =>
    let a := wdN s i
    (a.1 ++ [([Str.ofString "", Str.ofString "ten", Str.ofString "abcdefgh"][(drw a.2 3).toNat]?).getD Str.empty], nxt a.2 3)
def lnN (c : Nat) (s : Dw) : Nat → List (List Str) × Dw
  | 0 => ([], s)
  | i + 1 =>
    let a := lnN c s i
    let b := wdN a.2 c
    (a.1 ++ [b.1], b.2)
end K47
end

section
set_option linter.all false
set_option autoImplicit false
set_option maxRecDepth 100000
set_option maxHeartbeats 4000000
namespace K47
open G
open PySem (Str)
local macro_rules | `(tactic| fail $s:str) => match s.getString with
  | "ne" => `(tactic| first | assumption | (apply Ne.symm; assumption) | exact ne_f1 (by assumption) (by fail "lk") | exact ne_f2 (by assumption) (by fail "lk") | grind [up, Sb])
  | "lk" => `(tactic| first | assumption | exact up_same | (refine up_at ?_ ?_; (· fail "ne"); fail "lk") | (refine Sb.at ?_ ?_; (· assumption); fail "lk"))
  | "sd" => `(tactic| first | (with_reducible show -(2 ^ 62) ≤ (_ : Int); first | omega | (simp only [List.length_map]; omega)) | (with_reducible show (_ : Int) < 2 ^ 62; first | omega | (simp only [List.length_map]; omega)) | assumption | rfl | (apply isT_lst; fail "lk") | (apply isT_dic; fail "lk") | decide | (simp only [List.length_cons, List.length_nil]; decide) | exact mulOk_l (by decide) (by decide) | exact mulOk_r (by decide) (by decide) | exact mulOk_l (by omega) (by omega) | exact mulOk_r (by omega) (by omega) | omega | (simp only [List.length_map]; omega))
  | "ls" => `(tactic| first | exact sq_tup | exact sq_rl | exact ls_rl | (apply ls_lst; fail "lk") | (apply sq_lst; fail "lk"))
  | "st" => `(tactic| first
  | ((with_reducible apply ix_lst); (· fail "lk"))
  | with_reducible apply ix_tup
  | with_reducible apply ix_str
  | with_reducible apply in_tup
  | with_reducible apply min_ii
  | with_reducible apply max_ii
  | ((with_reducible apply in_lst); (· fail "lk"))
  | ((with_reducible apply in_dic); (· fail "lk"))
  | ((with_reducible apply notIn_dic); (· fail "lk"))
  | ((with_reducible apply notIn_lst); (· fail "lk"))
  | with_reducible apply ix_rl
  | ((with_reducible apply ix_dic); (· fail "lk"))
  | ((with_reducible apply app_lst); (· fail "lk"))
  | ((with_reducible apply len_lst); (· fail "lk"))
  | with_reducible apply len_tup
  | with_reducible apply mulS_s
  | with_reducible apply fmt_str
  | with_reducible apply fmt_int
  | with_reducible apply cat_str
  | with_reducible apply str_int
  | with_reducible apply str_str
  | with_reducible apply len_rl
  | with_reducible apply len_str
  | ((with_reducible apply oIsT_lst); (· fail "lk"))
  | ((with_reducible apply dict_ls); (· fail "ls"))
  | ((with_reducible apply sl_ls); (· fail "ls"))
  | ((with_reducible apply rev_ls); (· fail "ls"))
  | ((with_reducible apply list_sq); (· fail "ls"))
  | ((with_reducible apply list_dic); (· fail "lk"))
  | ((with_reducible apply step_ls); (· fail "ls"))
  | ((with_reducible apply addL_ls); (· fail "ls"); (· fail "ls"))
  | ((with_reducible apply index_ls); (· fail "ls"))
  | ((with_reducible apply count_ls); (· fail "ls"))
  | ((with_reducible apply fill_dic); (· fail "lk"))
  | ((with_reducible apply max_ls); (· fail "ls"))
  | ((with_reducible apply sortK_ls); (· fail "ls"))
  | ((with_reducible apply sum_ls); (· fail "ls"))
  | ((with_reducible apply all_ls); (· fail "ls"))
  | ((with_reducible apply sorted_ls); (· fail "ls"))
  | ((with_reducible apply sortI_ls); (· fail "ls"))
  | ((with_reducible apply sortD_ls); (· fail "ls"))
  | ((with_reducible apply sortD_dic); (· fail "lk"))
  | ((with_reducible apply oIsT_dic); (· fail "lk"))
  | ((with_reducible apply walkD_lst); (· fail "lk"))
  | ((with_reducible apply walkD_dic); (· fail "lk"))
  | ((with_reducible apply walkI_dic); (· fail "lk"))
  | with_reducible apply walkD_tup
  | with_reducible apply walkD_rl
  | ((with_reducible apply walkL_lst); (· fail "lk"))
  | with_reducible apply walkL_rl
  | ((with_reducible apply mul_lst); (· fail "lk"))
  | ((with_reducible apply min_ls); (· fail "ls"))
  | ((with_reducible apply oAdd_lst); (· fail "lk"); (· fail "lk"))
  | ((with_reducible apply put_lst); (· fail "lk"))
  | ((with_reducible apply put_dic); (· fail "lk"))
  | ((with_reducible apply tru_lst); (· fail "lk"))
  | with_reducible apply oIsT_bl
  | with_reducible apply oIsT_int
  | with_reducible apply oIsT_str
  | with_reducible apply oIsT_tup
  | with_reducible apply oIsT_rl
  | with_reducible apply oIsT_non
  | with_reducible apply sl_tup
  | with_reducible apply sl_str
  | ((with_reducible apply get_dic); (· fail "lk"))
  | ((with_reducible apply get_dic2); (· fail "lk"))
  | ((with_reducible apply setdef_dic); (· fail "lk"))
  | ((with_reducible apply ext_lst); (· fail "lk"); (· fail "lk"))
  | ((with_reducible apply pop_lst); (· fail "lk"))
  | ((with_reducible apply popAt_lst); (· fail "lk"))
  | ((with_reducible apply ins_lst); (· fail "lk"))
  | ((with_reducible apply clr_lst); (· fail "lk"))
  | ((with_reducible apply clr_dic); (· fail "lk"))
  | ((with_reducible apply join_sq); (· fail "ls"))
  | ((with_reducible apply oEq_sst); (· with_reducible rfl))
  | ((with_reducible apply oEq_ssf); (· first | assumption | decide))
  | ((with_reducible apply oNe_sst); (· with_reducible rfl))
  | ((with_reducible apply oNe_ssf); (· first | assumption | decide))
  | ((with_reducible apply oEq_iit); (· with_reducible rfl))
  | ((with_reducible apply oEq_iif); (· first | assumption | decide))
  | ((with_reducible apply oNe_iit); (· with_reducible rfl))
  | ((with_reducible apply oNe_iif); (· first | assumption | decide))
  | refine Exists.intro _ (And.intro (rfl : atI _ _ = some _) ?_)
  | refine Exists.intro _ (And.intro (rfl : ixN _ _ = some _) ?_)
  | ((with_reducible refine And.intro ?_ ?_); (· fail "sd")))
  | _ => Lean.Macro.throwUnsupported
local macro_rules | `(tactic| nofun) => `(tactic| fail "ne")
local macro_rules | `(tactic| bv_omega) => `(tactic| fail "lk")
local macro_rules | `(tactic| ac_rfl) => `(tactic| fail "sd")
local macro_rules | `(tactic| trivial) => `(tactic| ((conv => whnf); repeat (fail "st"; (conv => whnf))))
/-! ### rows of a document -/
abbrev encMk (p : Str × Str) : D := .tup [.str p.1, .str p.2]
abbrev encT (A : Nat → Addr) (t : Tk) : D := .tup [nm5 t.k, .str t.tx, .ref (A t.k)]
structure RowAt (h : AH) (r : Addr) (A : Nat → Addr) (row : List Tk) : Prop where
  lst : h r = some (.lst (row.map (encT A)))
  mks : ∀ t ∈ row, h (A t.k) = some (.lst (t.mks.map encMk))
theorem RowAt.sb {h h' : AH} {r : Addr} {A : Nat → Addr} {row : List Tk} (x : RowAt h r A row) (s : Sb h h') : RowAt h' r A row := ⟨s _ _ x.lst, fun t ht => s _ _ (x.mks t ht)⟩
theorem rowN_len (s : Dw) : ∀ i, (rowN s i).1.length = i
  | 0 => rfl
  | i + 1 => by
    unfold rowN
    simp only [List.length_append, rowN_len s i]; rfl
theorem rowN_k (s : Dw) : ∀ i, ∀ t ∈ (rowN s i).1, t.k < i
  | 0 => fun t h => by cases h
  | i + 1 => fun t h => by
    unfold rowN at h
    rcases List.mem_append.mp h with g | g
    · exact Nat.lt_succ_of_lt (rowN_k s i t g)
    · rw [List.mem_singleton.mp g]; exact Nat.lt_succ_self i
theorem mkN_len (s : Dw) : ∀ i, (mkN s i).1.length ≤ i
  | 0 => Nat.le_refl _
  | i + 1 => by
    unfold mkN
    have := mkN_len s i
    simp only [List.length_append]
    split <;> simp <;> omega
theorem mkN_ok {s : Dw} (h : s.ok) : ∀ i, (mkN s i).2.ok
  | 0 => h
  | i + 1 => nxt_ok 3 (mkN_ok h i)
theorem rowN_ok {s : Dw} (h : s.ok) : ∀ i, (rowN s i).2.ok
  | 0 => h
  | i + 1 => nxt_ok 9 (mkN_ok (rowN_ok h i) 3)
theorem hm_in_up {h : AH} {S : List Addr} {a : Addr} {o : O} (e : a ∈ S) : Sb (hm h S) (hm (up h a o) S) := fun x u z => by
  have hx : x ∉ S := fun g => by rw [hm_in g] at z; cases z
  rw [hm_out hx] at z ⊢
  rw [up_ne (fun g => hx (by rw [g]; exact e))]; exact z
theorem hm_new {h : AH} {S : List Addr} {a : Addr} {o : O} (e : h a = none) : Sb (hm h S) (hm (up h a o) S) := fun x u z => by
  have hx : x ∉ S := fun g => by rw [hm_in g] at z; cases z
  rw [hm_out hx] at z ⊢
  rw [up_ne (fun g => by rw [g, e] at z; cases z)]; exact z
theorem hm_up {h0 h : AH} {a : Addr} {o : O} (s : Sb (hm h0 [a]) h) : Sb (hm h0 [a]) (up h a o) := fun x u e => by
  have hx : x ≠ a := fun z => by rw [z, hm_in (by simp)] at e; cases e
  rw [up_ne hx]; exact s _ _ e
theorem hm_upS {h0 h : AH} {S : List Addr} {a : Addr} {o : O} (s : Sb (hm h0 S) h) (e : a ∈ S) : Sb (hm h0 S) (up h a o) := fun x u z => by
  have hx : x ≠ a := fun g => by rw [g, hm_in e] at z; cases z
  rw [up_ne hx]; exact s _ _ z
theorem l_row_ok {h : AH} {p : Addr} {s : Dw} {Q : KD} (e : h p = some (encW s)) (ok : s.ok)
    (q : ∀ r A h', h r = none → Sb (hm h [p]) h' → h' p = some (encW (rowF s).2) → RowAt (hm h' [p]) r A (rowF s).1 → (∀ t ∈ (rowF s).1, h (A t.k) = none) → Q (.ref r) h') : f_l_row [.ref p] h Q := by
  unfold f_l_row
  trivial
  refine newL_i fun r nr => ?_
  have hpr : p ≠ r := fun z => by rw [z, nr] at e; cases e
  have e' := up_at (o := .lst []) hpr e
  trivial
  refine l_draw_ok e' ok (by omega) (by omega) ?_
  have b := drw_bd s (k := 15) (by omega)
  have ok1 := nxt_ok 15 ok
  have hF : rowF s = rowN (nxt s 15) (drw s 15).toNat := rfl
  generalize drw s 15 = c at b hF ⊢
  generalize nxt s 15 = s1 at ok1 hF ⊢
  generalize hH : up (up h r _) p _ = h1
  have er1 : h1 r = some (.lst []) := by rw [← hH]; exact up_at hpr.symm up_same
  have ep1 : h1 p = some (encW s1) := by rw [← hH]; exact up_same
  have sb1 : Sb (hm h [p]) h1 := by rw [← hH]; exact hm_up ((hm_sb _ _).upf' nr)
  clear hH e e'
  have hn : c = ((c.toNat : Nat) : Int) := by omega
  generalize c.toNat = n at hn hF
  subst hn
  trivial
  refine ⟨fun i ρ h' => i ≤ n ∧ ∃ x2 x3 x4 x5 x6 A, ρ = [some (.ref p), some (.ref r), x2, x3, x4, x5, x6] ∧ h' r = some (.lst ((rowN s1 i).1.map (encT A))) ∧ (∀ t ∈ (rowN s1 i).1, hm h' [p, r] (A t.k) = some (.lst (t.mks.map encMk))) ∧ h' p = some (encW (rowN s1 i).2) ∧ Sb (hm h [p]) h' ∧ (∀ t ∈ (rowN s1 i).1, h (A t.k) = none), ?_, ?_, ?_, ?_⟩
  · exact ⟨Nat.zero_le _, _, _, _, _, _, fun _ => 0, rfl, er1, (fun t ht => by cases ht), ep1, sb1, (fun t ht => by cases ht)⟩
  · rintro i ρ h' _ _
    exact True.intro
  · rintro i ρ h' d ⟨hi, x2, x3, x4, x5, x6, A, rfl, er, hA, ep, sb, hN⟩ hd
    obtain ⟨hi', rfl⟩ := rng_get hd
    rw [Int.toNat_natCast] at hi'
    rw [Int.zero_add]
    have ok2 := rowN_ok ok1 i
    have hlen := rowN_len s1 i
    have hk := rowN_k s1 i
    have hst : rowN s1 (i + 1) = ((rowN s1 i).1 ++ [⟨i, (texts9[(drw (mkN (rowN s1 i).2 3).2 9).toNat]?).getD Str.empty, (mkN (rowN s1 i).2 3).1⟩], nxt (mkN (rowN s1 i).2 3).2 9) := rfl
    generalize rowN s1 i = rr at er hA ep ok2 hlen hk hst hN
    obtain ⟨row, s2⟩ := rr
    simp only at er hA ep ok2 hlen hk hst hN
    clear hd
    trivial
    refine newL_i fun m nm => ?_
    have hpm : p ≠ m := fun z => by rw [z, nm] at ep; cases ep
    have hrm : r ≠ m := fun z => by rw [z, nm] at er; cases er
    have hm0 : h m = none := by have := sb.nn nm; rwa [hm_out (by simpa using hpm.symm)] at this
    trivial
    refine newL_i fun z nz => ?_
    have hpz : p ≠ z := fun g => by rw [← g, up_at hpm ep] at nz; cases nz
    have hrz : r ≠ z := fun g => by rw [← g, up_at hrm er] at nz; cases nz
    generalize hH : up (up h' m _) z _ = h2
    have nmm : m ≠ z := fun g => (up_none.mp nz).1 g.symm
    have em2 : h2 m = some (.lst []) := by rw [← hH]; exact up_at nmm up_same
    have ez2 : h2 z = some (.lst [.str (Str.ofString "b"), .str (Str.ofString "bold"), .str (Str.ofString "ink")]) := by rw [← hH]; exact up_same
    have er2 : h2 r = some (.lst (row.map (encT A))) := by rw [← hH]; exact up_at hrz (up_at hrm er)
    have ep2 : h2 p = some (encW s2) := by rw [← hH]; exact up_at hpz (up_at hpm ep)
    have sb2 : Sb (hm h [p]) h2 := by rw [← hH]; exact (sb.upf' nm).upf' nz
    have sA2 : Sb (hm h' [p, r]) (hm h2 [p, r]) := by rw [← hH]; exact (hm_new nm).trans (hm_new nz)
    have nm0 : hm h' [p, r] m = none := hm_nn nm
    clear hH
    trivial
    refine ⟨fun j ρ g => j ≤ 3 ∧ ∃ x4 x5, ρ = [some (.ref p), some (.ref r), some (.int i), some (.ref m), x4, x5, x6] ∧ g m = some (.lst ((mkN s2 j).1.map encMk)) ∧ g p = some (encW (mkN s2 j).2) ∧ Sb (hm h2 [p, m]) g, ?_, ?_, ?_, ?_⟩
    · exact ⟨by omega, _, _, rfl, em2, ep2, hm_sb _ _⟩
    · rintro j ρ g _ ⟨_, x4, x5, _, _, _, sg⟩
      exact hm_get sg ez2 (by simp [hpz.symm, nmm.symm])
    · rintro j ρ g d ⟨hj, x4, x5, rfl, em, ep, sg⟩ hd
      have hd' : (kinds3.map D.str)[j]? = some d := hd
      obtain ⟨kd, hkd, rfl⟩ := get_map hd'
      have hj3 : j < 3 := (List.getElem?_eq_some_iff.mp hkd).1
      have hst2 : mkN s2 (j + 1) = ((mkN s2 j).1 ++ (if 0 < drw (mkN s2 j).2 3 then [((kinds3[j]?).getD Str.empty, if drw (mkN s2 j).2 3 = 1 then Str.ofString "thin" else Str.ofString "x")] else []), nxt (mkN s2 j).2 3) := rfl
      rw [hkd, Option.getD_some] at hst2
      have okj := mkN_ok ok2 j
      have hlj := mkN_len s2 j
      have hw := drw_bd (mkN s2 j).2 (k := 3) (by omega)
      generalize mkN s2 j = aa at em ep hst2 okj hlj hw
      obtain ⟨ms, s3⟩ := aa
      simp only at em ep hst2 okj hlj hw
      clear hd hd' hkd
      trivial
      refine l_draw_ok ep okj (by omega) (by omega) ?_
      generalize drw s3 3 = w at hst2 hw ⊢
      generalize nxt s3 3 = s4 at hst2 ⊢
      have em' := up_at (o := encW s4) hpm.symm em
      have ep' : up g p (encW s4) p = some (encW s4) := up_same
      have sg' : Sb (hm h2 [p, m]) (up g p (encW s4)) := hm_upS sg (by simp)
      generalize up g p (encW s4) = g1 at em' ep' sg' ⊢
      clear em ep sg
      trivial
      refine onT_d (fun hw0 => ?_) (fun hw0 => ?_)
      · rw [if_pos hw0] at hst2
        trivial
        refine newL_i fun z2 nz2 => ?_
        have hm2 : m ≠ z2 := fun g => by rw [← g, em'] at nz2; cases nz2
        have hp2 : p ≠ z2 := fun g => by rw [← g, ep'] at nz2; cases nz2
        have em2' := up_at (o := .lst [.str (Str.ofString "thin"), .str (Str.ofString "x")]) hm2 em'
        have ep2' := up_at (o := .lst [.str (Str.ofString "thin"), .str (Str.ofString "x")]) hp2 ep'
        have ez : up g1 z2 (.lst [.str (Str.ofString "thin"), .str (Str.ofString "x")]) z2 = some (.lst [.str (Str.ofString "thin"), .str (Str.ofString "x")]) := up_same
        have sg2 : Sb (hm h2 [p, m]) (up g1 z2 (.lst [.str (Str.ofString "thin"), .str (Str.ofString "x")])) := sg'.upf' nz2
        generalize up g1 z2 (.lst [.str (Str.ofString "thin"), .str (Str.ofString "x")]) = g2 at em2' ep2' ez sg2 ⊢
        clear em' ep' sg'
        have hat : atI [D.str (Str.ofString "thin"), .str (Str.ofString "x")] (w - 1) = some (.str (if w = 1 then Str.ofString "thin" else Str.ofString "x")) := by
          have : w = 1 ∨ w = 2 := by omega
          rcases this with rfl | rfl <;> rfl
        trivial
        refine ⟨_, hat, ?_⟩
        clear hat ez
        trivial
        refine ⟨by rw [List.length_map, SZ]; omega, ?_⟩
        apply Pt.of
        exact ⟨hj3, _, _, rfl, by rw [up_same, hst2, List.map_append]; rfl, by rw [hst2]; exact up_at hpm ep2', hm_upS sg2 (by simp)⟩
      · rw [if_neg hw0, List.append_nil] at hst2
        trivial
        apply Pt.of
        exact ⟨hj3, _, _, rfl, by rw [hst2]; exact em', by rw [hst2]; exact ep', sg'⟩
    rintro ρ g ⟨_, x4, x5, rfl, em, ep, sg⟩
    have hl3 : (srcL z [D.str (Str.ofString "b"), D.str (Str.ofString "bold"), D.str (Str.ofString "ink")]).ds.length = 3 := rfl
    rw [hl3] at em ep
    have okm := mkN_ok ok2 3
    generalize mkN s2 3 = aa at em ep hst okm
    obtain ⟨ms, s3⟩ := aa
    simp only at em ep hst okm
    have er3 : g r = some (.lst (row.map (encT A))) := hm_get sg er2 (by simp [hpr.symm, hrm])
    have sb3 : Sb (hm h [p]) g := fun x u e => by
      have hx : x ≠ p := fun z => by rw [z, hm_in (by simp)] at e; cases e
      have e2 := sb2 _ _ e
      exact hm_get sg e2 (by
        simp only [List.mem_cons, List.not_mem_nil, or_false, not_or]
        refine ⟨hx, fun z => ?_⟩
        have := sb _ _ e
        rw [z, nm] at this; cases this)
    have sA3 : Sb (hm h' [p, r]) (hm g [p, r]) := fun x u e => by
      have hx : x ∉ [p, r] := fun z => by rw [hm_in z] at e; cases e
      have e2 := sA2 _ _ e
      rw [hm_out hx] at e2 ⊢
      exact hm_get sg e2 (by
        simp only [List.mem_cons, List.not_mem_nil, or_false, not_or] at hx ⊢
        refine ⟨hx.1, fun z => ?_⟩
        rw [z, nm0] at e; cases e)
    have hA3 := fun t ht => sA3 _ _ (hA t ht)
    have hnk : ∀ t ∈ row, A t.k ≠ m := fun t ht z => by have := hA t ht; rw [z, nm0] at this; cases this
    clear er2 ep2 sb2 sA2 sA3 sg em2 ez2 er hA sb
    trivial
    refine newL_i fun z5 nz5 => ?_
    have hp5 : p ≠ z5 := fun z => by rw [← z, ep] at nz5; cases nz5
    have hr5 : r ≠ z5 := fun z => by rw [← z, er3] at nz5; cases nz5
    have hm5 : m ≠ z5 := fun z => by rw [← z, em] at nz5; cases nz5
    trivial
    refine l_draw_ok (up_at hp5 ep) okm (by omega) (by omega) ?_
    have hw := drw_bd s3 (k := 9) (by omega)
    generalize drw s3 9 = w at hst hw ⊢
    generalize nxt s3 9 = s4 at hst ⊢
    generalize hH : up (up g z5 _) p _ = g4
    have ep4 : g4 p = some (encW s4) := by rw [← hH]; exact up_same
    have ez4 : g4 z5 = some (.lst (texts9.map D.str)) := by rw [← hH]; exact up_at hp5.symm up_same
    have em4 : g4 m = some (.lst (ms.map encMk)) := by rw [← hH]; exact up_at hpm.symm (up_at hm5 em)
    have er4 : g4 r = some (.lst (row.map (encT A))) := by rw [← hH]; exact up_at hpr.symm (up_at hr5 er3)
    have sb4 : Sb (hm h [p]) g4 := by rw [← hH]; exact hm_up (sb3.upf' nz5)
    have sA4 : Sb (hm g [p, r]) (hm g4 [p, r]) := by rw [← hH]; exact (hm_new nz5).trans (hm_in_up (by simp))
    have hA4 := fun t ht => sA4 _ _ (hA3 t ht)
    clear hH ep er3 em sb3 hA3 sA4 nz5
    obtain ⟨tx, htx⟩ : ∃ tx, texts9[w.toNat]? = some tx := ⟨_, List.getElem?_eq_getElem (show w.toNat < texts9.length by show w.toNat < 9; omega)⟩
    rw [htx, Option.getD_some] at hst
    have hat : atI (texts9.map D.str) w = some (.str tx) := by
      have : w = ((w.toNat : Nat) : Int) := by omega
      rw [this]
      exact atI_nat (by rw [List.getElem?_map, htx]; rfl)
    have etx : texts9.map D.str = [D.str (Str.ofString "a"), .str (Str.ofString "z"), .str (Str.ofString " "), .str (Str.ofString "."), .str (Str.ofString ","), .str (Str.ofString "*pic"), .str (Str.ofString "#1.2"), .str (Str.ofString "#?"), .str (Str.ofString "#")] := rfl
    generalize texts9.map D.str = t9 at ez4 hat
    clear etx htx
    trivial
    refine ⟨_, hat, ?_⟩
    clear hat ez4
    trivial
    refine ⟨by rw [List.length_map, SZ]; omega, ?_⟩
    apply Pt.of
    have hmr : m ≠ r := fun z => hrm z.symm
    have emap : row.map (encT A) = row.map (encT fun j => if j = i then m else A j) := List.map_congr_left fun t ht => by
      show D.tup [nm5 t.k, .str t.tx, .ref (A t.k)] = D.tup [nm5 t.k, .str t.tx, .ref (if t.k = i then m else A t.k)]
      rw [if_neg (Nat.ne_of_lt (hk t ht))]
    refine ⟨hi', _, _, _, _, _, fun j => if j = i then m else A j, rfl, ?_, fun t ht => ?_, ?_, ?_, fun t ht => ?_⟩
    · rw [up_same, hst, List.map_append, emap]
      show some (O.lst (_ ++ [D.tup [nm5 i, .str tx, .ref m]])) = some (O.lst (_ ++ [D.tup [nm5 i, .str tx, .ref (if i = i then m else A i)]]))
      rw [if_pos rfl]
    · have sA5 : Sb (hm g4 [p, r]) (hm (up g4 r (.lst (row.map (encT A) ++ [D.tup [nm5 i, .str tx, .ref m]]))) [p, r]) := hm_in_up (by simp)
      rw [hst] at ht
      rcases List.mem_append.mp ht with g' | g'
      · show hm _ _ (if t.k = i then m else A t.k) = _
        rw [if_neg (Nat.ne_of_lt (hk t g'))]
        exact sA5 _ _ (hA4 t g')
      · rw [List.mem_singleton.mp g']
        simp only [if_true]
        refine sA5 _ _ ?_
        rw [hm_out (by simp [hpm.symm, hmr])]
        exact em4
    · rw [hst]; exact up_at hpr ep4
    · exact fun x u z => by
        by_cases c : x = r
        · rw [c, hm_nn nr] at z; cases z
        · rw [up_ne c]; exact sb4 _ _ z
    · show h (if t.k = i then m else A t.k) = none
      rw [hst] at ht
      rcases List.mem_append.mp ht with g' | g'
      · rw [if_neg (Nat.ne_of_lt (hk t g'))]; exact hN t g'
      · rw [List.mem_singleton.mp g', if_pos rfl]; exact hm0
  rintro ρ h' ⟨_, x2, x3, x4, x5, x6, A, rfl, er, hA, ep, sb, hN⟩
  rw [rng_len, Int.toNat_natCast, ← hF] at er hA ep hN
  trivial
  refine ⟨_, Sb.refl _, q r A h' nr sb ep ⟨?_, fun t ht => ?_⟩ hN⟩
  · rw [hm_out (by simp [hpr.symm])]; exact er
  · have h2 := hA t ht
    have hx : A t.k ∉ [p, r] := fun z => by rw [hm_in z] at h2; cases h2
    rw [hm_out hx] at h2
    rw [hm_out fun z => hx (by simp only [List.mem_cons, List.not_mem_nil, or_false] at z ⊢; exact .inl z)]
    exact h2
end K47
end

section
set_option linter.all false
set_option autoImplicit false
set_option maxRecDepth 100000
set_option maxHeartbeats 4000000
namespace K47
open G
open PySem (Str)
local macro_rules | `(tactic| fail $s:str) => match s.getString with
  | "ne" => `(tactic| first | assumption | (apply Ne.symm; assumption) | exact ne_f1 (by assumption) (by fail "lk") | exact ne_f2 (by assumption) (by fail "lk") | grind [up, Sb])
  | "lk" => `(tactic| first | assumption | exact up_same | (refine up_at ?_ ?_; (· fail "ne"); fail "lk") | (refine Sb.at ?_ ?_; (· assumption); fail "lk"))
  | "sd" => `(tactic| first | (with_reducible show -(2 ^ 62) ≤ (_ : Int); first | omega | (simp only [List.length_map]; omega)) | (with_reducible show (_ : Int) < 2 ^ 62; first | omega | (simp only [List.length_map]; omega)) | assumption | rfl | (apply isT_lst; fail "lk") | (apply isT_dic; fail "lk") | decide | (simp only [List.length_cons, List.length_nil]; decide) | exact mulOk_l (by decide) (by decide) | exact mulOk_r (by decide) (by decide) | exact mulOk_l (by omega) (by omega) | exact mulOk_r (by omega) (by omega) | omega | (simp only [List.length_map]; omega))
  | "ls" => `(tactic| first | exact sq_tup | exact sq_rl | exact ls_rl | (apply ls_lst; fail "lk") | (apply sq_lst; fail "lk"))
  | "st" => `(tactic| first
  | ((with_reducible apply ix_lst); (· fail "lk"))
  | with_reducible apply ix_tup
  | with_reducible apply ix_str
  | with_reducible apply in_tup
  | with_reducible apply min_ii
  | with_reducible apply max_ii
  | ((with_reducible apply in_lst); (· fail "lk"))
  | ((with_reducible apply in_dic); (· fail "lk"))
  | ((with_reducible apply notIn_dic); (· fail "lk"))
  | ((with_reducible apply notIn_lst); (· fail "lk"))
  | with_reducible apply ix_rl
  | ((with_reducible apply ix_dic); (· fail "lk"))
  | ((with_reducible apply app_lst); (· fail "lk"))
  | ((with_reducible apply len_lst); (· fail "lk"))
  | with_reducible apply len_tup
  | with_reducible apply mulS_s
  | with_reducible apply fmt_str
  | with_reducible apply fmt_int
  | with_reducible apply cat_str
  | with_reducible apply str_int
  | with_reducible apply str_str
  | with_reducible apply len_rl
  | with_reducible apply len_str
  | ((with_reducible apply oIsT_lst); (· fail "lk"))
  | ((with_reducible apply dict_ls); (· fail "ls"))
  | ((with_reducible apply sl_ls); (· fail "ls"))
  | ((with_reducible apply rev_ls); (· fail "ls"))
  | ((with_reducible apply list_sq); (· fail "ls"))
  | ((with_reducible apply list_dic); (· fail "lk"))
  | ((with_reducible apply step_ls); (· fail "ls"))
  | ((with_reducible apply addL_ls); (· fail "ls"); (· fail "ls"))
  | ((with_reducible apply index_ls); (· fail "ls"))
  | ((with_reducible apply count_ls); (· fail "ls"))
  | ((with_reducible apply fill_dic); (· fail "lk"))
  | ((with_reducible apply max_ls); (· fail "ls"))
  | ((with_reducible apply sortK_ls); (· fail "ls"))
  | ((with_reducible apply sum_ls); (· fail "ls"))
  | ((with_reducible apply all_ls); (· fail "ls"))
  | ((with_reducible apply sorted_ls); (· fail "ls"))
  | ((with_reducible apply sortI_ls); (· fail "ls"))
  | ((with_reducible apply sortD_ls); (· fail "ls"))
  | ((with_reducible apply sortD_dic); (· fail "lk"))
  | ((with_reducible apply oIsT_dic); (· fail "lk"))
  | ((with_reducible apply walkD_lst); (· fail "lk"))
  | ((with_reducible apply walkD_dic); (· fail "lk"))
  | ((with_reducible apply walkI_dic); (· fail "lk"))
  | with_reducible apply walkD_tup
  | with_reducible apply walkD_rl
  | ((with_reducible apply walkL_lst); (· fail "lk"))
  | with_reducible apply walkL_rl
  | ((with_reducible apply mul_lst); (· fail "lk"))
  | ((with_reducible apply min_ls); (· fail "ls"))
  | ((with_reducible apply oAdd_lst); (· fail "lk"); (· fail "lk"))
  | ((with_reducible apply put_lst); (· fail "lk"))
  | ((with_reducible apply put_dic); (· fail "lk"))
  | ((with_reducible apply tru_lst); (· fail "lk"))
  | with_reducible apply oIsT_bl
  | with_reducible apply oIsT_int
  | with_reducible apply oIsT_str
  | with_reducible apply oIsT_tup
  | with_reducible apply oIsT_rl
  | with_reducible apply oIsT_non
  | with_reducible apply sl_tup
  | with_reducible apply sl_str
  | ((with_reducible apply get_dic); (· fail "lk"))
  | ((with_reducible apply get_dic2); (· fail "lk"))
  | ((with_reducible apply setdef_dic); (· fail "lk"))
  | ((with_reducible apply ext_lst); (· fail "lk"); (· fail "lk"))
  | ((with_reducible apply pop_lst); (· fail "lk"))
  | ((with_reducible apply popAt_lst); (· fail "lk"))
  | ((with_reducible apply ins_lst); (· fail "lk"))
  | ((with_reducible apply clr_lst); (· fail "lk"))
  | ((with_reducible apply clr_dic); (· fail "lk"))
  | ((with_reducible apply join_sq); (· fail "ls"))
  | ((with_reducible apply oEq_sst); (· with_reducible rfl))
  | ((with_reducible apply oEq_ssf); (· first | assumption | decide))
  | ((with_reducible apply oNe_sst); (· with_reducible rfl))
  | ((with_reducible apply oNe_ssf); (· first | assumption | decide))
  | ((with_reducible apply oEq_iit); (· with_reducible rfl))
  | ((with_reducible apply oEq_iif); (· first | assumption | decide))
  | ((with_reducible apply oNe_iit); (· with_reducible rfl))
  | ((with_reducible apply oNe_iif); (· first | assumption | decide))
  | refine Exists.intro _ (And.intro (rfl : atI _ _ = some _) ?_)
  | refine Exists.intro _ (And.intro (rfl : ixN _ _ = some _) ?_)
  | ((with_reducible refine And.intro ?_ ?_); (· fail "sd")))
  | _ => Lean.Macro.throwUnsupported
local macro_rules | `(tactic| nofun) => `(tactic| fail "ne")
local macro_rules | `(tactic| bv_omega) => `(tactic| fail "lk")
local macro_rules | `(tactic| ac_rfl) => `(tactic| fail "sd")
local macro_rules | `(tactic| trivial) => `(tactic| ((conv => whnf); repeat (fail "st"; (conv => whnf))))
/-! ### notes of a document -/
theorem take_snoc {α : Type} {L : List α} {i : Nat} {l : α} (e : L[i]? = some l) : L.take (i + 1) = L.take i ++ [l] := by rw [List.take_succ, e]; rfl
abbrev encNn (x : Nn) : D := .tup [.tup [.str (Str.ofString "bo"), .int (30 + (x.k : Int))], .str x.wd, x.sg]
def nmsR (row : List Tk) : List D := (row.map fun t => nm5 t.k) ++ [.non]
theorem nmsR_len (row : List Tk) : (nmsR row).length = row.length + 1 := by simp [nmsR]
theorem nsN_len (row : List Tk) (s : Dw) : ∀ i, (nsN row s i).1.length = i
  | 0 => rfl
  | i + 1 => by
    unfold nsN
    simp only [List.length_append, nsN_len row s i]; rfl
theorem nsN_ok {row : List Tk} {s : Dw} (h : s.ok) : ∀ i, (nsN row s i).2.ok
  | 0 => h
  | i + 1 => nxt_ok _ (nsN_ok h i)
theorem l_notes_ok {h : AH} {p r : Addr} {A : Nat → Addr} {row : List Tk} {s : Dw} {Q : KD} (e : h p = some (encW s)) (ok : s.ok) (hr : RowAt h r A row) (hpr : p ≠ r) (lr : row.length ≤ 15)
    (q : ∀ n h', h n = none → Sb (hm h [p]) h' → h' p = some (encW (nsF row s).2) → h' n = some (.lst ((nsF row s).1.map encNn)) → Q (.ref n) h') : f_l_notes [.ref p, .ref r] h Q := by
  have er := hr.lst
  unfold f_l_notes
  trivial
  refine newL_i fun n nn => ?_
  have hpn : p ≠ n := fun z => by rw [z, nn] at e; cases e
  have hrn : r ≠ n := fun z => by rw [z, nn] at er; cases er
  have e' := up_at (o := .lst []) hpn e
  trivial
  refine l_draw_ok e' ok (by omega) (by omega) ?_
  have b := drw_bd s (k := 4) (by omega)
  have ok1 := nxt_ok 4 ok
  have hF : nsF row s = nsN row (nxt s 4) (drw s 4).toNat := rfl
  generalize drw s 4 = c at b hF ⊢
  generalize nxt s 4 = s1 at ok1 hF ⊢
  generalize hH : up (up h n _) p _ = h1
  have en1 : h1 n = some (.lst []) := by rw [← hH]; exact up_at hpn.symm up_same
  have ep1 : h1 p = some (encW s1) := by rw [← hH]; exact up_same
  have sb1 : Sb (hm h [p]) h1 := by rw [← hH]; exact hm_up ((hm_sb _ _).upf' nn)
  clear hH e'
  have hn : c = ((c.toNat : Nat) : Int) := by omega
  generalize c.toNat = w at hn hF
  subst hn
  trivial
  refine ⟨fun i ρ h' => i ≤ w ∧ ∃ x3 x4 x5, ρ = [some (.ref p), some (.ref r), some (.ref n), x3, x4, x5] ∧ h' n = some (.lst ((nsN row s1 i).1.map encNn)) ∧ h' p = some (encW (nsN row s1 i).2) ∧ Sb (hm h [p]) h', ?_, ?_, ?_, ?_⟩
  · exact ⟨Nat.zero_le _, _, _, _, rfl, en1, ep1, sb1⟩
  · rintro i ρ h' _ _
    exact True.intro
  · rintro i ρ h' d ⟨hi, x3, x4, x5, rfl, en, ep, sb⟩ hd
    obtain ⟨hi', rfl⟩ := rng_get hd
    rw [Int.toNat_natCast] at hi'
    rw [Int.zero_add]
    have ok2 := nsN_ok (row := row) ok1 i
    have hlen := nsN_len row s1 i
    have hst : nsN row s1 (i + 1) = ((nsN row s1 i).1 ++ [⟨i, if i % 2 = 0 then Str.ofString "hm" else Str.ofString "look", ((nmsR row)[(drw (nsN row s1 i).2 (row.length + 1)).toNat]?).getD .non⟩], nxt (nsN row s1 i).2 (row.length + 1)) := rfl
    generalize nsN row s1 i = rr at en ep ok2 hlen hst
    obtain ⟨ns, s2⟩ := rr
    simp only at en ep ok2 hlen hst
    have er' := hm_get sb er (by simpa using hpr.symm)
    clear hd
    trivial
    intro f nf
    refine ⟨fun j acc g => j ≤ row.length ∧ acc = (row.take j).map (fun t => nm5 t.k) ∧ g = up h' f (.lst acc), ?_, ?_, ?_, ?_⟩
    · exact ⟨Nat.zero_le _, rfl, rfl⟩
    · rintro j acc g _ ⟨_, rfl, rfl⟩
      exact ⟨up_at (by nofun) er', up_same⟩
    · rintro j acc g d ⟨hj, rfl, rfl⟩ hd
      obtain ⟨t, ht, rfl⟩ := get_map hd
      have hjl := (List.getElem?_eq_some_iff.mp ht).1
      clear hd
      trivial
      refine ⟨by rw [List.length_map, List.length_take, SZ]; omega, up_same, ?_⟩
      rw [up_up]
      apply Pt.of
      exact ⟨hjl, by rw [take_snoc ht, List.map_append]; rfl, rfl⟩
    rintro acc g ⟨_, rfl, rfl⟩
    rw [show row.take (srcL r (row.map (encT A))).ds.length = row from List.take_of_length_le (by simp [srcL])]
    trivial
    refine newL_i fun z1 nz1 => ?_
    trivial
    refine ⟨by rw [List.length_map, List.length_singleton, SZ]; omega, newL_i fun z2 nz2 => ?_⟩
    generalize hH : up (up (up h' f _) z1 _) z2 _ = g1
    have s1' : Sb h' g1 := by rw [← hH]; exact (((Sb.refl _).upf' nf).upf' nz1).upf' nz2
    have ez2 : g1 z2 = some (.lst (nmsR row)) := by rw [← hH]; exact up_same
    have en1 := s1' _ _ en
    have ep1 := s1' _ _ ep
    have sb1 := sb.trans s1'
    have np2 : p ≠ z2 := fun z => by have h1 := up_none.mp nz2; have h2 := (up_none.mp h1.2).2; rw [← z, ep] at h2; cases h2
    clear hH nz1 nz2 nf s1' en ep sb er'
    have hnl := nmsR_len row
    generalize nmsR row = nr at ez2 hst hnl
    trivial
    refine newL_i fun z3 nz3 => ?_
    have np3 : p ≠ z3 := fun z => by rw [← z, ep1] at nz3; cases nz3
    have ep2 := up_at (o := .lst [.str (Str.ofString "hm"), .str (Str.ofString "look")]) np3 ep1
    have ez3 := up_at (o := .lst [.str (Str.ofString "hm"), .str (Str.ofString "look")]) (show z2 ≠ z3 by nofun) ez2
    have en2 := up_at (o := .lst [.str (Str.ofString "hm"), .str (Str.ofString "look")]) (show n ≠ z3 by nofun) en1
    have sb2 : Sb (hm h [p]) (up g1 z3 (.lst [.str (Str.ofString "hm"), .str (Str.ofString "look")])) := sb1.upf' nz3
    have e3 : up g1 z3 (.lst [.str (Str.ofString "hm"), .str (Str.ofString "look")]) z3 = some (.lst [.str (Str.ofString "hm"), .str (Str.ofString "look")]) := up_same
    generalize up g1 z3 (.lst [.str (Str.ofString "hm"), .str (Str.ofString "look")]) = g2 at ep2 ez3 en2 sb2 e3 ⊢
    clear ep1 ez2 en1 sb1 nz3
    have hat : atI [D.str (Str.ofString "hm"), .str (Str.ofString "look")] ((i : Int) % 2) = some (.str (if i % 2 = 0 then Str.ofString "hm" else Str.ofString "look")) := by
      have : i % 2 = 0 ∨ i % 2 = 1 := by omega
      rcases this with h | h
      · rw [show (i : Int) % 2 = 0 by omega, h]; rfl
      · rw [show (i : Int) % 2 = 1 by omega, h]; rfl
    trivial
    refine ⟨_, hat, ?_⟩
    clear hat e3
    trivial
    rw [hnl, show ((row.length + 1 : Nat) : Int) = (row.length : Int) + 1 from rfl]
    refine l_draw_ok ep2 ok2 (by omega) (by omega) ?_
    have hw := drw_bd s2 (k := (row.length : Int) + 1) (by omega)
    generalize drw s2 ((row.length : Int) + 1) = v at hst hw ⊢
    generalize nxt s2 ((row.length : Int) + 1) = s3 at hst ⊢
    obtain ⟨x, hx⟩ : ∃ x, nr[v.toNat]? = some x := ⟨_, List.getElem?_eq_getElem (show v.toNat < nr.length by omega)⟩
    rw [hx, Option.getD_some] at hst
    have hat : atI nr v = some x := by
      have : v = ((v.toNat : Nat) : Int) := by omega
      rw [this]
      exact atI_nat hx
    have ez4 := up_at (o := encW s3) np2.symm ez3
    have en4 := up_at (o := encW s3) hpn.symm en2
    have ep4 : up g2 p (encW s3) p = some (encW s3) := up_same
    have sb4 : Sb (hm h [p]) (up g2 p (encW s3)) := hm_up sb2
    generalize up g2 p (encW s3) = g3 at ez4 en4 ep4 sb4 ⊢
    clear ep2 ez3 en2 sb2
    trivial
    refine ⟨_, hat, ?_⟩
    clear hat ez4
    trivial
    refine ⟨by rw [List.length_map, SZ]; omega, ?_⟩
    apply Pt.of
    refine ⟨hi', _, _, _, rfl, ?_, ?_, ?_⟩
    · rw [up_same, hst, List.map_append]; rfl
    · rw [hst]; exact up_at hpn ep4
    · exact fun x u z => by
        by_cases c : x = n
        · rw [c, hm_nn nn] at z; cases z
        · rw [up_ne c]; exact sb4 _ _ z
  rintro ρ h' ⟨_, x3, x4, x5, rfl, en, ep, sb⟩
  rw [rng_len, Int.toNat_natCast, ← hF] at en ep
  trivial
  exact ⟨_, Sb.refl _, q n h' nn sb ep en⟩
end K47
end

section
set_option linter.all false
set_option autoImplicit false
set_option maxRecDepth 100000
set_option maxHeartbeats 4000000
namespace K47
open G
open PySem (Str)
local macro_rules | `(tactic| fail $s:str) => match s.getString with
  | "ne" => `(tactic| first | assumption | (apply Ne.symm; assumption) | exact ne_f1 (by assumption) (by fail "lk") | exact ne_f2 (by assumption) (by fail "lk") | grind [up, Sb])
  | "lk" => `(tactic| first | assumption | exact up_same | (refine up_at ?_ ?_; (· fail "ne"); fail "lk") | (refine Sb.at ?_ ?_; (· assumption); fail "lk"))
  | "sd" => `(tactic| first | (with_reducible show -(2 ^ 62) ≤ (_ : Int); first | omega | (simp only [List.length_map]; omega)) | (with_reducible show (_ : Int) < 2 ^ 62; first | omega | (simp only [List.length_map]; omega)) | assumption | rfl | (apply isT_lst; fail "lk") | (apply isT_dic; fail "lk") | decide | (simp only [List.length_cons, List.length_nil]; decide) | exact mulOk_l (by decide) (by decide) | exact mulOk_r (by decide) (by decide) | exact mulOk_l (by omega) (by omega) | exact mulOk_r (by omega) (by omega) | omega | (simp only [List.length_map]; omega))
  | "ls" => `(tactic| first | exact sq_tup | exact sq_rl | exact ls_rl | (apply ls_lst; fail "lk") | (apply sq_lst; fail "lk"))
  | "st" => `(tactic| first
  | ((with_reducible apply ix_lst); (· fail "lk"))
  | with_reducible apply ix_tup
  | with_reducible apply ix_str
  | with_reducible apply in_tup
  | with_reducible apply min_ii
  | with_reducible apply max_ii
  | ((with_reducible apply in_lst); (· fail "lk"))
  | ((with_reducible apply in_dic); (· fail "lk"))
  | ((with_reducible apply notIn_dic); (· fail "lk"))
  | ((with_reducible apply notIn_lst); (· fail "lk"))
  | with_reducible apply ix_rl
  | ((with_reducible apply ix_dic); (· fail "lk"))
  | ((with_reducible apply app_lst); (· fail "lk"))
  | ((with_reducible apply len_lst); (· fail "lk"))
  | with_reducible apply len_tup
  | with_reducible apply mulS_s
  | with_reducible apply fmt_str
  | with_reducible apply fmt_int
  | with_reducible apply cat_str
  | with_reducible apply str_int
  | with_reducible apply str_str
  | with_reducible apply len_rl
  | with_reducible apply len_str
  | ((with_reducible apply oIsT_lst); (· fail "lk"))
  | ((with_reducible apply dict_ls); (· fail "ls"))
  | ((with_reducible apply sl_ls); (· fail "ls"))
  | ((with_reducible apply rev_ls); (· fail "ls"))
  | ((with_reducible apply list_sq); (· fail "ls"))
  | ((with_reducible apply list_dic); (· fail "lk"))
  | ((with_reducible apply step_ls); (· fail "ls"))
  | ((with_reducible apply addL_ls); (· fail "ls"); (· fail "ls"))
  | ((with_reducible apply index_ls); (· fail "ls"))
  | ((with_reducible apply count_ls); (· fail "ls"))
  | ((with_reducible apply fill_dic); (· fail "lk"))
  | ((with_reducible apply max_ls); (· fail "ls"))
  | ((with_reducible apply sortK_ls); (· fail "ls"))
  | ((with_reducible apply sum_ls); (· fail "ls"))
  | ((with_reducible apply all_ls); (· fail "ls"))
  | ((with_reducible apply sorted_ls); (· fail "ls"))
  | ((with_reducible apply sortI_ls); (· fail "ls"))
  | ((with_reducible apply sortD_ls); (· fail "ls"))
  | ((with_reducible apply sortD_dic); (· fail "lk"))
  | ((with_reducible apply oIsT_dic); (· fail "lk"))
  | ((with_reducible apply walkD_lst); (· fail "lk"))
  | ((with_reducible apply walkD_dic); (· fail "lk"))
  | ((with_reducible apply walkI_dic); (· fail "lk"))
  | with_reducible apply walkD_tup
  | with_reducible apply walkD_rl
  | ((with_reducible apply walkL_lst); (· fail "lk"))
  | with_reducible apply walkL_rl
  | ((with_reducible apply mul_lst); (· fail "lk"))
  | ((with_reducible apply min_ls); (· fail "ls"))
  | ((with_reducible apply oAdd_lst); (· fail "lk"); (· fail "lk"))
  | ((with_reducible apply put_lst); (· fail "lk"))
  | ((with_reducible apply put_dic); (· fail "lk"))
  | ((with_reducible apply tru_lst); (· fail "lk"))
  | with_reducible apply oIsT_bl
  | with_reducible apply oIsT_int
  | with_reducible apply oIsT_str
  | with_reducible apply oIsT_tup
  | with_reducible apply oIsT_rl
  | with_reducible apply oIsT_non
  | with_reducible apply sl_tup
  | with_reducible apply sl_str
  | ((with_reducible apply get_dic); (· fail "lk"))
  | ((with_reducible apply get_dic2); (· fail "lk"))
  | ((with_reducible apply setdef_dic); (· fail "lk"))
  | ((with_reducible apply ext_lst); (· fail "lk"); (· fail "lk"))
  | ((with_reducible apply pop_lst); (· fail "lk"))
  | ((with_reducible apply popAt_lst); (· fail "lk"))
  | ((with_reducible apply ins_lst); (· fail "lk"))
  | ((with_reducible apply clr_lst); (· fail "lk"))
  | ((with_reducible apply clr_dic); (· fail "lk"))
  | ((with_reducible apply join_sq); (· fail "ls"))
  | ((with_reducible apply oEq_sst); (· with_reducible rfl))
  | ((with_reducible apply oEq_ssf); (· first | assumption | decide))
  | ((with_reducible apply oNe_sst); (· with_reducible rfl))
  | ((with_reducible apply oNe_ssf); (· first | assumption | decide))
  | ((with_reducible apply oEq_iit); (· with_reducible rfl))
  | ((with_reducible apply oEq_iif); (· first | assumption | decide))
  | ((with_reducible apply oNe_iit); (· with_reducible rfl))
  | ((with_reducible apply oNe_iif); (· first | assumption | decide))
  | refine Exists.intro _ (And.intro (rfl : atI _ _ = some _) ?_)
  | refine Exists.intro _ (And.intro (rfl : ixN _ _ = some _) ?_)
  | ((with_reducible refine And.intro ?_ ?_); (· fail "sd")))
  | _ => Lean.Macro.throwUnsupported
local macro_rules | `(tactic| nofun) => `(tactic| fail "ne")
local macro_rules | `(tactic| bv_omega) => `(tactic| fail "lk")
local macro_rules | `(tactic| ac_rfl) => `(tactic| fail "sd")
local macro_rules | `(tactic| trivial) => `(tactic| ((conv => whnf); repeat (fail "st"; (conv => whnf))))
/-! ### tables of a document -/
def tabR (b : Int) (n : Nat) : List D := (List.range n).map fun (i : Nat) => .tup [.str (Str.ofString "ann"), .int (b + (i : Int))]
theorem tabR_snoc (b : Int) (n : Nat) : tabR b (n + 1) = tabR b n ++ [.tup [.str (Str.ofString "ann"), .int (b + (n : Int))]] := by unfold tabR; rw [List.range_succ, List.map_append]; rfl
theorem tabR_len (b : Int) (n : Nat) : (tabR b n).length = n := by simp [tabR]
def rfs (B : Nat → Addr) (n : Nat) : List D := (List.range n).map fun i => .ref (B i)
theorem rfs_len (B : Nat → Addr) (n : Nat) : (rfs B n).length = n := by simp [rfs]
theorem rfs_snoc (B : Nat → Addr) (n : Nat) (m : Addr) : rfs (fun j => if j = n then m else B j) (n + 1) = rfs B n ++ [.ref m] := by
  unfold rfs
  rw [List.range_succ, List.map_append]
  congr 1
  · refine List.map_congr_left fun i hi => ?_
    show D.ref (if i = n then m else B i) = _
    rw [if_neg (Nat.ne_of_lt (List.mem_range.mp hi))]
  · show [D.ref (if n = n then m else B n)] = _
    rw [if_pos rfl]
theorem rfs_at {B : Nat → Addr} {n i : Nat} (h : i < n) : (rfs B n)[i]? = some (.ref (B i)) := by
  unfold rfs
  rw [List.getElem?_map, List.getElem?_range h]; rfl
structure WdAt (h : AH) (r : Addr) (B : Nat → Addr) (wds : List (List Str)) : Prop where
  lst : h r = some (.lst (rfs B wds.length))
  wd : ∀ i l, wds[i]? = some l → h (B i) = some (.lst (l.map .str))
theorem WdAt.sb {h h' : AH} {r : Addr} {B : Nat → Addr} {wds : List (List Str)} (x : WdAt h r B wds) (s : Sb h h') : WdAt h' r B wds := ⟨s _ _ x.lst, fun i l hl => s _ _ (x.wd i l hl)⟩
def tabF (s : Dw) : Nat × Nat × List (List Str) × Dw := ((drw s 4).toNat, (drw (nxt s 4) 4).toNat, lnN (drw (nxt s 4) 4).toNat (nxt (nxt s 4) 4) (drw s 4).toNat)
theorem wdN_len (s : Dw) : ∀ i, (wdN s i).1.length = i
  | 0 => rfl
  | i + 1 => by
    unfold wdN
    simp only [List.length_append, wdN_len s i]; rfl
theorem wdN_ok {s : Dw} (h : s.ok) : ∀ i, (wdN s i).2.ok
  | 0 => h
  | i + 1 => nxt_ok _ (wdN_ok h i)
theorem lnN_len (c : Nat) (s : Dw) : ∀ i, (lnN c s i).1.length = i
  | 0 => rfl
  | i + 1 => by
    unfold lnN
    simp only [List.length_append, lnN_len c s i]; rfl
theorem lnN_ok {c : Nat} {s : Dw} (h : s.ok) : ∀ i, (lnN c s i).2.ok
  | 0 => h
  | i + 1 => wdN_ok (lnN_ok h i) c
theorem l_table_ok {h : AH} {p : Addr} {s : Dw} {Q : KD} (e : h p = some (encW s)) (ok : s.ok)
    (q : ∀ a b c B h', Sb (hm h [p]) h' → h' p = some (encW (tabF s).2.2.2) → hm h' [p] a = some (.lst (tabR 50 (tabF s).1)) → hm h' [p] b = some (.lst (tabR 60 (tabF s).2.1)) → WdAt (hm h' [p]) c B (tabF s).2.2.1 → hm h [p] a = none → hm h [p] b = none → hm h [p] c = none → (∀ i l, (tabF s).2.2.1[i]? = some l → hm h [p] (B i) = none) → Q (.tup [.ref a, .ref b, .ref c]) h') : f_l_table [.ref p] h Q := by
  have hF : tabF s = ((drw s 4).toNat, (drw (nxt s 4) 4).toNat, lnN (drw (nxt s 4) 4).toNat (nxt (nxt s 4) 4) (drw s 4).toNat) := rfl
  have ok1 := nxt_ok 4 ok
  have ok2 := nxt_ok 4 ok1
  have b1 := drw_bd s (k := 4) (by omega)
  have b2 := drw_bd (nxt s 4) (k := 4) (by omega)
  unfold f_l_table
  trivial
  refine l_draw_ok e ok (by omega) (by omega) ?_
  generalize nxt s 4 = s1 at hF ok1 ok2 b2 ⊢
  generalize drw s 4 = c1 at hF b1 ⊢
  have ep : up h p (encW s1) p = some (encW s1) := up_same
  have sb : Sb (hm h [p]) (up h p (encW s1)) := hm_up (hm_sb _ _)
  generalize up h p (encW s1) = h1 at ep sb ⊢
  have hn : c1 = ((c1.toNat : Nat) : Int) := by omega
  generalize c1.toNat = rn at hn hF
  subst hn
  trivial
  intro a na
  refine ⟨fun i acc h' => i ≤ rn ∧ acc = tabR 50 i ∧ h' = up h1 a (.lst acc), ?_, ?_, ?_, ?_⟩
  · exact ⟨Nat.zero_le _, rfl, rfl⟩
  · rintro i acc h' _ ⟨_, rfl, rfl⟩
    exact ⟨True.intro, up_same⟩
  · rintro i acc h' d ⟨hi, rfl, rfl⟩ hd
    obtain ⟨hi', rfl⟩ := rng_get hd
    rw [Int.toNat_natCast] at hi'
    clear hd
    trivial
    refine ⟨by rw [tabR_len, SZ]; omega, up_same, ?_⟩
    rw [up_up]
    apply Pt.of
    exact ⟨hi', by rw [tabR_snoc, Int.zero_add], rfl⟩
  rintro acc h2 ⟨_, rfl, rfl⟩
  rw [rng_len, Int.toNat_natCast]
  have hpa : p ≠ a := fun z => by rw [← z, ep] at na; cases na
  have ha0 := sb.nn na
  have ea : up h1 a (.lst (tabR 50 rn)) a = some (.lst (tabR 50 rn)) := up_same
  have ep2 := up_at (o := .lst (tabR 50 rn)) hpa ep
  have sb2 : Sb (hm h [p]) (up h1 a (.lst (tabR 50 rn))) := sb.upf' na
  generalize up h1 a (.lst (tabR 50 rn)) = h2 at ea ep2 sb2 ⊢
  clear ep sb na
  trivial
  refine l_draw_ok ep2 ok1 (by omega) (by omega) ?_
  generalize nxt s1 4 = s2 at hF ok2 ⊢
  generalize drw s1 4 = c2 at hF b2 ⊢
  have ep3 : up h2 p (encW s2) p = some (encW s2) := up_same
  have ea3 := up_at (o := encW s2) hpa.symm ea
  have sb3 : Sb (hm h [p]) (up h2 p (encW s2)) := hm_up sb2
  generalize up h2 p (encW s2) = h3 at ep3 ea3 sb3 ⊢
  clear ep2 ea sb2
  have hn : c2 = ((c2.toNat : Nat) : Int) := by omega
  generalize c2.toNat = cn at hn hF
  subst hn
  trivial
  intro b nb
  refine ⟨fun i acc h' => i ≤ cn ∧ acc = tabR 60 i ∧ h' = up h3 b (.lst acc), ?_, ?_, ?_, ?_⟩
  · exact ⟨Nat.zero_le _, rfl, rfl⟩
  · rintro i acc h' _ ⟨_, rfl, rfl⟩
    exact ⟨True.intro, up_same⟩
  · rintro i acc h' d ⟨hi, rfl, rfl⟩ hd
    obtain ⟨hi', rfl⟩ := rng_get hd
    rw [Int.toNat_natCast] at hi'
    clear hd
    trivial
    refine ⟨by rw [tabR_len, SZ]; omega, up_same, ?_⟩
    rw [up_up]
    apply Pt.of
    exact ⟨hi', by rw [tabR_snoc, Int.zero_add], rfl⟩
  rintro acc h4 ⟨_, rfl, rfl⟩
  rw [rng_len, Int.toNat_natCast]
  have hpb : p ≠ b := fun z => by rw [← z, ep3] at nb; cases nb
  have hb0 := sb3.nn nb
  have eb : up h3 b (.lst (tabR 60 cn)) b = some (.lst (tabR 60 cn)) := up_same
  have ep4 := up_at (o := .lst (tabR 60 cn)) hpb ep3
  have ea4 := up_at (o := .lst (tabR 60 cn)) (show a ≠ b by nofun) ea3
  have sb4 : Sb (hm h [p]) (up h3 b (.lst (tabR 60 cn))) := sb3.upf' nb
  generalize up h3 b (.lst (tabR 60 cn)) = h4 at eb ep4 ea4 sb4 ⊢
  clear ep3 ea3 sb3 nb
  trivial
  refine newL_i fun c nc => ?_
  have hpc : p ≠ c := fun z => by rw [← z, ep4] at nc; cases nc
  have hac : a ≠ c := fun z => by rw [← z, ea4] at nc; cases nc
  have hbc : b ≠ c := fun z => by rw [← z, eb] at nc; cases nc
  generalize hH : up h4 c _ = h5
  have ec5 : h5 c = some (.lst []) := by rw [← hH]; exact up_same
  have ep5 : h5 p = some (encW s2) := by rw [← hH]; exact up_at hpc ep4
  have ea5 : h5 a = some (.lst (tabR 50 rn)) := by rw [← hH]; exact up_at hac ea4
  have eb5 : h5 b = some (.lst (tabR 60 cn)) := by rw [← hH]; exact up_at hbc eb
  have sb5 : Sb (hm h [p]) h5 := by rw [← hH]; exact sb4.upf' nc
  have hcr : hm h [p] c = none := sb4.nn nc
  clear hH ea4 eb ep4 sb4
  trivial
  refine ⟨fun i ρ h' => i ≤ rn ∧ ∃ x4 x5 x6 B, ρ = [some (.ref p), some (.ref a), some (.ref b), some (.ref c), x4, x5, x6] ∧ h' c = some (.lst (rfs B i)) ∧ (∀ k l, (lnN cn s2 i).1[k]? = some l → hm h' [p, c] (B k) = some (.lst (l.map .str))) ∧ h' p = some (encW (lnN cn s2 i).2) ∧ Sb (hm h5 [p, c]) h' ∧ (∀ k l, (lnN cn s2 i).1[k]? = some l → hm h [p] (B k) = none), ?_, ?_, ?_, ?_⟩
  · exact ⟨Nat.zero_le _, _, _, _, fun _ => 0, rfl, ec5, (fun k l hl => by simp [lnN] at hl), ep5, hm_sb _ _, (fun k l hl => by simp [lnN] at hl)⟩
  · rintro i ρ h' _ ⟨_, x4, x5, x6, B, _, _, _, _, sb, _⟩
    exact hm_get sb ea5 (by simp [hpa.symm, hac])
  · rintro i ρ h' d ⟨hi, x4, x5, x6, B, rfl, ec, hB, ep, sb, hN⟩ hd
    have hd' : (tabR 50 rn)[i]? = some d := hd
    have hil := (List.getElem?_eq_some_iff.mp hd').1
    rw [tabR_len] at hil
    have okl := lnN_ok (c := cn) ok2 i
    have hlen := lnN_len cn s2 i
    have hst : lnN cn s2 (i + 1) = ((lnN cn s2 i).1 ++ [(wdN (lnN cn s2 i).2 cn).1], (wdN (lnN cn s2 i).2 cn).2) := rfl
    generalize lnN cn s2 i = ll at hB ep okl hlen hst hN
    obtain ⟨ls, s3⟩ := ll
    simp only at hB ep okl hlen hst hN
    have eb' := hm_get sb eb5 (by simp [hpb.symm, hbc])
    clear hd hd'
    trivial
    intro f nf
    have hpf : p ≠ f := fun z => by rw [← z, ep] at nf; cases nf
    have hcf : c ≠ f := fun z => by rw [← z, ec] at nf; cases nf
    have hbf : b ≠ f := fun z => by rw [← z, eb'] at nf; cases nf
    have hf0 : hm h [p] f = none := by
      cases hc : hm h [p] f with
      | none => rfl
      | some o =>
        have h1 := hm_get sb (sb5 _ _ hc) (by simp [hpf.symm, hcf.symm])
        rw [nf] at h1; cases h1
    refine ⟨fun j acc g => j ≤ cn ∧ acc = (wdN s3 j).1.map .str ∧ g f = some (.lst acc) ∧ g p = some (encW (wdN s3 j).2) ∧ Sb (hm h' [p, f]) g, ?_, ?_, ?_, ?_⟩
    · exact ⟨Nat.zero_le _, rfl, up_same, up_at hpf ep, hm_upS (hm_sb _ _) (by simp)⟩
    · rintro j acc g _ ⟨_, rfl, ef, _, sg⟩
      exact ⟨hm_get sg eb' (by simp [hpb.symm, hbf]), ef⟩
    · rintro j acc g d ⟨hj, rfl, ef, ep, sg⟩ hd
      have hd' : (tabR 60 cn)[j]? = some d := hd
      have hjl := (List.getElem?_eq_some_iff.mp hd').1
      rw [tabR_len] at hjl
      have okw := wdN_ok okl j
      have hlw := wdN_len s3 j
      have hst2 : wdN s3 (j + 1) = ((wdN s3 j).1 ++ [([Str.ofString "", Str.ofString "ten", Str.ofString "abcdefgh"][(drw (wdN s3 j).2 3).toNat]?).getD Str.empty], nxt (wdN s3 j).2 3) := rfl
      generalize wdN s3 j = ww at ef ep okw hlw hst2
      obtain ⟨ws, s4⟩ := ww
      simp only at ef ep okw hlw hst2
      clear hd hd'
      trivial
      refine newL_i fun z nz => ?_
      have hpz : p ≠ z := fun y => by rw [← y, ep] at nz; cases nz
      have hfz : f ≠ z := fun y => by rw [← y, ef] at nz; cases nz
      trivial
      refine l_draw_ok (up_at hpz ep) okw (by omega) (by omega) ?_
      have hw := drw_bd s4 (k := 3) (by omega)
      generalize drw s4 3 = w at hst2 hw ⊢
      generalize nxt s4 3 = s5 at hst2 ⊢
      generalize hH : up (up g z _) p _ = g2
      have ep2 : g2 p = some (encW s5) := by rw [← hH]; exact up_same
      have ez2 : g2 z = some (.lst ([Str.ofString "", Str.ofString "ten", Str.ofString "abcdefgh"].map D.str)) := by rw [← hH]; exact up_at hpz.symm up_same
      have ef2 : g2 f = some (.lst (ws.map D.str)) := by rw [← hH]; exact up_at hpf.symm (up_at hfz ef)
      have sg2 : Sb (hm h' [p, f]) g2 := by rw [← hH]; exact hm_upS (sg.upf' nz) (by simp)
      clear hH ef ep sg nz
      generalize hw3 : [Str.ofString "", Str.ofString "ten", Str.ofString "abcdefgh"] = w3 at hst2 ez2
      have l3 : w3.length = 3 := by rw [← hw3]; rfl
      clear hw3
      obtain ⟨x, hx⟩ : ∃ x, w3[w.toNat]? = some x := ⟨_, List.getElem?_eq_getElem (show w.toNat < w3.length by omega)⟩
      rw [hx, Option.getD_some] at hst2
      have hat : atI (w3.map D.str) w = some (.str x) := by
        have : w = ((w.toNat : Nat) : Int) := by omega
        rw [this]
        exact atI_nat (by rw [List.getElem?_map, hx]; rfl)
      generalize w3.map D.str = w3d at ez2 hat
      trivial
      refine ⟨_, hat, ?_⟩
      clear hat
      refine ⟨by show (ws.map D.str).length < SZ; rw [List.length_map, SZ]; omega, ef2, ?_⟩
      apply Pt.of
      refine ⟨hjl, ?_, up_same, ?_, hm_upS sg2 (by simp)⟩
      · rw [hst2, List.map_append]; rfl
      · rw [hst2]; exact up_at hpf ep2
    rintro acc g ⟨_, rfl, ef, ep, sg⟩
    have hl6 : (srcL b (tabR 60 cn)).ds.length = cn := tabR_len 60 cn
    rw [hl6] at ef ep
    generalize wdN s3 cn = ww at ef ep hst
    obtain ⟨ws, s4⟩ := ww
    simp only at ef ep hst
    have ec' := hm_get sg ec (by simp [hpc.symm, hcf])
    have hB' : ∀ k l, ls[k]? = some l → hm g [p, c] (B k) = some (.lst (l.map .str)) := fun k l hl => by
      have h1 := hB k l hl
      have hx : B k ∉ [p, c] := fun z => by rw [hm_in z] at h1; cases h1
      rw [hm_out hx] at h1 ⊢
      refine hm_get sg h1 ?_
      simp only [List.mem_cons, List.not_mem_nil, or_false, not_or] at hx ⊢
      exact ⟨hx.1, fun z => by rw [z, nf] at h1; cases h1⟩
    have sb' : Sb (hm h5 [p, c]) g := fun x u z => by
      have h1 := sb _ _ z
      refine hm_get sg h1 ?_
      simp only [List.mem_cons, List.not_mem_nil, or_false, not_or]
      exact ⟨fun y => (by rw [y, hm_in (by simp)] at z; cases z), fun y => (by rw [y, nf] at h1; cases h1)⟩
    clear hB ec sb sg nf eb'
    trivial
    refine ⟨by rw [rfs_len, SZ]; omega, ?_⟩
    apply Pt.of
    refine ⟨hil, _, _, _, fun j => if j = i then f else B j, rfl, ?_, fun k l hl => ?_, ?_, hm_upS sb' (by simp), fun k l hl => ?_⟩
    · rw [up_same, rfs_snoc]
    · refine hm_in_up (by simp) _ _ ?_
      show hm g [p, c] (if k = i then f else B k) = _
      rw [hst] at hl
      by_cases hk : k = i
      · rw [if_pos hk]
        rw [hk, List.getElem?_append_right (by omega), hlen, Nat.sub_self] at hl
        cases hl
        rw [hm_out (by simp [hpf.symm, hcf.symm])]
        exact ef
      · rw [if_neg hk]
        refine hB' k l ?_
        have hkl := (List.getElem?_eq_some_iff.mp hl).1
        simp only [List.length_append, List.length_singleton] at hkl
        rw [List.getElem?_append_left (by omega)] at hl
        exact hl
    · rw [hst]; exact up_at hpc ep
    · show hm h [p] (if k = i then f else B k) = none
      by_cases hk : k = i
      · rw [if_pos hk]; exact hf0
      · rw [if_neg hk]
        rw [hst] at hl
        have hkl := (List.getElem?_eq_some_iff.mp hl).1
        simp only [List.length_append, List.length_singleton] at hkl
        rw [List.getElem?_append_left (by omega)] at hl
        exact hN k l hl
  rintro ρ h' ⟨_, x4, x5, x6, B, rfl, ec, hB, ep, sb, hN⟩
  have hl5 : (srcL a (tabR 50 rn)).ds.length = rn := tabR_len 50 rn
  rw [hl5] at ec hB ep hN
  have hll := lnN_len cn s2 rn
  trivial
  have eqT : tabF s = (rn, cn, lnN cn s2 rn) := hF
  rw [eqT] at q
  refine ⟨_, Sb.refl _, q a b c B h' (fun x u z => ?_) ep ?_ ?_ ⟨?_, fun i l hl => ?_⟩ ha0 hb0 hcr hN⟩
  · have h1 := sb5 _ _ z
    refine hm_get sb h1 ?_
    simp only [List.mem_cons, List.not_mem_nil, or_false, not_or]
    exact ⟨fun y => (by rw [y, hm_in (by simp)] at z; cases z), fun y => (by rw [y, hcr] at z; cases z)⟩
  · rw [hm_out (by simp [hpa.symm])]; exact hm_get sb ea5 (by simp [hpa.symm, hac])
  · rw [hm_out (by simp [hpb.symm])]; exact hm_get sb eb5 (by simp [hpb.symm, hbc])
  · rw [hm_out (by simp [hpc.symm])]; show h' c = some (.lst (rfs B (lnN cn s2 rn).1.length)); rw [hll]; exact ec
  · have h1 := hB i l hl
    have hx : B i ∉ [p, c] := fun z => by rw [hm_in z] at h1; cases h1
    rw [hm_out hx] at h1
    rw [hm_out fun z => hx (by simp only [List.mem_cons, List.not_mem_nil, or_false] at z ⊢; exact .inl z)]
    exact h1
end K47
end

section
set_option linter.all false
set_option autoImplicit false
set_option maxRecDepth 100000
set_option maxHeartbeats 4000000
namespace K47
open G
open PySem (Str)
local macro_rules | `(tactic| fail $s:str) => match s.getString with
  | "ne" => `(tactic| first | assumption | (apply Ne.symm; assumption) | exact ne_f1 (by assumption) (by fail "lk") | exact ne_f2 (by assumption) (by fail "lk") | grind [up, Sb])
  | "lk" => `(tactic| first | assumption | exact up_same | (refine up_at ?_ ?_; (· fail "ne"); fail "lk") | (refine Sb.at ?_ ?_; (· assumption); fail "lk"))
  | "sd" => `(tactic| first | (with_reducible show -(2 ^ 62) ≤ (_ : Int); first | omega | (simp only [List.length_map]; omega)) | (with_reducible show (_ : Int) < 2 ^ 62; first | omega | (simp only [List.length_map]; omega)) | assumption | rfl | (apply isT_lst; fail "lk") | (apply isT_dic; fail "lk") | decide | (simp only [List.length_cons, List.length_nil]; decide) | exact mulOk_l (by decide) (by decide) | exact mulOk_r (by decide) (by decide) | exact mulOk_l (by omega) (by omega) | exact mulOk_r (by omega) (by omega) | omega | (simp only [List.length_map]; omega))
  | "ls" => `(tactic| first | exact sq_tup | exact sq_rl | exact ls_rl | (apply ls_lst; fail "lk") | (apply sq_lst; fail "lk"))
  | "st" => `(tactic| first
  | ((with_reducible apply ix_lst); (· fail "lk"))
  | with_reducible apply ix_tup
  | with_reducible apply ix_str
  | with_reducible apply in_tup
  | with_reducible apply min_ii
  | with_reducible apply max_ii
  | ((with_reducible apply in_lst); (· fail "lk"))
  | ((with_reducible apply in_dic); (· fail "lk"))
  | ((with_reducible apply notIn_dic); (· fail "lk"))
  | ((with_reducible apply notIn_lst); (· fail "lk"))
  | with_reducible apply ix_rl
  | ((with_reducible apply ix_dic); (· fail "lk"))
  | ((with_reducible apply app_lst); (· fail "lk"))
  | ((with_reducible apply len_lst); (· fail "lk"))
  | with_reducible apply len_tup
  | with_reducible apply mulS_s
  | with_reducible apply fmt_str
  | with_reducible apply fmt_int
  | with_reducible apply cat_str
  | with_reducible apply str_int
  | with_reducible apply str_str
  | with_reducible apply len_rl
  | with_reducible apply len_str
  | ((with_reducible apply oIsT_lst); (· fail "lk"))
  | ((with_reducible apply dict_ls); (· fail "ls"))
  | ((with_reducible apply sl_ls); (· fail "ls"))
  | ((with_reducible apply rev_ls); (· fail "ls"))
  | ((with_reducible apply list_sq); (· fail "ls"))
  | ((with_reducible apply list_dic); (· fail "lk"))
  | ((with_reducible apply step_ls); (· fail "ls"))
  | ((with_reducible apply addL_ls); (· fail "ls"); (· fail "ls"))
  | ((with_reducible apply index_ls); (· fail "ls"))
  | ((with_reducible apply count_ls); (· fail "ls"))
  | ((with_reducible apply fill_dic); (· fail "lk"))
  | ((with_reducible apply max_ls); (· fail "ls"))
  | ((with_reducible apply sortK_ls); (· fail "ls"))
  | ((with_reducible apply sum_ls); (· fail "ls"))
  | ((with_reducible apply all_ls); (· fail "ls"))
  | ((with_reducible apply sorted_ls); (· fail "ls"))
  | ((with_reducible apply sortI_ls); (· fail "ls"))
  | ((with_reducible apply sortD_ls); (· fail "ls"))
  | ((with_reducible apply sortD_dic); (· fail "lk"))
  | ((with_reducible apply oIsT_dic); (· fail "lk"))
  | ((with_reducible apply walkD_lst); (· fail "lk"))
  | ((with_reducible apply walkD_dic); (· fail "lk"))
  | ((with_reducible apply walkI_dic); (· fail "lk"))
  | with_reducible apply walkD_tup
  | with_reducible apply walkD_rl
  | ((with_reducible apply walkL_lst); (· fail "lk"))
  | with_reducible apply walkL_rl
  | ((with_reducible apply mul_lst); (· fail "lk"))
  | ((with_reducible apply min_ls); (· fail "ls"))
  | ((with_reducible apply oAdd_lst); (· fail "lk"); (· fail "lk"))
  | ((with_reducible apply put_lst); (· fail "lk"))
  | ((with_reducible apply put_dic); (· fail "lk"))
  | ((with_reducible apply tru_lst); (· fail "lk"))
  | with_reducible apply oIsT_bl
  | with_reducible apply oIsT_int
  | with_reducible apply oIsT_str
  | with_reducible apply oIsT_tup
  | with_reducible apply oIsT_rl
  | with_reducible apply oIsT_non
  | with_reducible apply sl_tup
  | with_reducible apply sl_str
  | ((with_reducible apply get_dic); (· fail "lk"))
  | ((with_reducible apply get_dic2); (· fail "lk"))
  | ((with_reducible apply setdef_dic); (· fail "lk"))
  | ((with_reducible apply ext_lst); (· fail "lk"); (· fail "lk"))
  | ((with_reducible apply pop_lst); (· fail "lk"))
  | ((with_reducible apply popAt_lst); (· fail "lk"))
  | ((with_reducible apply ins_lst); (· fail "lk"))
  | ((with_reducible apply clr_lst); (· fail "lk"))
  | ((with_reducible apply clr_dic); (· fail "lk"))
  | ((with_reducible apply join_sq); (· fail "ls"))
  | ((with_reducible apply oEq_sst); (· with_reducible rfl))
  | ((with_reducible apply oEq_ssf); (· first | assumption | decide))
  | ((with_reducible apply oNe_sst); (· with_reducible rfl))
  | ((with_reducible apply oNe_ssf); (· first | assumption | decide))
  | ((with_reducible apply oEq_iit); (· with_reducible rfl))
  | ((with_reducible apply oEq_iif); (· first | assumption | decide))
  | ((with_reducible apply oNe_iit); (· with_reducible rfl))
  | ((with_reducible apply oNe_iif); (· first | assumption | decide))
  | refine Exists.intro _ (And.intro (rfl : atI _ _ = some _) ?_)
  | refine Exists.intro _ (And.intro (rfl : ixN _ _ = some _) ?_)
  | ((with_reducible refine And.intro ?_ ?_); (· fail "sd")))
  | _ => Lean.Macro.throwUnsupported
local macro_rules | `(tactic| nofun) => `(tactic| fail "ne")
local macro_rules | `(tactic| bv_omega) => `(tactic| fail "lk")
local macro_rules | `(tactic| ac_rfl) => `(tactic| fail "sd")
local macro_rules | `(tactic| trivial) => `(tactic| ((conv => whnf); repeat (fail "st"; (conv => whnf))))
/-! ### the document -/
def cellF (ns : List Int) (k : Nat) : Int := (ns[k]?).getD 0
def manyF (c : Int) : Nat := (1 + c / 2 % 5).toNat
theorem cellF_ok {h : AH} {ns : List Int} {k : Nat} {Q : KD} (q : Q (.int (cellF ns k)) h) : f_l_cell_at [.rl (ns.map .int), .int (k : Int)] h Q := by
  unfold f_l_cell_at
  unfold cellF at q
  trivial
  refine onT_d (fun hk => ?_) (fun hk => ?_)
  · obtain ⟨x, hx⟩ : ∃ x, ns[k]? = some x := ⟨_, List.getElem?_eq_getElem (by rw [List.length_map] at hk; omega)⟩
    rw [hx, Option.getD_some] at q
    have hx' : (ns.map D.int)[k]? = some (.int x) := by rw [List.getElem?_map, hx]; rfl
    trivial
    refine ⟨_, atI_nat hx', ?_⟩
    trivial
    apply Pt.of
    exact q
  · have hx : ns[k]? = none := List.getElem?_eq_none (by rw [List.length_map] at hk; omega)
    rw [hx, Option.getD_none] at q
    trivial
    apply Pt.of
    exact q
def drawnF (dg : Bool) (c : Int) : Dw := if dg = true ∧ 1000000000000000000 ≤ c then ⟨c, 0⟩ else ⟨c % 2147483629, 1⟩
theorem drawnF_ok (dg : Bool) (c : Int) : (drawnF dg c).ok := by
  unfold drawnF
  split
  · exact .inl rfl
  · exact .inr ⟨rfl, Int.emod_nonneg _ (by omega), Int.emod_lt_of_pos _ (by omega)⟩
theorem l_drawn_ok {h : AH} {dg : Bool} {c : Int} {Q : KD} (q : ∀ z h', h z = none → Sb h h' → h' z = some (encW (drawnF dg c)) → Q (.ref z) h') : f_l_drawn [.int c, .bl dg] h Q := by
  unfold f_l_drawn
  have low : ∀ {R : Prop}, R → R := fun x => x
  cases dg with
  | false =>
    trivial
    refine newL_i fun z nz => ?_
    apply Pt.of
    exact q z _ nz ((Sb.refl _).upf' nz) (by rw [up_same]; rfl)
  | true =>
    trivial
    refine onT_d (fun hc => ?_) (fun hc => ?_)
    · have e : drawnF true c = ⟨c, 0⟩ := if_pos ⟨rfl, by simpa using hc⟩
      rw [e] at q
      trivial
      refine newL_i fun z nz => ?_
      apply Pt.of
      exact q z _ nz ((Sb.refl _).upf' nz) (by rw [up_same])
    · have e : drawnF true c = ⟨c % 2147483629, 1⟩ := if_neg fun z => hc (by simpa using z.2)
      rw [e] at q
      trivial
      refine newL_i fun z nz => ?_
      apply Pt.of
      exact q z _ nz ((Sb.refl _).upf' nz) (by rw [up_same])
def numsL : List Str := [Str.ofString "", Str.ofString "1", Str.ofString "1.1", Str.ofString "1.1.12", Str.ofString "2"]
def ptF (k : Nat) : D := if k = 0 then .tup [.str (Str.ofString ""), .int 0] else .tup [.str (Str.ofString "bo"), .int (70 + (k : Int))]
def bdF (s : Dw) : Bd :=
  let r := rowF s
  let n := nsF r.1 r.2
  let t := tabF n.2
  ⟨r.1, n.1, t.1, t.2.1, t.2.2.1⟩
def enF (dg : Bool) (c : Int) (k : Nat) : En := ⟨(numsL[k]?).getD Str.empty, ptF k, if drw (drawnF dg c) 5 = 4 then none else some (bdF (nxt (drawnF dg c) 5))⟩
def docF (ns : List Int) : List En := (List.range (manyF (cellF ns 0))).map fun k => enF (decide (cellF ns 0 % 2 = 1)) (cellF ns (1 + k)) k
def EnAt (h : AH) (d : D) (x : En) : Prop := match x.bd with
  | none => d = .tup [.str x.num, x.pt, .non, .non, .non]
  | some b => ∃ r A n ta tb tc B, d = .tup [.str x.num, x.pt, .ref r, .ref n, .tup [.ref ta, .ref tb, .ref tc]] ∧ RowAt h r A b.row ∧ h n = some (.lst (b.nts.map encNn)) ∧ h ta = some (.lst (tabR 50 b.rn)) ∧ h tb = some (.lst (tabR 60 b.cn)) ∧ WdAt h tc B b.wds
theorem EnAt.sb {h h' : AH} {d : D} {x : En} (e : EnAt h d x) (s : Sb h h') : EnAt h' d x := by
  unfold EnAt at e ⊢
  split
  · rename_i hb; rw [hb] at e; exact e
  · rename_i b hb
    rw [hb] at e
    obtain ⟨r, A, n, ta, tb, tc, B, e1, e2, e3, e4, e5, e6⟩ := e
    exact ⟨r, A, n, ta, tb, tc, B, e1, e2.sb s, s _ _ e3, s _ _ e4, s _ _ e5, e6.sb s⟩
structure DocAt (h : AH) (a : Addr) (ds : List D) (E : List En) : Prop where
  lst : h a = some (.lst ds)
  len : ds.length = E.length
  at_ : ∀ (i : Nat) (x : En) (d : D), E[i]? = some x → ds[i]? = some d → EnAt h d x
theorem DocAt.sb {h h' : AH} {a : Addr} {ds : List D} {E : List En} (x : DocAt h a ds E) (s : Sb h h') : DocAt h' a ds E := ⟨s _ _ x.lst, x.len, fun i y d h1 h2 => (x.at_ i y d h1 h2).sb s⟩
theorem rowF_len (s : Dw) : (rowF s).1.length ≤ 15 := by
  have := drw_bd s (k := 15) (by omega)
  unfold rowF
  rw [rowN_len]; omega
theorem rowF_ok {s : Dw} (h : s.ok) : (rowF s).2.ok := rowN_ok (nxt_ok 15 h) _
theorem nsF_ok {row : List Tk} {s : Dw} (h : s.ok) : (nsF row s).2.ok := nsN_ok (nxt_ok 4 h) _
theorem l_document_ok {h : AH} {ns : List Int} {Q : KD} (q : ∀ e ds h', h e = none → Sb h h' → DocAt h' e ds (docF ns) → Q (.ref e) h') : f_l_document [.rl (ns.map .int)] h Q := by
  have hF : docF ns = (List.range (manyF (cellF ns 0))).map fun k => enF (decide (cellF ns 0 % 2 = 1)) (cellF ns (1 + k)) k := rfl
  unfold f_l_document
  trivial
  refine cellF_ok (k := 0) ?_
  trivial
  refine oEq_ii ?_
  trivial
  refine newL_i fun e ne => ?_
  trivial
  refine cellF_ok (k := 0) ?_
  generalize cellF ns 0 = c0 at hF ⊢
  have b0 : 0 ≤ c0 / 2 % 5 ∧ c0 / 2 % 5 < 5 := ⟨Int.emod_nonneg _ (by omega), Int.emod_lt_of_pos _ (by omega)⟩
  have hn : 1 + c0 / 2 % 5 = ((manyF c0 : Nat) : Int) := by unfold manyF; omega
  have hm5 : manyF c0 ≤ 5 := by unfold manyF; omega
  generalize hdg : decide (c0 % 2 = 1) = dg at hF ⊢
  trivial
  rw [hn]
  generalize manyF c0 = w at hF hm5 ⊢
  clear hn b0 hdg
  trivial
  refine ⟨fun i ρ h' => i ≤ w ∧ ∃ x3 x4 x5 x6 x7 ds, ρ = [some (.rl (ns.map .int)), some (.bl dg), some (.ref e), x3, x4, x5, x6, x7] ∧ h' e = some (.lst ds) ∧ ds.length = i ∧ (∀ (k : Nat) (d : D), ds[k]? = some d → EnAt (hm h' [e]) d (enF dg (cellF ns (1 + k)) k)) ∧ Sb h h', ?_, ?_, ?_, ?_⟩
  · exact ⟨Nat.zero_le _, _, _, _, _, _, [], rfl, up_same, rfl, (fun k d hd => by simp at hd), (Sb.refl _).upf' ne⟩
  · rintro i ρ h' _ _
    exact True.intro
  · rintro i ρ h' d ⟨hi, x3, x4, x5, x6, x7, ds, rfl, ed, hl, hE, sb⟩ hd
    obtain ⟨hi', rfl⟩ := rng_get hd
    rw [Int.toNat_natCast] at hi'
    rw [Int.zero_add]
    clear hd
    trivial
    rw [show (1 : Int) + (i : Int) = ((1 + i : Nat) : Int) by omega]
    refine cellF_ok ?_
    trivial
    refine l_drawn_ok fun z h2 nz s2 ez => ?_
    have nze : e ≠ z := fun y => by rw [← y, ed] at nz; cases nz
    have ed2 := s2 _ _ ed
    have sb2 := sb.trans s2
    have hE2 : ∀ (k : Nat) (d : D), ds[k]? = some d → EnAt (hm h2 [e, z]) d (enF dg (cellF ns (1 + k)) k) := fun k d hd => (hE k d hd).sb fun x u g => by
      have hx : x ∉ [e] := fun y => by rw [hm_in y] at g; cases g
      rw [hm_out hx] at g
      have hxz : x ≠ z := fun y => by rw [y, nz] at g; cases g
      rw [hm_out (by simp only [List.mem_cons, List.not_mem_nil, or_false, not_or] at hx ⊢; exact ⟨hx, hxz⟩)]
      exact s2 _ _ g
    have oks := drawnF_ok dg (cellF ns (1 + i))
    have hen : enF dg (cellF ns (1 + i)) i = ⟨(numsL[i]?).getD Str.empty, ptF i, if drw (drawnF dg (cellF ns (1 + i))) 5 = 4 then none else some (bdF (nxt (drawnF dg (cellF ns (1 + i))) 5))⟩ := rfl
    generalize drawnF dg (cellF ns (1 + i)) = s0 at ez oks hen
    have hz0 : h z = none := sb.nn nz
    clear ed sb hE s2
    trivial
    refine newL_i fun z1 nz1 => ?_
    obtain ⟨nu, hnu⟩ : ∃ nu, numsL[i]? = some nu := ⟨_, List.getElem?_eq_getElem (show i < numsL.length by show i < 5; omega)⟩
    rw [hnu, Option.getD_some] at hen
    have hat : atI [D.str (Str.ofString ""), .str (Str.ofString "1"), .str (Str.ofString "1.1"), .str (Str.ofString "1.1.12"), .str (Str.ofString "2")] (i : Int) = some (.str nu) := atI_nat (show (numsL.map D.str)[i]? = _ by rw [List.getElem?_map, hnu]; rfl)
    trivial
    refine ⟨_, hat, ?_⟩
    clear hat hnu
    trivial
    refine newL_i fun z2 nz2 => ?_
    have hat : atI [D.tup [.str (Str.ofString ""), .int 0], .tup [.str (Str.ofString "bo"), .int (70 + (i : Int))]] (if decide (0 < (i : Int)) = true then 1 else 0) = some (ptF i) := by
      unfold ptF
      by_cases hi0 : i = 0
      · subst hi0; rfl
      · rw [if_neg hi0, if_pos (by simp; omega)]; rfl
    generalize hH : up (up h2 z1 _) z2 _ = h3
    have s3 : Sb h2 h3 := by rw [← hH]; exact ((Sb.refl _).upf' nz1).upf' nz2
    have s3m : Sb (hm h2 [e, z]) (hm h3 [e, z]) := by rw [← hH]; exact (hm_new nz1).trans (hm_new nz2)
    have ed3 := s3 _ _ ed2
    have ez3 := s3 _ _ ez
    have sb3 := sb2.trans s3
    have hE3 := fun k d hd => (hE2 k d hd).sb s3m
    have e23 : h3 z2 = some (.lst [D.tup [.str (Str.ofString ""), .int 0], .tup [.str (Str.ofString "bo"), .int (70 + (i : Int))]]) := by rw [← hH]; exact up_same
    clear hH nz1 nz2 s3 s3m ed2 ez sb2 hE2
    trivial
    refine ⟨_, hat, ?_⟩
    clear hat e23
    trivial
    refine l_draw_ok ez3 oks (by omega) (by omega) ?_
    have ok4 := nxt_ok 5 oks
    generalize drw s0 5 = w5 at hen ⊢
    generalize nxt s0 5 = s1 at hen ok4 ⊢
    have ez4 : up h3 z (encW s1) z = some (encW s1) := up_same
    have ed4 := up_at (o := encW s1) nze ed3
    have sb4 : Sb h (up h3 z (encW s1)) := fun x u g => by
      rw [up_ne (fun y => by rw [y, hz0] at g; cases g)]; exact sb3 _ _ g
    have hE4 : ∀ (k : Nat) (d : D), ds[k]? = some d → EnAt (hm (up h3 z (encW s1)) [e, z]) d (enF dg (cellF ns (1 + k)) k) := fun k d hd => (hE3 k d hd).sb (hm_in_up (by simp))
    generalize up h3 z (encW s1) = h4 at ez4 ed4 sb4 hE4 ⊢
    clear ez3 ed3 sb3 hE3
    trivial
    refine oEq_ii ?_
    trivial
    have fin : ∀ {H : AH} {t : D}, Sb (hm h4 [z]) H → EnAt (hm H [e]) t (enF dg (cellF ns (1 + i)) i) → Sb h (up H e (.lst (ds ++ [t]))) ∧ ∀ (k : Nat) (d : D), (ds ++ [t])[k]? = some d → EnAt (hm (up H e (.lst (ds ++ [t]))) [e]) d (enF dg (cellF ns (1 + k)) k) := fun {H t} s4 ht => by
      refine ⟨fun x u g => ?_, fun k d hd => ?_⟩
      · have h1 : x ≠ e := fun y => by rw [y, ne] at g; cases g
        have h2 : x ≠ z := fun y => by rw [y, hz0] at g; cases g
        rw [up_ne h1]
        exact hm_get s4 (sb4 _ _ g) (by simpa using h2)
      · have w1 : Sb (hm H [e]) (hm (up H e (.lst (ds ++ [t]))) [e]) := hm_in_up (by simp)
        by_cases c : k < ds.length
        · rw [List.getElem?_append_left c] at hd
          refine (hE4 k d hd).sb fun x u g => ?_
          have hx : x ∉ [e, z] := fun y => by rw [hm_in y] at g; cases g
          rw [hm_out hx] at g
          simp only [List.mem_cons, List.not_mem_nil, or_false, not_or] at hx
          refine w1 _ _ ?_
          rw [hm_out (by simpa using hx.1)]
          exact hm_get s4 g (by simpa using hx.2)
        · have hk : k = i := by
            have := (List.getElem?_eq_some_iff.mp hd).1
            rw [List.length_append, List.length_singleton] at this
            omega
          rw [hk, List.getElem?_append_right (by omega), hl, Nat.sub_self] at hd
          cases hd
          rw [hk]
          exact ht.sb w1
    refine onT_d (fun h5 => ?_) (fun h5 => ?_)
    · rw [if_pos h5] at hen
      trivial
      refine ⟨by rw [hl, SZ]; omega, ?_⟩
      apply Pt.of
      have f := fin (H := h4) (t := .tup [.str nu, ptF i, .non, .non, .non]) (hm_sb _ _) (by rw [hen]; exact rfl)
      exact ⟨hi', _, _, _, _, _, _, rfl, up_same, by rw [List.length_append, hl]; rfl, f.2, f.1⟩
    · rw [if_neg h5] at hen
      trivial
      refine l_row_ok ez4 ok4 fun r A g5 nr t5 ez5 hr hrN => ?_
      have ok5 := rowF_ok ok4
      have lr := rowF_len s1
      have hbd : bdF s1 = ⟨(rowF s1).1, (nsF (rowF s1).1 (rowF s1).2).1, (tabF (nsF (rowF s1).1 (rowF s1).2).2).1, (tabF (nsF (rowF s1).1 (rowF s1).2).2).2.1, (tabF (nsF (rowF s1).1 (rowF s1).2).2).2.2.1⟩ := rfl
      rw [hbd] at hen
      clear hbd
      generalize rowF s1 = rw1 at ez5 hr ok5 lr hen hrN
      obtain ⟨row, s5⟩ := rw1
      simp only at ez5 hr ok5 lr hen hrN
      have hzr : z ≠ r := fun y => by rw [← y, ez4] at nr; cases nr
      have ed5 := hm_get t5 ed4 (by simpa using nze)
      trivial
      refine l_notes_ok ez5 ok5 (hr.sb (hm_sb _ _)) hzr lr fun n g6 nn t6 ez6 en6 => ?_
      have ok6 := nsF_ok (row := row) ok5
      generalize nsF row s5 = nn1 at ez6 en6 ok6 hen
      obtain ⟨nts, s6⟩ := nn1
      simp only at ez6 en6 ok6 hen
      have ed6 := hm_get t6 ed5 (by simpa using nze)
      have hr6 : RowAt (hm g6 [z]) r A row := hr.sb fun x u y => by
        have hx : x ∉ [z] := fun q => by rw [hm_in q] at y; cases y
        rw [hm_out hx]; exact t6 _ _ y
      have hzn : z ≠ n := fun y => by rw [← y, ez5] at nn; cases nn
      trivial
      refine l_table_ok ez6 ok6 fun ta tb tc B g7 t7 ez7 h7a h7b h7c fa fb fc fB => ?_
      generalize tabF s6 = tt at ez7 h7a h7b h7c hen fB
      obtain ⟨rn, cn, wds, s7⟩ := tt
      simp only at ez7 h7a h7b h7c hen fB
      have ed7 := hm_get t7 ed6 (by simpa using nze)
      have he4 : ∀ {x : Addr}, h4 x = none → x ≠ e := fun hx y => by rw [y, ed4] at hx; cases hx
      have he6 : ∀ {x : Addr}, hm g6 [z] x = none → x ≠ e := fun hx y => by rw [y, hm_out (by simpa using nze), ed6] at hx; cases hx
      have mv : ∀ {x : Addr} {o : O}, hm g6 [z] x = some o → x ≠ e → hm g7 [e] x = some o := fun hx y => by
        rw [hm_out (by simpa using y)]; exact t7 _ _ hx
      have mv7 : ∀ {x : Addr} {o : O}, hm g7 [z] x = some o → x ≠ e → hm g7 [e] x = some o := fun {x o} hx y => by
        have hz : x ∉ [z] := fun q => by rw [hm_in q] at hx; cases hx
        rw [hm_out hz] at hx
        rw [hm_out (by simpa using y)]; exact hx
      have hne : n ≠ e := fun y => by rw [y, ed5] at nn; cases nn
      have hen7 : hm g6 [z] n = some (.lst (nts.map encNn)) := by rw [hm_out (by simpa using hzn.symm)]; exact en6
      have ea : EnAt (hm g7 [e]) (.tup [.str nu, ptF i, .ref r, .ref n, .tup [.ref ta, .ref tb, .ref tc]]) (enF dg (cellF ns (1 + i)) i) := by
        rw [hen]
        exact ⟨r, A, n, ta, tb, tc, B, rfl, ⟨mv hr6.lst (he4 nr), fun t ht => mv (hr6.mks t ht) (he4 (hrN t ht))⟩, mv hen7 hne, mv7 h7a (he6 fa), mv7 h7b (he6 fb), ⟨mv7 h7c.lst (he6 fc), fun i l hl => mv7 (h7c.wd i l hl) (he6 (fB i l hl))⟩⟩
      have f := fin (H := g7) (hm_trans (hm_trans t5 t6 (fun _ h => h)) t7 (fun _ h => h)) ea
      trivial
      refine ⟨by rw [hl, SZ]; omega, ?_⟩
      apply Pt.of
      exact ⟨hi', _, _, _, _, _, _, rfl, up_same, by rw [List.length_append, hl]; rfl, f.2, f.1⟩
  rintro ρ h' ⟨_, x3, x4, x5, x6, x7, ds, rfl, ed, hl, hE, sb⟩
  rw [rng_len, Int.toNat_natCast] at hl
  trivial
  refine ⟨_, Sb.refl _, q e ds h' ne sb ⟨ed, by rw [hF, List.length_map, List.length_range, hl], fun i x d h1 h2 => ?_⟩⟩
  rw [hF, List.getElem?_map] at h1
  obtain ⟨k, hk, rfl⟩ := Option.map_eq_some_iff.mp h1
  have hil := (List.getElem?_eq_some_iff.mp hk).1
  rw [List.length_range] at hil
  rw [List.getElem?_range hil] at hk
  cases hk
  exact (hE _ _ h2).sb (hm_sb _ _)
end K47
end

section
set_option linter.all false
set_option autoImplicit false
set_option maxRecDepth 100000
set_option maxHeartbeats 4000000
namespace K47
open G
open PySem (Str)
local macro_rules | `(tactic| fail $s:str) => match s.getString with
  | "ne" => `(tactic| first | assumption | (apply Ne.symm; assumption) | exact ne_f1 (by assumption) (by fail "lk") | exact ne_f2 (by assumption) (by fail "lk") | grind [up, Sb])
  | "lk" => `(tactic| first | assumption | exact up_same | (refine up_at ?_ ?_; (· fail "ne"); fail "lk") | (refine Sb.at ?_ ?_; (· assumption); fail "lk"))
  | "sd" => `(tactic| first | (with_reducible show -(2 ^ 62) ≤ (_ : Int); first | omega | (simp only [List.length_map]; omega)) | (with_reducible show (_ : Int) < 2 ^ 62; first | omega | (simp only [List.length_map]; omega)) | assumption | rfl | (apply isT_lst; fail "lk") | (apply isT_dic; fail "lk") | decide | (simp only [List.length_cons, List.length_nil]; decide) | exact mulOk_l (by decide) (by decide) | exact mulOk_r (by decide) (by decide) | exact mulOk_l (by omega) (by omega) | exact mulOk_r (by omega) (by omega) | omega | (simp only [List.length_map]; omega))
  | "ls" => `(tactic| first | exact sq_tup | exact sq_rl | exact ls_rl | (apply ls_lst; fail "lk") | (apply sq_lst; fail "lk"))
  | "st" => `(tactic| first
  | ((with_reducible apply ix_lst); (· fail "lk"))
  | with_reducible apply ix_tup
  | with_reducible apply ix_str
  | with_reducible apply in_tup
  | with_reducible apply min_ii
  | with_reducible apply max_ii
  | ((with_reducible apply in_lst); (· fail "lk"))
  | ((with_reducible apply in_dic); (· fail "lk"))
  | ((with_reducible apply notIn_dic); (· fail "lk"))
  | ((with_reducible apply notIn_lst); (· fail "lk"))
  | with_reducible apply ix_rl
  | ((with_reducible apply ix_dic); (· fail "lk"))
  | ((with_reducible apply app_lst); (· fail "lk"))
  | ((with_reducible apply len_lst); (· fail "lk"))
  | with_reducible apply len_tup
  | with_reducible apply mulS_s
  | with_reducible apply fmt_str
  | with_reducible apply fmt_int
  | with_reducible apply cat_str
  | with_reducible apply str_int
  | with_reducible apply str_str
  | with_reducible apply len_rl
  | with_reducible apply len_str
  | ((with_reducible apply oIsT_lst); (· fail "lk"))
  | ((with_reducible apply dict_ls); (· fail "ls"))
  | ((with_reducible apply sl_ls); (· fail "ls"))
  | ((with_reducible apply rev_ls); (· fail "ls"))
  | ((with_reducible apply list_sq); (· fail "ls"))
  | ((with_reducible apply list_dic); (· fail "lk"))
  | ((with_reducible apply step_ls); (· fail "ls"))
  | ((with_reducible apply addL_ls); (· fail "ls"); (· fail "ls"))
  | ((with_reducible apply index_ls); (· fail "ls"))
  | ((with_reducible apply count_ls); (· fail "ls"))
  | ((with_reducible apply fill_dic); (· fail "lk"))
  | ((with_reducible apply max_ls); (· fail "ls"))
  | ((with_reducible apply sortK_ls); (· fail "ls"))
  | ((with_reducible apply sum_ls); (· fail "ls"))
  | ((with_reducible apply all_ls); (· fail "ls"))
  | ((with_reducible apply sorted_ls); (· fail "ls"))
  | ((with_reducible apply sortI_ls); (· fail "ls"))
  | ((with_reducible apply sortD_ls); (· fail "ls"))
  | ((with_reducible apply sortD_dic); (· fail "lk"))
  | ((with_reducible apply oIsT_dic); (· fail "lk"))
  | ((with_reducible apply walkD_lst); (· fail "lk"))
  | ((with_reducible apply walkD_dic); (· fail "lk"))
  | ((with_reducible apply walkI_dic); (· fail "lk"))
  | with_reducible apply walkD_tup
  | with_reducible apply walkD_rl
  | ((with_reducible apply walkL_lst); (· fail "lk"))
  | with_reducible apply walkL_rl
  | ((with_reducible apply mul_lst); (· fail "lk"))
  | ((with_reducible apply min_ls); (· fail "ls"))
  | ((with_reducible apply oAdd_lst); (· fail "lk"); (· fail "lk"))
  | ((with_reducible apply put_lst); (· fail "lk"))
  | ((with_reducible apply put_dic); (· fail "lk"))
  | ((with_reducible apply tru_lst); (· fail "lk"))
  | with_reducible apply oIsT_bl
  | with_reducible apply oIsT_int
  | with_reducible apply oIsT_str
  | with_reducible apply oIsT_tup
  | with_reducible apply oIsT_rl
  | with_reducible apply oIsT_non
  | with_reducible apply sl_tup
  | with_reducible apply sl_str
  | ((with_reducible apply get_dic); (· fail "lk"))
  | ((with_reducible apply get_dic2); (· fail "lk"))
  | ((with_reducible apply setdef_dic); (· fail "lk"))
  | ((with_reducible apply ext_lst); (· fail "lk"); (· fail "lk"))
  | ((with_reducible apply pop_lst); (· fail "lk"))
  | ((with_reducible apply popAt_lst); (· fail "lk"))
  | ((with_reducible apply ins_lst); (· fail "lk"))
  | ((with_reducible apply clr_lst); (· fail "lk"))
  | ((with_reducible apply clr_dic); (· fail "lk"))
  | ((with_reducible apply join_sq); (· fail "ls"))
  | ((with_reducible apply oEq_sst); (· with_reducible rfl))
  | ((with_reducible apply oEq_ssf); (· first | assumption | decide))
  | ((with_reducible apply oNe_sst); (· with_reducible rfl))
  | ((with_reducible apply oNe_ssf); (· first | assumption | decide))
  | ((with_reducible apply oEq_iit); (· with_reducible rfl))
  | ((with_reducible apply oEq_iif); (· first | assumption | decide))
  | ((with_reducible apply oNe_iit); (· with_reducible rfl))
  | ((with_reducible apply oNe_iif); (· first | assumption | decide))
  | refine Exists.intro _ (And.intro (rfl : atI _ _ = some _) ?_)
  | refine Exists.intro _ (And.intro (rfl : ixN _ _ = some _) ?_)
  | ((with_reducible refine And.intro ?_ ?_); (· fail "sd")))
  | _ => Lean.Macro.throwUnsupported
local macro_rules | `(tactic| nofun) => `(tactic| fail "ne")
local macro_rules | `(tactic| bv_omega) => `(tactic| fail "lk")
local macro_rules | `(tactic| ac_rfl) => `(tactic| fail "sd")
local macro_rules | `(tactic| trivial) => `(tactic| ((conv => whnf); repeat (fail "st"; (conv => whnf))))
/-! ### what the document's pieces are -/
structure MksOk (m : List (Str × Str)) : Prop where
  nd : (m.map (·.1)).Nodup
  kd : ∀ p ∈ m, p.1 ∈ kinds3
  vl : ∀ p ∈ m, p.2 ≠ Str.ofString "" ∧ p.2.length ≤ 8
theorem mkN_sub (s : Dw) : ∀ i, i ≤ 3 → ((mkN s i).1.map (·.1)).Sublist (kinds3.take i)
  | 0, _ => List.Sublist.refl _
  | i + 1, h => by
    have ih := mkN_sub s i (by omega)
    unfold mkN
    have hk : kinds3[i]? = some (kinds3[i]'(show i < 3 by omega)) := List.getElem?_eq_getElem _
    have ht : kinds3.take (i + 1) = kinds3.take i ++ [kinds3[i]'(show i < 3 by omega)] := by rw [List.take_succ, hk]; rfl
    simp only [hk, Option.getD_some, ht]
    split
    · rw [List.map_append]
      exact ih.append (List.Sublist.refl _)
    · rw [List.append_nil]
      exact ih.trans (List.sublist_append_left _ _)
theorem mkN_vl (s : Dw) : ∀ i, ∀ p ∈ (mkN s i).1, p.2 ≠ Str.ofString "" ∧ p.2.length ≤ 8
  | 0 => fun p h => by cases h
  | i + 1 => fun p h => by
    unfold mkN at h
    rcases List.mem_append.mp h with g | g
    · exact mkN_vl s i p g
    · split at g
      · rw [List.mem_singleton.mp g]
        simp only
        split <;> exact ⟨by decide, by decide⟩
      · cases g
theorem mkN_mks (s : Dw) : MksOk (mkN s 3).1 where
  nd := (mkN_sub s 3 (Nat.le_refl 3)).nodup (by decide)
  kd p hp := (mkN_sub s 3 (Nat.le_refl 3)).subset (List.mem_map.mpr ⟨p, hp, rfl⟩)
  vl := mkN_vl s 3
structure TkOk (i : Nat) (t : Tk) : Prop where
  k : t.k = i
  tx : t.tx.length ≤ 8
  ms : MksOk t.mks
theorem rowN_tk (s : Dw) : ∀ n i t, (rowN s n).1[i]? = some t → TkOk i t
  | 0, i, t, h => by simp [rowN] at h
  | n + 1, i, t, h => by
    have hl := rowN_len s n
    unfold rowN at h
    by_cases c : i < n
    · rw [List.getElem?_append_left (by omega)] at h
      exact rowN_tk s n i t h
    · have hi : i = n := by
        have := (List.getElem?_eq_some_iff.mp h).1
        simp only [List.length_append, List.length_singleton] at this
        omega
      rw [hi, List.getElem?_append_right (by omega), hl, Nat.sub_self] at h
      cases h
      refine ⟨hi.symm, ?_, mkN_mks _⟩
      simp only
      cases hx : texts9[(drw (mkN (rowN s n).2 3).2 9).toNat]? with
      | none => decide
      | some x =>
        have := List.mem_of_getElem? hx
        rw [Option.getD_some]
        simp only [texts9, List.mem_cons, List.not_mem_nil, or_false] at this
        rcases this with rfl | rfl | rfl | rfl | rfl | rfl | rfl | rfl | rfl <;> decide
theorem rowF_tk (s : Dw) : ∀ i t, (rowF s).1[i]? = some t → TkOk i t := fun i t h => rowN_tk _ _ i t h
structure NnOk (row : List Tk) (x : Nn) : Prop where
  wd : x.wd.length ≤ 8
  sg : x.sg = .non ∨ ∃ (i : Nat) (t : Tk), row[i]? = some t ∧ x.sg = nm5 t.k
theorem nsN_nn (row : List Tk) (s : Dw) : ∀ n, ∀ x ∈ (nsN row s n).1, NnOk row x
  | 0 => fun x h => by cases h
  | n + 1 => fun x h => by
    unfold nsN at h
    rcases List.mem_append.mp h with g | g
    · exact nsN_nn row s n x g
    · rw [List.mem_singleton.mp g]
      refine ⟨?_, ?_⟩
      · simp only
        split <;> decide
      · simp only
        cases hx : ((row.map fun t => nm5 t.k) ++ [D.non])[(drw (nsN row s n).2 (row.length + 1)).toNat]? with
        | none => exact .inl rfl
        | some d =>
          rw [Option.getD_some]
          rcases List.mem_append.mp (List.mem_of_getElem? hx) with g | g
          · obtain ⟨t, ht, e⟩ := List.mem_map.mp g
            obtain ⟨i, hi, e2⟩ := List.getElem_of_mem ht
            exact .inr ⟨i, t, by rw [← e2]; exact List.getElem?_eq_getElem hi, e.symm⟩
          · exact .inl (List.mem_singleton.mp g)
theorem wdN_wd (s : Dw) : ∀ n, ∀ x ∈ (wdN s n).1, x.length ≤ 8
  | 0 => fun x h => by cases h
  | n + 1 => fun x h => by
    unfold wdN at h
    rcases List.mem_append.mp h with g | g
    · exact wdN_wd s n x g
    · rw [List.mem_singleton.mp g]
      cases hx : [Str.ofString "", Str.ofString "ten", Str.ofString "abcdefgh"][(drw (wdN s n).2 3).toNat]? with
      | none => decide
      | some d =>
        have := List.mem_of_getElem? hx
        rw [Option.getD_some]
        simp only [List.mem_cons, List.not_mem_nil, or_false] at this
        rcases this with rfl | rfl | rfl <;> decide
theorem lnN_wd (c : Nat) (s : Dw) : ∀ n, ∀ l ∈ (lnN c s n).1, l.length = c ∧ ∀ x ∈ l, x.length ≤ 8
  | 0 => fun x h => by cases h
  | n + 1 => fun x h => by
    unfold lnN at h
    rcases List.mem_append.mp h with g | g
    · exact lnN_wd c s n x g
    · rw [List.mem_singleton.mp g]
      exact ⟨wdN_len _ _, wdN_wd _ _⟩
structure BdOk (b : Bd) : Prop where
  row : ∀ (i : Nat) (t : Tk), b.row[i]? = some t → TkOk i t
  rl : b.row.length ≤ 15
  nts : ∀ x ∈ b.nts, NnOk b.row x
  nl : b.nts.length ≤ 4
  rn : b.rn ≤ 4
  cn : b.cn ≤ 4
  wl : b.wds.length = b.rn
  wd : ∀ l ∈ b.wds, l.length = b.cn ∧ ∀ x ∈ l, x.length ≤ 8
theorem bdF_ok (s : Dw) : BdOk (bdF s) where
  row := rowF_tk s
  rl := rowF_len s
  nts := nsN_nn _ _ _
  nl := by
    show (nsN (rowF s).1 _ _).1.length ≤ 4
    rw [nsN_len]
    have := drw_bd (rowF s).2 (k := 4) (by omega)
    omega
  rn := by
    have := drw_bd (nsF (rowF s).1 (rowF s).2).2 (k := 4) (by omega)
    show (drw (nsF (rowF s).1 (rowF s).2).2 4).toNat ≤ 4
    omega
  cn := by
    have := drw_bd (nxt (nsF (rowF s).1 (rowF s).2).2 4) (k := 4) (by omega)
    show (drw (nxt (nsF (rowF s).1 (rowF s).2).2 4) 4).toNat ≤ 4
    omega
  wl := lnN_len _ _ _
  wd := lnN_wd _ _ _
structure EnOk (x : En) : Prop where
  nu : x.num.length ≤ 8
  pt : G.pl 7 x.pt = true
  bd : ∀ b, x.bd = some b → BdOk b
theorem docF_ok (ns : List Int) : ∀ x ∈ docF ns, EnOk x := fun x hx => by
  obtain ⟨k, _, rfl⟩ := List.mem_map.mp hx
  refine ⟨?_, ?_, fun b hb => ?_⟩
  · show ((numsL[k]?).getD Str.empty).length ≤ 8
    cases hx : numsL[k]? with
    | none => decide
    | some d =>
      have := List.mem_of_getElem? hx
      rw [Option.getD_some]
      simp only [numsL, List.mem_cons, List.not_mem_nil, or_false] at this
      rcases this with rfl | rfl | rfl | rfl | rfl <;> decide
  · show G.pl 7 (ptF k) = true
    unfold ptF
    split <;> rfl
  · unfold enF at hb
    simp only at hb
    split at hb
    · cases hb
    · cases hb
      exact bdF_ok _
theorem docF_len (ns : List Int) : (docF ns).length ≤ 5 := by
  unfold docF manyF
  rw [List.length_map, List.length_range]
  have : cellF ns 0 / 2 % 5 < 5 := Int.emod_lt_of_pos _ (by omega)
  omega
end K47
end

section
set_option linter.all false
set_option autoImplicit false
set_option maxRecDepth 100000
set_option maxHeartbeats 4000000
namespace K47
open G
open PySem (Str)
local macro_rules | `(tactic| fail $s:str) => match s.getString with
  | "ne" => `(tactic| first | assumption | (apply Ne.symm; assumption) | exact ne_f1 (by assumption) (by fail "lk") | exact ne_f2 (by assumption) (by fail "lk") | grind [up, Sb])
  | "lk" => `(tactic| first | assumption | exact up_same | (refine up_at ?_ ?_; (· fail "ne"); fail "lk") | (refine Sb.at ?_ ?_; (· assumption); fail "lk"))
  | "sd" => `(tactic| first | (with_reducible show -(2 ^ 62) ≤ (_ : Int); first | omega | (simp only [List.length_map]; omega)) | (with_reducible show (_ : Int) < 2 ^ 62; first | omega | (simp only [List.length_map]; omega)) | assumption | rfl | (apply isT_lst; fail "lk") | (apply isT_dic; fail "lk") | decide | (simp only [List.length_cons, List.length_nil]; decide) | exact mulOk_l (by decide) (by decide) | exact mulOk_r (by decide) (by decide) | exact mulOk_l (by omega) (by omega) | exact mulOk_r (by omega) (by omega) | omega | (simp only [List.length_map]; omega))
  | "ls" => `(tactic| first | exact sq_tup | exact sq_rl | exact ls_rl | (apply ls_lst; fail "lk") | (apply sq_lst; fail "lk"))
  | "st" => `(tactic| first
  | ((with_reducible apply ix_lst); (· fail "lk"))
  | with_reducible apply ix_tup
  | with_reducible apply ix_str
  | with_reducible apply in_tup
  | with_reducible apply min_ii
  | with_reducible apply max_ii
  | ((with_reducible apply in_lst); (· fail "lk"))
  | ((with_reducible apply in_dic); (· fail "lk"))
  | ((with_reducible apply notIn_dic); (· fail "lk"))
  | ((with_reducible apply notIn_lst); (· fail "lk"))
  | with_reducible apply ix_rl
  | ((with_reducible apply ix_dic); (· fail "lk"))
  | ((with_reducible apply app_lst); (· fail "lk"))
  | ((with_reducible apply len_lst); (· fail "lk"))
  | with_reducible apply len_tup
  | with_reducible apply mulS_s
  | with_reducible apply fmt_str
  | with_reducible apply fmt_int
  | with_reducible apply cat_str
  | with_reducible apply str_int
  | with_reducible apply str_str
  | with_reducible apply len_rl
  | with_reducible apply len_str
  | ((with_reducible apply oIsT_lst); (· fail "lk"))
  | ((with_reducible apply dict_ls); (· fail "ls"))
  | ((with_reducible apply sl_ls); (· fail "ls"))
  | ((with_reducible apply rev_ls); (· fail "ls"))
  | ((with_reducible apply list_sq); (· fail "ls"))
  | ((with_reducible apply list_dic); (· fail "lk"))
  | ((with_reducible apply step_ls); (· fail "ls"))
  | ((with_reducible apply addL_ls); (· fail "ls"); (· fail "ls"))
  | ((with_reducible apply index_ls); (· fail "ls"))
  | ((with_reducible apply count_ls); (· fail "ls"))
  | ((with_reducible apply fill_dic); (· fail "lk"))
  | ((with_reducible apply max_ls); (· fail "ls"))
  | ((with_reducible apply sortK_ls); (· fail "ls"))
  | ((with_reducible apply sum_ls); (· fail "ls"))
  | ((with_reducible apply all_ls); (· fail "ls"))
  | ((with_reducible apply sorted_ls); (· fail "ls"))
  | ((with_reducible apply sortI_ls); (· fail "ls"))
  | ((with_reducible apply sortD_ls); (· fail "ls"))
  | ((with_reducible apply sortD_dic); (· fail "lk"))
  | ((with_reducible apply oIsT_dic); (· fail "lk"))
  | ((with_reducible apply walkD_lst); (· fail "lk"))
  | ((with_reducible apply walkD_dic); (· fail "lk"))
  | ((with_reducible apply walkI_dic); (· fail "lk"))
  | with_reducible apply walkD_tup
  | with_reducible apply walkD_rl
  | ((with_reducible apply walkL_lst); (· fail "lk"))
  | with_reducible apply walkL_rl
  | ((with_reducible apply mul_lst); (· fail "lk"))
  | ((with_reducible apply min_ls); (· fail "ls"))
  | ((with_reducible apply oAdd_lst); (· fail "lk"); (· fail "lk"))
  | ((with_reducible apply put_lst); (· fail "lk"))
  | ((with_reducible apply put_dic); (· fail "lk"))
  | ((with_reducible apply tru_lst); (· fail "lk"))
  | with_reducible apply oIsT_bl
  | with_reducible apply oIsT_int
  | with_reducible apply oIsT_str
  | with_reducible apply oIsT_tup
  | with_reducible apply oIsT_rl
  | with_reducible apply oIsT_non
  | with_reducible apply sl_tup
  | with_reducible apply sl_str
  | ((with_reducible apply get_dic); (· fail "lk"))
  | ((with_reducible apply get_dic2); (· fail "lk"))
  | ((with_reducible apply setdef_dic); (· fail "lk"))
  | ((with_reducible apply ext_lst); (· fail "lk"); (· fail "lk"))
  | ((with_reducible apply pop_lst); (· fail "lk"))
  | ((with_reducible apply popAt_lst); (· fail "lk"))
  | ((with_reducible apply ins_lst); (· fail "lk"))
  | ((with_reducible apply clr_lst); (· fail "lk"))
  | ((with_reducible apply clr_dic); (· fail "lk"))
  | ((with_reducible apply join_sq); (· fail "ls"))
  | ((with_reducible apply oEq_sst); (· with_reducible rfl))
  | ((with_reducible apply oEq_ssf); (· first | assumption | decide))
  | ((with_reducible apply oNe_sst); (· with_reducible rfl))
  | ((with_reducible apply oNe_ssf); (· first | assumption | decide))
  | ((with_reducible apply oEq_iit); (· with_reducible rfl))
  | ((with_reducible apply oEq_iif); (· first | assumption | decide))
  | ((with_reducible apply oNe_iit); (· with_reducible rfl))
  | ((with_reducible apply oNe_iif); (· first | assumption | decide))
  | refine Exists.intro _ (And.intro (rfl : atI _ _ = some _) ?_)
  | refine Exists.intro _ (And.intro (rfl : ixN _ _ = some _) ?_)
  | ((with_reducible refine And.intro ?_ ?_); (· fail "sd")))
  | _ => Lean.Macro.throwUnsupported
local macro_rules | `(tactic| nofun) => `(tactic| fail "ne")
local macro_rules | `(tactic| bv_omega) => `(tactic| fail "lk")
local macro_rules | `(tactic| ac_rfl) => `(tactic| fail "sd")
local macro_rules | `(tactic| trivial) => `(tactic| ((conv => whnf); repeat (fail "st"; (conv => whnf))))
/-! ### stretches and runs: plain -/
abbrev Stp := Str × Nat × Nat
def vAt (V : List (Option Str)) (i : Nat) : Option Str := (V[i]?).getD none
def stN (V : List (Option Str)) : Nat → List Stp
  | 0 => []
  | i + 1 => match vAt V i with
    | none => stN V i
    | some v => match (stN V i).getLast? with
      | some l => if l.1 = v ∧ l.2.2 + 1 = i then (stN V i).dropLast ++ [(v, l.2.1, i)] else stN V i ++ [(v, i, i)]
      | none => stN V i ++ [(v, i, i)]
def one (x : Option Str) (b e : Nat) : List Stp := match x with
  | some v => [(v, b, e)]
  | none => []
def rnN (V : List (Option Str)) : Nat → List Stp × Nat
  | 0 => ([], 0)
  | k + 1 =>
    if k + 1 = V.length ∨ vAt V (k + 1) ≠ vAt V (rnN V k).2 then ((rnN V k).1 ++ one (vAt V (rnN V k).2) (rnN V k).2 k, k + 1) else rnN V k
theorem rn_inv (V : List (Option Str)) : ∀ k, k < V.length → (rnN V k).2 ≤ k ∧ vAt V k = vAt V (rnN V k).2 ∧ stN V (k + 1) = (rnN V k).1 ++ one (vAt V (rnN V k).2) (rnN V k).2 k ∧ ∀ l, (rnN V k).1.getLast? = some l → l.2.2 + 1 ≤ (rnN V k).2
  | 0, h => by
    refine ⟨Nat.le_refl _, rfl, ?_, fun l hl => by cases hl⟩
    show stN V 1 = [] ++ one (vAt V 0) 0 0
    unfold stN
    cases vAt V 0 <;> rfl
  | k + 1, h => by
    obtain ⟨h1, h2, h3, h4⟩ := rn_inv V k (by omega)
    unfold rnN
    generalize rnN V k = r at h1 h2 h3 h4 ⊢
    obtain ⟨rs, b⟩ := r
    simp only at h1 h2 h3 h4 ⊢
    by_cases c : vAt V (k + 1) = vAt V b
    · rw [if_neg (fun z => z.elim (fun e => by omega) (fun e => e c))]
      refine ⟨by simp only; omega, c, ?_, h4⟩
      simp only
      show stN V (k + 1 + 1) = _
      rw [stN, h3, c]
      cases hb : vAt V b with
      | none => rfl
      | some v => simp [one]
    · rw [if_pos (.inr c)]
      refine ⟨Nat.le_refl _, rfl, ?_, fun l hl => ?_⟩
      · simp only
        rw [stN, h3]
        cases hy : vAt V (k + 1) with
        | none => simp [one]
        | some w =>
          cases hb : vAt V b with
          | some v =>
            have : v ≠ w := fun e => c (by rw [hy, hb, e])
            simp [one, this]
          | none =>
            simp only [one, List.append_nil]
            cases hl : rs.getLast? with
            | none => rfl
            | some l =>
              have := h4 l hl
              simp only
              rw [if_neg (by omega)]
      · simp only at hl ⊢
        cases hb : vAt V b with
        | none =>
          rw [hb] at hl
          simp only [one, List.append_nil] at hl
          have := h4 l hl
          omega
        | some v =>
          rw [hb] at hl
          simp only [one, List.getLast?_append, List.getLast?_singleton, Option.some_or, Option.some.injEq] at hl
          rw [← hl]
          exact Nat.le_refl _
theorem rn_all (V : List (Option Str)) : (rnN V V.length).1 = stN V V.length := by
  cases hV : V.length with
  | zero => rfl
  | succ k =>
    obtain ⟨_, _, h3, _⟩ := rn_inv V k (by omega)
    rw [rnN, if_pos (.inl hV.symm), h3]
end K47
end

section
set_option linter.all false
set_option autoImplicit false
set_option maxRecDepth 100000
set_option maxHeartbeats 4000000
namespace K47
open G
open PySem (Str)
local macro_rules | `(tactic| fail $s:str) => match s.getString with
  | "ne" => `(tactic| first | assumption | (apply Ne.symm; assumption) | exact ne_f1 (by assumption) (by fail "lk") | exact ne_f2 (by assumption) (by fail "lk") | grind [up, Sb])
  | "lk" => `(tactic| first | assumption | exact up_same | (refine up_at ?_ ?_; (· fail "ne"); fail "lk") | (refine Sb.at ?_ ?_; (· assumption); fail "lk"))
  | "sd" => `(tactic| first | (with_reducible show -(2 ^ 62) ≤ (_ : Int); first | omega | (simp only [List.length_map]; omega)) | (with_reducible show (_ : Int) < 2 ^ 62; first | omega | (simp only [List.length_map]; omega)) | assumption | rfl | (apply isT_lst; fail "lk") | (apply isT_dic; fail "lk") | decide | (simp only [List.length_cons, List.length_nil]; decide) | exact mulOk_l (by decide) (by decide) | exact mulOk_r (by decide) (by decide) | exact mulOk_l (by omega) (by omega) | exact mulOk_r (by omega) (by omega) | omega | (simp only [List.length_map]; omega))
  | "ls" => `(tactic| first | exact sq_tup | exact sq_rl | exact ls_rl | (apply ls_lst; fail "lk") | (apply sq_lst; fail "lk"))
  | "st" => `(tactic| first
  | ((with_reducible apply ix_lst); (· fail "lk"))
  | with_reducible apply ix_tup
  | with_reducible apply ix_str
  | with_reducible apply in_tup
  | with_reducible apply min_ii
  | with_reducible apply max_ii
  | ((with_reducible apply in_lst); (· fail "lk"))
  | ((with_reducible apply in_dic); (· fail "lk"))
  | ((with_reducible apply notIn_dic); (· fail "lk"))
  | ((with_reducible apply notIn_lst); (· fail "lk"))
  | with_reducible apply ix_rl
  | ((with_reducible apply ix_dic); (· fail "lk"))
  | ((with_reducible apply app_lst); (· fail "lk"))
  | ((with_reducible apply len_lst); (· fail "lk"))
  | with_reducible apply len_tup
  | with_reducible apply mulS_s
  | with_reducible apply fmt_str
  | with_reducible apply fmt_int
  | with_reducible apply cat_str
  | with_reducible apply str_int
  | with_reducible apply str_str
  | with_reducible apply len_rl
  | with_reducible apply len_str
  | ((with_reducible apply oIsT_lst); (· fail "lk"))
  | ((with_reducible apply dict_ls); (· fail "ls"))
  | ((with_reducible apply sl_ls); (· fail "ls"))
  | ((with_reducible apply rev_ls); (· fail "ls"))
  | ((with_reducible apply list_sq); (· fail "ls"))
  | ((with_reducible apply list_dic); (· fail "lk"))
  | ((with_reducible apply step_ls); (· fail "ls"))
  | ((with_reducible apply addL_ls); (· fail "ls"); (· fail "ls"))
  | ((with_reducible apply index_ls); (· fail "ls"))
  | ((with_reducible apply count_ls); (· fail "ls"))
  | ((with_reducible apply fill_dic); (· fail "lk"))
  | ((with_reducible apply max_ls); (· fail "ls"))
  | ((with_reducible apply sortK_ls); (· fail "ls"))
  | ((with_reducible apply sum_ls); (· fail "ls"))
  | ((with_reducible apply all_ls); (· fail "ls"))
  | ((with_reducible apply sorted_ls); (· fail "ls"))
  | ((with_reducible apply sortI_ls); (· fail "ls"))
  | ((with_reducible apply sortD_ls); (· fail "ls"))
  | ((with_reducible apply sortD_dic); (· fail "lk"))
  | ((with_reducible apply oIsT_dic); (· fail "lk"))
  | ((with_reducible apply walkD_lst); (· fail "lk"))
  | ((with_reducible apply walkD_dic); (· fail "lk"))
  | ((with_reducible apply walkI_dic); (· fail "lk"))
  | with_reducible apply walkD_tup
  | with_reducible apply walkD_rl
  | ((with_reducible apply walkL_lst); (· fail "lk"))
  | with_reducible apply walkL_rl
  | ((with_reducible apply mul_lst); (· fail "lk"))
  | ((with_reducible apply min_ls); (· fail "ls"))
  | ((with_reducible apply oAdd_lst); (· fail "lk"); (· fail "lk"))
  | ((with_reducible apply put_lst); (· fail "lk"))
  | ((with_reducible apply put_dic); (· fail "lk"))
  | ((with_reducible apply tru_lst); (· fail "lk"))
  | with_reducible apply oIsT_bl
  | with_reducible apply oIsT_int
  | with_reducible apply oIsT_str
  | with_reducible apply oIsT_tup
  | with_reducible apply oIsT_rl
  | with_reducible apply oIsT_non
  | with_reducible apply sl_tup
  | with_reducible apply sl_str
  | ((with_reducible apply get_dic); (· fail "lk"))
  | ((with_reducible apply get_dic2); (· fail "lk"))
  | ((with_reducible apply setdef_dic); (· fail "lk"))
  | ((with_reducible apply ext_lst); (· fail "lk"); (· fail "lk"))
  | ((with_reducible apply pop_lst); (· fail "lk"))
  | ((with_reducible apply popAt_lst); (· fail "lk"))
  | ((with_reducible apply ins_lst); (· fail "lk"))
  | ((with_reducible apply clr_lst); (· fail "lk"))
  | ((with_reducible apply clr_dic); (· fail "lk"))
  | ((with_reducible apply join_sq); (· fail "ls"))
  | ((with_reducible apply oEq_sst); (· with_reducible rfl))
  | ((with_reducible apply oEq_ssf); (· first | assumption | decide))
  | ((with_reducible apply oNe_sst); (· with_reducible rfl))
  | ((with_reducible apply oNe_ssf); (· first | assumption | decide))
  | ((with_reducible apply oEq_iit); (· with_reducible rfl))
  | ((with_reducible apply oEq_iif); (· first | assumption | decide))
  | ((with_reducible apply oNe_iit); (· with_reducible rfl))
  | ((with_reducible apply oNe_iif); (· first | assumption | decide))
  | refine Exists.intro _ (And.intro (rfl : atI _ _ = some _) ?_)
  | refine Exists.intro _ (And.intro (rfl : ixN _ _ = some _) ?_)
  | ((with_reducible refine And.intro ?_ ?_); (· fail "sd")))
  | _ => Lean.Macro.throwUnsupported
local macro_rules | `(tactic| nofun) => `(tactic| fail "ne")
local macro_rules | `(tactic| bv_omega) => `(tactic| fail "lk")
local macro_rules | `(tactic| ac_rfl) => `(tactic| fail "sd")
local macro_rules | `(tactic| trivial) => `(tactic| ((conv => whnf); repeat (fail "st"; (conv => whnf))))
/-! ### stretches: the walk -/
def vlF (kd : Str) (t : Tk) : Option Str := (t.mks.find? fun p => decide (p.1 = kd)).map (·.2)
abbrev encSt (l : Stp) : D := .tup [.str l.1, .int (l.2.1 : Int), .int (l.2.2 : Int)]
theorem stN_len (V : List (Option Str)) : ∀ i, (stN V i).length ≤ i
  | 0 => Nat.le_refl _
  | i + 1 => by
    have ih := stN_len V i
    unfold stN
    split
    · omega
    · split
      · split
        · rw [List.length_append, List.length_dropLast, List.length_singleton]; omega
        · rw [List.length_append, List.length_singleton]; omega
      · rw [List.length_append, List.length_singleton]; omega
theorem pairs_mks : ∀ (m : List (Str × Str)), pairsOf (m.map encMk) = some (m.map fun p => (D.str p.1, D.str p.2))
  | [] => rfl
  | p :: r => by
    show (pairsOf (r.map encMk)).map _ = _
    rw [pairs_mks r]; rfl
theorem dget_mks (kd : Str) : ∀ (m : List (Str × Str)), (dget (m.map fun p => (D.str p.1, D.str p.2)) (.str kd)).getD .non = (match (m.find? fun p => decide (p.1 = kd)).map (·.2) with | some v => .str v | none => .non)
  | [] => rfl
  | p :: r => by
    have ih := dget_mks kd r
    rw [List.map_cons, List.find?_cons]
    by_cases c : p.1 = kd
    · simp [dget, c]
    · simp only [dget, D.str.injEq, c, decide_false, if_false]
      exact ih
theorem stretches_ok {h : AH} {r : Addr} {A : Nat → Addr} {row : List Tk} {kd : Str} {Q : KD} (hr : RowAt h r A row) (hok : ∀ (i : Nat) (t : Tk), row[i]? = some t → TkOk i t) (lr : row.length ≤ 15)
    (q : ∀ f h', h f = none → Sb h h' → h' f = some (.lst ((stN (row.map (vlF kd)) row.length).map encSt)) → Q (.ref f) h') : f_stretches_of [.ref r, .str kd] h Q := by
  have er := hr.lst
  unfold f_stretches_of
  trivial
  refine newL_i fun f nf => ?_
  have hrf : r ≠ f := fun z => by rw [z, nf] at er; cases er
  trivial
  refine ⟨fun i ρ h' => i ≤ row.length ∧ ∃ x3 x4 x5, ρ = [some (.ref r), some (.str kd), some (.ref f), x3, x4, x5] ∧ h' f = some (.lst ((stN (row.map (vlF kd)) i).map encSt)) ∧ Sb h h', ?_, ?_, ?_, ?_⟩
  · exact ⟨Nat.zero_le _, _, _, _, rfl, up_same, (Sb.refl _).upf' nf⟩
  · rintro i ρ h' _ ⟨_, x3, x4, x5, _, _, sb⟩
    exact sb _ _ er
  · rintro i ρ h' d ⟨hi, x3, x4, x5, rfl, ef, sb⟩ hd
    have hd' : (enumD 0 (row.map (encT A)))[i]? = some d := hd
    obtain ⟨y, hy, rfl⟩ := enum_get hd'
    rw [Nat.zero_add]
    obtain ⟨t, ht, rfl⟩ := get_map hy
    have hil := (List.getElem?_eq_some_iff.mp ht).1
    have tok := hok i t ht
    have em := sb _ _ (hr.mks t (List.mem_of_getElem? ht))
    have hV : vAt (row.map (vlF kd)) i = vlF kd t := by unfold vAt; rw [List.getElem?_map, ht]; rfl
    have hl := stN_len (row.map (vlF kd)) i
    have hst : stN (row.map (vlF kd)) (i + 1) = (match vlF kd t with
      | none => stN (row.map (vlF kd)) i
      | some v => match (stN (row.map (vlF kd)) i).getLast? with
        | some l => if l.1 = v ∧ l.2.2 + 1 = i then (stN (row.map (vlF kd)) i).dropLast ++ [(v, l.2.1, i)] else stN (row.map (vlF kd)) i ++ [(v, i, i)]
        | none => stN (row.map (vlF kd)) i ++ [(v, i, i)]) := by rw [stN, hV] <;> rfl
    generalize stN (row.map (vlF kd)) i = st at ef hl hst
    have hdp : dputs [] (t.mks.map fun p => (D.str p.1, D.str p.2)) = t.mks.map fun p => (D.str p.1, D.str p.2) := dputs_new (kvs := []) (by
      rw [List.nil_append, List.map_map]
      have := tok.ms.nd
      have e : (t.mks.map ((fun x : D × D => x.1) ∘ fun p => (D.str p.1, D.str p.2))) = (t.mks.map (·.1)).map D.str := by rw [List.map_map]; rfl
      rw [e]
      exact List.Pairwise.map _ (fun a b h1 h2 => h1 (by injection h2)) this)
    clear hd hd' hy hV
    trivial
    refine ⟨_, pairs_mks _, fun x hx => ?_, ?_⟩
    · obtain ⟨p, _, rfl⟩ := List.mem_map.mp hx
      rfl
    rw [hdp]
    refine newD_i fun z nz => ?_
    have hfz : f ≠ z := fun y => by rw [← y, ef] at nz; cases nz
    have ef2 := up_at (o := .dic (t.mks.map fun p => (D.str p.1, D.str p.2))) hfz ef
    have ez : up h' z (.dic (t.mks.map fun p => (D.str p.1, D.str p.2))) z = some (.dic (t.mks.map fun p => (D.str p.1, D.str p.2))) := up_same
    have sb2 := sb.upf' nz (o := .dic (t.mks.map fun p => (D.str p.1, D.str p.2)))
    generalize up h' z (.dic (t.mks.map fun p => (D.str p.1, D.str p.2))) = h2 at ef2 ez sb2 ⊢
    clear ef sb nz em hdp
    have hg : (dget (t.mks.map fun p => (D.str p.1, D.str p.2)) (.str kd)).getD .non = (match vlF kd t with | some v => .str v | none => .non) := dget_mks kd t.mks
    trivial
    rw [hg]
    clear hg ez
    cases hv : vlF kd t with
    | none =>
      rw [hv] at hst
      trivial
      apply Pt.of
      exact ⟨hil, _, _, _, rfl, by rw [hst]; exact ef2, sb2⟩
    | some v =>
      rw [hv] at hst
      simp only at hst ⊢
      trivial
      refine newL_i fun z2 nz2 => ?_
      have hf2 : f ≠ z2 := fun y => by rw [← y, ef2] at nz2; cases nz2
      have ef3 := up_at (o := .lst []) hf2 ef2
      have sb3 := sb2.upf' nz2 (o := .lst [])
      have e0 : up h2 z2 (.lst []) z2 = some (.lst []) := up_same
      generalize up h2 z2 (.lst []) = h3 at ef3 sb3 e0 ⊢
      clear ef2 sb2 nz2
      trivial
      have pst : plL 7 (st.map encSt) = true := plL_iff.mpr fun x hx => by
        obtain ⟨l, _, rfl⟩ := List.mem_map.mp hx
        rfl
      refine oNe_pv (.lst (n := 7) ef3 pst) (.lst (n := 0) e0 rfl) ?_
      have app : st.getLast? = none ∨ (∃ l, st.getLast? = some l ∧ ¬ (l.1 = v ∧ l.2.2 + 1 = i)) → stN (row.map (vlF kd)) (i + 1) = st ++ [(v, i, i)] := fun c => by
        rcases c with c | ⟨l, c, c2⟩
        · rw [hst, c]
        · rw [hst, c]; exact if_neg c2
      clear e0
      have fin : ∀ xs, Sb h (up h3 f (.lst xs)) := fun xs x u g => by
        rw [up_ne (fun y => by rw [y, nf] at g; cases g)]; exact sb3 _ _ g
      rcases List.eq_nil_or_concat st with rfl | ⟨st', l, rfl⟩
      · have happ := app (.inl rfl)
        trivial
        exact ⟨_, Sb.refl _, hil, _, _, _, rfl, by rw [up_same, happ]; rfl, fin _⟩
      · rw [List.concat_eq_append] at *
        have hne : decide (D.rl ((st' ++ [l]).map encSt) = D.rl []) = false := decide_eq_false (fun e => by rw [List.map_append] at e; simp at e)
        rw [hne]
        rw [List.map_append, List.map_singleton] at ef3
        trivial
        refine ⟨_, atI_last _ _, ?_⟩
        trivial
        refine oEq_ss ?_
        trivial
        refine onT_d (fun c1 => ?_) (fun c1 => ?_)
        · trivial
          refine ⟨_, atI_last _ _, ?_⟩
          trivial
          refine oEq_ii ?_
          trivial
          refine onT_d (fun c2 => ?_) (fun c2 => ?_)
          · have hst3 : stN (row.map (vlF kd)) (i + 1) = st' ++ [(v, l.2.1, i)] := by
              rw [hst]
              simp only [List.getLast?_append, List.getLast?_singleton, Option.some_or, List.dropLast_concat]
              exact if_pos ⟨c1, by omega⟩
            trivial
            refine ⟨_, atI_last _ _, ?_⟩
            trivial
            refine ⟨st'.length, ?_, ?_⟩
            · rw [List.length_append, List.length_map, List.length_singleton]
              unfold ixN
              simp
              omega
            · apply Pt.of
              refine ⟨hil, _, _, _, rfl, ?_, fin _⟩
              rw [up_same, hst3, List.map_append]
              congr 2
              rw [← List.length_map (f := encSt), List.set_append_right _ _ (Nat.le_refl _), Nat.sub_self]
              rfl
          · have happ := app (.inr ⟨l, by simp, fun z => c2 (by omega)⟩)
            trivial
            refine ⟨by rw [← List.map_singleton (f := encSt), ← List.map_append, List.length_map, SZ]; omega, ?_⟩
            apply Pt.of
            exact ⟨hil, _, _, _, rfl, by rw [up_same, happ, List.map_append, List.map_append]; rfl, fin _⟩
        · have happ := app (.inr ⟨l, by simp, fun z => c1 z.1⟩)
          trivial
          refine ⟨by rw [← List.map_singleton (f := encSt), ← List.map_append, List.length_map, SZ]; omega, ?_⟩
          apply Pt.of
          exact ⟨hil, _, _, _, rfl, by rw [up_same, happ, List.map_append, List.map_append]; rfl, fin _⟩
  rintro ρ h' ⟨_, x3, x4, x5, rfl, ef, sb⟩
  have hle : (({ ds := enumD 0 (srcL r (row.map (encT A))).ds, ok := (srcL r (row.map (encT A))).ok } : Src)).ds.length = row.length := by
    show (enumD 0 (row.map (encT A))).length = _
    rw [enum_len, List.length_map]
  rw [hle] at ef
  trivial
  exact ⟨_, Sb.refl _, q f h' nf sb ef⟩
end K47
end

section
set_option linter.all false
set_option autoImplicit false
set_option maxRecDepth 100000
set_option maxHeartbeats 4000000
namespace K47
open G
open PySem (Str)
local macro_rules | `(tactic| fail $s:str) => match s.getString with
  | "ne" => `(tactic| first | assumption | (apply Ne.symm; assumption) | exact ne_f1 (by assumption) (by fail "lk") | exact ne_f2 (by assumption) (by fail "lk") | grind [up, Sb])
  | "lk" => `(tactic| first | assumption | exact up_same | (refine up_at ?_ ?_; (· fail "ne"); fail "lk") | (refine Sb.at ?_ ?_; (· assumption); fail "lk"))
  | "sd" => `(tactic| first | (with_reducible show -(2 ^ 62) ≤ (_ : Int); first | omega | (simp only [List.length_map]; omega)) | (with_reducible show (_ : Int) < 2 ^ 62; first | omega | (simp only [List.length_map]; omega)) | assumption | rfl | (apply isT_lst; fail "lk") | (apply isT_dic; fail "lk") | decide | (simp only [List.length_cons, List.length_nil]; decide) | exact mulOk_l (by decide) (by decide) | exact mulOk_r (by decide) (by decide) | exact mulOk_l (by omega) (by omega) | exact mulOk_r (by omega) (by omega) | omega | (simp only [List.length_map]; omega))
  | "ls" => `(tactic| first | exact sq_tup | exact sq_rl | exact ls_rl | (apply ls_lst; fail "lk") | (apply sq_lst; fail "lk"))
  | "st" => `(tactic| first
  | ((with_reducible apply ix_lst); (· fail "lk"))
  | with_reducible apply ix_tup
  | with_reducible apply ix_str
  | with_reducible apply in_tup
  | with_reducible apply min_ii
  | with_reducible apply max_ii
  | ((with_reducible apply in_lst); (· fail "lk"))
  | ((with_reducible apply in_dic); (· fail "lk"))
  | ((with_reducible apply notIn_dic); (· fail "lk"))
  | ((with_reducible apply notIn_lst); (· fail "lk"))
  | with_reducible apply ix_rl
  | ((with_reducible apply ix_dic); (· fail "lk"))
  | ((with_reducible apply app_lst); (· fail "lk"))
  | ((with_reducible apply len_lst); (· fail "lk"))
  | with_reducible apply len_tup
  | with_reducible apply mulS_s
  | with_reducible apply fmt_str
  | with_reducible apply fmt_int
  | with_reducible apply cat_str
  | with_reducible apply str_int
  | with_reducible apply str_str
  | with_reducible apply len_rl
  | with_reducible apply len_str
  | ((with_reducible apply oIsT_lst); (· fail "lk"))
  | ((with_reducible apply dict_ls); (· fail "ls"))
  | ((with_reducible apply sl_ls); (· fail "ls"))
  | ((with_reducible apply rev_ls); (· fail "ls"))
  | ((with_reducible apply list_sq); (· fail "ls"))
  | ((with_reducible apply list_dic); (· fail "lk"))
  | ((with_reducible apply step_ls); (· fail "ls"))
  | ((with_reducible apply addL_ls); (· fail "ls"); (· fail "ls"))
  | ((with_reducible apply index_ls); (· fail "ls"))
  | ((with_reducible apply count_ls); (· fail "ls"))
  | ((with_reducible apply fill_dic); (· fail "lk"))
  | ((with_reducible apply max_ls); (· fail "ls"))
  | ((with_reducible apply sortK_ls); (· fail "ls"))
  | ((with_reducible apply sum_ls); (· fail "ls"))
  | ((with_reducible apply all_ls); (· fail "ls"))
  | ((with_reducible apply sorted_ls); (· fail "ls"))
  | ((with_reducible apply sortI_ls); (· fail "ls"))
  | ((with_reducible apply sortD_ls); (· fail "ls"))
  | ((with_reducible apply sortD_dic); (· fail "lk"))
  | ((with_reducible apply oIsT_dic); (· fail "lk"))
  | ((with_reducible apply walkD_lst); (· fail "lk"))
  | ((with_reducible apply walkD_dic); (· fail "lk"))
  | ((with_reducible apply walkI_dic); (· fail "lk"))
  | with_reducible apply walkD_tup
  | with_reducible apply walkD_rl
  | ((with_reducible apply walkL_lst); (· fail "lk"))
  | with_reducible apply walkL_rl
  | ((with_reducible apply mul_lst); (· fail "lk"))
  | ((with_reducible apply min_ls); (· fail "ls"))
  | ((with_reducible apply oAdd_lst); (· fail "lk"); (· fail "lk"))
  | ((with_reducible apply put_lst); (· fail "lk"))
  | ((with_reducible apply put_dic); (· fail "lk"))
  | ((with_reducible apply tru_lst); (· fail "lk"))
  | with_reducible apply oIsT_bl
  | with_reducible apply oIsT_int
  | with_reducible apply oIsT_str
  | with_reducible apply oIsT_tup
  | with_reducible apply oIsT_rl
  | with_reducible apply oIsT_non
  | with_reducible apply sl_tup
  | with_reducible apply sl_str
  | ((with_reducible apply get_dic); (· fail "lk"))
  | ((with_reducible apply get_dic2); (· fail "lk"))
  | ((with_reducible apply setdef_dic); (· fail "lk"))
  | ((with_reducible apply ext_lst); (· fail "lk"); (· fail "lk"))
  | ((with_reducible apply pop_lst); (· fail "lk"))
  | ((with_reducible apply popAt_lst); (· fail "lk"))
  | ((with_reducible apply ins_lst); (· fail "lk"))
  | ((with_reducible apply clr_lst); (· fail "lk"))
  | ((with_reducible apply clr_dic); (· fail "lk"))
  | ((with_reducible apply join_sq); (· fail "ls"))
  | ((with_reducible apply oEq_sst); (· with_reducible rfl))
  | ((with_reducible apply oEq_ssf); (· first | assumption | decide))
  | ((with_reducible apply oNe_sst); (· with_reducible rfl))
  | ((with_reducible apply oNe_ssf); (· first | assumption | decide))
  | ((with_reducible apply oEq_iit); (· with_reducible rfl))
  | ((with_reducible apply oEq_iif); (· first | assumption | decide))
  | ((with_reducible apply oNe_iit); (· with_reducible rfl))
  | ((with_reducible apply oNe_iif); (· first | assumption | decide))
  | refine Exists.intro _ (And.intro (rfl : atI _ _ = some _) ?_)
  | refine Exists.intro _ (And.intro (rfl : ixN _ _ = some _) ?_)
  | ((with_reducible refine And.intro ?_ ?_); (· fail "sd")))
  | _ => Lean.Macro.throwUnsupported
local macro_rules | `(tactic| nofun) => `(tactic| fail "ne")
local macro_rules | `(tactic| bv_omega) => `(tactic| fail "lk")
local macro_rules | `(tactic| ac_rfl) => `(tactic| fail "sd")
local macro_rules | `(tactic| trivial) => `(tactic| ((conv => whnf); repeat (fail "st"; (conv => whnf))))
/-! ### the law's marks -/
def vS (x : Option Str) : Str := x.getD (Str.ofString "")
abbrev vD (x : Option Str) : D := .str (vS x)
theorem l_value_ok {h : AH} {a : Addr} {t : Tk} {kd : Str} {nm tx : D} {Q : KD} (em : h a = some (.lst (t.mks.map encMk))) (q : Q (vD (vlF kd t)) h) : f_l_value [.tup [nm, tx, .ref a], .str kd] h Q := by
  have hv : vlF kd t = (t.mks.find? fun p => decide (p.1 = kd)).map (·.2) := rfl
  rw [hv] at q
  unfold f_l_value
  trivial
  refine ⟨fun i ρ h' => i ≤ t.mks.length ∧ ∃ x2 x3, ρ = [some (.tup [nm, tx, .ref a]), some (.str kd), x2, x3] ∧ h' = h ∧ t.mks.find? (fun p => decide (p.1 = kd)) = (t.mks.drop i).find? (fun p => decide (p.1 = kd)), ?_, ?_, ?_, ?_⟩
  · exact ⟨Nat.zero_le _, _, _, rfl, rfl, rfl⟩
  · rintro i ρ h' _ ⟨_, x2, x3, _, rfl, _⟩
    exact em
  · rintro i ρ h' d ⟨hi, x2, x3, rfl, rfl, hf⟩ hd
    obtain ⟨p, hp, rfl⟩ := get_map hd
    have hil := (List.getElem?_eq_some_iff.mp hp).1
    have hdr : t.mks.drop i = p :: t.mks.drop (i + 1) := by
      rw [List.drop_eq_getElem_cons hil]
      congr 1
      exact (List.getElem?_eq_some_iff.mp hp).2
    rw [hdr, List.find?_cons] at hf
    clear hd
    trivial
    refine oEq_ss ?_
    trivial
    refine onT_d (fun c => ?_) (fun c => ?_)
    · rw [decide_eq_true c] at hf
      rw [hf] at q
      trivial
      apply Pt.of
      exact q
    · rw [decide_eq_false c] at hf
      apply Pt.of
      exact ⟨hil, _, _, rfl, rfl, hf⟩
  rintro ρ h' ⟨_, x2, x3, rfl, rfl, hf⟩
  rw [show t.mks.drop (srcL a (t.mks.map encMk)).ds.length = [] from List.drop_eq_nil_of_le (by simp [srcL])] at hf
  rw [hf] at q
  trivial
  apply Pt.of
  exact q
end K47
end

section
set_option linter.all false
set_option autoImplicit false
set_option maxRecDepth 100000
set_option maxHeartbeats 4000000
namespace K47
open G
open PySem (Str)
local macro_rules | `(tactic| fail $s:str) => match s.getString with
  | "ne" => `(tactic| first | assumption | (apply Ne.symm; assumption) | exact ne_f1 (by assumption) (by fail "lk") | exact ne_f2 (by assumption) (by fail "lk") | grind [up, Sb])
  | "lk" => `(tactic| first | assumption | exact up_same | (refine up_at ?_ ?_; (· fail "ne"); fail "lk") | (refine Sb.at ?_ ?_; (· assumption); fail "lk"))
  | "sd" => `(tactic| first | (with_reducible show -(2 ^ 62) ≤ (_ : Int); first | omega | (simp only [List.length_map]; omega)) | (with_reducible show (_ : Int) < 2 ^ 62; first | omega | (simp only [List.length_map]; omega)) | assumption | rfl | (apply isT_lst; fail "lk") | (apply isT_dic; fail "lk") | decide | (simp only [List.length_cons, List.length_nil]; decide) | exact mulOk_l (by decide) (by decide) | exact mulOk_r (by decide) (by decide) | exact mulOk_l (by omega) (by omega) | exact mulOk_r (by omega) (by omega) | omega | (simp only [List.length_map]; omega))
  | "ls" => `(tactic| first | exact sq_tup | exact sq_rl | exact ls_rl | (apply ls_lst; fail "lk") | (apply sq_lst; fail "lk"))
  | "st" => `(tactic| first
  | ((with_reducible apply ix_lst); (· fail "lk"))
  | with_reducible apply ix_tup
  | with_reducible apply ix_str
  | with_reducible apply in_tup
  | with_reducible apply min_ii
  | with_reducible apply max_ii
  | ((with_reducible apply in_lst); (· fail "lk"))
  | ((with_reducible apply in_dic); (· fail "lk"))
  | ((with_reducible apply notIn_dic); (· fail "lk"))
  | ((with_reducible apply notIn_lst); (· fail "lk"))
  | with_reducible apply ix_rl
  | ((with_reducible apply ix_dic); (· fail "lk"))
  | ((with_reducible apply app_lst); (· fail "lk"))
  | ((with_reducible apply len_lst); (· fail "lk"))
  | with_reducible apply len_tup
  | with_reducible apply mulS_s
  | with_reducible apply fmt_str
  | with_reducible apply fmt_int
  | with_reducible apply cat_str
  | with_reducible apply str_int
  | with_reducible apply str_str
  | with_reducible apply len_rl
  | with_reducible apply len_str
  | ((with_reducible apply oIsT_lst); (· fail "lk"))
  | ((with_reducible apply dict_ls); (· fail "ls"))
  | ((with_reducible apply sl_ls); (· fail "ls"))
  | ((with_reducible apply rev_ls); (· fail "ls"))
  | ((with_reducible apply list_sq); (· fail "ls"))
  | ((with_reducible apply list_dic); (· fail "lk"))
  | ((with_reducible apply step_ls); (· fail "ls"))
  | ((with_reducible apply addL_ls); (· fail "ls"); (· fail "ls"))
  | ((with_reducible apply index_ls); (· fail "ls"))
  | ((with_reducible apply count_ls); (· fail "ls"))
  | ((with_reducible apply fill_dic); (· fail "lk"))
  | ((with_reducible apply max_ls); (· fail "ls"))
  | ((with_reducible apply sortK_ls); (· fail "ls"))
  | ((with_reducible apply sum_ls); (· fail "ls"))
  | ((with_reducible apply all_ls); (· fail "ls"))
  | ((with_reducible apply sorted_ls); (· fail "ls"))
  | ((with_reducible apply sortI_ls); (· fail "ls"))
  | ((with_reducible apply sortD_ls); (· fail "ls"))
  | ((with_reducible apply sortD_dic); (· fail "lk"))
  | ((with_reducible apply oIsT_dic); (· fail "lk"))
  | ((with_reducible apply walkD_lst); (· fail "lk"))
  | ((with_reducible apply walkD_dic); (· fail "lk"))
  | ((with_reducible apply walkI_dic); (· fail "lk"))
  | with_reducible apply walkD_tup
  | with_reducible apply walkD_rl
  | ((with_reducible apply walkL_lst); (· fail "lk"))
  | with_reducible apply walkL_rl
  | ((with_reducible apply mul_lst); (· fail "lk"))
  | ((with_reducible apply min_ls); (· fail "ls"))
  | ((with_reducible apply oAdd_lst); (· fail "lk"); (· fail "lk"))
  | ((with_reducible apply put_lst); (· fail "lk"))
  | ((with_reducible apply put_dic); (· fail "lk"))
  | ((with_reducible apply tru_lst); (· fail "lk"))
  | with_reducible apply oIsT_bl
  | with_reducible apply oIsT_int
  | with_reducible apply oIsT_str
  | with_reducible apply oIsT_tup
  | with_reducible apply oIsT_rl
  | with_reducible apply oIsT_non
  | with_reducible apply sl_tup
  | with_reducible apply sl_str
  | ((with_reducible apply get_dic); (· fail "lk"))
  | ((with_reducible apply get_dic2); (· fail "lk"))
  | ((with_reducible apply setdef_dic); (· fail "lk"))
  | ((with_reducible apply ext_lst); (· fail "lk"); (· fail "lk"))
  | ((with_reducible apply pop_lst); (· fail "lk"))
  | ((with_reducible apply popAt_lst); (· fail "lk"))
  | ((with_reducible apply ins_lst); (· fail "lk"))
  | ((with_reducible apply clr_lst); (· fail "lk"))
  | ((with_reducible apply clr_dic); (· fail "lk"))
  | ((with_reducible apply join_sq); (· fail "ls"))
  | ((with_reducible apply oEq_sst); (· with_reducible rfl))
  | ((with_reducible apply oEq_ssf); (· first | assumption | decide))
  | ((with_reducible apply oNe_sst); (· with_reducible rfl))
  | ((with_reducible apply oNe_ssf); (· first | assumption | decide))
  | ((with_reducible apply oEq_iit); (· with_reducible rfl))
  | ((with_reducible apply oEq_iif); (· first | assumption | decide))
  | ((with_reducible apply oNe_iit); (· with_reducible rfl))
  | ((with_reducible apply oNe_iif); (· first | assumption | decide))
  | refine Exists.intro _ (And.intro (rfl : atI _ _ = some _) ?_)
  | refine Exists.intro _ (And.intro (rfl : ixN _ _ = some _) ?_)
  | ((with_reducible refine And.intro ?_ ?_); (· fail "sd")))
  | _ => Lean.Macro.throwUnsupported
local macro_rules | `(tactic| nofun) => `(tactic| fail "ne")
local macro_rules | `(tactic| bv_omega) => `(tactic| fail "lk")
local macro_rules | `(tactic| ac_rfl) => `(tactic| fail "sd")
local macro_rules | `(tactic| trivial) => `(tactic| ((conv => whnf); repeat (fail "st"; (conv => whnf))))
/-! ### the law's marks: the walk -/
def nS (n : Nat) : Str := Str.ofString (toString (n : Int))
theorem nS_len : ∀ n, n < 100 → (nS n).length ≤ 2 := by decide
def markS (kd : Str) (l : Stp) : Str := PySem.Str.join (Str.ofString " ") [Str.ofString "mark", kd, l.1, nS l.2.1, nS l.2.2]
theorem rnN_len (V : List (Option Str)) : ∀ i, (rnN V i).1.length ≤ i ∧ (rnN V i).2 ≤ i
  | 0 => ⟨Nat.le_refl _, Nat.le_refl _⟩
  | i + 1 => by
    have ih := rnN_len V i
    unfold rnN
    split
    · simp only [List.length_append, one]
      split <;> simp <;> omega
    · omega
def mrk1 (row : List Tk) (kd : Str) : List Str := (stN (row.map (vlF kd)) row.length).map (markS kd)
def mrkN (row : List Tk) (i : Nat) : List Str := (kinds3.take i).flatMap (mrk1 row)
theorem log_le {i : Int} (h : i.natAbs < 100) : i.natAbs.log2 < 1920 := by
  have := Nat.log2_le_self i.natAbs
  omega
theorem vS_eq {x : Option Str} (h : ∀ v, x = some v → v ≠ Str.ofString "") {y : Option Str} (h' : ∀ v, y = some v → v ≠ Str.ofString "") : vS x = vS y ↔ x = y := by
  cases x with
  | none =>
    cases y with
    | none => simp
    | some w => simp only [vS, Option.getD_some, Option.getD_none, reduceCtorEq, iff_false]; exact fun e => h' w rfl e.symm
  | some v =>
    cases y with
    | none => simp only [vS, Option.getD_some, Option.getD_none, reduceCtorEq, iff_false]; exact fun e => h v rfl e
    | some w => simp [vS]
theorem vlF_ok {t : Tk} (h : MksOk t.mks) (kd : Str) : ∀ v, vlF kd t = some v → v ≠ Str.ofString "" ∧ v.length ≤ 8 := fun v e => by
  unfold vlF at e
  obtain ⟨p, hp, rfl⟩ := Option.map_eq_some_iff.mp e
  exact h.vl p (List.mem_of_find?_eq_some hp)
end K47
end

section
set_option linter.all false
set_option autoImplicit false
set_option maxRecDepth 100000
set_option maxHeartbeats 4000000
namespace K47
open G
open PySem (Str)
local macro_rules | `(tactic| fail $s:str) => match s.getString with
  | "ne" => `(tactic| first | assumption | (apply Ne.symm; assumption) | exact ne_f1 (by assumption) (by fail "lk") | exact ne_f2 (by assumption) (by fail "lk") | grind [up, Sb])
  | "lk" => `(tactic| first | assumption | exact up_same | (refine up_at ?_ ?_; (· fail "ne"); fail "lk") | (refine Sb.at ?_ ?_; (· assumption); fail "lk"))
  | "sd" => `(tactic| first | (with_reducible show -(2 ^ 62) ≤ (_ : Int); first | omega | (simp only [List.length_map]; omega)) | (with_reducible show (_ : Int) < 2 ^ 62; first | omega | (simp only [List.length_map]; omega)) | assumption | rfl | (apply isT_lst; fail "lk") | (apply isT_dic; fail "lk") | decide | (simp only [List.length_cons, List.length_nil]; decide) | exact mulOk_l (by decide) (by decide) | exact mulOk_r (by decide) (by decide) | exact mulOk_l (by omega) (by omega) | exact mulOk_r (by omega) (by omega) | omega | (simp only [List.length_map]; omega))
  | "ls" => `(tactic| first | exact sq_tup | exact sq_rl | exact ls_rl | (apply ls_lst; fail "lk") | (apply sq_lst; fail "lk"))
  | "st" => `(tactic| first
  | ((with_reducible apply ix_lst); (· fail "lk"))
  | with_reducible apply ix_tup
  | with_reducible apply ix_str
  | with_reducible apply in_tup
  | with_reducible apply min_ii
  | with_reducible apply max_ii
  | ((with_reducible apply in_lst); (· fail "lk"))
  | ((with_reducible apply in_dic); (· fail "lk"))
  | ((with_reducible apply notIn_dic); (· fail "lk"))
  | ((with_reducible apply notIn_lst); (· fail "lk"))
  | with_reducible apply ix_rl
  | ((with_reducible apply ix_dic); (· fail "lk"))
  | ((with_reducible apply app_lst); (· fail "lk"))
  | ((with_reducible apply len_lst); (· fail "lk"))
  | with_reducible apply len_tup
  | with_reducible apply mulS_s
  | with_reducible apply fmt_str
  | with_reducible apply fmt_int
  | with_reducible apply cat_str
  | with_reducible apply str_int
  | with_reducible apply str_str
  | with_reducible apply len_rl
  | with_reducible apply len_str
  | ((with_reducible apply oIsT_lst); (· fail "lk"))
  | ((with_reducible apply dict_ls); (· fail "ls"))
  | ((with_reducible apply sl_ls); (· fail "ls"))
  | ((with_reducible apply rev_ls); (· fail "ls"))
  | ((with_reducible apply list_sq); (· fail "ls"))
  | ((with_reducible apply list_dic); (· fail "lk"))
  | ((with_reducible apply step_ls); (· fail "ls"))
  | ((with_reducible apply addL_ls); (· fail "ls"); (· fail "ls"))
  | ((with_reducible apply index_ls); (· fail "ls"))
  | ((with_reducible apply count_ls); (· fail "ls"))
  | ((with_reducible apply fill_dic); (· fail "lk"))
  | ((with_reducible apply max_ls); (· fail "ls"))
  | ((with_reducible apply sortK_ls); (· fail "ls"))
  | ((with_reducible apply sum_ls); (· fail "ls"))
  | ((with_reducible apply all_ls); (· fail "ls"))
  | ((with_reducible apply sorted_ls); (· fail "ls"))
  | ((with_reducible apply sortI_ls); (· fail "ls"))
  | ((with_reducible apply sortD_ls); (· fail "ls"))
  | ((with_reducible apply sortD_dic); (· fail "lk"))
  | ((with_reducible apply oIsT_dic); (· fail "lk"))
  | ((with_reducible apply walkD_lst); (· fail "lk"))
  | ((with_reducible apply walkD_dic); (· fail "lk"))
  | ((with_reducible apply walkI_dic); (· fail "lk"))
  | with_reducible apply walkD_tup
  | with_reducible apply walkD_rl
  | ((with_reducible apply walkL_lst); (· fail "lk"))
  | with_reducible apply walkL_rl
  | ((with_reducible apply mul_lst); (· fail "lk"))
  | ((with_reducible apply min_ls); (· fail "ls"))
  | ((with_reducible apply oAdd_lst); (· fail "lk"); (· fail "lk"))
  | ((with_reducible apply put_lst); (· fail "lk"))
  | ((with_reducible apply put_dic); (· fail "lk"))
  | ((with_reducible apply tru_lst); (· fail "lk"))
  | with_reducible apply oIsT_bl
  | with_reducible apply oIsT_int
  | with_reducible apply oIsT_str
  | with_reducible apply oIsT_tup
  | with_reducible apply oIsT_rl
  | with_reducible apply oIsT_non
  | with_reducible apply sl_tup
  | with_reducible apply sl_str
  | ((with_reducible apply get_dic); (· fail "lk"))
  | ((with_reducible apply get_dic2); (· fail "lk"))
  | ((with_reducible apply setdef_dic); (· fail "lk"))
  | ((with_reducible apply ext_lst); (· fail "lk"); (· fail "lk"))
  | ((with_reducible apply pop_lst); (· fail "lk"))
  | ((with_reducible apply popAt_lst); (· fail "lk"))
  | ((with_reducible apply ins_lst); (· fail "lk"))
  | ((with_reducible apply clr_lst); (· fail "lk"))
  | ((with_reducible apply clr_dic); (· fail "lk"))
  | ((with_reducible apply join_sq); (· fail "ls"))
  | ((with_reducible apply oEq_sst); (· with_reducible rfl))
  | ((with_reducible apply oEq_ssf); (· first | assumption | decide))
  | ((with_reducible apply oNe_sst); (· with_reducible rfl))
  | ((with_reducible apply oNe_ssf); (· first | assumption | decide))
  | ((with_reducible apply oEq_iit); (· with_reducible rfl))
  | ((with_reducible apply oEq_iif); (· first | assumption | decide))
  | ((with_reducible apply oNe_iit); (· with_reducible rfl))
  | ((with_reducible apply oNe_iif); (· first | assumption | decide))
  | refine Exists.intro _ (And.intro (rfl : atI _ _ = some _) ?_)
  | refine Exists.intro _ (And.intro (rfl : ixN _ _ = some _) ?_)
  | ((with_reducible refine And.intro ?_ ?_); (· fail "sd")))
  | _ => Lean.Macro.throwUnsupported
local macro_rules | `(tactic| nofun) => `(tactic| fail "ne")
local macro_rules | `(tactic| bv_omega) => `(tactic| fail "lk")
local macro_rules | `(tactic| ac_rfl) => `(tactic| fail "sd")
local macro_rules | `(tactic| trivial) => `(tactic| ((conv => whnf); repeat (fail "st"; (conv => whnf))))
theorem mrk1_len {row : List Tk} (lr : row.length ≤ 15) (kd : Str) : (mrk1 row kd).length ≤ 15 := by
  unfold mrk1
  rw [List.length_map]
  exact Nat.le_trans (stN_len _ _) lr
theorem mrkN_len {row : List Tk} (lr : row.length ≤ 15) : ∀ j, j ≤ 3 → (mrkN row j).length ≤ 15 * j
  | 0, _ => by simp [mrkN]
  | j + 1, h => by
    have ih := mrkN_len lr j (by omega)
    have hk : kinds3[j]? = some (kinds3[j]'(show j < 3 by omega)) := List.getElem?_eq_getElem _
    have := mrk1_len lr (kinds3[j]'(show j < 3 by omega))
    have e : mrkN row (j + 1) = mrkN row j ++ mrk1 row (kinds3[j]'(show j < 3 by omega)) := by
      unfold mrkN
      rw [take_snoc hk, List.flatMap_append]; simp
    rw [e, List.length_append]; omega
theorem l_marks_ok {h : AH} {r : Addr} {A : Nat → Addr} {row : List Tk} {Q : KD} (hr : RowAt h r A row) (hok : ∀ (i : Nat) (t : Tk), row[i]? = some t → TkOk i t) (lr : row.length ≤ 15)
    (q : ∀ m h', h m = none → Sb h h' → h' m = some (.lst ((mrkN row 3).map .str)) → Q (.ref m) h') : f_l_marks [.ref r] h Q := by
  have er := hr.lst
  unfold f_l_marks
  trivial
  refine newL_i fun m nm => ?_
  have hrm : r ≠ m := fun z => by rw [z, nm] at er; cases er
  trivial
  refine newL_i fun z nz => ?_
  generalize hH : up (up h m _) z _ = h2
  have hmz : m ≠ z := fun g => (up_none.mp nz).1 g.symm
  have em2 : h2 m = some (.lst []) := by rw [← hH]; exact up_at hmz up_same
  have ez2 : h2 z = some (.lst (kinds3.map D.str)) := by rw [← hH]; exact up_same
  have sb2 : Sb h h2 := by rw [← hH]; exact ((Sb.refl _).upf' nm).upf' nz
  clear hH nz
  have ek : kinds3.map D.str = [D.str (Str.ofString "b"), .str (Str.ofString "bold"), .str (Str.ofString "ink")] := rfl
  rw [ek] at ez2
  trivial
  refine ⟨fun j ρ h' => j ≤ 3 ∧ ∃ x2 x3 x4 x5, ρ = [some (.ref r), some (.ref m), x2, x3, x4, x5] ∧ h' m = some (.lst ((mrkN row j).map .str)) ∧ Sb (hm h2 [m]) h', ?_, ?_, ?_, ?_⟩
  · exact ⟨by omega, _, _, _, _, rfl, em2, hm_sb _ _⟩
  · rintro j ρ h' _ ⟨_, x2, x3, x4, x5, _, _, sb⟩
    exact hm_get sb ez2 (by simpa using hmz.symm)
  · rintro j ρ h' d ⟨hj, x2, x3, x4, x5, rfl, em, sb⟩ hd
    have hd' : (kinds3.map D.str)[j]? = some d := hd
    obtain ⟨kd, hkd, rfl⟩ := get_map hd'
    have hj3 : j < 3 := (List.getElem?_eq_some_iff.mp hkd).1
    have hst : mrkN row (j + 1) = mrkN row j ++ mrk1 row kd := by
      unfold mrkN
      rw [take_snoc hkd, List.flatMap_append]; simp
    have hml : (mrkN row j).length ≤ 15 * j := mrkN_len lr j hj
    generalize mrkN row j = ms at em hst hml
    clear hd hd'
    have er' := hm_get sb (sb2 _ _ er) (by simpa using hrm)
    trivial
    have hcnt : ((((row.map (encT A)).length : Nat) : Int) + 1 - 1).toNat = row.length := by rw [List.length_map]; omega
    rw [hcnt]
    have hV : ∀ {k : Nat} {t : Tk}, row[k]? = some t → vAt (row.map (vlF kd)) k = vlF kd t := fun ht => by unfold vAt; rw [List.getElem?_map, ht]; rfl
    have hVl : (row.map (vlF kd)).length = row.length := List.length_map _
    have hfin : mrk1 row kd = ((rnN (row.map (vlF kd)) row.length).1).map (markS kd) := by
      have := rn_all (row.map (vlF kd))
      rw [hVl] at this
      rw [this]; rfl
    generalize row.map (vlF kd) = V at hV hVl hfin
    refine ⟨fun i ρ g => i ≤ row.length ∧ ∃ x4 x5, ρ = [some (.ref r), some (.ref m), some (.str kd), some (.int ((rnN V i).2 : Int)), x4, x5] ∧ g m = some (.lst ((ms ++ (rnN V i).1.map (markS kd)).map .str)) ∧ Sb (hm h2 [m]) g, ?_, ?_, ?_, ?_⟩
    · exact ⟨Nat.zero_le _, _, _, rfl, by rw [show (rnN V 0).1 = [] from rfl, List.map_nil, List.append_nil]; exact em, sb⟩
    · rintro i ρ g _ _
      exact True.intro
    · rintro i ρ g d ⟨hi, x4, x5, rfl, em, sb⟩ hd
      obtain ⟨hi', rfl⟩ := rng_get hd
      have hln := rnN_len V i
      have hst2 : rnN V (i + 1) = if i + 1 = V.length ∨ vAt V (i + 1) ≠ vAt V (rnN V i).2 then ((rnN V i).1 ++ one (vAt V (rnN V i).2) (rnN V i).2 i, i + 1) else rnN V i := rfl
      generalize rnN V i = rr at em hln hst2
      obtain ⟨rs, b⟩ := rr
      simp only at em hln hst2
      have er2 := hm_get sb (sb2 _ _ er) (by simpa using hrm)
      obtain ⟨tb, htb⟩ : ∃ tb, row[b]? = some tb := ⟨_, List.getElem?_eq_getElem (by omega)⟩
      have hvb := hV htb
      have okb := hok b tb htb
      have emb : g (A tb.k) = some (.lst (tb.mks.map encMk)) := hm_get sb (sb2 _ _ (hr.mks tb (List.mem_of_getElem? htb))) (by
        simp only [List.mem_cons, List.not_mem_nil, or_false]
        exact fun y => by have := hr.mks tb (List.mem_of_getElem? htb); rw [y, nm] at this; cases this)
      have hatb : (row.map (encT A))[b]? = some (encT A tb) := by rw [List.getElem?_map, htb]; rfl
      rw [hvb] at hst2
      clear hd
      trivial
      refine ⟨_, atI_nat hatb, ?_⟩
      trivial
      refine l_value_ok emb ?_
      have vb := vlF_ok okb.ms kd
      generalize vlF kd tb = y at hst2 vb ⊢
      trivial
      refine oEq_ii ?_
      trivial
      apply joinP (P := i + 1 = V.length ∨ vAt V (i + 1) ≠ y)
      case m =>
        intro go
        refine onT_d (fun c1 => ?_) (fun c1 => ?_)
        · exact (go (.inl (by rw [hVl]; rw [List.length_map] at c1; omega))).un
        · obtain ⟨tk, htk⟩ : ∃ tk, row[i + 1]? = some tk := ⟨_, List.getElem?_eq_getElem (by rw [List.length_map] at c1; omega)⟩
          have hvk := hV htk
          have emk : g (A tk.k) = some (.lst (tk.mks.map encMk)) := hm_get sb (sb2 _ _ (hr.mks tk (List.mem_of_getElem? htk))) (by
            simp only [List.mem_cons, List.not_mem_nil, or_false]
            exact fun y => by have := hr.mks tk (List.mem_of_getElem? htk); rw [y, nm] at this; cases this)
          have hatk : (row.map (encT A))[i + 1]? = some (encT A tk) := by rw [List.getElem?_map, htk]; rfl
          have vk := vlF_ok (hok _ tk htk).ms kd
          rw [hvk] at go hst2
          trivial
          refine ⟨_, (show atI _ (1 + (i : Int)) = _ by rw [show (1 : Int) + (i : Int) = ((i + 1 : Nat) : Int) by omega]; exact atI_nat hatk), ?_⟩
          trivial
          refine l_value_ok emk ?_
          generalize vlF kd tk = x at vk go hst2 ⊢
          refine oNe_pv (.pl (n := 7) rfl) (.pl (n := 7) rfl) ?_
          trivial
          refine onT_nd (fun c2 => ?_) (fun c2 => ?_)
          · exact (go (.inr fun e => c2 (by rw [e]))).un
          · have e : x = y := (vS_eq (fun v h => (vk v h).1) (fun v h => (vb v h).1)).mp (by injection c2)
            rw [if_neg (fun z => z.elim (fun e1 => c1 (by rw [List.length_map]; omega)) (fun e1 => e1 e))] at hst2
            trivial
            apply Pt.of
            exact ⟨hi', _, _, by rw [hst2]; rfl, by rw [hst2]; exact em, sb⟩
      intro hcond
      rw [if_pos hcond] at hst2
      trivial
      refine oNe_pv (.pl (n := 7) rfl) (.pl (n := 7) rfl) ?_
      trivial
      refine onT_nd (fun c2 => ?_) (fun c2 => ?_)
      · obtain ⟨v, rfl⟩ : ∃ v, y = some v := by
          cases y with
          | none => exact absurd rfl c2
          | some v => exact ⟨v, rfl⟩
        have hbn := nS_len b (by omega)
        have hin := nS_len i (by omega)
        have hvl := (vb v rfl).2
        have hkl : kd.length ≤ 8 := by
          have := List.mem_of_getElem? hkd
          simp only [kinds3, List.mem_cons, List.not_mem_nil, or_false] at this
          rcases this with rfl | rfl | rfl <;> decide
        trivial
        refine ⟨log_le (by show ((b : Nat) : Int).natAbs < 100; omega), ?_⟩
        trivial
        refine ⟨log_le (by omega), ?_⟩
        trivial
        rw [show (1 : Int) + (i : Int) - 1 = (i : Int) by omega]
        change newL [D.str (Str.ofString "mark"), D.str kd, D.str v, D.str (nS b), D.str (nS i)] g _
        refine newL_i fun z2 nz2 => ?_
        have hm2 : m ≠ z2 := fun y => by rw [← y, em] at nz2; cases nz2
        have em3 := up_at (o := .lst [D.str (Str.ofString "mark"), .str kd, .str v, .str (nS b), .str (nS i)]) hm2 em
        have e3 : up g z2 (.lst [D.str (Str.ofString "mark"), .str kd, .str v, .str (nS b), .str (nS i)]) z2 = some (.lst [D.str (Str.ofString "mark"), .str kd, .str v, .str (nS b), .str (nS i)]) := up_same
        have sb3 := sb.upf' nz2 (o := .lst [D.str (Str.ofString "mark"), .str kd, .str v, .str (nS b), .str (nS i)])
        generalize up g z2 (.lst [D.str (Str.ofString "mark"), .str kd, .str v, .str (nS b), .str (nS i)]) = g3 at em3 e3 sb3 ⊢
        have l4 : (Str.ofString "mark").length = 4 := by decide
        have l1 : (Str.ofString " ").length = 1 := by decide
        trivial
        refine ⟨[Str.ofString "mark", kd, v, nS b, nS i], rfl, by simp only [List.map_cons, List.map_nil, List.sum_cons, List.sum_nil, List.length_cons, List.length_nil, l4, l1, SZ]; omega, ?_⟩
        trivial
        refine ⟨by rw [List.length_map, List.length_append, List.length_map, SZ]; omega, ?_⟩
        apply Pt.of
        refine ⟨hi', _, _, by rw [hst2, Int.add_comm]; rfl, ?_, hm_upS sb3 (by simp)⟩
        rw [up_same, hst2, one, List.map_append (l₂ := [_]), ← List.append_assoc, List.map_append (f := D.str) (l₂ := List.map (markS kd) [(v, b, i)])]
        rfl
      · have hy : y = none := by
          cases y with
          | none => rfl
          | some v => exact absurd (by injection c2) (vb v rfl).1
        subst hy
        rw [one, List.append_nil] at hst2
        trivial
        exact ⟨_, Sb.refl _, hi', _, _, by rw [hst2, Int.add_comm]; rfl, by rw [hst2]; exact em, sb⟩
    rintro ρ g ⟨_, x4, x5, rfl, em, sb⟩
    rw [rng_len, ← hfin, ← hst] at em
    trivial
    apply Pt.of
    exact ⟨hj3, _, _, _, _, rfl, em, sb⟩
  rintro ρ h' ⟨_, x2, x3, x4, x5, rfl, em, sb⟩
  trivial
  refine ⟨_, Sb.refl _, q m h' nm (fun x u g => ?_) em⟩
  exact hm_get sb (sb2 _ _ g) (by simp only [List.mem_cons, List.not_mem_nil, or_false]; exact fun y => by rw [y, nm] at g; cases g)
end K47
end

section
set_option linter.all false
set_option autoImplicit false
set_option maxRecDepth 100000
set_option maxHeartbeats 4000000
namespace K47
open G
open PySem (Str)
local macro_rules | `(tactic| fail $s:str) => match s.getString with
  | "ne" => `(tactic| first | assumption | (apply Ne.symm; assumption) | exact ne_f1 (by assumption) (by fail "lk") | exact ne_f2 (by assumption) (by fail "lk") | grind [up, Sb])
  | "lk" => `(tactic| first | assumption | exact up_same | (refine up_at ?_ ?_; (· fail "ne"); fail "lk") | (refine Sb.at ?_ ?_; (· assumption); fail "lk"))
  | "sd" => `(tactic| first | (with_reducible show -(2 ^ 62) ≤ (_ : Int); first | omega | (simp only [List.length_map]; omega)) | (with_reducible show (_ : Int) < 2 ^ 62; first | omega | (simp only [List.length_map]; omega)) | assumption | rfl | (apply isT_lst; fail "lk") | (apply isT_dic; fail "lk") | decide | (simp only [List.length_cons, List.length_nil]; decide) | exact mulOk_l (by decide) (by decide) | exact mulOk_r (by decide) (by decide) | exact mulOk_l (by omega) (by omega) | exact mulOk_r (by omega) (by omega) | omega | (simp only [List.length_map]; omega))
  | "ls" => `(tactic| first | exact sq_tup | exact sq_rl | exact ls_rl | (apply ls_lst; fail "lk") | (apply sq_lst; fail "lk"))
  | "st" => `(tactic| first
  | ((with_reducible apply ix_lst); (· fail "lk"))
  | with_reducible apply ix_tup
  | with_reducible apply ix_str
  | with_reducible apply in_tup
  | with_reducible apply min_ii
  | with_reducible apply max_ii
  | ((with_reducible apply in_lst); (· fail "lk"))
  | ((with_reducible apply in_dic); (· fail "lk"))
  | ((with_reducible apply notIn_dic); (· fail "lk"))
  | ((with_reducible apply notIn_lst); (· fail "lk"))
  | with_reducible apply ix_rl
  | ((with_reducible apply ix_dic); (· fail "lk"))
  | ((with_reducible apply app_lst); (· fail "lk"))
  | ((with_reducible apply len_lst); (· fail "lk"))
  | with_reducible apply len_tup
  | with_reducible apply mulS_s
  | with_reducible apply fmt_str
  | with_reducible apply fmt_int
  | with_reducible apply cat_str
  | with_reducible apply str_int
  | with_reducible apply str_str
  | with_reducible apply len_rl
  | with_reducible apply len_str
  | ((with_reducible apply oIsT_lst); (· fail "lk"))
  | ((with_reducible apply dict_ls); (· fail "ls"))
  | ((with_reducible apply sl_ls); (· fail "ls"))
  | ((with_reducible apply rev_ls); (· fail "ls"))
  | ((with_reducible apply list_sq); (· fail "ls"))
  | ((with_reducible apply list_dic); (· fail "lk"))
  | ((with_reducible apply step_ls); (· fail "ls"))
  | ((with_reducible apply addL_ls); (· fail "ls"); (· fail "ls"))
  | ((with_reducible apply index_ls); (· fail "ls"))
  | ((with_reducible apply count_ls); (· fail "ls"))
  | ((with_reducible apply fill_dic); (· fail "lk"))
  | ((with_reducible apply max_ls); (· fail "ls"))
  | ((with_reducible apply sortK_ls); (· fail "ls"))
  | ((with_reducible apply sum_ls); (· fail "ls"))
  | ((with_reducible apply all_ls); (· fail "ls"))
  | ((with_reducible apply sorted_ls); (· fail "ls"))
  | ((with_reducible apply sortI_ls); (· fail "ls"))
  | ((with_reducible apply sortD_ls); (· fail "ls"))
  | ((with_reducible apply sortD_dic); (· fail "lk"))
  | ((with_reducible apply oIsT_dic); (· fail "lk"))
  | ((with_reducible apply walkD_lst); (· fail "lk"))
  | ((with_reducible apply walkD_dic); (· fail "lk"))
  | ((with_reducible apply walkI_dic); (· fail "lk"))
  | with_reducible apply walkD_tup
  | with_reducible apply walkD_rl
  | ((with_reducible apply walkL_lst); (· fail "lk"))
  | with_reducible apply walkL_rl
  | ((with_reducible apply mul_lst); (· fail "lk"))
  | ((with_reducible apply min_ls); (· fail "ls"))
  | ((with_reducible apply oAdd_lst); (· fail "lk"); (· fail "lk"))
  | ((with_reducible apply put_lst); (· fail "lk"))
  | ((with_reducible apply put_dic); (· fail "lk"))
  | ((with_reducible apply tru_lst); (· fail "lk"))
  | with_reducible apply oIsT_bl
  | with_reducible apply oIsT_int
  | with_reducible apply oIsT_str
  | with_reducible apply oIsT_tup
  | with_reducible apply oIsT_rl
  | with_reducible apply oIsT_non
  | with_reducible apply sl_tup
  | with_reducible apply sl_str
  | ((with_reducible apply get_dic); (· fail "lk"))
  | ((with_reducible apply get_dic2); (· fail "lk"))
  | ((with_reducible apply setdef_dic); (· fail "lk"))
  | ((with_reducible apply ext_lst); (· fail "lk"); (· fail "lk"))
  | ((with_reducible apply pop_lst); (· fail "lk"))
  | ((with_reducible apply popAt_lst); (· fail "lk"))
  | ((with_reducible apply ins_lst); (· fail "lk"))
  | ((with_reducible apply clr_lst); (· fail "lk"))
  | ((with_reducible apply clr_dic); (· fail "lk"))
  | ((with_reducible apply join_sq); (· fail "ls"))
  | ((with_reducible apply oEq_sst); (· with_reducible rfl))
  | ((with_reducible apply oEq_ssf); (· first | assumption | decide))
  | ((with_reducible apply oNe_sst); (· with_reducible rfl))
  | ((with_reducible apply oNe_ssf); (· first | assumption | decide))
  | ((with_reducible apply oEq_iit); (· with_reducible rfl))
  | ((with_reducible apply oEq_iif); (· first | assumption | decide))
  | ((with_reducible apply oNe_iit); (· with_reducible rfl))
  | ((with_reducible apply oNe_iif); (· first | assumption | decide))
  | refine Exists.intro _ (And.intro (rfl : atI _ _ = some _) ?_)
  | refine Exists.intro _ (And.intro (rfl : ixN _ _ = some _) ?_)
  | ((with_reducible refine And.intro ?_ ?_); (· fail "sd")))
  | _ => Lean.Macro.throwUnsupported
local macro_rules | `(tactic| nofun) => `(tactic| fail "ne")
local macro_rules | `(tactic| bv_omega) => `(tactic| fail "lk")
local macro_rules | `(tactic| ac_rfl) => `(tactic| fail "sd")
local macro_rules | `(tactic| trivial) => `(tactic| ((conv => whnf); repeat (fail "st"; (conv => whnf))))
/-! ### kinds: plain -/
def kdN (row : List Tk) : Nat → List Str
  | 0 => []
  | i + 1 => kdN row i ++ (match row[i]? with
    | some t => (t.mks.map (·.1)).filter fun k => decide (k ∉ kdN row i)
    | none => [])
theorem kdN_mem {row : List Tk} : ∀ {n : Nat} {k : Str}, n ≤ row.length → (k ∈ kdN row n ↔ ∃ (i : Nat) (t : Tk), i < n ∧ row[i]? = some t ∧ k ∈ t.mks.map (·.1))
  | 0, k, _ => ⟨fun h => (by cases h), fun ⟨i, t, h, _⟩ => absurd h (Nat.not_lt_zero _)⟩
  | n + 1, k, hn => by
    have ih := kdN_mem (row := row) (n := n) (k := k) (by omega)
    obtain ⟨t, ht⟩ : ∃ t, row[n]? = some t := ⟨_, List.getElem?_eq_getElem (by omega)⟩
    rw [kdN, ht]
    simp only [List.mem_append, List.mem_filter, decide_eq_true_eq]
    constructor
    · rintro (h | ⟨h, _⟩)
      · obtain ⟨i, u, h1, h2, h3⟩ := ih.mp h
        exact ⟨i, u, by omega, h2, h3⟩
      · exact ⟨n, t, by omega, ht, h⟩
    · rintro ⟨i, u, h1, h2, h3⟩
      by_cases c : i = n
      · subst c
        rw [ht] at h2; cases h2
        by_cases c2 : k ∈ kdN row i
        · exact .inl c2
        · exact .inr ⟨h3, c2⟩
      · exact .inl (ih.mpr ⟨i, u, by omega, h2, h3⟩)
theorem kdN_nd {row : List Tk} (hok : ∀ (i : Nat) (t : Tk), row[i]? = some t → TkOk i t) : ∀ n, n ≤ row.length → (kdN row n).Nodup
  | 0, _ => List.nodup_nil
  | n + 1, hn => by
    obtain ⟨t, ht⟩ : ∃ t, row[n]? = some t := ⟨_, List.getElem?_eq_getElem (by omega)⟩
    rw [kdN, ht]
    refine List.nodup_append.mpr ⟨kdN_nd hok n (by omega), (hok n t ht).ms.nd.filter _, fun a ha b hb e => ?_⟩
    subst e
    simp only [List.mem_filter, decide_eq_true_eq] at hb
    exact hb.2 ha
theorem kdN_sub {row : List Tk} (hok : ∀ (i : Nat) (t : Tk), row[i]? = some t → TkOk i t) {n : Nat} (hn : n ≤ row.length) : ∀ k ∈ kdN row n, k ∈ kinds3 := fun k hk => by
  obtain ⟨i, t, _, ht, h⟩ := (kdN_mem hn).mp hk
  obtain ⟨p, hp, rfl⟩ := List.mem_map.mp h
  exact (hok i t ht).ms.kd p hp
theorem kdN_len {row : List Tk} (hok : ∀ (i : Nat) (t : Tk), row[i]? = some t → TkOk i t) {n : Nat} (hn : n ≤ row.length) : (kdN row n).length ≤ 3 :=
  (kdN_nd hok n hn).length_le_of_subset (kdN_sub hok hn)
theorem stN_none {V : List (Option Str)} : ∀ n, (∀ i, i < n → vAt V i = none) → stN V n = []
  | 0, _ => rfl
  | n + 1, h => by
    rw [stN, h n (Nat.lt_succ_self n)]
    exact stN_none n fun i hi => h i (Nat.lt_succ_of_lt hi)
theorem mrk1_none {row : List Tk} {kd : Str} (h : kd ∉ kdN row row.length) : mrk1 row kd = [] := by
  unfold mrk1
  rw [stN_none]
  · rfl
  · intro i hi
    obtain ⟨t, ht⟩ : ∃ t, row[i]? = some t := ⟨_, List.getElem?_eq_getElem hi⟩
    unfold vAt
    rw [List.getElem?_map, ht]
    show vlF kd t = none
    unfold vlF
    rw [Option.map_eq_none_iff, List.find?_eq_none]
    intro p hp e
    simp only [decide_eq_true_eq] at e
    exact h ((kdN_mem (Nat.le_refl _)).mpr ⟨i, t, hi, ht, List.mem_map.mpr ⟨p, hp, e⟩⟩)
theorem mrk_all (row : List Tk) : (kinds3.filter fun k => decide (k ∈ kdN row row.length)).flatMap (mrk1 row) = mrkN row 3 := by
  have : ∀ l : List Str, (l.filter fun k => decide (k ∈ kdN row row.length)).flatMap (mrk1 row) = l.flatMap (mrk1 row) := fun l => by
    induction l with
    | nil => rfl
    | cons k r ih =>
      by_cases c : k ∈ kdN row row.length
      · rw [List.filter_cons_of_pos (by simpa using c), List.flatMap_cons, List.flatMap_cons, ih]
      · rw [List.filter_cons_of_neg (by simpa using c), List.flatMap_cons, ih, mrk1_none c]; rfl
  exact this kinds3
end K47
end

section
set_option linter.all false
set_option autoImplicit false
set_option maxRecDepth 100000
set_option maxHeartbeats 4000000
namespace K47
open G
open PySem (Str)
local macro_rules | `(tactic| fail $s:str) => match s.getString with
  | "ne" => `(tactic| first | assumption | (apply Ne.symm; assumption) | exact ne_f1 (by assumption) (by fail "lk") | exact ne_f2 (by assumption) (by fail "lk") | grind [up, Sb])
  | "lk" => `(tactic| first | assumption | exact up_same | (refine up_at ?_ ?_; (· fail "ne"); fail "lk") | (refine Sb.at ?_ ?_; (· assumption); fail "lk"))
  | "sd" => `(tactic| first | (with_reducible show -(2 ^ 62) ≤ (_ : Int); first | omega | (simp only [List.length_map]; omega)) | (with_reducible show (_ : Int) < 2 ^ 62; first | omega | (simp only [List.length_map]; omega)) | assumption | rfl | (apply isT_lst; fail "lk") | (apply isT_dic; fail "lk") | decide | (simp only [List.length_cons, List.length_nil]; decide) | exact mulOk_l (by decide) (by decide) | exact mulOk_r (by decide) (by decide) | exact mulOk_l (by omega) (by omega) | exact mulOk_r (by omega) (by omega) | omega | (simp only [List.length_map]; omega))
  | "ls" => `(tactic| first | exact sq_tup | exact sq_rl | exact ls_rl | (apply ls_lst; fail "lk") | (apply sq_lst; fail "lk"))
  | "st" => `(tactic| first
  | ((with_reducible apply ix_lst); (· fail "lk"))
  | with_reducible apply ix_tup
  | with_reducible apply ix_str
  | with_reducible apply in_tup
  | with_reducible apply min_ii
  | with_reducible apply max_ii
  | ((with_reducible apply in_lst); (· fail "lk"))
  | ((with_reducible apply in_dic); (· fail "lk"))
  | ((with_reducible apply notIn_dic); (· fail "lk"))
  | ((with_reducible apply notIn_lst); (· fail "lk"))
  | with_reducible apply ix_rl
  | ((with_reducible apply ix_dic); (· fail "lk"))
  | ((with_reducible apply app_lst); (· fail "lk"))
  | ((with_reducible apply len_lst); (· fail "lk"))
  | with_reducible apply len_tup
  | with_reducible apply mulS_s
  | with_reducible apply fmt_str
  | with_reducible apply fmt_int
  | with_reducible apply cat_str
  | with_reducible apply str_int
  | with_reducible apply str_str
  | with_reducible apply len_rl
  | with_reducible apply len_str
  | ((with_reducible apply oIsT_lst); (· fail "lk"))
  | ((with_reducible apply dict_ls); (· fail "ls"))
  | ((with_reducible apply sl_ls); (· fail "ls"))
  | ((with_reducible apply rev_ls); (· fail "ls"))
  | ((with_reducible apply list_sq); (· fail "ls"))
  | ((with_reducible apply list_dic); (· fail "lk"))
  | ((with_reducible apply step_ls); (· fail "ls"))
  | ((with_reducible apply addL_ls); (· fail "ls"); (· fail "ls"))
  | ((with_reducible apply index_ls); (· fail "ls"))
  | ((with_reducible apply count_ls); (· fail "ls"))
  | ((with_reducible apply fill_dic); (· fail "lk"))
  | ((with_reducible apply max_ls); (· fail "ls"))
  | ((with_reducible apply sortK_ls); (· fail "ls"))
  | ((with_reducible apply sum_ls); (· fail "ls"))
  | ((with_reducible apply all_ls); (· fail "ls"))
  | ((with_reducible apply sorted_ls); (· fail "ls"))
  | ((with_reducible apply sortI_ls); (· fail "ls"))
  | ((with_reducible apply sortD_ls); (· fail "ls"))
  | ((with_reducible apply sortD_dic); (· fail "lk"))
  | ((with_reducible apply oIsT_dic); (· fail "lk"))
  | ((with_reducible apply walkD_lst); (· fail "lk"))
  | ((with_reducible apply walkD_dic); (· fail "lk"))
  | ((with_reducible apply walkI_dic); (· fail "lk"))
  | with_reducible apply walkD_tup
  | with_reducible apply walkD_rl
  | ((with_reducible apply walkL_lst); (· fail "lk"))
  | with_reducible apply walkL_rl
  | ((with_reducible apply mul_lst); (· fail "lk"))
  | ((with_reducible apply min_ls); (· fail "ls"))
  | ((with_reducible apply oAdd_lst); (· fail "lk"); (· fail "lk"))
  | ((with_reducible apply put_lst); (· fail "lk"))
  | ((with_reducible apply put_dic); (· fail "lk"))
  | ((with_reducible apply tru_lst); (· fail "lk"))
  | with_reducible apply oIsT_bl
  | with_reducible apply oIsT_int
  | with_reducible apply oIsT_str
  | with_reducible apply oIsT_tup
  | with_reducible apply oIsT_rl
  | with_reducible apply oIsT_non
  | with_reducible apply sl_tup
  | with_reducible apply sl_str
  | ((with_reducible apply get_dic); (· fail "lk"))
  | ((with_reducible apply get_dic2); (· fail "lk"))
  | ((with_reducible apply setdef_dic); (· fail "lk"))
  | ((with_reducible apply ext_lst); (· fail "lk"); (· fail "lk"))
  | ((with_reducible apply pop_lst); (· fail "lk"))
  | ((with_reducible apply popAt_lst); (· fail "lk"))
  | ((with_reducible apply ins_lst); (· fail "lk"))
  | ((with_reducible apply clr_lst); (· fail "lk"))
  | ((with_reducible apply clr_dic); (· fail "lk"))
  | ((with_reducible apply join_sq); (· fail "ls"))
  | ((with_reducible apply oEq_sst); (· with_reducible rfl))
  | ((with_reducible apply oEq_ssf); (· first | assumption | decide))
  | ((with_reducible apply oNe_sst); (· with_reducible rfl))
  | ((with_reducible apply oNe_ssf); (· first | assumption | decide))
  | ((with_reducible apply oEq_iit); (· with_reducible rfl))
  | ((with_reducible apply oEq_iif); (· first | assumption | decide))
  | ((with_reducible apply oNe_iit); (· with_reducible rfl))
  | ((with_reducible apply oNe_iif); (· first | assumption | decide))
  | refine Exists.intro _ (And.intro (rfl : atI _ _ = some _) ?_)
  | refine Exists.intro _ (And.intro (rfl : ixN _ _ = some _) ?_)
  | ((with_reducible refine And.intro ?_ ?_); (· fail "sd")))
  | _ => Lean.Macro.throwUnsupported
local macro_rules | `(tactic| nofun) => `(tactic| fail "ne")
local macro_rules | `(tactic| bv_omega) => `(tactic| fail "lk")
local macro_rules | `(tactic| ac_rfl) => `(tactic| fail "sd")
local macro_rules | `(tactic| trivial) => `(tactic| ((conv => whnf); repeat (fail "st"; (conv => whnf))))
/-! ### sorted kinds -/
theorem sort_kf (kf : D → List Int) {X Y : List D} (h : ∀ a ∈ X, ∀ b ∈ X, dlt a b = decide (kf a < kf b)) (inj : ∀ a ∈ X, ∀ b ∈ X, kf a = kf b → a = b) (pm : X.Perm Y) : X.mergeSort (dle false) = Y.mergeSort (dle false) := by
  let kle : D → D → Bool := fun a b => decide (kf a ≤ kf b)
  have tr : ∀ a b c : D, kle a b = true → kle b c = true → kle a c = true := fun a b c x y => by
    simp only [kle, decide_eq_true_eq] at *
    exact List.le_trans x y
  have to : ∀ a b : D, (kle a b || kle b a) = true := fun a b => by
    simp only [kle, Bool.or_eq_true, decide_eq_true_eq]
    exact List.le_total _ _
  have cg : ∀ Z : List D, (∀ a ∈ Z, a ∈ X) → Z.mergeSort (dle false) = Z.mergeSort kle := fun Z hz => by
    have := List.map_mergeSort (r := kle) (s := dle false) (f := id) (l := Z) fun a ha b hb => by
      show decide (kf a ≤ kf b) = !dlt b a
      rw [h b (hz b hb) a (hz a ha), ← decide_not]
      exact decide_eq_decide.mpr List.not_lt.symm
    rw [List.map_id, List.map_id] at this
    exact this.symm
  rw [cg X fun _ h => h, cg Y fun a ha => pm.mem_iff.mpr ha]
  refine List.Perm.eq_of_pairwise (le := fun a b => kle a b = true) (fun x y hx hy h1 h2 => ?_) (List.pairwise_mergeSort tr to _) (List.pairwise_mergeSort tr to _) ((List.mergeSort_perm _ _).trans (pm.trans (List.mergeSort_perm _ _).symm))
  simp only [kle, decide_eq_true_eq] at h1 h2
  exact inj x ((List.mergeSort_perm _ _).mem_iff.mp hx) y (pm.mem_iff.mpr ((List.mergeSort_perm _ _).mem_iff.mp hy)) (List.le_antisymm h1 h2)
/-- names: a word and a number -/
def Wn (x : D) : Prop := ∃ w n, x = .tup [.str w, .int n]
def kfS (a : List Nat) (n : Int) : List Int := a.map (fun (c : Nat) => (c : Int) + 1) ++ [0, n]
def kfK (d : D) : List Int := if d = .str (Str.ofString "b") then [0] else if d = .str (Str.ofString "bold") then [1] else [2]
theorem kd_cases {d : D} (h : d ∈ kinds3.map D.str) : d = .str (Str.ofString "b") ∨ d = .str (Str.ofString "bold") ∨ d = .str (Str.ofString "ink") := by
  obtain ⟨k, hk, rfl⟩ := List.mem_map.mp h
  simp only [kinds3, List.mem_cons, List.not_mem_nil, or_false] at hk
  rcases hk with rfl | rfl | rfl <;> simp
theorem kd_sort {K : List Str} (nd : K.Nodup) (sub : ∀ k ∈ K, k ∈ kinds3) : (K.map D.str).mergeSort (dle false) = (kinds3.filter fun k => decide (k ∈ K)).map D.str := by
  have s3 : ∀ d ∈ K.map D.str, d ∈ kinds3.map D.str := fun d hd => by
    obtain ⟨k, hk, rfl⟩ := List.mem_map.mp hd
    exact List.mem_map.mpr ⟨k, sub k hk, rfl⟩
  have pm : K.Perm (kinds3.filter fun k => decide (k ∈ K)) := (List.perm_ext_iff_of_nodup nd ((show kinds3.Nodup by decide).filter _)).mpr fun a => by
    simp only [List.mem_filter, decide_eq_true_eq]
    exact ⟨fun h => ⟨sub a h, h⟩, fun h => h.2⟩
  rw [sort_kf kfK (fun a ha b hb => ?_) (fun a ha b hb e => ?_) (pm.map D.str)]
  · refine List.mergeSort_of_pairwise ?_
    refine List.Pairwise.sublist ((List.filter_sublist (l := kinds3)).map D.str) ?_
    decide
  · rcases kd_cases (s3 a ha) with rfl | rfl | rfl <;> rcases kd_cases (s3 b hb) with rfl | rfl | rfl <;> decide
  · rcases kd_cases (s3 a ha) with rfl | rfl | rfl <;> rcases kd_cases (s3 b hb) with rfl | rfl | rfl <;> first | rfl | exact absurd e (by decide)
theorem kd_srt {K : List Str} : sortable (K.map D.str) := by
  refine ⟨fun a ha b hb => ?_, fun a ha => ?_, .inr fun a ha => ?_⟩
  · obtain ⟨_, _, rfl⟩ := List.mem_map.mp ha
    obtain ⟨_, _, rfl⟩ := List.mem_map.mp hb
    rfl
  · obtain ⟨_, _, rfl⟩ := List.mem_map.mp ha
    rfl
  · obtain ⟨_, _, rfl⟩ := List.mem_map.mp ha
    exact ⟨by simp, by simp⟩
end K47
end

section
set_option linter.all false
set_option autoImplicit false
set_option maxRecDepth 100000
set_option maxHeartbeats 4000000
namespace K47
open G
open PySem (Str)
local macro_rules | `(tactic| fail $s:str) => match s.getString with
  | "ne" => `(tactic| first | assumption | (apply Ne.symm; assumption) | exact ne_f1 (by assumption) (by fail "lk") | exact ne_f2 (by assumption) (by fail "lk") | grind [up, Sb])
  | "lk" => `(tactic| first | assumption | exact up_same | (refine up_at ?_ ?_; (· fail "ne"); fail "lk") | (refine Sb.at ?_ ?_; (· assumption); fail "lk"))
  | "sd" => `(tactic| first | (with_reducible show -(2 ^ 62) ≤ (_ : Int); first | omega | (simp only [List.length_map]; omega)) | (with_reducible show (_ : Int) < 2 ^ 62; first | omega | (simp only [List.length_map]; omega)) | assumption | rfl | (apply isT_lst; fail "lk") | (apply isT_dic; fail "lk") | decide | (simp only [List.length_cons, List.length_nil]; decide) | exact mulOk_l (by decide) (by decide) | exact mulOk_r (by decide) (by decide) | exact mulOk_l (by omega) (by omega) | exact mulOk_r (by omega) (by omega) | omega | (simp only [List.length_map]; omega))
  | "ls" => `(tactic| first | exact sq_tup | exact sq_rl | exact ls_rl | (apply ls_lst; fail "lk") | (apply sq_lst; fail "lk"))
  | "st" => `(tactic| first
  | ((with_reducible apply ix_lst); (· fail "lk"))
  | with_reducible apply ix_tup
  | with_reducible apply ix_str
  | with_reducible apply in_tup
  | with_reducible apply min_ii
  | with_reducible apply max_ii
  | ((with_reducible apply in_lst); (· fail "lk"))
  | ((with_reducible apply in_dic); (· fail "lk"))
  | ((with_reducible apply notIn_dic); (· fail "lk"))
  | ((with_reducible apply notIn_lst); (· fail "lk"))
  | with_reducible apply ix_rl
  | ((with_reducible apply ix_dic); (· fail "lk"))
  | ((with_reducible apply app_lst); (· fail "lk"))
  | ((with_reducible apply len_lst); (· fail "lk"))
  | with_reducible apply len_tup
  | with_reducible apply mulS_s
  | with_reducible apply fmt_str
  | with_reducible apply fmt_int
  | with_reducible apply cat_str
  | with_reducible apply str_int
  | with_reducible apply str_str
  | with_reducible apply len_rl
  | with_reducible apply len_str
  | ((with_reducible apply oIsT_lst); (· fail "lk"))
  | ((with_reducible apply dict_ls); (· fail "ls"))
  | ((with_reducible apply sl_ls); (· fail "ls"))
  | ((with_reducible apply rev_ls); (· fail "ls"))
  | ((with_reducible apply list_sq); (· fail "ls"))
  | ((with_reducible apply list_dic); (· fail "lk"))
  | ((with_reducible apply step_ls); (· fail "ls"))
  | ((with_reducible apply addL_ls); (· fail "ls"); (· fail "ls"))
  | ((with_reducible apply index_ls); (· fail "ls"))
  | ((with_reducible apply count_ls); (· fail "ls"))
  | ((with_reducible apply fill_dic); (· fail "lk"))
  | ((with_reducible apply max_ls); (· fail "ls"))
  | ((with_reducible apply sortK_ls); (· fail "ls"))
  | ((with_reducible apply sum_ls); (· fail "ls"))
  | ((with_reducible apply all_ls); (· fail "ls"))
  | ((with_reducible apply sorted_ls); (· fail "ls"))
  | ((with_reducible apply sortI_ls); (· fail "ls"))
  | ((with_reducible apply sortD_ls); (· fail "ls"))
  | ((with_reducible apply sortD_dic); (· fail "lk"))
  | ((with_reducible apply oIsT_dic); (· fail "lk"))
  | ((with_reducible apply walkD_lst); (· fail "lk"))
  | ((with_reducible apply walkD_dic); (· fail "lk"))
  | ((with_reducible apply walkI_dic); (· fail "lk"))
  | with_reducible apply walkD_tup
  | with_reducible apply walkD_rl
  | ((with_reducible apply walkL_lst); (· fail "lk"))
  | with_reducible apply walkL_rl
  | ((with_reducible apply mul_lst); (· fail "lk"))
  | ((with_reducible apply min_ls); (· fail "ls"))
  | ((with_reducible apply oAdd_lst); (· fail "lk"); (· fail "lk"))
  | ((with_reducible apply put_lst); (· fail "lk"))
  | ((with_reducible apply put_dic); (· fail "lk"))
  | ((with_reducible apply tru_lst); (· fail "lk"))
  | with_reducible apply oIsT_bl
  | with_reducible apply oIsT_int
  | with_reducible apply oIsT_str
  | with_reducible apply oIsT_tup
  | with_reducible apply oIsT_rl
  | with_reducible apply oIsT_non
  | with_reducible apply sl_tup
  | with_reducible apply sl_str
  | ((with_reducible apply get_dic); (· fail "lk"))
  | ((with_reducible apply get_dic2); (· fail "lk"))
  | ((with_reducible apply setdef_dic); (· fail "lk"))
  | ((with_reducible apply ext_lst); (· fail "lk"); (· fail "lk"))
  | ((with_reducible apply pop_lst); (· fail "lk"))
  | ((with_reducible apply popAt_lst); (· fail "lk"))
  | ((with_reducible apply ins_lst); (· fail "lk"))
  | ((with_reducible apply clr_lst); (· fail "lk"))
  | ((with_reducible apply clr_dic); (· fail "lk"))
  | ((with_reducible apply join_sq); (· fail "ls"))
  | ((with_reducible apply oEq_sst); (· with_reducible rfl))
  | ((with_reducible apply oEq_ssf); (· first | assumption | decide))
  | ((with_reducible apply oNe_sst); (· with_reducible rfl))
  | ((with_reducible apply oNe_ssf); (· first | assumption | decide))
  | ((with_reducible apply oEq_iit); (· with_reducible rfl))
  | ((with_reducible apply oEq_iif); (· first | assumption | decide))
  | ((with_reducible apply oNe_iit); (· with_reducible rfl))
  | ((with_reducible apply oNe_iif); (· first | assumption | decide))
  | refine Exists.intro _ (And.intro (rfl : atI _ _ = some _) ?_)
  | refine Exists.intro _ (And.intro (rfl : ixN _ _ = some _) ?_)
  | ((with_reducible refine And.intro ?_ ?_); (· fail "sd")))
  | _ => Lean.Macro.throwUnsupported
local macro_rules | `(tactic| nofun) => `(tactic| fail "ne")
local macro_rules | `(tactic| bv_omega) => `(tactic| fail "lk")
local macro_rules | `(tactic| ac_rfl) => `(tactic| fail "sd")
local macro_rules | `(tactic| trivial) => `(tactic| ((conv => whnf); repeat (fail "st"; (conv => whnf))))
/-! ### mark_rows -/
theorem stN_el {V : List (Option Str)} : ∀ {n : Nat} {l : Stp}, l ∈ stN V n → (∃ i, i < n ∧ vAt V i = some l.1) ∧ l.2.1 < n ∧ l.2.2 < n
  | 0, l, h => by cases h
  | n + 1, l, h => by
    have ih : ∀ {l : Stp}, l ∈ stN V n → (∃ i, i < n + 1 ∧ vAt V i = some l.1) ∧ l.2.1 < n + 1 ∧ l.2.2 < n + 1 := fun hl => by
      obtain ⟨⟨i, h1, h2⟩, h3, h4⟩ := stN_el hl
      exact ⟨⟨i, by omega, h2⟩, by omega, by omega⟩
    rw [stN] at h
    cases hv : vAt V n with
    | none => rw [hv] at h; exact ih h
    | some v =>
      rw [hv] at h
      simp only at h
      cases hl : (stN V n).getLast? with
      | none =>
        rw [hl] at h
        rcases List.mem_append.mp h with g | g
        · exact ih g
        · rw [List.mem_singleton.mp g]
          exact ⟨⟨n, Nat.lt_succ_self n, hv⟩, Nat.lt_succ_self n, Nat.lt_succ_self n⟩
      | some l' =>
        rw [hl] at h
        simp only at h
        have hl' := stN_el (List.mem_of_getLast? hl)
        split at h
        · rcases List.mem_append.mp h with g | g
          · exact ih ((List.dropLast_sublist _).subset g)
          · rw [List.mem_singleton.mp g]
            exact ⟨⟨n, Nat.lt_succ_self n, hv⟩, by show l'.2.1 < n + 1; omega, Nat.lt_succ_self n⟩
        · rcases List.mem_append.mp h with g | g
          · exact ih g
          · rw [List.mem_singleton.mp g]
            exact ⟨⟨n, Nat.lt_succ_self n, hv⟩, Nat.lt_succ_self n, Nat.lt_succ_self n⟩
theorem mark_eq (kd : Str) (l : Stp) : markS kd l = Str.empty ++ Str.ofString "mark " ++ kd ++ Str.ofString " " ++ l.1 ++ Str.ofString " " ++ nS l.2.1 ++ Str.ofString " " ++ nS l.2.2 := by
  have e : Str.empty ++ Str.ofString "mark " = Str.ofString "mark" ++ Str.ofString " " := by decide
  have as : ∀ a b c : Str, a ++ b ++ c = a ++ (b ++ c) := fun a b c => by
    show Str.append (Str.append a b) c = Str.append a (Str.append b c)
    simp [Str.append]
  rw [e]
  simp only [markS, PySem.Str.join, as]
theorem flat_len {row : List Tk} (lr : row.length ≤ 15) : ∀ l : List Str, (l.flatMap (mrk1 row)).length ≤ 15 * l.length
  | [] => Nat.le_refl _
  | k :: r => by
    have := flat_len lr r
    have h1 := mrk1_len lr k
    rw [List.flatMap_cons, List.length_append, List.length_cons]
    omega
theorem mark_rows_ok {h : AH} {r : Addr} {A : Nat → Addr} {row : List Tk} {Q : KD} (hr : RowAt h r A row) (hok : ∀ (i : Nat) (t : Tk), row[i]? = some t → TkOk i t) (lr : row.length ≤ 15)
    (q : ∀ m h', h m = none → Sb h h' → h' m = some (.lst ((mrkN row 3).map .str)) → Q (.ref m) h') : f_mark_rows [.ref r] h Q := by
  have er := hr.lst
  unfold f_mark_rows
  trivial
  refine newL_i fun kl nk => ?_
  have hrk : r ≠ kl := fun z => by rw [z, nk] at er; cases er
  trivial
  refine ⟨fun i ρ h' => i ≤ row.length ∧ ∃ x2 x3 x4 x5 x6, ρ = [some (.ref r), some (.ref kl), x2, x3, x4, x5, x6, none, none, none] ∧ h' kl = some (.lst ((kdN row i).map .str)) ∧ Sb h h', ?_, ?_, ?_, ?_⟩
  · exact ⟨Nat.zero_le _, _, _, _, _, _, rfl, up_same, (Sb.refl _).upf' nk⟩
  · rintro i ρ h' _ ⟨_, x2, x3, x4, x5, x6, _, _, sb⟩
    exact sb _ _ er
  · rintro i ρ h' d ⟨hi, x2, x3, x4, x5, x6, rfl, ek, sb⟩ hd
    obtain ⟨t, ht, rfl⟩ := get_map hd
    have hil := (List.getElem?_eq_some_iff.mp ht).1
    have tok := hok i t ht
    have em := sb _ _ (hr.mks t (List.mem_of_getElem? ht))
    have hst : kdN row (i + 1) = kdN row i ++ (t.mks.map (·.1)).filter fun k => decide (k ∉ kdN row i) := by rw [kdN, ht]
    have hkl := kdN_len hok hi
    generalize kdN row i = K at ek hst hkl
    clear hd
    trivial
    intro f nf
    have hpK : plL 7 (K.map D.str) = true := plL_iff.mpr fun x hx => by
      obtain ⟨_, _, rfl⟩ := List.mem_map.mp hx
      rfl
    have hlm : t.mks.length ≤ 3 := by
      have := tok.ms.nd.length_le_of_subset (l₂ := kinds3) (fun k hk => by
        obtain ⟨p, hp, rfl⟩ := List.mem_map.mp hk
        exact tok.ms.kd p hp)
      rw [List.length_map] at this
      exact this
    refine ⟨fun j acc g => j ≤ t.mks.length ∧ acc = (((t.mks.take j).map (·.1)).filter fun k => decide (k ∉ K)).map D.str ∧ g = up h' f (.lst acc), ?_, ?_, ?_, ?_⟩
    · exact ⟨Nat.zero_le _, rfl, rfl⟩
    · rintro j acc g _ ⟨_, rfl, rfl⟩
      exact ⟨up_at (by nofun) em, up_same⟩
    · rintro j acc g d ⟨hj, rfl, rfl⟩ hd
      obtain ⟨p, hp, rfl⟩ := get_map hd
      have hjl := (List.getElem?_eq_some_iff.mp hp).1
      have hfl := List.length_filter_le (fun k => decide (k ∉ K)) ((t.mks.take j).map (·.1))
      rw [List.length_map, List.length_take] at hfl
      have ek' := up_at (o := .lst ((((t.mks.take j).map (·.1)).filter fun k => decide (k ∉ K)).map D.str)) (show kl ≠ f by nofun) ek
      clear hd
      trivial
      refine ⟨_, _, .pl (n := 7) rfl, PvL.pl hpK (by omega), ?_⟩
      trivial
      have hmm : (D.str p.1 ∈ K.map D.str) ↔ p.1 ∈ K := ⟨fun h => by obtain ⟨k, hk, e⟩ := List.mem_map.mp h; injection e with e; rwa [← e], fun h => List.mem_map.mpr ⟨_, h, rfl⟩⟩
      have hsn : ((t.mks.take (j + 1)).map (·.1)).filter (fun k => decide (k ∉ K)) = ((t.mks.take j).map (·.1)).filter (fun k => decide (k ∉ K)) ++ if p.1 ∈ K then [] else [p.1] := by
        rw [take_snoc hp, List.map_append, List.filter_append]
        by_cases c : p.1 ∈ K <;> simp [c]
      refine onT_nd (fun e => ?_) (fun e => ?_)
      · trivial
        refine ⟨by rw [List.length_map, SZ]; omega, up_same, ?_⟩
        rw [up_up]
        apply Pt.of
        exact ⟨hjl, by rw [hsn, if_neg (fun z => e (hmm.mpr z)), List.map_append]; rfl, rfl⟩
      · apply Pt.of
        exact ⟨hjl, by rw [hsn, if_pos (hmm.mp e), List.append_nil], rfl⟩
    rintro acc g ⟨_, rfl, rfl⟩
    rw [show t.mks.take (srcL (A t.k) (t.mks.map encMk)).ds.length = t.mks from List.take_of_length_le (by simp [srcL])]
    have hfl := List.length_filter_le (fun k => decide (k ∉ K)) (t.mks.map (·.1))
    rw [List.length_map] at hfl
    have ek' := up_at (o := .lst (((t.mks.map (·.1)).filter fun k => decide (k ∉ K)).map D.str)) (show kl ≠ f by nofun) ek
    trivial
    refine ⟨by rw [List.length_map, List.length_map, SZ]; omega, ?_⟩
    apply Pt.of
    refine ⟨hil, _, _, _, _, _, rfl, ?_, ?_⟩
    · rw [up_same, hst, List.map_append]
    · have s1 := sb.upf' nf (o := .lst (((t.mks.map (·.1)).filter fun k => decide (k ∉ K)).map D.str))
      exact fun x u g => by rw [up_ne (fun y => by rw [y, nk] at g; cases g)]; exact s1 _ _ g
  rintro ρ h' ⟨_, x2, x3, x4, x5, x6, rfl, ek, sb⟩
  rw [show (srcL r (row.map (encT A))).ds.length = row.length from List.length_map _] at ek
  have hnd := kdN_nd hok row.length (Nat.le_refl _)
  have hsub := kdN_sub hok (Nat.le_refl row.length)
  have hall := mrk_all row
  have hsort := kd_sort hnd hsub
  generalize kdN row row.length = K at ek hall hsort
  clear hnd hsub
  trivial
  refine newL_i fun m nm => ?_
  have ek2 := up_at (o := .lst []) (show kl ≠ m by nofun) ek
  have sb2 := sb.upf' nm (o := .lst [])
  have em2 : up h' m (.lst []) m = some (.lst []) := up_same
  have hm0 : h m = none := sb.nn nm
  generalize up h' m (.lst []) = h2 at ek2 sb2 em2 ⊢
  clear ek sb nm
  trivial
  refine ⟨kd_srt, ?_⟩
  rw [hsort]
  have hKS : ∀ k ∈ kinds3.filter (fun k => decide (k ∈ K)), k.length ≤ 8 := fun k hk => by
    have := (List.mem_filter.mp hk).1
    simp only [kinds3, List.mem_cons, List.not_mem_nil, or_false] at this
    rcases this with rfl | rfl | rfl <;> decide
  have hKl : (kinds3.filter (fun k => decide (k ∈ K))).length ≤ 3 := List.length_filter_le _ kinds3
  generalize kinds3.filter (fun k => decide (k ∈ K)) = KS at hall hKS hKl
  refine newL_i fun z nz => ?_
  have hmz : m ≠ z := fun y => by rw [← y, em2] at nz; cases nz
  have em3 := up_at (o := .lst (KS.map D.str)) hmz em2
  have ez3 : up h2 z (.lst (KS.map D.str)) z = some (.lst (KS.map D.str)) := up_same
  have sb3 := sb2.upf' nz (o := .lst (KS.map D.str))
  generalize up h2 z (.lst (KS.map D.str)) = h3 at em3 ez3 sb3 ⊢
  clear ek2 em2 sb2 nz hsort
  have hml : ∀ j, ((KS.take j).flatMap (mrk1 row)).length ≤ 45 := fun j => by
    have h1 := flat_len lr (KS.take j)
    rw [List.length_take] at h1
    omega
  trivial
  refine ⟨fun j ρ g => j ≤ KS.length ∧ ∃ x2 x3 x4 x5 x6 x8 x9, ρ = [some (.ref r), some (.ref kl), x2, x3, x4, x5, x6, some (.ref m), x8, x9] ∧ g m = some (.lst (((KS.take j).flatMap (mrk1 row)).map .str)) ∧ Sb (hm h3 [m]) g, ?_, ?_, ?_, ?_⟩
  · exact ⟨Nat.zero_le _, _, _, _, _, _, _, _, rfl, em3, hm_sb _ _⟩
  · rintro j ρ g _ ⟨_, x2, x3, x4, x5, x6, x8, x9, _, _, sg⟩
    exact hm_get sg ez3 (by simpa using hmz.symm)
  · rintro j ρ g d ⟨hj, x2, x3, x4, x5, x6, x8, x9, rfl, em, sg⟩ hd
    obtain ⟨kd, hkd, rfl⟩ := get_map hd
    have hjl := (List.getElem?_eq_some_iff.mp hkd).1
    have hst : (KS.take (j + 1)).flatMap (mrk1 row) = (KS.take j).flatMap (mrk1 row) ++ mrk1 row kd := by rw [take_snoc hkd, List.flatMap_append]; simp
    have hml1 := hml j
    have hkdl := hKS kd (List.mem_of_getElem? hkd)
    have sbg : Sb h g := fun x u y => hm_get sg (sb3 _ _ y) (by simp only [List.mem_cons, List.not_mem_nil, or_false]; exact fun w => by rw [w, hm0] at y; cases y)
    generalize (KS.take j).flatMap (mrk1 row) = ms at em hst hml1
    clear hd
    trivial
    refine stretches_ok (hr.sb sbg) hok lr fun f g2 nf s2 ef => ?_
    have em2 := s2 _ _ em
    have sg2 := sg.trans s2
    have hL : mrk1 row kd = (stN (row.map (vlF kd)) row.length).map (markS kd) := rfl
    have hLl := stN_len (row.map (vlF kd)) row.length
    have hel : ∀ l ∈ stN (row.map (vlF kd)) row.length, l.1.length ≤ 8 ∧ l.2.1 < 100 ∧ l.2.2 < 100 := fun l hl => by
      obtain ⟨⟨i, h1, h2⟩, h3, h4⟩ := stN_el hl
      obtain ⟨t, ht⟩ : ∃ t, row[i]? = some t := ⟨_, List.getElem?_eq_getElem h1⟩
      have hv : vlF kd t = some l.1 := by rw [← h2]; unfold vAt; rw [List.getElem?_map, ht]; rfl
      exact ⟨(vlF_ok (hok i t ht).ms kd _ hv).2, by omega, by omega⟩
    generalize stN (row.map (vlF kd)) row.length = L at ef hL hLl hel
    have hmf : m ≠ f := fun y => by rw [← y, em] at nf; cases nf
    trivial
    refine ⟨fun k ρ g' => k ≤ L.length ∧ ∃ x6 x8 x9, ρ = [some (.ref r), some (.ref kl), x2, x3, x4, some (.str kd), x6, some (.ref m), x8, x9] ∧ g' m = some (.lst ((ms ++ (L.take k).map (markS kd)).map .str)) ∧ Sb (hm g2 [m]) g', ?_, ?_, ?_, ?_⟩
    · exact ⟨Nat.zero_le _, _, _, _, rfl, by rw [List.take_zero, List.map_nil, List.append_nil]; exact em2, hm_sb _ _⟩
    · rintro k ρ g' _ ⟨_, x6, x8, x9, _, _, s'⟩
      exact hm_get s' ef (by simpa using hmf.symm)
    · rintro k ρ g' d ⟨hk, x6, x8, x9, rfl, em', s'⟩ hd
      obtain ⟨l, hl, rfl⟩ := get_map hd
      have hkl := (List.getElem?_eq_some_iff.mp hl).1
      obtain ⟨e1, e2, e3⟩ := hel l (List.mem_of_getElem? hl)
      clear hd
      trivial
      have la : ∀ a b : Str, (a ++ b).length = a.length + b.length := fun a b => by
        show (Str.append a b).length = _
        simp [Str.append, Str.length]
      have l0 : Str.empty.length = 0 := rfl
      have l5 : (Str.ofString "mark ").length = 5 := by decide
      have l1 : (Str.ofString " ").length = 1 := by decide
      have b1 := nS_len _ e2
      have b2 := nS_len _ e3
      refine ⟨by simp only [la, l0, l5, SZ]; omega, ?_⟩
      trivial
      refine ⟨by simp only [la, l0, l5, l1, SZ]; omega, ?_⟩
      trivial
      refine ⟨by simp only [la, l0, l5, l1, SZ]; omega, ?_⟩
      trivial
      refine ⟨by simp only [la, l0, l5, l1, SZ]; omega, ?_⟩
      trivial
      refine ⟨log_le (by omega), ?_⟩
      change oCat _ (.str (nS l.2.1)) _ _
      trivial
      refine ⟨by simp only [la, l0, l5, l1, SZ]; omega, ?_⟩
      trivial
      refine ⟨by simp only [la, l0, l5, l1, SZ]; omega, ?_⟩
      trivial
      refine ⟨log_le (by omega), ?_⟩
      change oCat _ (.str (nS l.2.2)) _ _
      trivial
      refine ⟨by simp only [la, l0, l5, l1, SZ]; omega, ?_⟩
      trivial
      refine ⟨by rw [List.length_map, List.length_append, List.length_map, List.length_take, SZ]; omega, ?_⟩
      apply Pt.of
      refine ⟨hkl, _, _, _, rfl, ?_, hm_upS s' (by simp)⟩
      rw [up_same, take_snoc hl, List.map_append (f := markS kd), ← List.append_assoc, List.map_append (f := D.str) (l₂ := List.map (markS kd) [l]), List.map_singleton, List.map_singleton, mark_eq]
    rintro ρ g' ⟨_, x6, x8, x9, rfl, em', s'⟩
    rw [show (srcL f (L.map encSt)).ds.length = L.length from List.length_map _, List.take_length, ← hL, ← hst] at em'
    apply Pt.of
    exact ⟨hjl, _, _, _, _, _, _, _, rfl, em', hm_trans sg2 s' (fun _ h => h)⟩
  rintro ρ g ⟨_, x2, x3, x4, x5, x6, x8, x9, rfl, em, sg⟩
  rw [show (srcL z (KS.map D.str)).ds.length = KS.length from List.length_map _, List.take_length, hall] at em
  trivial
  refine ⟨_, Sb.refl _, q m g hm0 (fun x u y => ?_) em⟩
  exact hm_get sg (sb3 _ _ y) (by simp only [List.mem_cons, List.not_mem_nil, or_false]; exact fun w => by rw [w, hm0] at y; cases y)
end K47
end

section
set_option linter.all false
set_option autoImplicit false
set_option maxRecDepth 100000
set_option maxHeartbeats 4000000
namespace K47
open G
open PySem (Str)
local macro_rules | `(tactic| fail $s:str) => match s.getString with
  | "ne" => `(tactic| first | assumption | (apply Ne.symm; assumption) | exact ne_f1 (by assumption) (by fail "lk") | exact ne_f2 (by assumption) (by fail "lk") | grind [up, Sb])
  | "lk" => `(tactic| first | assumption | exact up_same | (refine up_at ?_ ?_; (· fail "ne"); fail "lk") | (refine Sb.at ?_ ?_; (· assumption); fail "lk"))
  | "sd" => `(tactic| first | (with_reducible show -(2 ^ 62) ≤ (_ : Int); first | omega | (simp only [List.length_map]; omega)) | (with_reducible show (_ : Int) < 2 ^ 62; first | omega | (simp only [List.length_map]; omega)) | assumption | rfl | (apply isT_lst; fail "lk") | (apply isT_dic; fail "lk") | decide | (simp only [List.length_cons, List.length_nil]; decide) | exact mulOk_l (by decide) (by decide) | exact mulOk_r (by decide) (by decide) | exact mulOk_l (by omega) (by omega) | exact mulOk_r (by omega) (by omega) | omega | (simp only [List.length_map]; omega))
  | "ls" => `(tactic| first | exact sq_tup | exact sq_rl | exact ls_rl | (apply ls_lst; fail "lk") | (apply sq_lst; fail "lk"))
  | "st" => `(tactic| first
  | ((with_reducible apply ix_lst); (· fail "lk"))
  | with_reducible apply ix_tup
  | with_reducible apply ix_str
  | with_reducible apply in_tup
  | with_reducible apply min_ii
  | with_reducible apply max_ii
  | ((with_reducible apply in_lst); (· fail "lk"))
  | ((with_reducible apply in_dic); (· fail "lk"))
  | ((with_reducible apply notIn_dic); (· fail "lk"))
  | ((with_reducible apply notIn_lst); (· fail "lk"))
  | with_reducible apply ix_rl
  | ((with_reducible apply ix_dic); (· fail "lk"))
  | ((with_reducible apply app_lst); (· fail "lk"))
  | ((with_reducible apply len_lst); (· fail "lk"))
  | with_reducible apply len_tup
  | with_reducible apply mulS_s
  | with_reducible apply fmt_str
  | with_reducible apply fmt_int
  | with_reducible apply cat_str
  | with_reducible apply str_int
  | with_reducible apply str_str
  | with_reducible apply len_rl
  | with_reducible apply len_str
  | ((with_reducible apply oIsT_lst); (· fail "lk"))
  | ((with_reducible apply dict_ls); (· fail "ls"))
  | ((with_reducible apply sl_ls); (· fail "ls"))
  | ((with_reducible apply rev_ls); (· fail "ls"))
  | ((with_reducible apply list_sq); (· fail "ls"))
  | ((with_reducible apply list_dic); (· fail "lk"))
  | ((with_reducible apply step_ls); (· fail "ls"))
  | ((with_reducible apply addL_ls); (· fail "ls"); (· fail "ls"))
  | ((with_reducible apply index_ls); (· fail "ls"))
  | ((with_reducible apply count_ls); (· fail "ls"))
  | ((with_reducible apply fill_dic); (· fail "lk"))
  | ((with_reducible apply max_ls); (· fail "ls"))
  | ((with_reducible apply sortK_ls); (· fail "ls"))
  | ((with_reducible apply sum_ls); (· fail "ls"))
  | ((with_reducible apply all_ls); (· fail "ls"))
  | ((with_reducible apply sorted_ls); (· fail "ls"))
  | ((with_reducible apply sortI_ls); (· fail "ls"))
  | ((with_reducible apply sortD_ls); (· fail "ls"))
  | ((with_reducible apply sortD_dic); (· fail "lk"))
  | ((with_reducible apply oIsT_dic); (· fail "lk"))
  | ((with_reducible apply walkD_lst); (· fail "lk"))
  | ((with_reducible apply walkD_dic); (· fail "lk"))
  | ((with_reducible apply walkI_dic); (· fail "lk"))
  | with_reducible apply walkD_tup
  | with_reducible apply walkD_rl
  | ((with_reducible apply walkL_lst); (· fail "lk"))
  | with_reducible apply walkL_rl
  | ((with_reducible apply mul_lst); (· fail "lk"))
  | ((with_reducible apply min_ls); (· fail "ls"))
  | ((with_reducible apply oAdd_lst); (· fail "lk"); (· fail "lk"))
  | ((with_reducible apply put_lst); (· fail "lk"))
  | ((with_reducible apply put_dic); (· fail "lk"))
  | ((with_reducible apply tru_lst); (· fail "lk"))
  | with_reducible apply oIsT_bl
  | with_reducible apply oIsT_int
  | with_reducible apply oIsT_str
  | with_reducible apply oIsT_tup
  | with_reducible apply oIsT_rl
  | with_reducible apply oIsT_non
  | with_reducible apply sl_tup
  | with_reducible apply sl_str
  | ((with_reducible apply get_dic); (· fail "lk"))
  | ((with_reducible apply get_dic2); (· fail "lk"))
  | ((with_reducible apply setdef_dic); (· fail "lk"))
  | ((with_reducible apply ext_lst); (· fail "lk"); (· fail "lk"))
  | ((with_reducible apply pop_lst); (· fail "lk"))
  | ((with_reducible apply popAt_lst); (· fail "lk"))
  | ((with_reducible apply ins_lst); (· fail "lk"))
  | ((with_reducible apply clr_lst); (· fail "lk"))
  | ((with_reducible apply clr_dic); (· fail "lk"))
  | ((with_reducible apply join_sq); (· fail "ls"))
  | ((with_reducible apply oEq_sst); (· with_reducible rfl))
  | ((with_reducible apply oEq_ssf); (· first | assumption | decide))
  | ((with_reducible apply oNe_sst); (· with_reducible rfl))
  | ((with_reducible apply oNe_ssf); (· first | assumption | decide))
  | ((with_reducible apply oEq_iit); (· with_reducible rfl))
  | ((with_reducible apply oEq_iif); (· first | assumption | decide))
  | ((with_reducible apply oNe_iit); (· with_reducible rfl))
  | ((with_reducible apply oNe_iif); (· first | assumption | decide))
  | refine Exists.intro _ (And.intro (rfl : atI _ _ = some _) ?_)
  | refine Exists.intro _ (And.intro (rfl : ixN _ _ = some _) ?_)
  | ((with_reducible refine And.intro ?_ ?_); (· fail "sd")))
  | _ => Lean.Macro.throwUnsupported
local macro_rules | `(tactic| nofun) => `(tactic| fail "ne")
local macro_rules | `(tactic| bv_omega) => `(tactic| fail "lk")
local macro_rules | `(tactic| ac_rfl) => `(tactic| fail "sd")
local macro_rules | `(tactic| trivial) => `(tactic| ((conv => whnf); repeat (fail "st"; (conv => whnf))))
/-! ### note_rows -/
/-- the place of a note's sign in the row, as text -/
def plS (row : List Tk) (sg : D) : Str := match (List.range row.length).find? fun i => decide ((row[i]?).map (fun t => nm5 t.k) = some sg) with
  | some i => nS i
  | none => Str.ofString "loose"
def noteS (row : List Tk) (x : Nn) : Str := Str.ofString "note " ++ x.wd ++ Str.ofString " " ++ plS row x.sg
theorem plS_non (row : List Tk) : plS row .non = Str.ofString "loose" := by
  unfold plS
  rw [List.find?_eq_none.mpr]
  intro i _
  simp only [decide_eq_true_eq]
  intro e
  obtain ⟨t, _, h⟩ := Option.map_eq_some_iff.mp e
  cases h
theorem nm5_inj {a b : Nat} (h : nm5 a = nm5 b) : a = b := by
  simp only [nm5, D.tup.injEq, List.cons.injEq, D.int.injEq, and_true, true_and] at h
  omega
theorem plS_at {row : List Tk} (hok : ∀ (i : Nat) (t : Tk), row[i]? = some t → TkOk i t) {i : Nat} {t : Tk} (ht : row[i]? = some t) : plS row (nm5 t.k) = nS i := by
  have hi := (List.getElem?_eq_some_iff.mp ht).1
  have hk : ∀ j, (row[j]?).map (fun t => nm5 t.k) = some (nm5 t.k) ↔ j = i := fun j => by
    constructor
    · intro h
      obtain ⟨u, hu, e⟩ := Option.map_eq_some_iff.mp h
      have h1 := (hok j u hu).k
      have h2 := (hok i t ht).k
      have := nm5_inj e
      omega
    · rintro rfl
      rw [ht]; rfl
  unfold plS
  cases hf : (List.range row.length).find? fun j => decide ((row[j]?).map (fun t => nm5 t.k) = some (nm5 t.k)) with
  | none =>
    have := List.find?_eq_none.mp hf i (List.mem_range.mpr hi)
    simp only [decide_eq_true_eq] at this
    exact absurd ((hk i).mpr rfl) this
  | some j =>
    have := List.find?_some hf
    simp only [decide_eq_true_eq] at this
    rw [(hk j).mp this]
theorem plS_len {row : List Tk} (lr : row.length ≤ 15) (sg : D) : (plS row sg).length ≤ 5 := by
  unfold plS
  split
  · rename_i i hf
    have := List.mem_range.mp (List.mem_of_find?_eq_some hf)
    have := nS_len i (by omega)
    omega
  · decide
theorem note_rows_ok {h : AH} {r n : Addr} {A : Nat → Addr} {row : List Tk} {ns : List Nn} {Q : KD} (hr : RowAt h r A row) (hok : ∀ (i : Nat) (t : Tk), row[i]? = some t → TkOk i t) (lr : row.length ≤ 15) (en : h n = some (.lst (ns.map encNn))) (hns : ∀ x ∈ ns, NnOk row x) (ln : ns.length ≤ 4)
    (q : ∀ m h', h m = none → Sb h h' → h' m = some (.lst ((ns.map (noteS row)).map .str)) → Q (.ref m) h') : f_note_rows [.ref r, .ref n] h Q := by
  have er := hr.lst
  unfold f_note_rows
  trivial
  intro f nf
  refine ⟨fun j acc g => j ≤ row.length ∧ acc = (row.take j).map (fun t => nm5 t.k) ∧ g = up h f (.lst acc), ?_, ?_, ?_, ?_⟩
  · exact ⟨Nat.zero_le _, rfl, rfl⟩
  · rintro j acc g _ ⟨_, rfl, rfl⟩
    exact ⟨up_at (by nofun) er, up_same⟩
  · rintro j acc g d ⟨hj, rfl, rfl⟩ hd
    obtain ⟨t, ht, rfl⟩ := get_map hd
    have hjl := (List.getElem?_eq_some_iff.mp ht).1
    clear hd
    trivial
    refine ⟨by rw [List.length_map, List.length_take, SZ]; omega, up_same, ?_⟩
    rw [up_up]
    apply Pt.of
    exact ⟨hjl, by rw [take_snoc ht, List.map_append]; rfl, rfl⟩
  rintro acc g ⟨_, rfl, rfl⟩
  rw [show row.take (srcL r (row.map (encT A))).ds.length = row from List.take_of_length_le (by simp [srcL])]
  have nme : f ≠ n := fun z => by rw [z, en] at nf; cases nf
  have s1 : Sb h (up h f (.lst (row.map fun t => nm5 t.k))) := (Sb.refl _).upf' nf
  have ef : up h f (.lst (row.map fun t => nm5 t.k)) f = some (.lst (row.map fun t => nm5 t.k)) := up_same
  generalize up h f (.lst (row.map fun t => nm5 t.k)) = h1 at s1 ef ⊢
  trivial
  refine newL_i fun m nm => ?_
  have hm0 : h m = none := s1.nn nm
  have en1 := s1 _ _ en
  have hmn : n ≠ m := fun z => by rw [z, hm0] at en; cases en
  have hmf : f ≠ m := fun z => by rw [← z, ef] at nm; cases nm
  have pK : ∀ d ∈ row.map (fun t => nm5 t.k), G.pl 8 d = true := fun d hd => by
    obtain ⟨t, _, rfl⟩ := List.mem_map.mp hd
    rfl
  trivial
  refine ⟨fun i ρ h' => i ≤ ns.length ∧ ∃ x4 x5 x6 x7, ρ = [some (.ref r), some (.ref n), some (.ref f), some (.ref m), x4, x5, x6, x7, none] ∧ h' m = some (.lst (((ns.take i).map (noteS row)).map .str)) ∧ Sb (hm h1 [m]) h', ?_, ?_, ?_, ?_⟩
  · exact ⟨Nat.zero_le _, _, _, _, _, rfl, up_same, hm_upS (hm_sb _ _) (by simp)⟩
  · rintro i ρ h' _ ⟨_, x4, x5, x6, x7, _, _, sb⟩
    exact hm_get sb (s1 _ _ en) (by simpa using hmn)
  · rintro i ρ h' d ⟨hi, x4, x5, x6, x7, rfl, em, sb⟩ hd
    obtain ⟨x, hx, rfl⟩ := get_map hd
    have hil := (List.getElem?_eq_some_iff.mp hx).1
    have xok := hns x (List.mem_of_getElem? hx)
    have ef' := hm_get sb ef (by simpa using hmf)
    clear hd
    trivial
    apply join (H := fun y => y = D.str (plS row x.sg))
    case m =>
      intro go
      refine onT_nd (fun hs => ?_) (fun hs => ?_)
      · obtain ⟨i', t, ht, e⟩ := xok.sg.resolve_left hs
        have hi' := (List.getElem?_eq_some_iff.mp ht).1
        have hpl : plS row x.sg = nS i' := by rw [e]; exact plS_at hok ht
        have hx' : (row.map fun t => nm5 t.k)[i']? = some x.sg := by rw [List.getElem?_map, ht, e]; rfl
        trivial
        refine ⟨pK _ (List.mem_of_getElem? hx'), i', hx', fun j hj z => ?_, ?_⟩
        · rw [List.getElem?_map, e] at z
          obtain ⟨u, hu, e2⟩ := Option.map_eq_some_iff.mp z
          have h1 := (hok j u hu).k
          have h2 := (hok i' t ht).k
          have := nm5_inj e2
          omega
        trivial
        refine ⟨log_le (by omega), ?_⟩
        trivial
        simp only [List.set_cons_succ, List.set_cons_zero]
        generalize hy : D.str (Str.ofString (toString (i' : Int))) = y
        exact (go y (by rw [← hy, hpl]; rfl)).un
      · trivial
        simp only [List.set_cons_succ, List.set_cons_zero]
        have hpl : plS row x.sg = Str.ofString "loose" := by rw [show x.sg = D.non by simpa using hs]; exact plS_non row
        generalize hy : D.str (Str.ofString "loose") = y
        exact (go y (by rw [← hy, hpl])).un
    rintro y rfl
    have hpl := plS_len lr x.sg
    have hwd := xok.wd
    have l5 : (Str.ofString "note ").length = 5 := by decide
    have l1 : (Str.ofString " ").length = 1 := by decide
    have la : ∀ a b : Str, (a ++ b).length = a.length + b.length := fun a b => by
      show (Str.append a b).length = _
      simp [Str.append, Str.length]
    trivial
    refine ⟨by rw [l5, SZ]; omega, ?_⟩
    trivial
    refine ⟨by simp only [la, l5, l1, SZ]; omega, ?_⟩
    trivial
    refine ⟨by simp only [la, l5, l1, SZ]; omega, ?_⟩
    trivial
    refine ⟨by rw [List.length_map, List.length_map, List.length_take, SZ]; omega, ?_⟩
    apply Pt.of
    refine ⟨hil, _, _, _, _, rfl, ?_, hm_upS sb (by simp)⟩
    rw [up_same, take_snoc hx, List.map_append, List.map_append]
    rfl
  rintro ρ h' ⟨_, x4, x5, x6, x7, rfl, em, sb⟩
  rw [show (srcL n (ns.map encNn)).ds.length = ns.length from List.length_map _, List.take_length] at em
  trivial
  refine ⟨_, Sb.refl _, q m h' hm0 (fun x u g => ?_) em⟩
  exact hm_get sb (s1 _ _ g) (by simp only [List.mem_cons, List.not_mem_nil, or_false]; exact fun y => by rw [y, hm0] at g; cases g)
end K47
end

section
set_option linter.all false
set_option autoImplicit false
set_option maxRecDepth 100000
set_option maxHeartbeats 4000000
namespace K47
open G
open PySem (Str)
local macro_rules | `(tactic| fail $s:str) => match s.getString with
  | "ne" => `(tactic| first | assumption | (apply Ne.symm; assumption) | exact ne_f1 (by assumption) (by fail "lk") | exact ne_f2 (by assumption) (by fail "lk") | grind [up, Sb])
  | "lk" => `(tactic| first | assumption | exact up_same | (refine up_at ?_ ?_; (· fail "ne"); fail "lk") | (refine Sb.at ?_ ?_; (· assumption); fail "lk"))
  | "sd" => `(tactic| first | (with_reducible show -(2 ^ 62) ≤ (_ : Int); first | omega | (simp only [List.length_map]; omega)) | (with_reducible show (_ : Int) < 2 ^ 62; first | omega | (simp only [List.length_map]; omega)) | assumption | rfl | (apply isT_lst; fail "lk") | (apply isT_dic; fail "lk") | decide | (simp only [List.length_cons, List.length_nil]; decide) | exact mulOk_l (by decide) (by decide) | exact mulOk_r (by decide) (by decide) | exact mulOk_l (by omega) (by omega) | exact mulOk_r (by omega) (by omega) | omega | (simp only [List.length_map]; omega))
  | "ls" => `(tactic| first | exact sq_tup | exact sq_rl | exact ls_rl | (apply ls_lst; fail "lk") | (apply sq_lst; fail "lk"))
  | "st" => `(tactic| first
  | ((with_reducible apply ix_lst); (· fail "lk"))
  | with_reducible apply ix_tup
  | with_reducible apply ix_str
  | with_reducible apply in_tup
  | with_reducible apply min_ii
  | with_reducible apply max_ii
  | ((with_reducible apply in_lst); (· fail "lk"))
  | ((with_reducible apply in_dic); (· fail "lk"))
  | ((with_reducible apply notIn_dic); (· fail "lk"))
  | ((with_reducible apply notIn_lst); (· fail "lk"))
  | with_reducible apply ix_rl
  | ((with_reducible apply ix_dic); (· fail "lk"))
  | ((with_reducible apply app_lst); (· fail "lk"))
  | ((with_reducible apply len_lst); (· fail "lk"))
  | with_reducible apply len_tup
  | with_reducible apply mulS_s
  | with_reducible apply fmt_str
  | with_reducible apply fmt_int
  | with_reducible apply cat_str
  | with_reducible apply str_int
  | with_reducible apply str_str
  | with_reducible apply len_rl
  | with_reducible apply len_str
  | ((with_reducible apply oIsT_lst); (· fail "lk"))
  | ((with_reducible apply dict_ls); (· fail "ls"))
  | ((with_reducible apply sl_ls); (· fail "ls"))
  | ((with_reducible apply rev_ls); (· fail "ls"))
  | ((with_reducible apply list_sq); (· fail "ls"))
  | ((with_reducible apply list_dic); (· fail "lk"))
  | ((with_reducible apply step_ls); (· fail "ls"))
  | ((with_reducible apply addL_ls); (· fail "ls"); (· fail "ls"))
  | ((with_reducible apply index_ls); (· fail "ls"))
  | ((with_reducible apply count_ls); (· fail "ls"))
  | ((with_reducible apply fill_dic); (· fail "lk"))
  | ((with_reducible apply max_ls); (· fail "ls"))
  | ((with_reducible apply sortK_ls); (· fail "ls"))
  | ((with_reducible apply sum_ls); (· fail "ls"))
  | ((with_reducible apply all_ls); (· fail "ls"))
  | ((with_reducible apply sorted_ls); (· fail "ls"))
  | ((with_reducible apply sortI_ls); (· fail "ls"))
  | ((with_reducible apply sortD_ls); (· fail "ls"))
  | ((with_reducible apply sortD_dic); (· fail "lk"))
  | ((with_reducible apply oIsT_dic); (· fail "lk"))
  | ((with_reducible apply walkD_lst); (· fail "lk"))
  | ((with_reducible apply walkD_dic); (· fail "lk"))
  | ((with_reducible apply walkI_dic); (· fail "lk"))
  | with_reducible apply walkD_tup
  | with_reducible apply walkD_rl
  | ((with_reducible apply walkL_lst); (· fail "lk"))
  | with_reducible apply walkL_rl
  | ((with_reducible apply mul_lst); (· fail "lk"))
  | ((with_reducible apply min_ls); (· fail "ls"))
  | ((with_reducible apply oAdd_lst); (· fail "lk"); (· fail "lk"))
  | ((with_reducible apply put_lst); (· fail "lk"))
  | ((with_reducible apply put_dic); (· fail "lk"))
  | ((with_reducible apply tru_lst); (· fail "lk"))
  | with_reducible apply oIsT_bl
  | with_reducible apply oIsT_int
  | with_reducible apply oIsT_str
  | with_reducible apply oIsT_tup
  | with_reducible apply oIsT_rl
  | with_reducible apply oIsT_non
  | with_reducible apply sl_tup
  | with_reducible apply sl_str
  | ((with_reducible apply get_dic); (· fail "lk"))
  | ((with_reducible apply get_dic2); (· fail "lk"))
  | ((with_reducible apply setdef_dic); (· fail "lk"))
  | ((with_reducible apply ext_lst); (· fail "lk"); (· fail "lk"))
  | ((with_reducible apply pop_lst); (· fail "lk"))
  | ((with_reducible apply popAt_lst); (· fail "lk"))
  | ((with_reducible apply ins_lst); (· fail "lk"))
  | ((with_reducible apply clr_lst); (· fail "lk"))
  | ((with_reducible apply clr_dic); (· fail "lk"))
  | ((with_reducible apply join_sq); (· fail "ls"))
  | ((with_reducible apply oEq_sst); (· with_reducible rfl))
  | ((with_reducible apply oEq_ssf); (· first | assumption | decide))
  | ((with_reducible apply oNe_sst); (· with_reducible rfl))
  | ((with_reducible apply oNe_ssf); (· first | assumption | decide))
  | ((with_reducible apply oEq_iit); (· with_reducible rfl))
  | ((with_reducible apply oEq_iif); (· first | assumption | decide))
  | ((with_reducible apply oNe_iit); (· with_reducible rfl))
  | ((with_reducible apply oNe_iif); (· first | assumption | decide))
  | refine Exists.intro _ (And.intro (rfl : atI _ _ = some _) ?_)
  | refine Exists.intro _ (And.intro (rfl : ixN _ _ = some _) ?_)
  | ((with_reducible refine And.intro ?_ ?_); (· fail "sd")))
  | _ => Lean.Macro.throwUnsupported
local macro_rules | `(tactic| nofun) => `(tactic| fail "ne")
local macro_rules | `(tactic| bv_omega) => `(tactic| fail "lk")
local macro_rules | `(tactic| ac_rfl) => `(tactic| fail "sd")
local macro_rules | `(tactic| trivial) => `(tactic| ((conv => whnf); repeat (fail "st"; (conv => whnf))))
/-! ### table_rows -/
def wS (w : Str) : Str := if w = Str.ofString "" then Str.ofString "-" else w
def lineS (l : List Str) : Str := Str.ofString "cells " ++ PySem.Str.join (Str.ofString " ") (l.map wS)
def tabS (cn : Nat) (wds : List (List Str)) : List Str := if cn = 0 then [] else wds.map lineS
theorem str_len0 {w : Str} : w.length = 0 ↔ w = Str.ofString "" := by
  constructor
  · intro h
    cases w with
    | mk c =>
      have : c = #[] := Array.eq_empty_of_size_eq_zero h
      rw [this]; rfl
  · rintro rfl; rfl
theorem wS_len {w : Str} (h : w.length ≤ 8) : (wS w).length ≤ 8 := by
  unfold wS
  split
  · decide
  · exact h
theorem str_la (a b : Str) : (a ++ b).length = a.length + b.length := by
  show (Str.append a b).length = _
  simp [Str.append, Str.length]
theorem join_le (sep : Str) : ∀ us : List Str, (PySem.Str.join sep us).length ≤ (us.map (·.length)).sum + us.length * sep.length
  | [] => by show (0 : Nat) ≤ _; omega
  | [x] => by
    show x.length ≤ _
    rw [List.map_cons, List.sum_cons]; omega
  | x :: y :: r => by
    have ih := join_le sep (y :: r)
    rw [show PySem.Str.join sep (x :: y :: r) = x ++ sep ++ PySem.Str.join sep (y :: r) from rfl, str_la, str_la, List.map_cons, List.sum_cons, List.length_cons, Nat.succ_mul]
    omega
theorem strs_map (l : List Str) : strsOf (l.map D.str) = some l := by
  induction l with
  | nil => rfl
  | cons x r ih =>
    show (strsOf (r.map D.str)).map _ = _
    rw [ih]; rfl
theorem sum_le {l : List Str} (h : ∀ x ∈ l, x.length ≤ 8) : (l.map (·.length)).sum ≤ 8 * l.length := by
  induction l with
  | nil => exact Nat.le_refl _
  | cons x r ih =>
    have h1 := h x List.mem_cons_self
    have h2 := ih fun y hy => h y (List.mem_cons_of_mem _ hy)
    rw [List.map_cons, List.sum_cons, List.length_cons]
    omega
theorem table_rows_ok {h : AH} {b c : Addr} {x : D} {B : Nat → Addr} {cn rn : Nat} {wds : List (List Str)} {Q : KD} (eb : h b = some (.lst (tabR 60 cn))) (hw : WdAt h c B wds) (lc : cn ≤ 4) (lw : wds.length ≤ 4) (hwd : ∀ l ∈ wds, l.length = cn ∧ ∀ x ∈ l, x.length ≤ 8)
    (q : ∀ m h', h m = none → Sb h h' → h' m = some (.lst ((tabS cn wds).map .str)) → Q (.ref m) h') : f_table_rows [.tup [x, .ref b, .ref c]] h Q := by
  have ec := hw.lst
  unfold f_table_rows
  trivial
  refine newL_i fun z nz => ?_
  have eb2 := up_at (o := .lst []) (show b ≠ z by nofun) eb
  have ec2 := up_at (o := .lst []) (show c ≠ z by nofun) ec
  have ez : up h z (.lst []) z = some (.lst []) := up_same
  have s1 : Sb h (up h z (.lst [])) := (Sb.refl _).upf' nz
  have pT : plL 7 (tabR 60 cn) = true := plL_iff.mpr fun d hd => by
    obtain ⟨i, _, rfl⟩ := List.mem_map.mp hd
    rfl
  generalize up h z (.lst []) = h1 at eb2 ec2 ez s1 ⊢
  refine oEq_pv (.lst (n := 7) eb2 pT) (.lst (n := 0) ez rfl) ?_
  trivial
  refine onT_d (fun e => ?_) (fun e => ?_)
  · have hcn : cn = 0 := by
      injection e with e
      have := congrArg List.length e
      rw [tabR_len] at this; exact this
    trivial
    refine newL_i fun m nm => ?_
    apply Pt.of
    refine q m _ (s1.nn nm) (s1.upf' nm) ?_
    rw [up_same, tabS, if_pos hcn]; rfl
  · have hcn : cn ≠ 0 := fun z => e (by rw [z]; rfl)
    trivial
    intro m nm
    refine ⟨fun i acc g => i ≤ wds.length ∧ acc = ((wds.take i).map lineS).map .str ∧ g m = some (.lst acc) ∧ Sb (hm h1 [m]) g, ?_, ?_, ?_, ?_⟩
    · exact ⟨Nat.zero_le _, rfl, up_same, hm_upS (hm_sb _ _) (by simp)⟩
    · rintro i acc g _ ⟨_, _, em, sb⟩
      exact ⟨hm_get sb ec2 (by simp only [List.mem_cons, List.not_mem_nil, or_false]; exact fun y => by rw [y, nm] at ec2; cases ec2), em⟩
    · rintro i acc g d ⟨hi, rfl, em, sb⟩ hd
      have hd' : (rfs B wds.length)[i]? = some d := hd
      have hil : i < wds.length := by
        have := (List.getElem?_eq_some_iff.mp hd').1
        rwa [rfs_len] at this
      rw [rfs_at hil] at hd'
      cases hd'
      obtain ⟨l, hl⟩ : ∃ l, wds[i]? = some l := ⟨_, List.getElem?_eq_getElem hil⟩
      obtain ⟨hll, hlw⟩ := hwd l (List.mem_of_getElem? hl)
      have e1 := s1 _ _ (hw.wd i l hl)
      have el := hm_get sb e1 (by simp only [List.mem_cons, List.not_mem_nil, or_false]; exact fun y => by rw [y, nm] at e1; cases e1)
      clear hd
      trivial
      intro f nf
      refine ⟨fun j acc g' => j ≤ l.length ∧ acc = ((l.take j).map wS).map .str ∧ g' = up g f (.lst acc), ?_, ?_, ?_, ?_⟩
      · exact ⟨Nat.zero_le _, rfl, rfl⟩
      · rintro j acc g' _ ⟨_, rfl, rfl⟩
        exact ⟨up_at (by nofun) el, up_same⟩
      · rintro j acc g' d ⟨hj, rfl, rfl⟩ hd
        obtain ⟨w, hwj, rfl⟩ := get_map hd
        have hjl := (List.getElem?_eq_some_iff.mp hwj).1
        clear hd
        trivial
        have hwl := hlw w (List.mem_of_getElem? hwj)
        have fin : ∀ v, wS w = v → (((l.take j).map wS).map D.str).length < SZ ∧ up g f (.lst (((l.take j).map wS).map D.str)) f = some (.lst (((l.take j).map wS).map D.str)) ∧ j + 1 ≤ l.length ∧ ((l.take j).map wS).map D.str ++ [D.str v] = ((l.take (j + 1)).map wS).map D.str := fun v e => by
          refine ⟨by rw [List.length_map, List.length_map, List.length_take, SZ]; omega, up_same, hjl, ?_⟩
          rw [take_snoc hwj, List.map_append, List.map_append, ← e]; rfl
        by_cases hw0 : w = Str.ofString ""
        · obtain ⟨f1, f2, f3, f4⟩ := fin (Str.ofString "-") (if_pos hw0)
          have e0 : (w.length != 0) = false := by rw [hw0]; rfl
          rw [e0]
          trivial
          rw [up_up]
          apply Pt.of
          exact ⟨f3, f4, rfl⟩
        · obtain ⟨f1, f2, f3, f4⟩ := fin w (if_neg hw0)
          have e0 : (w.length != 0) = true := by
            rw [bne_iff_ne]
            exact fun z => hw0 (str_len0.mp z)
          rw [e0]
          trivial
          rw [up_up]
          apply Pt.of
          exact ⟨f3, f4, rfl⟩
      rintro acc g' ⟨_, rfl, rfl⟩
      rw [show (srcL (B i) (l.map D.str)).ds.length = l.length from List.length_map _, List.take_length]
      trivial
      have hl8 : ∀ x ∈ l.map wS, x.length ≤ 8 := fun x hx => by
        obtain ⟨w, hw, rfl⟩ := List.mem_map.mp hx
        exact wS_len (hlw w hw)
      have hsum := sum_le hl8
      have hjl := join_le (Str.ofString " ") (l.map wS)
      have l1 : (Str.ofString " ").length = 1 := by decide
      have l6 : (Str.ofString "cells ").length = 6 := by decide
      rw [l1] at hjl
      rw [List.length_map] at hjl hsum
      refine ⟨l.map wS, strs_map _, by rw [l1, List.length_map, SZ]; omega, ?_⟩
      trivial
      refine ⟨by rw [l6, SZ]; omega, ?_⟩
      have em2 := up_at (o := .lst ((l.map wS).map .str)) (show m ≠ f by nofun) em
      trivial
      refine ⟨by rw [List.length_map, List.length_map, List.length_take, SZ]; omega, ?_, ?_⟩
      · exact em2
      apply Pt.of
      refine ⟨hil, ?_, up_same, ?_⟩
      · rw [take_snoc hl, List.map_append, List.map_append]; rfl
      · exact hm_upS (sb.upf' nf) (by simp)
    rintro acc g ⟨_, rfl, em, sb⟩
    rw [show (srcL c (rfs B wds.length)).ds.length = wds.length from rfs_len _ _, List.take_length] at em
    apply Pt.of
    have hm0 : h m = none := s1.nn nm
    refine q m g hm0 (fun x u y => ?_) (by rw [em, tabS, if_neg hcn])
    exact hm_get sb (s1 _ _ y) (by simp only [List.mem_cons, List.not_mem_nil, or_false]; exact fun w => by rw [w, hm0] at y; cases y)
end K47
end

section
set_option linter.all false
set_option autoImplicit false
set_option maxRecDepth 100000
set_option maxHeartbeats 4000000
namespace K47
open G
open PySem (Str)
local macro_rules | `(tactic| fail $s:str) => match s.getString with
  | "ne" => `(tactic| first | assumption | (apply Ne.symm; assumption) | exact ne_f1 (by assumption) (by fail "lk") | exact ne_f2 (by assumption) (by fail "lk") | grind [up, Sb])
  | "lk" => `(tactic| first | assumption | exact up_same | (refine up_at ?_ ?_; (· fail "ne"); fail "lk") | (refine Sb.at ?_ ?_; (· assumption); fail "lk"))
  | "sd" => `(tactic| first | (with_reducible show -(2 ^ 62) ≤ (_ : Int); first | omega | (simp only [List.length_map]; omega)) | (with_reducible show (_ : Int) < 2 ^ 62; first | omega | (simp only [List.length_map]; omega)) | assumption | rfl | (apply isT_lst; fail "lk") | (apply isT_dic; fail "lk") | decide | (simp only [List.length_cons, List.length_nil]; decide) | exact mulOk_l (by decide) (by decide) | exact mulOk_r (by decide) (by decide) | exact mulOk_l (by omega) (by omega) | exact mulOk_r (by omega) (by omega) | omega | (simp only [List.length_map]; omega))
  | "ls" => `(tactic| first | exact sq_tup | exact sq_rl | exact ls_rl | (apply ls_lst; fail "lk") | (apply sq_lst; fail "lk"))
  | "st" => `(tactic| first
  | ((with_reducible apply ix_lst); (· fail "lk"))
  | with_reducible apply ix_tup
  | with_reducible apply ix_str
  | with_reducible apply in_tup
  | with_reducible apply min_ii
  | with_reducible apply max_ii
  | ((with_reducible apply in_lst); (· fail "lk"))
  | ((with_reducible apply in_dic); (· fail "lk"))
  | ((with_reducible apply notIn_dic); (· fail "lk"))
  | ((with_reducible apply notIn_lst); (· fail "lk"))
  | with_reducible apply ix_rl
  | ((with_reducible apply ix_dic); (· fail "lk"))
  | ((with_reducible apply app_lst); (· fail "lk"))
  | ((with_reducible apply len_lst); (· fail "lk"))
  | with_reducible apply len_tup
  | with_reducible apply mulS_s
  | with_reducible apply fmt_str
  | with_reducible apply fmt_int
  | with_reducible apply cat_str
  | with_reducible apply str_int
  | with_reducible apply str_str
  | with_reducible apply len_rl
  | with_reducible apply len_str
  | ((with_reducible apply oIsT_lst); (· fail "lk"))
  | ((with_reducible apply dict_ls); (· fail "ls"))
  | ((with_reducible apply sl_ls); (· fail "ls"))
  | ((with_reducible apply rev_ls); (· fail "ls"))
  | ((with_reducible apply list_sq); (· fail "ls"))
  | ((with_reducible apply list_dic); (· fail "lk"))
  | ((with_reducible apply step_ls); (· fail "ls"))
  | ((with_reducible apply addL_ls); (· fail "ls"); (· fail "ls"))
  | ((with_reducible apply index_ls); (· fail "ls"))
  | ((with_reducible apply count_ls); (· fail "ls"))
  | ((with_reducible apply fill_dic); (· fail "lk"))
  | ((with_reducible apply max_ls); (· fail "ls"))
  | ((with_reducible apply sortK_ls); (· fail "ls"))
  | ((with_reducible apply sum_ls); (· fail "ls"))
  | ((with_reducible apply all_ls); (· fail "ls"))
  | ((with_reducible apply sorted_ls); (· fail "ls"))
  | ((with_reducible apply sortI_ls); (· fail "ls"))
  | ((with_reducible apply sortD_ls); (· fail "ls"))
  | ((with_reducible apply sortD_dic); (· fail "lk"))
  | ((with_reducible apply oIsT_dic); (· fail "lk"))
  | ((with_reducible apply walkD_lst); (· fail "lk"))
  | ((with_reducible apply walkD_dic); (· fail "lk"))
  | ((with_reducible apply walkI_dic); (· fail "lk"))
  | with_reducible apply walkD_tup
  | with_reducible apply walkD_rl
  | ((with_reducible apply walkL_lst); (· fail "lk"))
  | with_reducible apply walkL_rl
  | ((with_reducible apply mul_lst); (· fail "lk"))
  | ((with_reducible apply min_ls); (· fail "ls"))
  | ((with_reducible apply oAdd_lst); (· fail "lk"); (· fail "lk"))
  | ((with_reducible apply put_lst); (· fail "lk"))
  | ((with_reducible apply put_dic); (· fail "lk"))
  | ((with_reducible apply tru_lst); (· fail "lk"))
  | with_reducible apply oIsT_bl
  | with_reducible apply oIsT_int
  | with_reducible apply oIsT_str
  | with_reducible apply oIsT_tup
  | with_reducible apply oIsT_rl
  | with_reducible apply oIsT_non
  | with_reducible apply sl_tup
  | with_reducible apply sl_str
  | ((with_reducible apply get_dic); (· fail "lk"))
  | ((with_reducible apply get_dic2); (· fail "lk"))
  | ((with_reducible apply setdef_dic); (· fail "lk"))
  | ((with_reducible apply ext_lst); (· fail "lk"); (· fail "lk"))
  | ((with_reducible apply pop_lst); (· fail "lk"))
  | ((with_reducible apply popAt_lst); (· fail "lk"))
  | ((with_reducible apply ins_lst); (· fail "lk"))
  | ((with_reducible apply clr_lst); (· fail "lk"))
  | ((with_reducible apply clr_dic); (· fail "lk"))
  | ((with_reducible apply join_sq); (· fail "ls"))
  | ((with_reducible apply oEq_sst); (· with_reducible rfl))
  | ((with_reducible apply oEq_ssf); (· first | assumption | decide))
  | ((with_reducible apply oNe_sst); (· with_reducible rfl))
  | ((with_reducible apply oNe_ssf); (· first | assumption | decide))
  | ((with_reducible apply oEq_iit); (· with_reducible rfl))
  | ((with_reducible apply oEq_iif); (· first | assumption | decide))
  | ((with_reducible apply oNe_iit); (· with_reducible rfl))
  | ((with_reducible apply oNe_iif); (· first | assumption | decide))
  | refine Exists.intro _ (And.intro (rfl : atI _ _ = some _) ?_)
  | refine Exists.intro _ (And.intro (rfl : ixN _ _ = some _) ?_)
  | ((with_reducible refine And.intro ?_ ?_); (· fail "sd")))
  | _ => Lean.Macro.throwUnsupported
local macro_rules | `(tactic| nofun) => `(tactic| fail "ne")
local macro_rules | `(tactic| bv_omega) => `(tactic| fail "lk")
local macro_rules | `(tactic| ac_rfl) => `(tactic| fail "sd")
local macro_rules | `(tactic| trivial) => `(tactic| ((conv => whnf); repeat (fail "st"; (conv => whnf))))
/-! ### entry_rows -/
def partS (nu : Str) : Str := Str.ofString "part " ++ (if nu = Str.ofString "" then Str.ofString "." else nu)
def textS (row : List Tk) : Str := Str.ofString "text " ++ PySem.Str.join (Str.ofString "") (row.map (·.tx))
def bdS (b : Bd) : List Str := (if b.row = [] then [] else [textS b.row]) ++ mrkN b.row 3 ++ b.nts.map (noteS b.row) ++ tabS b.cn b.wds
def enS (x : En) : List Str := partS x.num :: match x.bd with
  | none => [Str.ofString "closed"]
  | some b => bdS b
theorem partS_len {nu : Str} (h : nu.length ≤ 8) : (partS nu).length ≤ 13 := by
  unfold partS
  rw [str_la, show (Str.ofString "part ").length = 5 by decide]
  split
  · rw [show (Str.ofString ".").length = 1 by decide]; omega
  · omega
theorem row_sum {row : List Tk} (hok : ∀ (i : Nat) (t : Tk), row[i]? = some t → TkOk i t) : ((row.map (·.tx)).map (·.length)).sum ≤ 8 * row.length := by
  have := sum_le (l := row.map (·.tx)) fun x hx => by
    obtain ⟨t, ht, rfl⟩ := List.mem_map.mp hx
    obtain ⟨i, hi, e⟩ := List.getElem_of_mem ht
    exact (hok i t (by rw [← e]; exact List.getElem?_eq_getElem hi)).tx
  rwa [List.length_map] at this
theorem textS_len {row : List Tk} (hok : ∀ (i : Nat) (t : Tk), row[i]? = some t → TkOk i t) (lr : row.length ≤ 15) : (textS row).length ≤ 125 := by
  unfold textS
  have h1 := join_le (Str.ofString "") (row.map (·.tx))
  have h2 := row_sum hok
  rw [show (Str.ofString "").length = 0 by decide] at h1
  rw [str_la, show (Str.ofString "text ").length = 5 by decide]
  omega
theorem mrkN_el {row : List Tk} (hok : ∀ (i : Nat) (t : Tk), row[i]? = some t → TkOk i t) (lr : row.length ≤ 15) : ∀ x ∈ mrkN row 3, x.length ≤ 100 := fun x hx => by
  obtain ⟨kd, hkd, hx⟩ := List.mem_flatMap.mp hx
  obtain ⟨l, hl, rfl⟩ := List.mem_map.mp hx
  obtain ⟨⟨i, h1, h2⟩, h3, h4⟩ := stN_el hl
  obtain ⟨t, ht⟩ : ∃ t, row[i]? = some t := ⟨_, List.getElem?_eq_getElem h1⟩
  have hv : vlF kd t = some l.1 := by rw [← h2]; unfold vAt; rw [List.getElem?_map, ht]; rfl
  have e1 := (vlF_ok (hok i t ht).ms kd _ hv).2
  have e2 := nS_len l.2.1 (by omega)
  have e3 := nS_len l.2.2 (by omega)
  have e4 : kd.length ≤ 8 := by
    have : kd ∈ kinds3 := List.take_subset _ _ hkd
    simp only [kinds3, List.mem_cons, List.not_mem_nil, or_false] at this
    rcases this with rfl | rfl | rfl <;> decide
  rw [mark_eq]
  simp only [str_la, show Str.empty.length = 0 from rfl, show (Str.ofString "mark ").length = 5 by decide, show (Str.ofString " ").length = 1 by decide]
  omega
theorem noteS_len {row : List Tk} {x : Nn} (lr : row.length ≤ 15) (h : x.wd.length ≤ 8) : (noteS row x).length ≤ 100 := by
  unfold noteS
  have := plS_len lr x.sg
  simp only [str_la, show (Str.ofString "note ").length = 5 by decide, show (Str.ofString " ").length = 1 by decide]
  omega
theorem lineS_len {l : List Str} (h : ∀ x ∈ l, x.length ≤ 8) (hl : l.length ≤ 4) : (lineS l).length ≤ 100 := by
  unfold lineS
  have h1 := join_le (Str.ofString " ") (l.map wS)
  have h2 := sum_le (l := l.map wS) fun x hx => by
    obtain ⟨w, hw, rfl⟩ := List.mem_map.mp hx
    exact wS_len (h w hw)
  rw [show (Str.ofString " ").length = 1 by decide] at h1
  rw [List.length_map] at h1 h2
  rw [str_la, show (Str.ofString "cells ").length = 6 by decide]
  omega
theorem bdS_ok {b : Bd} (ok : BdOk b) : (bdS b).length ≤ 60 ∧ ∀ x ∈ bdS b, x.length ≤ 200 := by
  have hm := mrkN_len ok.rl 3 (Nat.le_refl 3)
  have hn := ok.nl
  have hw : b.wds.length ≤ 4 := by rw [ok.wl]; exact ok.rn
  constructor
  · unfold bdS tabS
    simp only [List.length_append, List.length_map]
    split <;> split <;> simp <;> omega
  · intro x hx
    unfold bdS at hx
    simp only [List.mem_append] at hx
    rcases hx with ((h | h) | h) | h
    · split at h
      · cases h
      · rw [List.mem_singleton.mp h]
        exact Nat.le_trans (textS_len ok.row ok.rl) (by omega)
    · exact Nat.le_trans (mrkN_el ok.row ok.rl x h) (by omega)
    · obtain ⟨y, hy, rfl⟩ := List.mem_map.mp h
      exact Nat.le_trans (noteS_len ok.rl (ok.nts y hy).wd) (by omega)
    · unfold tabS at h
      split at h
      · cases h
      · obtain ⟨y, hy, rfl⟩ := List.mem_map.mp h
        obtain ⟨h1, h2⟩ := ok.wd y hy
        have := ok.cn
        exact Nat.le_trans (lineS_len h2 (by omega)) (by omega)
theorem enS_ok {x : En} (ok : EnOk x) : (enS x).length ≤ 61 ∧ ∀ y ∈ enS x, y.length ≤ 200 := by
  have hp := partS_len ok.nu
  unfold enS
  cases hb : x.bd with
  | none =>
    refine ⟨by simp, fun y hy => ?_⟩
    simp only [List.mem_cons, List.not_mem_nil, or_false] at hy
    rcases hy with rfl | rfl
    · omega
    · decide
  | some b =>
    obtain ⟨h1, h2⟩ := bdS_ok (ok.bd b hb)
    refine ⟨by simp only [List.length_cons]; omega, fun y hy => ?_⟩
    rcases List.mem_cons.mp hy with rfl | hy
    · omega
    · exact h2 y hy
/-! rows by value -/
def nfT (t : Tk) : D := .tup [nm5 t.k, .str t.tx, .rl (t.mks.map encMk)]
def nfRow (row : List Tk) : D := .rl (row.map nfT)
theorem mks_pl (m : List (Str × Str)) : plL 6 (m.map encMk) = true := plL_iff.mpr fun d hd => by
  obtain ⟨p, _, rfl⟩ := List.mem_map.mp hd
  rfl
theorem t_pv {h : AH} {A : Nat → Addr} {t : Tk} (n : Nat) (e : h (A t.k) = some (.lst (t.mks.map encMk))) : PvN h (n + 8) (encT A t) (nfT t) :=
  PvN.tup (n := n + 7) (.cons (.pl (m := 6) rfl) (.cons (.pl (m := 0) rfl) (.cons (PvN.lst (n := n + 6) e (PvL.pl (m := 6) (mks_pl _) (by omega))) .nil)))
theorem row_pvl {h : AH} {A : Nat → Addr} (n : Nat) : ∀ {row : List Tk}, (∀ t ∈ row, h (A t.k) = some (.lst (t.mks.map encMk))) → PvL h (n + 8) (row.map (encT A)) (row.map nfT)
  | [], _ => .nil
  | t :: r, e => .cons (t_pv n (e t List.mem_cons_self)) (row_pvl n fun u hu => e u (List.mem_cons_of_mem _ hu))
theorem row_pv {h : AH} {r : Addr} {A : Nat → Addr} {row : List Tk} (n : Nat) (x : RowAt h r A row) : PvN h (n + 9) (.ref r) (nfRow row) := PvN.lst (n := n + 8) x.lst (row_pvl n x.mks)
theorem entry_rows_ok {h : AH} {d : D} {x : En} {Q : KD} (hx : EnAt h d x) (ok : EnOk x)
    (q : ∀ m h', h m = none → Sb h h' → h' m = some (.lst ((enS x).map .str)) → Q (.ref m) h') : f_entry_rows [d] h Q := by
  have hnu := ok.nu
  have hS : enS x = partS x.num :: match x.bd with
    | none => [Str.ofString "closed"]
    | some b => bdS b := rfl
  have l5 : (Str.ofString "part ").length = 5 := by decide
  have hor : ∃ pd, partS x.num = Str.ofString "part " ++ pd ∧ pd.length ≤ 8 ∧ ((x.num.length != 0) = true ∧ x.num = pd ∨ (x.num.length != 0) = false ∧ Str.ofString "." = pd) := by
    unfold partS
    by_cases c : x.num = Str.ofString ""
    · rw [if_pos c]
      exact ⟨_, rfl, by decide, .inr ⟨by rw [c]; rfl, rfl⟩⟩
    · rw [if_neg c]
      exact ⟨_, rfl, hnu, .inl ⟨by rw [bne_iff_ne]; exact fun z => c (str_len0.mp z), rfl⟩⟩
  obtain ⟨pd, hpd, hpl, hor⟩ := hor
  rw [hpd] at hS
  have hL : (Str.ofString "part ").length + x.num.length ≤ SZ := by rw [l5, SZ]; omega
  unfold EnAt at hx
  cases hb : x.bd with
  | none =>
    rw [hb] at hx hS
    simp only at hx hS
    subst hx
    unfold f_entry_rows
    trivial
    rcases hor with ⟨e0, e1⟩ | ⟨e0, e1⟩ <;> rw [e0]
    all_goals
      trivial
      rw [e1]
      refine newL_i fun m nm => ?_
      trivial
      refine newL_i fun m2 nm2 => ?_
      trivial
      refine newL_i fun m3 nm3 => ?_
      apply Pt.of
      have s1 : Sb h (up h m (.lst [.str (Str.ofString "part " ++ pd)])) := (Sb.refl _).upf' nm
      have s2 := s1.upf' nm2 (o := .lst [.str (Str.ofString "closed")])
      exact q m3 _ (s2.nn nm3) (s2.upf' nm3) (by rw [up_same, hS]; rfl)
  | some b =>
    rw [hb] at hx hS
    simp only at hx hS
    have bok := ok.bd b hb
    have hbl := (bdS_ok bok).1
    have hwl : b.wds.length ≤ 4 := by rw [bok.wl]; exact bok.rn
    obtain ⟨r, A, n, ta, tb, tc, B, rfl, hr, en, ea, eb, hw⟩ := hx
    have er := hr.lst
    unfold f_entry_rows
    trivial
    rcases hor with ⟨e0, e1⟩ | ⟨e0, e1⟩ <;> rw [e0]
    all_goals
      trivial
      rw [e1]
      refine newL_i fun m nm => ?_
      have hrm : r ≠ m := fun z => by rw [z, nm] at er; cases er
      have s1 : Sb h (up h m (.lst [.str (Str.ofString "part " ++ pd)])) := (Sb.refl _).upf' nm
      have em : up h m (.lst [.str (Str.ofString "part " ++ pd)]) m = some (.lst [.str (Str.ofString "part " ++ pd)]) := up_same
      generalize up h m (.lst [.str (Str.ofString "part " ++ pd)]) = h1 at s1 em ⊢
      trivial
      refine newL_i fun z nz => ?_
      have hmz : m ≠ z := fun y => by rw [← y, em] at nz; cases nz
      have em2 := up_at (o := .lst []) hmz em
      have s2 := s1.upf' nz (o := .lst [])
      have ez : up h1 z (.lst []) z = some (.lst []) := up_same
      have hm0 : h m = none := nm
      generalize up h1 z (.lst []) = h2 at em2 s2 ez ⊢
      trivial
      refine oNe_pv (row_pv 3 (hr.sb s2)) (.lst (n := 0) ez rfl) ?_
      have er2 := s2 _ _ er
      clear em nz s1 ez
      trivial
      apply join (α := AH) (H := fun g => g m = some (.lst (((partS x.num) :: (if b.row = [] then [] else [textS b.row])).map .str)) ∧ Sb h g)
      case m =>
        intro go
        refine onT_nd (fun c => ?_) (fun c => ?_)
        · have hne : b.row ≠ [] := fun y => c (by rw [y]; rfl)
          trivial
          intro f nf
          refine ⟨fun j acc g => j ≤ b.row.length ∧ acc = (b.row.take j).map (fun t => D.str t.tx) ∧ g = up h2 f (.lst acc), ?_, ?_, ?_, ?_⟩
          · exact ⟨Nat.zero_le _, rfl, rfl⟩
          · rintro j acc g _ ⟨_, rfl, rfl⟩
            exact ⟨up_at (by nofun) er2, up_same⟩
          · rintro j acc g d ⟨hj, rfl, rfl⟩ hd
            obtain ⟨t, ht, rfl⟩ := get_map hd
            have hjl := (List.getElem?_eq_some_iff.mp ht).1
            have hrl := bok.rl
            clear hd
            trivial
            refine ⟨by rw [List.length_map, List.length_take, SZ]; omega, up_same, ?_⟩
            rw [up_up]
            apply Pt.of
            exact ⟨hjl, by rw [take_snoc ht, List.map_append]; rfl, rfl⟩
          rintro acc g ⟨_, rfl, rfl⟩
          rw [show b.row.take (srcL r (b.row.map (encT A))).ds.length = b.row from List.take_of_length_le (by simp [srcL])]
          rw [show (b.row.map fun t => D.str t.tx) = (b.row.map (·.tx)).map D.str from by rw [List.map_map]; rfl]
          have hrs := row_sum bok.row
          have hjl := join_le (Str.ofString "") (b.row.map (·.tx))
          have l0 : (Str.ofString "").length = 0 := by decide
          have l5' : (Str.ofString "text ").length = 5 := by decide
          have hrl := bok.rl
          rw [l0] at hjl
          have em3 := up_at (o := .lst ((b.row.map (·.tx)).map D.str)) (show m ≠ f by nofun) em2
          trivial
          refine ⟨b.row.map (·.tx), strs_map _, by rw [l0, SZ]; omega, ?_⟩
          trivial
          refine ⟨by rw [l5', SZ]; omega, ?_⟩
          trivial
          generalize hv : up (up h2 f _) m _ = g
          refine (go g ⟨?_, ?_⟩).un
          · rw [← hv, up_same, if_neg hne, hpd]; rfl
          · rw [← hv]
            have s3 := s2.upf' nf (o := .lst ((b.row.map (·.tx)).map D.str))
            exact fun x u y => by rw [up_ne (fun w => by rw [w, hm0] at y; cases y)]; exact s3 _ _ y
        · have he : b.row = [] := by
            have : nfRow b.row = .rl [] := by simpa using c
            injection this with this
            exact List.map_eq_nil_iff.mp this
          trivial
          refine (go h2 ⟨?_, s2⟩).un
          rw [em2, if_pos he, hpd]; rfl
      rintro g ⟨eg, sg⟩
      have hPl : (partS x.num :: (if b.row = [] then [] else [textS b.row])).length ≤ 2 := by split <;> simp
      have hfin : enS x = (partS x.num :: (if b.row = [] then [] else [textS b.row])) ++ mrkN b.row 3 ++ b.nts.map (noteS b.row) ++ tabS b.cn b.wds := by rw [hS, ← hpd]; rfl
      generalize (partS x.num :: (if b.row = [] then [] else [textS b.row])) = P at eg hPl hfin
      have hml := mrkN_len bok.rl 3 (Nat.le_refl 3)
      have hnl := bok.nl
      have htl : (tabS b.cn b.wds).length ≤ 4 := by
        unfold tabS
        split
        · simp
        · rw [List.length_map]; exact hwl
      trivial
      refine mark_rows_ok (hr.sb sg) bok.row bok.rl fun m1 g1 n1 t1 e1 => ?_
      have eg1 := t1 _ _ eg
      have sg1 := sg.trans t1
      clear eg t1 n1
      trivial
      refine ⟨by rw [List.length_map, List.length_map, SZ]; omega, newL_i fun m2 n2 => ?_⟩
      rw [← List.map_append]
      have e2 : up g1 m2 (.lst ((P ++ mrkN b.row 3).map D.str)) m2 = some (.lst ((P ++ mrkN b.row 3).map D.str)) := up_same
      have sg2 := sg1.upf' n2 (o := .lst ((P ++ mrkN b.row 3).map D.str))
      generalize up g1 m2 (.lst ((P ++ mrkN b.row 3).map D.str)) = g2 at e2 sg2 ⊢
      clear eg1 sg1 e1 n2
      trivial
      refine note_rows_ok (hr.sb sg2) bok.row bok.rl (sg2 _ _ en) bok.nts bok.nl fun m3 g3 n3 t3 e3 => ?_
      have e23 := t3 _ _ e2
      have sg3 := sg2.trans t3
      clear e2 t3 n3 sg2
      trivial
      refine ⟨by rw [List.length_map, List.length_map, List.length_map, List.length_append, SZ]; omega, newL_i fun m4 n4 => ?_⟩
      rw [← List.map_append]
      have e4 : up g3 m4 (.lst ((P ++ mrkN b.row 3 ++ b.nts.map (noteS b.row)).map D.str)) m4 = some (.lst ((P ++ mrkN b.row 3 ++ b.nts.map (noteS b.row)).map D.str)) := up_same
      have sg4 := sg3.upf' n4 (o := .lst ((P ++ mrkN b.row 3 ++ b.nts.map (noteS b.row)).map D.str))
      generalize up g3 m4 (.lst ((P ++ mrkN b.row 3 ++ b.nts.map (noteS b.row)).map D.str)) = g4 at e4 sg4 ⊢
      clear e23 sg3 e3 n4
      trivial
      refine table_rows_ok (rn := 0) (sg4 _ _ eb) (hw.sb sg4) bok.cn hwl bok.wd fun m5 g5 n5 t5 e5 => ?_
      have e45 := t5 _ _ e4
      have sg5 := sg4.trans t5
      clear e4 t5 n5 sg4
      trivial
      refine ⟨by rw [List.length_map, List.length_map, List.length_append, List.length_append, List.length_map, SZ]; omega, newL_i fun m6 n6 => ?_⟩
      rw [← List.map_append, ← hfin]
      apply Pt.of
      exact q m6 _ (sg5.nn n6) (sg5.upf' n6) up_same
end K47
end

section
set_option linter.all false
set_option autoImplicit false
set_option maxRecDepth 100000
set_option maxHeartbeats 4000000
namespace K47
open G
open PySem (Str)
local macro_rules | `(tactic| fail $s:str) => match s.getString with
  | "ne" => `(tactic| first | assumption | (apply Ne.symm; assumption) | exact ne_f1 (by assumption) (by fail "lk") | exact ne_f2 (by assumption) (by fail "lk") | grind [up, Sb])
  | "lk" => `(tactic| first | assumption | exact up_same | (refine up_at ?_ ?_; (· fail "ne"); fail "lk") | (refine Sb.at ?_ ?_; (· assumption); fail "lk"))
  | "sd" => `(tactic| first | (with_reducible show -(2 ^ 62) ≤ (_ : Int); first | omega | (simp only [List.length_map]; omega)) | (with_reducible show (_ : Int) < 2 ^ 62; first | omega | (simp only [List.length_map]; omega)) | assumption | rfl | (apply isT_lst; fail "lk") | (apply isT_dic; fail "lk") | decide | (simp only [List.length_cons, List.length_nil]; decide) | exact mulOk_l (by decide) (by decide) | exact mulOk_r (by decide) (by decide) | exact mulOk_l (by omega) (by omega) | exact mulOk_r (by omega) (by omega) | omega | (simp only [List.length_map]; omega))
  | "ls" => `(tactic| first | exact sq_tup | exact sq_rl | exact ls_rl | (apply ls_lst; fail "lk") | (apply sq_lst; fail "lk"))
  | "st" => `(tactic| first
  | ((with_reducible apply ix_lst); (· fail "lk"))
  | with_reducible apply ix_tup
  | with_reducible apply ix_str
  | with_reducible apply in_tup
  | with_reducible apply min_ii
  | with_reducible apply max_ii
  | ((with_reducible apply in_lst); (· fail "lk"))
  | ((with_reducible apply in_dic); (· fail "lk"))
  | ((with_reducible apply notIn_dic); (· fail "lk"))
  | ((with_reducible apply notIn_lst); (· fail "lk"))
  | with_reducible apply ix_rl
  | ((with_reducible apply ix_dic); (· fail "lk"))
  | ((with_reducible apply app_lst); (· fail "lk"))
  | ((with_reducible apply len_lst); (· fail "lk"))
  | with_reducible apply len_tup
  | with_reducible apply mulS_s
  | with_reducible apply fmt_str
  | with_reducible apply fmt_int
  | with_reducible apply cat_str
  | with_reducible apply str_int
  | with_reducible apply str_str
  | with_reducible apply len_rl
  | with_reducible apply len_str
  | ((with_reducible apply oIsT_lst); (· fail "lk"))
  | ((with_reducible apply dict_ls); (· fail "ls"))
  | ((with_reducible apply sl_ls); (· fail "ls"))
  | ((with_reducible apply rev_ls); (· fail "ls"))
  | ((with_reducible apply list_sq); (· fail "ls"))
  | ((with_reducible apply list_dic); (· fail "lk"))
  | ((with_reducible apply step_ls); (· fail "ls"))
  | ((with_reducible apply addL_ls); (· fail "ls"); (· fail "ls"))
  | ((with_reducible apply index_ls); (· fail "ls"))
  | ((with_reducible apply count_ls); (· fail "ls"))
  | ((with_reducible apply fill_dic); (· fail "lk"))
  | ((with_reducible apply max_ls); (· fail "ls"))
  | ((with_reducible apply sortK_ls); (· fail "ls"))
  | ((with_reducible apply sum_ls); (· fail "ls"))
  | ((with_reducible apply all_ls); (· fail "ls"))
  | ((with_reducible apply sorted_ls); (· fail "ls"))
  | ((with_reducible apply sortI_ls); (· fail "ls"))
  | ((with_reducible apply sortD_ls); (· fail "ls"))
  | ((with_reducible apply sortD_dic); (· fail "lk"))
  | ((with_reducible apply oIsT_dic); (· fail "lk"))
  | ((with_reducible apply walkD_lst); (· fail "lk"))
  | ((with_reducible apply walkD_dic); (· fail "lk"))
  | ((with_reducible apply walkI_dic); (· fail "lk"))
  | with_reducible apply walkD_tup
  | with_reducible apply walkD_rl
  | ((with_reducible apply walkL_lst); (· fail "lk"))
  | with_reducible apply walkL_rl
  | ((with_reducible apply mul_lst); (· fail "lk"))
  | ((with_reducible apply min_ls); (· fail "ls"))
  | ((with_reducible apply oAdd_lst); (· fail "lk"); (· fail "lk"))
  | ((with_reducible apply put_lst); (· fail "lk"))
  | ((with_reducible apply put_dic); (· fail "lk"))
  | ((with_reducible apply tru_lst); (· fail "lk"))
  | with_reducible apply oIsT_bl
  | with_reducible apply oIsT_int
  | with_reducible apply oIsT_str
  | with_reducible apply oIsT_tup
  | with_reducible apply oIsT_rl
  | with_reducible apply oIsT_non
  | with_reducible apply sl_tup
  | with_reducible apply sl_str
  | ((with_reducible apply get_dic); (· fail "lk"))
  | ((with_reducible apply get_dic2); (· fail "lk"))
  | ((with_reducible apply setdef_dic); (· fail "lk"))
  | ((with_reducible apply ext_lst); (· fail "lk"); (· fail "lk"))
  | ((with_reducible apply pop_lst); (· fail "lk"))
  | ((with_reducible apply popAt_lst); (· fail "lk"))
  | ((with_reducible apply ins_lst); (· fail "lk"))
  | ((with_reducible apply clr_lst); (· fail "lk"))
  | ((with_reducible apply clr_dic); (· fail "lk"))
  | ((with_reducible apply join_sq); (· fail "ls"))
  | ((with_reducible apply oEq_sst); (· with_reducible rfl))
  | ((with_reducible apply oEq_ssf); (· first | assumption | decide))
  | ((with_reducible apply oNe_sst); (· with_reducible rfl))
  | ((with_reducible apply oNe_ssf); (· first | assumption | decide))
  | ((with_reducible apply oEq_iit); (· with_reducible rfl))
  | ((with_reducible apply oEq_iif); (· first | assumption | decide))
  | ((with_reducible apply oNe_iit); (· with_reducible rfl))
  | ((with_reducible apply oNe_iif); (· first | assumption | decide))
  | refine Exists.intro _ (And.intro (rfl : atI _ _ = some _) ?_)
  | refine Exists.intro _ (And.intro (rfl : ixN _ _ = some _) ?_)
  | ((with_reducible refine And.intro ?_ ?_); (· fail "sd")))
  | _ => Lean.Macro.throwUnsupported
local macro_rules | `(tactic| nofun) => `(tactic| fail "ne")
local macro_rules | `(tactic| bv_omega) => `(tactic| fail "lk")
local macro_rules | `(tactic| ac_rfl) => `(tactic| fail "sd")
local macro_rules | `(tactic| trivial) => `(tactic| ((conv => whnf); repeat (fail "st"; (conv => whnf))))
/-! ### shown -/
def docS (E : List En) : List Str := E.flatMap enS
theorem doc_len : ∀ (E : List En), (∀ x ∈ E, EnOk x) → (docS E).length ≤ 61 * E.length ∧ ∀ y ∈ docS E, y.length ≤ 200
  | [], _ => ⟨Nat.zero_le _, fun y h => by cases h⟩
  | x :: r, ok => by
    obtain ⟨h1, h2⟩ := enS_ok (ok x List.mem_cons_self)
    obtain ⟨h3, h4⟩ := doc_len r fun y hy => ok y (List.mem_cons_of_mem _ hy)
    have e : docS (x :: r) = enS x ++ docS r := by unfold docS; rw [List.flatMap_cons]
    rw [e]
    refine ⟨by rw [List.length_append, List.length_cons]; omega, fun y hy => ?_⟩
    rcases List.mem_append.mp hy with g | g
    · exact h2 y g
    · exact h4 y g
theorem sum_le2 {B : Nat} {l : List Str} (h : ∀ x ∈ l, x.length ≤ B) : (l.map (·.length)).sum ≤ B * l.length := by
  induction l with
  | nil => exact Nat.zero_le _
  | cons x r ih =>
    have h1 := h x List.mem_cons_self
    have h2 := ih fun y hy => h y (List.mem_cons_of_mem _ hy)
    rw [List.map_cons, List.sum_cons, List.length_cons, Nat.mul_succ]
    omega
theorem doc_take {E : List En} {i : Nat} {x : En} (hx : E[i]? = some x) : docS (E.take (i + 1)) = docS (E.take i) ++ enS x := by
  unfold docS
  rw [take_snoc hx, List.flatMap_append]; simp
theorem shown_ok {h : AH} {a : Addr} {ds : List D} {E : List En} {Q : KD} (hd : DocAt h a ds E) (ok : ∀ x ∈ E, EnOk x) (lE : E.length ≤ 5)
    (q : ∀ h', Sb h h' → Q (.str (PySem.Str.join (Str.ofString "\n") (docS E))) h') : f_shown [.ref a] h Q := by
  have hl := hd.len
  have ea := hd.lst
  unfold f_shown
  trivial
  refine newL_i fun m nm => ?_
  have ham : a ≠ m := fun y => by rw [y, nm] at ea; cases ea
  trivial
  refine ⟨fun i ρ g => i ≤ E.length ∧ ∃ x2, ρ = [some (.ref a), some (.ref m), x2] ∧ g m = some (.lst ((docS (E.take i)).map .str)) ∧ Sb h g, ?_, ?_, ?_, ?_⟩
  · exact ⟨Nat.zero_le _, _, rfl, up_same, (Sb.refl _).upf' nm⟩
  · rintro i ρ g _ ⟨_, x2, _, _, sb⟩
    exact sb _ _ ea
  · rintro i ρ g d ⟨hi, x2, rfl, em, sb⟩ hdi
    have hd' : ds[i]? = some d := hdi
    have hil := (List.getElem?_eq_some_iff.mp hd').1
    obtain ⟨x, hx⟩ : ∃ x, E[i]? = some x := ⟨_, List.getElem?_eq_getElem (by omega)⟩
    have xok := ok x (List.mem_of_getElem? hx)
    have hen := (hd.at_ i x d hx hd').sb sb
    have hst := doc_take hx
    have h1 := (doc_len (E.take i) fun y hy => ok y (List.take_subset _ _ hy)).1
    have h2 := (enS_ok xok).1
    rw [List.length_take] at h1
    clear hdi hd'
    trivial
    refine entry_rows_ok hen xok fun r g1 nr t1 e1 => ?_
    have em1 := t1 _ _ em
    have sb1 := sb.trans t1
    trivial
    refine ⟨by rw [List.length_map, List.length_map, SZ]; omega, ?_⟩
    apply Pt.of
    exact ⟨by omega, _, rfl, by rw [up_same, hst, List.map_append], fun x u y => by rw [up_ne (fun w => by rw [w, nm] at y; cases y)]; exact sb1 _ _ y⟩
  rintro ρ g ⟨_, x2, rfl, em, sb⟩
  rw [show (srcL a ds).ds.length = E.length from hl, List.take_length] at em
  obtain ⟨h1, h2⟩ := doc_len E ok
  have h3 := sum_le2 h2
  have l1 : (Str.ofString "\n").length = 1 := by decide
  trivial
  refine ⟨docS E, strs_map _, by rw [l1, SZ]; omega, ?_⟩
  apply Pt.of
  exact q g sb
end K47
end

section
set_option linter.all false
set_option autoImplicit false
set_option maxRecDepth 100000
set_option maxHeartbeats 4000000
namespace K47
open G
open PySem (Str)
local macro_rules | `(tactic| fail $s:str) => match s.getString with
  | "ne" => `(tactic| first | assumption | (apply Ne.symm; assumption) | exact ne_f1 (by assumption) (by fail "lk") | exact ne_f2 (by assumption) (by fail "lk") | grind [up, Sb])
  | "lk" => `(tactic| first | assumption | exact up_same | (refine up_at ?_ ?_; (· fail "ne"); fail "lk") | (refine Sb.at ?_ ?_; (· assumption); fail "lk"))
  | "sd" => `(tactic| first | (with_reducible show -(2 ^ 62) ≤ (_ : Int); first | omega | (simp only [List.length_map]; omega)) | (with_reducible show (_ : Int) < 2 ^ 62; first | omega | (simp only [List.length_map]; omega)) | assumption | rfl | (apply isT_lst; fail "lk") | (apply isT_dic; fail "lk") | decide | (simp only [List.length_cons, List.length_nil]; decide) | exact mulOk_l (by decide) (by decide) | exact mulOk_r (by decide) (by decide) | exact mulOk_l (by omega) (by omega) | exact mulOk_r (by omega) (by omega) | omega | (simp only [List.length_map]; omega))
  | "ls" => `(tactic| first | exact sq_tup | exact sq_rl | exact ls_rl | (apply ls_lst; fail "lk") | (apply sq_lst; fail "lk"))
  | "st" => `(tactic| first
  | ((with_reducible apply ix_lst); (· fail "lk"))
  | with_reducible apply ix_tup
  | with_reducible apply ix_str
  | with_reducible apply in_tup
  | with_reducible apply min_ii
  | with_reducible apply max_ii
  | ((with_reducible apply in_lst); (· fail "lk"))
  | ((with_reducible apply in_dic); (· fail "lk"))
  | ((with_reducible apply notIn_dic); (· fail "lk"))
  | ((with_reducible apply notIn_lst); (· fail "lk"))
  | with_reducible apply ix_rl
  | ((with_reducible apply ix_dic); (· fail "lk"))
  | ((with_reducible apply app_lst); (· fail "lk"))
  | ((with_reducible apply len_lst); (· fail "lk"))
  | with_reducible apply len_tup
  | with_reducible apply mulS_s
  | with_reducible apply fmt_str
  | with_reducible apply fmt_int
  | with_reducible apply cat_str
  | with_reducible apply str_int
  | with_reducible apply str_str
  | with_reducible apply len_rl
  | with_reducible apply len_str
  | ((with_reducible apply oIsT_lst); (· fail "lk"))
  | ((with_reducible apply dict_ls); (· fail "ls"))
  | ((with_reducible apply sl_ls); (· fail "ls"))
  | ((with_reducible apply rev_ls); (· fail "ls"))
  | ((with_reducible apply list_sq); (· fail "ls"))
  | ((with_reducible apply list_dic); (· fail "lk"))
  | ((with_reducible apply step_ls); (· fail "ls"))
  | ((with_reducible apply addL_ls); (· fail "ls"); (· fail "ls"))
  | ((with_reducible apply index_ls); (· fail "ls"))
  | ((with_reducible apply count_ls); (· fail "ls"))
  | ((with_reducible apply fill_dic); (· fail "lk"))
  | ((with_reducible apply max_ls); (· fail "ls"))
  | ((with_reducible apply sortK_ls); (· fail "ls"))
  | ((with_reducible apply sum_ls); (· fail "ls"))
  | ((with_reducible apply all_ls); (· fail "ls"))
  | ((with_reducible apply sorted_ls); (· fail "ls"))
  | ((with_reducible apply sortI_ls); (· fail "ls"))
  | ((with_reducible apply sortD_ls); (· fail "ls"))
  | ((with_reducible apply sortD_dic); (· fail "lk"))
  | ((with_reducible apply oIsT_dic); (· fail "lk"))
  | ((with_reducible apply walkD_lst); (· fail "lk"))
  | ((with_reducible apply walkD_dic); (· fail "lk"))
  | ((with_reducible apply walkI_dic); (· fail "lk"))
  | with_reducible apply walkD_tup
  | with_reducible apply walkD_rl
  | ((with_reducible apply walkL_lst); (· fail "lk"))
  | with_reducible apply walkL_rl
  | ((with_reducible apply mul_lst); (· fail "lk"))
  | ((with_reducible apply min_ls); (· fail "ls"))
  | ((with_reducible apply oAdd_lst); (· fail "lk"); (· fail "lk"))
  | ((with_reducible apply put_lst); (· fail "lk"))
  | ((with_reducible apply put_dic); (· fail "lk"))
  | ((with_reducible apply tru_lst); (· fail "lk"))
  | with_reducible apply oIsT_bl
  | with_reducible apply oIsT_int
  | with_reducible apply oIsT_str
  | with_reducible apply oIsT_tup
  | with_reducible apply oIsT_rl
  | with_reducible apply oIsT_non
  | with_reducible apply sl_tup
  | with_reducible apply sl_str
  | ((with_reducible apply get_dic); (· fail "lk"))
  | ((with_reducible apply get_dic2); (· fail "lk"))
  | ((with_reducible apply setdef_dic); (· fail "lk"))
  | ((with_reducible apply ext_lst); (· fail "lk"); (· fail "lk"))
  | ((with_reducible apply pop_lst); (· fail "lk"))
  | ((with_reducible apply popAt_lst); (· fail "lk"))
  | ((with_reducible apply ins_lst); (· fail "lk"))
  | ((with_reducible apply clr_lst); (· fail "lk"))
  | ((with_reducible apply clr_dic); (· fail "lk"))
  | ((with_reducible apply join_sq); (· fail "ls"))
  | ((with_reducible apply oEq_sst); (· with_reducible rfl))
  | ((with_reducible apply oEq_ssf); (· first | assumption | decide))
  | ((with_reducible apply oNe_sst); (· with_reducible rfl))
  | ((with_reducible apply oNe_ssf); (· first | assumption | decide))
  | ((with_reducible apply oEq_iit); (· with_reducible rfl))
  | ((with_reducible apply oEq_iif); (· first | assumption | decide))
  | ((with_reducible apply oNe_iit); (· with_reducible rfl))
  | ((with_reducible apply oNe_iif); (· first | assumption | decide))
  | refine Exists.intro _ (And.intro (rfl : atI _ _ = some _) ?_)
  | refine Exists.intro _ (And.intro (rfl : ixN _ _ = some _) ?_)
  | ((with_reducible refine And.intro ?_ ?_); (· fail "sd")))
  | _ => Lean.Macro.throwUnsupported
local macro_rules | `(tactic| nofun) => `(tactic| fail "ne")
local macro_rules | `(tactic| bv_omega) => `(tactic| fail "lk")
local macro_rules | `(tactic| ac_rfl) => `(tactic| fail "sd")
local macro_rules | `(tactic| trivial) => `(tactic| ((conv => whnf); repeat (fail "st"; (conv => whnf))))
/-! ### what is due: plain -/
def catS : List Str → Str
  | [] => Str.empty
  | x :: r => x ++ catS r
theorem str_as (a b c : Str) : a ++ b ++ c = a ++ (b ++ c) := by
  show Str.append (Str.append a b) c = Str.append a (Str.append b c)
  simp [Str.append]
theorem str_e0 (a : Str) : a ++ Str.empty = a := by
  show Str.append a Str.empty = a
  simp [Str.append, Str.empty]
theorem str_e1 (a : Str) : a ++ Str.ofString "" = a := str_e0 a
theorem str_e2 (a : Str) : Str.empty ++ a = a := by
  show Str.append Str.empty a = a
  simp [Str.append, Str.empty]
theorem join_cat : ∀ l : List Str, PySem.Str.join (Str.ofString "") l = catS l
  | [] => rfl
  | [x] => (str_e0 x).symm
  | x :: y :: r => by
    rw [show PySem.Str.join (Str.ofString "") (x :: y :: r) = x ++ Str.ofString "" ++ PySem.Str.join (Str.ofString "") (y :: r) from rfl, join_cat (y :: r), str_e1]; rfl
theorem cat_snoc (l : List Str) (x : Str) : catS (l ++ [x]) = catS l ++ x := by
  induction l with
  | nil => show x ++ Str.empty = Str.empty ++ x; rw [str_e0, str_e2]
  | cons y r ih => show y ++ catS (r ++ [x]) = y ++ catS r ++ x; rw [ih, str_as]
theorem cat_len {l : List Str} (h : ∀ x ∈ l, x.length ≤ 8) : (catS l).length ≤ 8 * l.length := by
  induction l with
  | nil => exact Nat.le_refl _
  | cons x r ih =>
    have h1 := h x List.mem_cons_self
    have h2 := ih fun y hy => h y (List.mem_cons_of_mem _ hy)
    show (x ++ catS r).length ≤ _
    rw [str_la, List.length_cons]; omega
theorem partS_due (nu : Str) : Str.ofString "part " ++ nu ++ (if (if decide (nu = Str.ofString "") = true then (1 : Int) else 0) = 1 then Str.ofString "." else Str.empty) = partS nu := by
  unfold partS
  by_cases c : nu = Str.ofString ""
  · rw [if_pos c, decide_eq_true c, if_pos rfl, if_pos rfl, c]; rfl
  · rw [if_neg c, decide_eq_false c, if_neg Bool.false_ne_true, if_neg (by decide), str_e0]
theorem wS_due (w : Str) : w ++ (if (if decide (w = Str.ofString "") = true then (1 : Int) else 0) = 1 then Str.ofString "-" else Str.empty) = wS w := by
  unfold wS
  by_cases c : w = Str.ofString ""
  · rw [if_pos c, decide_eq_true c, if_pos rfl, if_pos rfl, c]; rfl
  · rw [if_neg c, decide_eq_false c, if_neg Bool.false_ne_true, if_neg (by decide), str_e0]
theorem plS_due (row : List Tk) (sg : D) : ((((List.range row.length).filter fun i => decide ((row[i]?).map (fun t => nm5 t.k) = some sg)).map fun i => D.str (nS i)) ++ [D.str (Str.ofString "loose")])[0]? = some (.str (plS row sg)) := by
  unfold plS
  rw [← List.head?_filter]
  cases ((List.range row.length).filter fun i => decide ((row[i]?).map (fun t => nm5 t.k) = some sg)) with
  | nil => rfl
  | cons x r => rfl
/-! ### what is due: the walk -/
theorem l_due_ok {h : AH} {a : Addr} {ds : List D} {E : List En} {Q : KD} (hd : DocAt h a ds E) (ok : ∀ x ∈ E, EnOk x) (lE : E.length ≤ 5)
    (q : ∀ h', Sb h h' → Q (.str (PySem.Str.join (Str.ofString "\n") (docS E))) h') : f_l_due [.ref a] h Q := by
  have hl := hd.len
  have ea := hd.lst
  unfold f_l_due
  trivial
  refine newL_i fun m nm => ?_
  trivial
  refine ⟨fun i ρ g => i ≤ E.length ∧ ∃ m x2 x3 x4 x5 x6 x7 x8 x9 x10 x11 x12 x13 x14 x15, ρ = [some (.ref a), some (.ref m), x2, x3, x4, x5, x6, x7, x8, x9, x10, x11, x12, x13, x14, x15] ∧ g m = some (.lst ((docS (E.take i)).map .str)) ∧ h m = none ∧ Sb h g, ?_, ?_, ?_, ?_⟩
  · exact ⟨Nat.zero_le _, m, _, _, _, _, _, _, _, _, _, _, _, _, _, _, rfl, up_same, nm, (Sb.refl _).upf' nm⟩
  · rintro i ρ g _ ⟨_, m, x2, x3, x4, x5, x6, x7, x8, x9, x10, x11, x12, x13, x14, x15, _, _, _, sb⟩
    exact sb _ _ ea
  · rintro i ρ g d ⟨hi, m, x2, x3, x4, x5, x6, x7, x8, x9, x10, x11, x12, x13, x14, x15, rfl, em, hm0, sb⟩ hdi
    have hd' : ds[i]? = some d := hdi
    have hil := (List.getElem?_eq_some_iff.mp hd').1
    obtain ⟨x, hx⟩ : ∃ x, E[i]? = some x := ⟨_, List.getElem?_eq_getElem (by omega)⟩
    have xok := ok x (List.mem_of_getElem? hx)
    have hen := (hd.at_ i x d hx hd')
    have hst := doc_take hx
    have h1 := (doc_len (E.take i) fun y hy => ok y (List.take_subset _ _ hy)).1
    have h2 := (enS_ok xok).1
    rw [List.length_take] at h1
    generalize docS (E.take i) = S at em hst h1
    have hS : enS x = partS x.num :: match x.bd with
      | none => [Str.ofString "closed"]
      | some b => bdS b := rfl
    have hnu := xok.nu
    have l5 : (Str.ofString "part ").length = 5 := by decide
    have lp := partS_len hnu
    clear hdi hd'
    unfold EnAt at hen
    cases hb : x.bd with
    | none =>
      rw [hb] at hen hS
      simp only at hen hS
      subst hen
      trivial
      refine ⟨by rw [l5, SZ]; omega, ?_⟩
      trivial
      refine oEq_ss ?_
      trivial
      refine ⟨by rw [← str_la, partS_due, SZ]; omega, ?_⟩
      trivial
      refine ⟨by rw [List.length_map, SZ]; omega, ?_⟩
      trivial
      refine ⟨by rw [List.length_append, List.length_map, List.length_singleton, SZ]; omega, ?_⟩
      apply Pt.of
      refine ⟨by omega, m, _, _, _, _, _, _, _, _, _, _, _, _, _, _, rfl, ?_, hm0, fun x u y => ?_⟩
      · rw [up_same, partS_due, hst, hS, List.append_assoc, List.map_append]; rfl
      · rw [up_ne (fun w => by rw [w, hm0] at y; cases y), up_ne (fun w => by rw [w, hm0] at y; cases y)]; exact sb _ _ y
    | some b =>
      rw [hb] at hen hS
      simp only at hen hS
      have bok := xok.bd b hb
      have hwl : b.wds.length ≤ 4 := by rw [bok.wl]; exact bok.rn
      obtain ⟨r, A, n, ta, tb, tc, B, rfl, hr, en, eta, etb, hw⟩ := hen
      have er := hr.lst
      trivial
      refine ⟨by rw [l5, SZ]; omega, ?_⟩
      trivial
      refine oEq_ss ?_
      trivial
      refine ⟨by rw [← str_la, partS_due, SZ]; omega, ?_⟩
      trivial
      refine ⟨by rw [List.length_map, SZ]; omega, ?_⟩
      rw [partS_due]
      have em1 : up g m (.lst (S.map D.str ++ [D.str (partS x.num)])) m = some (.lst ((S ++ [partS x.num]).map D.str)) := by rw [up_same, List.map_append]; rfl
      have sb1 : Sb h (up g m (.lst (S.map D.str ++ [D.str (partS x.num)]))) := fun x u y => by rw [up_ne (fun w => by rw [w, hm0] at y; cases y)]; exact sb _ _ y
      generalize up g m (.lst (S.map D.str ++ [D.str (partS x.num)])) = g1 at em1 sb1 ⊢
      have er1 := sb1 _ _ er
      clear em sb
      trivial
      refine ⟨fun j ρ g' => j ≤ b.row.length ∧ ∃ x8, ρ = [some (.ref a), some (.ref m), some (.str x.num), some x.pt, some (.ref r), some (.ref n), some (.tup [.ref ta, .ref tb, .ref tc]), some (.str (catS ((b.row.take j).map (·.tx)))), x8, x9, x10, x11, x12, x13, x14, x15] ∧ g' = g1, ?_, ?_, ?_, ?_⟩
      · exact ⟨Nat.zero_le _, _, rfl, rfl⟩
      · rintro j ρ g' _ ⟨_, x8, _, rfl⟩
        exact er1
      · rintro j ρ g' d ⟨hj, x8, rfl, rfl⟩ hd
        obtain ⟨t, ht, rfl⟩ := get_map hd
        have hjl := (List.getElem?_eq_some_iff.mp ht).1
        have hrl := bok.rl
        have hc := cat_len (l := (b.row.take j).map (·.tx)) fun y hy => by
          obtain ⟨t, ht, rfl⟩ := List.mem_map.mp hy
          obtain ⟨k, hk, e⟩ := List.getElem_of_mem (List.take_subset _ _ ht)
          exact (bok.row k t (by rw [← e]; exact List.getElem?_eq_getElem hk)).tx
        rw [List.length_map, List.length_take] at hc
        have htx := (bok.row j t ht).tx
        have hsn : catS ((b.row.take (j + 1)).map (·.tx)) = catS ((b.row.take j).map (·.tx)) ++ t.tx := by rw [take_snoc ht, List.map_append, List.map_singleton, cat_snoc]
        generalize catS ((b.row.take j).map (·.tx)) = tj at hc hsn
        clear hd
        trivial
        refine ⟨by rw [SZ]; omega, ?_⟩
        apply Pt.of
        exact ⟨hjl, _, by rw [hsn]; rfl, rfl⟩
      rintro ρ g' ⟨_, x8, rfl, rfl⟩
      rw [show b.row.take (srcL r (b.row.map (encT A))).ds.length = b.row from List.take_of_length_le (by simp [srcL])]
      have htS : textS b.row = Str.ofString "text " ++ catS (b.row.map (·.tx)) := by unfold textS; rw [join_cat]
      have htl := textS_len bok.row bok.rl
      have htc : (catS (b.row.map (·.tx))).length ≤ 125 := by
        rw [htS, str_la] at htl; omega
      generalize catS (b.row.map (·.tx)) = tx at htS htc
      have l5' : (Str.ofString "text ").length = 5 := by decide
      trivial
      refine ⟨by rw [l5', SZ]; omega, ?_⟩
      rw [← htS]
      trivial
      refine newL_i fun u1 n1 => ?_
      have hm1 : m ≠ u1 := fun y => by rw [← y, em1] at n1; cases n1
      have em2 := up_at (o := .lst [.str (textS b.row)]) hm1 em1
      have sb2 := sb1.upf' n1 (o := .lst [.str (textS b.row)])
      have eu1 : up g' u1 (.lst [.str (textS b.row)]) u1 = some (.lst [.str (textS b.row)]) := up_same
      generalize up g' u1 (.lst [.str (textS b.row)]) = g2 at em2 sb2 eu1 ⊢
      clear em1 sb1 n1 er1
      trivial
      refine newL_i fun u2 n2 => ?_
      have hm2 : m ≠ u2 := fun y => by rw [← y, em2] at n2; cases n2
      have hu2 : u1 ≠ u2 := fun y => by rw [← y, eu1] at n2; cases n2
      have em3 := up_at (o := .lst []) hm2 em2
      have eu3 := up_at (o := .lst []) hu2 eu1
      have sb3 := sb2.upf' n2 (o := .lst [])
      have ez : up g2 u2 (.lst []) u2 = some (.lst []) := up_same
      generalize up g2 u2 (.lst []) = g3 at em3 eu3 sb3 ez ⊢
      clear em2 eu1 sb2 n2
      refine oNe_pv (row_pv 3 (hr.sb sb3)) (.lst (n := 0) ez rfl) ?_
      have hk : (if (!decide (nfRow b.row = .rl [])) = true then (1 : Int) else 0) = (((if b.row = [] then 0 else 1) : Nat) : Int) := by
        by_cases c : b.row = []
        · rw [if_pos c, decide_eq_true (by rw [c]; rfl)]; rfl
        · rw [if_neg c, decide_eq_false (fun y => c (by injection y with y; exact List.map_eq_nil_iff.mp y))]; rfl
      have hrep : (List.replicate (if b.row = [] then 0 else 1) [D.str (textS b.row)]).flatten = (if b.row = [] then [] else [textS b.row]).map D.str := by
        by_cases c : b.row = []
        · rw [if_pos c, if_pos c]; rfl
        · rw [if_neg c, if_neg c]; rfl
      trivial
      refine ⟨_, hk, by split <;> simp [SZ], by split <;> decide, ?_⟩
      rw [hrep]
      have hTl : (if b.row = [] then [] else [textS b.row]).length ≤ 1 := by split <;> simp
      have hbS : bdS b = (if b.row = [] then [] else [textS b.row]) ++ mrkN b.row 3 ++ b.nts.map (noteS b.row) ++ tabS b.cn b.wds := rfl
      rw [hbS] at hS
      generalize (if b.row = [] then [] else [textS b.row]) = T at hTl hS
      clear hbS hrep hk ez eu3
      refine newL_i fun u3 n3 => ?_
      have hm3 : m ≠ u3 := fun y => by rw [← y, em3] at n3; cases n3
      have em4 := up_at (o := .lst (T.map D.str)) hm3 em3
      have sb4 := sb3.upf' n3 (o := .lst (T.map D.str))
      have eu4 : up g3 u3 (.lst (T.map D.str)) u3 = some (.lst (T.map D.str)) := up_same
      generalize up g3 u3 (.lst (T.map D.str)) = g4 at em4 sb4 eu4 ⊢
      clear em3 sb3 n3
      have hml := mrkN_len bok.rl 3 (Nat.le_refl 3)
      trivial
      refine ⟨by rw [List.length_map, List.length_map, List.length_append, List.length_singleton, SZ]; omega, newL_i fun u4 n4 => ?_⟩
      rw [← List.map_append]
      have hS1 : (S ++ [partS x.num] ++ T).length ≤ S.length + 2 := by simp only [List.length_append, List.length_singleton]; omega
      generalize hW : S ++ [partS x.num] ++ T = W at hS1
      have eu5 : up g4 u4 (.lst (W.map D.str)) u4 = some (.lst (W.map D.str)) := up_same
      have sb5 := sb4.upf' n4 (o := .lst (W.map D.str))
      generalize up g4 u4 (.lst (W.map D.str)) = g5 at eu5 sb5 ⊢
      clear em4 sb4 n4 eu4
      trivial
      refine l_marks_ok (hr.sb sb5) bok.row bok.rl fun u6 g6 n6 t6 e6 => ?_
      have eu6 := t6 _ _ eu5
      have sb6 := sb5.trans t6
      clear eu5 sb5 t6 n6
      trivial
      refine ⟨by rw [List.length_map, List.length_map, SZ]; omega, newL_i fun u7 n7 => ?_⟩
      rw [← List.map_append]
      have hS2 : (W ++ mrkN b.row 3).length ≤ S.length + 50 := by simp only [List.length_append]; omega
      have hW2 : S ++ enS x = (W ++ mrkN b.row 3) ++ b.nts.map (noteS b.row) ++ tabS b.cn b.wds := by rw [hS, ← hW]; simp only [List.append_assoc, List.cons_append, List.nil_append]
      generalize W ++ mrkN b.row 3 = U at hS2 hW2
      have eu7 : up g6 u7 (.lst (U.map D.str)) u7 = some (.lst (U.map D.str)) := up_same
      have hu7 : h u7 = none := sb6.nn n7
      have sb7 := sb6.upf' n7 (o := .lst (U.map D.str))
      generalize up g6 u7 (.lst (U.map D.str)) = g7 at eu7 sb7 ⊢
      clear eu6 sb6 n7 e6 hW hS1
      have en7 := sb7 _ _ en
      trivial
      refine ⟨fun j ρ g' => j ≤ b.nts.length ∧ ∃ y9 y10 y11 y12 y15, ρ = [some (.ref a), some (.ref u7), some (.str x.num), some x.pt, some (.ref r), some (.ref n), some (.tup [.ref ta, .ref tb, .ref tc]), some (.str tx), x8, y9, y10, y11, y12, x13, x14, y15] ∧ g' u7 = some (.lst ((U ++ (b.nts.take j).map (noteS b.row)).map .str)) ∧ Sb h g', ?_, ?_, ?_, ?_⟩
      · exact ⟨Nat.zero_le _, _, _, _, _, _, rfl, by rw [List.take_zero, List.map_nil, List.append_nil]; exact eu7, sb7⟩
      · rintro j ρ g' _ ⟨_, y9, y10, y11, y12, y15, _, _, s'⟩
        exact s' _ _ en
      · rintro j ρ g' d ⟨hj, y9, y10, y11, y12, y15, rfl, eu, s'⟩ hd
        obtain ⟨z, hz, rfl⟩ := get_map hd
        have hjl := (List.getElem?_eq_some_iff.mp hz).1
        have zok := bok.nts z (List.mem_of_getElem? hz)
        have hsgp : G.pl 7 z.sg = true := by rcases zok.sg with e | ⟨_, _, _, e⟩ <;> rw [e] <;> rfl
        have er' := s' _ _ er
        have hsn : (U ++ (b.nts.take (j + 1)).map (noteS b.row)) = (U ++ (b.nts.take j).map (noteS b.row)) ++ [noteS b.row z] := by rw [take_snoc hz, List.map_append, List.append_assoc]; rfl
        have hUl : (U ++ (b.nts.take j).map (noteS b.row)).length ≤ S.length + 60 := by rw [List.length_append, List.length_map, List.length_take]; have := bok.nl; omega
        generalize U ++ (b.nts.take j).map (noteS b.row) = V at eu hsn hUl
        clear hd
        trivial
        refine ⟨by have := bok.rl; rw [List.length_map]; omega, ?_⟩
        intro f nf
        have hcnt : ((b.row.map (encT A)).length : Int).toNat = b.row.length := by rw [List.length_map]; omega
        rw [hcnt]
        refine ⟨fun k acc g'' => k ≤ b.row.length ∧ acc = ((List.range k).filter fun i => decide ((b.row[i]?).map (fun t => nm5 t.k) = some z.sg)).map (fun (i : Nat) => D.int i) ∧ g'' = up g' f (.lst acc), ?_, ?_, ?_, ?_⟩
        · exact ⟨Nat.zero_le _, rfl, rfl⟩
        · rintro k acc g'' _ ⟨_, rfl, rfl⟩
          exact ⟨True.intro, up_same⟩
        · rintro k acc g'' d ⟨hk, rfl, rfl⟩ hd
          obtain ⟨hk', rfl⟩ := rng_get hd
          obtain ⟨t, ht⟩ : ∃ t, b.row[k]? = some t := ⟨_, List.getElem?_eq_getElem hk'⟩
          have hat : (b.row.map (encT A))[k]? = some (encT A t) := by rw [List.getElem?_map, ht]; rfl
          have hrl := bok.rl
          have hfl := List.length_filter_le (fun i => decide ((b.row[i]?).map (fun t => nm5 t.k) = some z.sg)) (List.range k)
          rw [List.length_range] at hfl
          have hsn2 : (List.range (k + 1)).filter (fun i => decide ((b.row[i]?).map (fun t => nm5 t.k) = some z.sg)) = (List.range k).filter (fun i => decide ((b.row[i]?).map (fun t => nm5 t.k) = some z.sg)) ++ if nm5 t.k = z.sg then [k] else [] := by
            rw [List.range_succ, List.filter_append]
            by_cases c : nm5 t.k = z.sg <;> simp [ht, c]
          have er2 := up_at (o := .lst (((List.range k).filter fun i => decide ((b.row[i]?).map (fun t => nm5 t.k) = some z.sg)).map (fun (i : Nat) => D.int i))) (show r ≠ f by nofun) er'
          clear hd
          rw [Int.zero_add]
          trivial
          refine ⟨_, atI_nat hat, ?_⟩
          trivial
          refine oEq_pv (.pl (n := 7) rfl) (.pl hsgp) ?_
          trivial
          refine onT_d (fun c => ?_) (fun c => ?_)
          · rw [if_pos c] at hsn2
            trivial
            refine ⟨by rw [List.length_map, SZ]; omega, up_same, ?_⟩
            rw [up_up]
            apply Pt.of
            exact ⟨hk', by rw [hsn2, List.map_append]; rfl, rfl⟩
          · rw [if_neg c, List.append_nil] at hsn2
            apply Pt.of
            exact ⟨hk', by rw [hsn2], rfl⟩
        rintro acc g'' ⟨_, rfl, rfl⟩
        rw [rng_len]
        have hpd := plS_due b.row z.sg
        have hFk : ∀ k ∈ (List.range b.row.length).filter (fun i => decide ((b.row[i]?).map (fun t => nm5 t.k) = some z.sg)), k < 15 := fun k hk => by
          have := List.mem_range.mp (List.mem_filter.mp hk).1
          have := bok.rl
          omega
        have hFl := List.length_filter_le (fun i => decide ((b.row[i]?).map (fun t => nm5 t.k) = some z.sg)) (List.range b.row.length)
        rw [List.length_range] at hFl
        have hpll := plS_len bok.rl z.sg
        have hnS : noteS b.row z = Str.ofString "note " ++ z.wd ++ Str.ofString " " ++ plS b.row z.sg := rfl
        generalize plS b.row z.sg = pls at hpd hpll hnS
        generalize (List.range b.row.length).filter (fun i => decide ((b.row[i]?).map (fun t => nm5 t.k) = some z.sg)) = F at hpd hFk hFl
        have hrl := bok.rl
        have huf : u7 ≠ f := fun y => by rw [← y, eu] at nf; cases nf
        have eu' := up_at (o := .lst (F.map fun (i : Nat) => D.int i)) huf eu
        have s'' := s'.upf' nf (o := .lst (F.map fun (i : Nat) => D.int i))
        have ef : up g' f (.lst (F.map fun (i : Nat) => D.int i)) f = some (.lst (F.map fun (i : Nat) => D.int i)) := up_same
        generalize up g' f (.lst (F.map fun (i : Nat) => D.int i)) = g1 at eu' s'' ef ⊢
        clear eu s' nf er'
        have l5n : (Str.ofString "note ").length = 5 := by decide
        have l1 : (Str.ofString " ").length = 1 := by decide
        have hzw := zok.wd
        trivial
        refine ⟨by rw [l5n, SZ]; omega, ?_⟩
        trivial
        refine ⟨by simp only [str_la, l5n, l1, SZ]; omega, ?_⟩
        trivial
        intro f2 nf2
        refine ⟨fun k acc g'' => k ≤ F.length ∧ acc = (F.take k).map (fun i => D.str (nS i)) ∧ g'' = up g1 f2 (.lst acc), ?_, ?_, ?_, ?_⟩
        · exact ⟨Nat.zero_le _, rfl, rfl⟩
        · rintro k acc g'' _ ⟨_, rfl, rfl⟩
          exact ⟨up_at (by nofun) ef, up_same⟩
        · rintro k acc g'' d ⟨hk, rfl, rfl⟩ hd
          obtain ⟨v, hv, rfl⟩ := get_map hd
          have hkl := (List.getElem?_eq_some_iff.mp hv).1
          have hv15 := hFk v (List.mem_of_getElem? hv)
          clear hd
          trivial
          refine ⟨log_le (by omega), ?_⟩
          trivial
          refine ⟨by rw [List.length_map, List.length_take, SZ]; omega, up_same, ?_⟩
          rw [up_up]
          apply Pt.of
          exact ⟨hkl, by rw [take_snoc hv, List.map_append]; rfl, rfl⟩
        rintro acc g'' ⟨_, rfl, rfl⟩
        rw [show F.take (srcL f (F.map fun (i : Nat) => D.int i)).ds.length = F from List.take_of_length_le (by simp [srcL])]
        have hu2 : u7 ≠ f2 := fun y => by rw [← y, eu'] at nf2; cases nf2
        have eu2 := up_at (o := .lst (F.map fun i => D.str (nS i))) hu2 eu'
        have s2 := s''.upf' nf2 (o := .lst (F.map fun i => D.str (nS i)))
        have ef2 : up g1 f2 (.lst (F.map fun i => D.str (nS i))) f2 = some (.lst (F.map fun i => D.str (nS i))) := up_same
        generalize up g1 f2 (.lst (F.map fun i => D.str (nS i))) = g2 at eu2 s2 ef2 ⊢
        clear eu' s'' ef nf2
        trivial
        refine newL_i fun z1 nz1 => ?_
        trivial
        refine ⟨by rw [List.length_map, List.length_singleton, SZ]; omega, newL_i fun z2 nz2 => ?_⟩
        generalize hH : up (up g2 z1 _) z2 _ = g3
        have ez2 : g3 z2 = some (.lst ((F.map fun i => D.str (nS i)) ++ [D.str (Str.ofString "loose")])) := by rw [← hH]; exact up_same
        have nu2 : u7 ≠ z1 := fun y => by rw [← y, eu2] at nz1; cases nz1
        have nu3 : u7 ≠ z2 := fun y => by rw [← y, up_at nu2 eu2] at nz2; cases nz2
        have eu3 : g3 u7 = some (.lst (V.map D.str)) := by rw [← hH]; exact up_at nu3 (up_at nu2 eu2)
        have s3 : Sb h g3 := by rw [← hH]; exact (s2.upf' nz1).upf' nz2
        clear hH eu2 s2 nz1 nz2 ef2
        trivial
        refine ⟨_, atI_nat (i := 0) hpd, ?_⟩
        trivial
        refine ⟨by simp only [str_la, l5n, l1, SZ]; omega, ?_⟩
        rw [← hnS]
        trivial
        refine ⟨by rw [List.length_map, SZ]; omega, ?_⟩
        apply Pt.of
        refine ⟨hjl, _, _, _, _, _, rfl, by rw [up_same, hsn, List.map_append]; rfl, fun x u y => ?_⟩
        rw [up_ne (fun w => by rw [w, hu7] at y; cases y)]; exact s3 _ _ y
      rintro ρ g' ⟨_, y9, y10, y11, y12, y15, rfl, eu, s'⟩
      have etc' := s' _ _ hw.lst
      rw [show (srcL n (b.nts.map encNn)).ds.length = b.nts.length from List.length_map _, List.take_length] at eu
      have hNl : (U ++ b.nts.map (noteS b.row)).length ≤ S.length + 60 := by rw [List.length_append, List.length_map]; have := bok.nl; omega
      generalize U ++ b.nts.map (noteS b.row) = N at eu hNl hW2
      clear eu7 sb7 en7
      trivial
      refine ⟨fun j ρ g'' => j ≤ b.wds.length ∧ ∃ u y10 y13 y14, ρ = [some (.ref a), some (.ref u), some (.str x.num), some x.pt, some (.ref r), some (.ref n), some (.tup [.ref ta, .ref tb, .ref tc]), some (.str tx), x8, y9, y10, y11, y12, y13, y14, y15] ∧ g'' u = some (.lst ((N ++ (if b.cn = 0 then [] else (b.wds.take j).map lineS)).map .str)) ∧ h u = none ∧ Sb h g'', ?_, ?_, ?_, ?_⟩
      · exact ⟨Nat.zero_le _, u7, _, _, _, rfl, by rw [eu]; split <;> simp, hu7, s'⟩
      · rintro j ρ g'' _ ⟨_, u, y10, y13, y14, _, _, _, s2⟩
        exact s2 _ _ hw.lst
      · rintro j ρ g'' d ⟨hj, u, y10', y13, y14, rfl, eu, hu0, s2⟩ hd
        have hd' : (rfs B b.wds.length)[j]? = some d := hd
        have hjl : j < b.wds.length := by
          have := (List.getElem?_eq_some_iff.mp hd').1
          rwa [rfs_len] at this
        rw [rfs_at hjl] at hd'
        cases hd'
        obtain ⟨l, hl⟩ : ∃ l, b.wds[j]? = some l := ⟨_, List.getElem?_eq_getElem hjl⟩
        obtain ⟨hll, hlw⟩ := bok.wd l (List.mem_of_getElem? hl)
        have hcn := bok.cn
        have eB := s2 _ _ (hw.wd j l hl)
        have hsn : (N ++ (if b.cn = 0 then [] else (b.wds.take (j + 1)).map lineS)) = (N ++ (if b.cn = 0 then [] else (b.wds.take j).map lineS)) ++ (if b.cn = 0 then [] else [lineS l]) := by
          split
          · simp
          · rw [take_snoc hl, List.map_append, List.append_assoc]; rfl
        have hVl : (N ++ (if b.cn = 0 then [] else (b.wds.take j).map lineS)).length ≤ S.length + 70 := by
          rw [List.length_append]
          split
          · simp; omega
          · rw [List.length_map, List.length_take]; omega
        generalize N ++ (if b.cn = 0 then [] else (b.wds.take j).map lineS) = V at eu hsn hVl
        clear hd
        trivial
        intro f nf
        refine ⟨fun k acc g2 => k ≤ l.length ∧ acc = ((l.take k).map wS).map .str ∧ g2 = up g'' f (.lst acc), ?_, ?_, ?_, ?_⟩
        · exact ⟨Nat.zero_le _, rfl, rfl⟩
        · rintro k acc g2 _ ⟨_, rfl, rfl⟩
          exact ⟨up_at (by nofun) eB, up_same⟩
        · rintro k acc g2 d ⟨hk, rfl, rfl⟩ hd
          obtain ⟨w, hwj, rfl⟩ := get_map hd
          have hkl := (List.getElem?_eq_some_iff.mp hwj).1
          have hwl := wS_len (hlw w (List.mem_of_getElem? hwj))
          clear hd
          trivial
          refine oEq_ss ?_
          trivial
          refine ⟨by rw [← str_la, wS_due, SZ]; omega, ?_⟩
          trivial
          refine ⟨by rw [List.length_map, List.length_map, List.length_take, SZ]; omega, up_same, ?_⟩
          rw [up_up, wS_due]
          apply Pt.of
          exact ⟨hkl, by rw [take_snoc hwj, List.map_append, List.map_append]; rfl, rfl⟩
        rintro acc g2 ⟨_, rfl, rfl⟩
        rw [show (srcL (B j) (l.map D.str)).ds.length = l.length from List.length_map _, List.take_length]
        have hl8 : ∀ x ∈ l.map wS, x.length ≤ 8 := fun x hx => by
          obtain ⟨w, hw, rfl⟩ := List.mem_map.mp hx
          exact wS_len (hlw w hw)
        have hsum := sum_le hl8
        have hjl' := join_le (Str.ofString " ") (l.map wS)
        have l1 : (Str.ofString " ").length = 1 := by decide
        have l6 : (Str.ofString "cells ").length = 6 := by decide
        have hLS : lineS l = Str.ofString "cells " ++ PySem.Str.join (Str.ofString " ") (l.map wS) := rfl
        rw [l1] at hjl'
        rw [List.length_map] at hjl' hsum
        have huf : u ≠ f := fun y => by rw [← y, eu] at nf; cases nf
        have eu1 := up_at (o := .lst ((l.map wS).map D.str)) huf eu
        have s3 := s2.upf' nf (o := .lst ((l.map wS).map D.str))
        have ef : up g'' f (.lst ((l.map wS).map D.str)) f = some (.lst ((l.map wS).map D.str)) := up_same
        generalize up g'' f (.lst ((l.map wS).map D.str)) = g3 at eu1 s3 ef ⊢
        clear eu s2 nf eB
        trivial
        refine ⟨l.map wS, strs_map _, by rw [l1, List.length_map, SZ]; omega, ?_⟩
        trivial
        refine ⟨by rw [l6, SZ]; omega, ?_⟩
        rw [← hLS]
        trivial
        refine newL_i fun z1 nz1 => ?_
        have hu1 : u ≠ z1 := fun y => by rw [← y, eu1] at nz1; cases nz1
        have eu2 := up_at (o := .lst [.str (lineS l)]) hu1 eu1
        have s4 := s3.upf' nz1 (o := .lst [.str (lineS l)])
        have ez1 : up g3 z1 (.lst [.str (lineS l)]) z1 = some (.lst [.str (lineS l)]) := up_same
        generalize up g3 z1 (.lst [.str (lineS l)]) = g4 at eu2 s4 ez1 ⊢
        clear eu1 s3 nz1 ef
        trivial
        refine newL_i fun z2 nz2 => ?_
        have hu2 : u ≠ z2 := fun y => by rw [← y, eu2] at nz2; cases nz2
        have hz12 : z1 ≠ z2 := fun y => by rw [← y, ez1] at nz2; cases nz2
        have eu3 := up_at (o := .lst []) hu2 eu2
        have ez3 := up_at (o := .lst []) hz12 ez1
        have s5 := s4.upf' nz2 (o := .lst [])
        have ez2 : up g4 z2 (.lst []) z2 = some (.lst []) := up_same
        generalize up g4 z2 (.lst []) = g5 at eu3 ez3 s5 ez2 ⊢
        clear eu2 s4 ez1 nz2
        have pT : plL 7 (tabR 60 b.cn) = true := plL_iff.mpr fun d hd => by
          obtain ⟨i, _, rfl⟩ := List.mem_map.mp hd
          rfl
        refine oNe_pv (.lst (n := 7) (s5 _ _ etb) pT) (.lst (n := 0) ez2 rfl) ?_
        have hnil : (D.rl (tabR 60 b.cn) = .rl []) ↔ b.cn = 0 := by
          constructor
          · intro y
            injection y with y
            have := congrArg List.length y
            rw [tabR_len] at this; exact this
          · intro y; rw [y]; rfl
        have hk : (if (!decide (D.rl (tabR 60 b.cn) = .rl [])) = true then (1 : Int) else 0) = (((if b.cn = 0 then 0 else 1) : Nat) : Int) := by
          by_cases c : b.cn = 0
          · rw [if_pos c, decide_eq_true (hnil.mpr c)]; rfl
          · rw [if_neg c, decide_eq_false (fun y => c (hnil.mp y))]; rfl
        have hrep : (List.replicate (if b.cn = 0 then 0 else 1) [D.str (lineS l)]).flatten = (if b.cn = 0 then [] else [lineS l]).map D.str := by
          by_cases c : b.cn = 0
          · rw [if_pos c, if_pos c]; rfl
          · rw [if_neg c, if_neg c]; rfl
        trivial
        refine ⟨_, hk, by split <;> simp [SZ], by split <;> decide, ?_⟩
        rw [hrep]
        have hTl : (if b.cn = 0 then [] else [lineS l]).length ≤ 1 := by split <;> simp
        generalize (if b.cn = 0 then [] else [lineS l]) = T at hTl hsn
        clear hrep hk ez3 ez2
        refine newL_i fun z3 nz3 => ?_
        have hu3 : u ≠ z3 := fun y => by rw [← y, eu3] at nz3; cases nz3
        have eu4 := up_at (o := .lst (T.map D.str)) hu3 eu3
        have s6 := s5.upf' nz3 (o := .lst (T.map D.str))
        have ez4 : up g5 z3 (.lst (T.map D.str)) z3 = some (.lst (T.map D.str)) := up_same
        generalize up g5 z3 (.lst (T.map D.str)) = g6 at eu4 s6 ez4 ⊢
        clear eu3 s5 nz3
        trivial
        refine ⟨by rw [List.length_map, List.length_map, SZ]; omega, newL_i fun z4 nz4 => ?_⟩
        rw [← List.map_append, ← hsn]
        apply Pt.of
        exact ⟨hjl, z4, _, _, _, rfl, up_same, s6.nn nz4, s6.upf' nz4⟩
      rintro ρ g'' ⟨_, u, y10, y13, y14, rfl, eu, hu0, s2⟩
      rw [show (srcL tc (rfs B b.wds.length)).ds.length = b.wds.length from rfs_len _ _, List.take_length] at eu
      apply Pt.of
      exact ⟨by omega, u, _, _, _, _, _, _, _, _, _, _, _, _, _, _, rfl, by rw [eu, hst, hW2]; rfl, hu0, s2⟩
  rintro ρ g ⟨_, m, x2, x3, x4, x5, x6, x7, x8, x9, x10, x11, x12, x13, x14, x15, rfl, em, hm0, sb⟩
  rw [show (srcL a ds).ds.length = E.length from hl, List.take_length] at em
  obtain ⟨h1, h2⟩ := doc_len E ok
  have h3 := sum_le2 h2
  have l1 : (Str.ofString "\n").length = 1 := by decide
  trivial
  refine ⟨docS E, strs_map _, by rw [l1, SZ]; omega, ?_⟩
  apply Pt.of
  exact q g sb
end K47
end

section
set_option linter.all false
set_option autoImplicit false
set_option maxRecDepth 100000
set_option maxHeartbeats 4000000
namespace K47
open G
open PySem (Str)
local macro_rules | `(tactic| fail $s:str) => match s.getString with
  | "ne" => `(tactic| first | assumption | (apply Ne.symm; assumption) | exact ne_f1 (by assumption) (by fail "lk") | exact ne_f2 (by assumption) (by fail "lk") | grind [up, Sb])
  | "lk" => `(tactic| first | assumption | exact up_same | (refine up_at ?_ ?_; (· fail "ne"); fail "lk") | (refine Sb.at ?_ ?_; (· assumption); fail "lk"))
  | "sd" => `(tactic| first | (with_reducible show -(2 ^ 62) ≤ (_ : Int); first | omega | (simp only [List.length_map]; omega)) | (with_reducible show (_ : Int) < 2 ^ 62; first | omega | (simp only [List.length_map]; omega)) | assumption | rfl | (apply isT_lst; fail "lk") | (apply isT_dic; fail "lk") | decide | (simp only [List.length_cons, List.length_nil]; decide) | exact mulOk_l (by decide) (by decide) | exact mulOk_r (by decide) (by decide) | exact mulOk_l (by omega) (by omega) | exact mulOk_r (by omega) (by omega) | omega | (simp only [List.length_map]; omega))
  | "ls" => `(tactic| first | exact sq_tup | exact sq_rl | exact ls_rl | (apply ls_lst; fail "lk") | (apply sq_lst; fail "lk"))
  | "st" => `(tactic| first
  | ((with_reducible apply ix_lst); (· fail "lk"))
  | with_reducible apply ix_tup
  | with_reducible apply ix_str
  | with_reducible apply in_tup
  | with_reducible apply min_ii
  | with_reducible apply max_ii
  | ((with_reducible apply in_lst); (· fail "lk"))
  | ((with_reducible apply in_dic); (· fail "lk"))
  | ((with_reducible apply notIn_dic); (· fail "lk"))
  | ((with_reducible apply notIn_lst); (· fail "lk"))
  | with_reducible apply ix_rl
  | ((with_reducible apply ix_dic); (· fail "lk"))
  | ((with_reducible apply app_lst); (· fail "lk"))
  | ((with_reducible apply len_lst); (· fail "lk"))
  | with_reducible apply len_tup
  | with_reducible apply mulS_s
  | with_reducible apply fmt_str
  | with_reducible apply fmt_int
  | with_reducible apply cat_str
  | with_reducible apply str_int
  | with_reducible apply str_str
  | with_reducible apply len_rl
  | with_reducible apply len_str
  | ((with_reducible apply oIsT_lst); (· fail "lk"))
  | ((with_reducible apply dict_ls); (· fail "ls"))
  | ((with_reducible apply sl_ls); (· fail "ls"))
  | ((with_reducible apply rev_ls); (· fail "ls"))
  | ((with_reducible apply list_sq); (· fail "ls"))
  | ((with_reducible apply list_dic); (· fail "lk"))
  | ((with_reducible apply step_ls); (· fail "ls"))
  | ((with_reducible apply addL_ls); (· fail "ls"); (· fail "ls"))
  | ((with_reducible apply index_ls); (· fail "ls"))
  | ((with_reducible apply count_ls); (· fail "ls"))
  | ((with_reducible apply fill_dic); (· fail "lk"))
  | ((with_reducible apply max_ls); (· fail "ls"))
  | ((with_reducible apply sortK_ls); (· fail "ls"))
  | ((with_reducible apply sum_ls); (· fail "ls"))
  | ((with_reducible apply all_ls); (· fail "ls"))
  | ((with_reducible apply sorted_ls); (· fail "ls"))
  | ((with_reducible apply sortI_ls); (· fail "ls"))
  | ((with_reducible apply sortD_ls); (· fail "ls"))
  | ((with_reducible apply sortD_dic); (· fail "lk"))
  | ((with_reducible apply oIsT_dic); (· fail "lk"))
  | ((with_reducible apply walkD_lst); (· fail "lk"))
  | ((with_reducible apply walkD_dic); (· fail "lk"))
  | ((with_reducible apply walkI_dic); (· fail "lk"))
  | with_reducible apply walkD_tup
  | with_reducible apply walkD_rl
  | ((with_reducible apply walkL_lst); (· fail "lk"))
  | with_reducible apply walkL_rl
  | ((with_reducible apply mul_lst); (· fail "lk"))
  | ((with_reducible apply min_ls); (· fail "ls"))
  | ((with_reducible apply oAdd_lst); (· fail "lk"); (· fail "lk"))
  | ((with_reducible apply put_lst); (· fail "lk"))
  | ((with_reducible apply put_dic); (· fail "lk"))
  | ((with_reducible apply tru_lst); (· fail "lk"))
  | with_reducible apply oIsT_bl
  | with_reducible apply oIsT_int
  | with_reducible apply oIsT_str
  | with_reducible apply oIsT_tup
  | with_reducible apply oIsT_rl
  | with_reducible apply oIsT_non
  | with_reducible apply sl_tup
  | with_reducible apply sl_str
  | ((with_reducible apply get_dic); (· fail "lk"))
  | ((with_reducible apply get_dic2); (· fail "lk"))
  | ((with_reducible apply setdef_dic); (· fail "lk"))
  | ((with_reducible apply ext_lst); (· fail "lk"); (· fail "lk"))
  | ((with_reducible apply pop_lst); (· fail "lk"))
  | ((with_reducible apply popAt_lst); (· fail "lk"))
  | ((with_reducible apply ins_lst); (· fail "lk"))
  | ((with_reducible apply clr_lst); (· fail "lk"))
  | ((with_reducible apply clr_dic); (· fail "lk"))
  | ((with_reducible apply join_sq); (· fail "ls"))
  | ((with_reducible apply oEq_sst); (· with_reducible rfl))
  | ((with_reducible apply oEq_ssf); (· first | assumption | decide))
  | ((with_reducible apply oNe_sst); (· with_reducible rfl))
  | ((with_reducible apply oNe_ssf); (· first | assumption | decide))
  | ((with_reducible apply oEq_iit); (· with_reducible rfl))
  | ((with_reducible apply oEq_iif); (· first | assumption | decide))
  | ((with_reducible apply oNe_iit); (· with_reducible rfl))
  | ((with_reducible apply oNe_iif); (· first | assumption | decide))
  | refine Exists.intro _ (And.intro (rfl : atI _ _ = some _) ?_)
  | refine Exists.intro _ (And.intro (rfl : ixN _ _ = some _) ?_)
  | ((with_reducible refine And.intro ?_ ?_); (· fail "sd")))
  | _ => Lean.Macro.throwUnsupported
local macro_rules | `(tactic| nofun) => `(tactic| fail "ne")
local macro_rules | `(tactic| bv_omega) => `(tactic| fail "lk")
local macro_rules | `(tactic| ac_rfl) => `(tactic| fail "sd")
local macro_rules | `(tactic| trivial) => `(tactic| ((conv => whnf); repeat (fail "st"; (conv => whnf))))
/-! ### the document by value -/
theorem PvL.of {h : AH} {n : Nat} : ∀ {xs ys : List D}, xs.length = ys.length → (∀ (i : Nat) (x y : D), xs[i]? = some x → ys[i]? = some y → PvN h n x y) → PvL h n xs ys
  | [], [], _, _ => .nil
  | [], _ :: _, e, _ => by simp at e
  | _ :: _, [], e, _ => by simp at e
  | x :: xs, y :: ys, e, p => .cons (p 0 x y rfl rfl) (PvL.of (by simpa using e) fun i a b h1 h2 => p (i + 1) a b (by simpa using h1) (by simpa using h2))
def nfE (x : En) : D := match x.bd with
  | none => .tup [.str x.num, x.pt, .non, .non, .non]
  | some b => .tup [.str x.num, x.pt, nfRow b.row, .rl (b.nts.map encNn), .tup [.rl (tabR 50 b.rn), .rl (tabR 60 b.cn), .rl (b.wds.map fun l => .rl (l.map .str))]]
theorem tab_pl (c : Int) (n : Nat) : plL 7 (tabR c n) = true := plL_iff.mpr fun d hd => by
  obtain ⟨i, _, rfl⟩ := List.mem_map.mp hd
  rfl
theorem strs_pl (l : List Str) : plL 0 (l.map D.str) = true := plL_iff.mpr fun d hd => by
  obtain ⟨i, _, rfl⟩ := List.mem_map.mp hd
  rfl
theorem en_pv {h : AH} {d : D} {x : En} (e : EnAt h d x) (ok : EnOk x) : PvN h 11 d (nfE x) := by
  unfold EnAt at e
  unfold nfE
  cases hb : x.bd with
  | none =>
    rw [hb] at e
    simp only at e ⊢
    rw [e]
    exact PvN.tup (n := 10) (.cons (.pl (m := 0) rfl) (.cons (.pl ok.pt) (.cons (.pl (m := 0) rfl) (.cons (.pl (m := 0) rfl) (.cons (.pl (m := 0) rfl) .nil)))))
  | some b =>
    rw [hb] at e
    simp only at e ⊢
    have bok := ok.bd b hb
    obtain ⟨r, A, n, ta, tb, tc, B, rfl, hr, en, ea, eb, hw⟩ := e
    have pn : plL 8 (b.nts.map encNn) = true := plL_iff.mpr fun d hd => by
      obtain ⟨z, hz, rfl⟩ := List.mem_map.mp hd
      rcases (bok.nts z hz).sg with e | ⟨_, _, _, e⟩ <;> rw [encNn, e] <;> rfl
    have hwp : PvL h 8 (rfs B b.wds.length) (b.wds.map fun l => .rl (l.map .str)) := PvL.of (by rw [rfs_len, List.length_map]) fun i u v h1 h2 => by
      rw [List.getElem?_map] at h2
      obtain ⟨l, hl, rfl⟩ := Option.map_eq_some_iff.mp h2
      have hi := (List.getElem?_eq_some_iff.mp hl).1
      rw [rfs_at hi] at h1
      cases h1
      exact PvN.lst (n := 7) (hw.wd i l hl) (PvL.pl (strs_pl l) (by omega))
    exact PvN.tup (n := 10) (.cons (.pl (m := 0) rfl) (.cons (.pl ok.pt) (.cons (row_pv 1 hr) (.cons (PvN.lst (n := 9) en (PvL.pl pn (by omega))) (.cons (PvN.tup (n := 9) (.cons (PvN.lst (n := 8) ea (PvL.pl (tab_pl _ _) (by omega))) (.cons (PvN.lst (n := 8) eb (PvL.pl (tab_pl _ _) (by omega))) (.cons (PvN.lst (n := 8) hw.lst hwp) .nil)))) .nil)))))
theorem doc_pv {h : AH} {a : Addr} {ds : List D} {E : List En} (e : DocAt h a ds E) (ok : ∀ x ∈ E, EnOk x) : Pv h (.ref a) (.rl (E.map nfE)) :=
  PvN.lst (n := 11) e.lst (PvL.of (by rw [e.len, List.length_map]) fun i u v h1 h2 => by
    rw [List.getElem?_map] at h2
    obtain ⟨x, hx, rfl⟩ := Option.map_eq_some_iff.mp h2
    exact en_pv (e.at_ i x u hx h1) (ok x (List.mem_of_getElem? hx)))
/-! ### the law -/
theorem law_holds : ∀ ns : List Int, ns.length ≤ 63 → f_law [.rl (ns.map .int)] (fun _ => none) fun d _ => d = .bl true := by
  intro ns _
  have ok := docF_ok ns
  have lE := docF_len ns
  unfold f_law
  trivial
  refine l_document_ok fun e1 ds1 h1 _ _ d1 => ?_
  trivial
  refine l_document_ok fun e2 ds2 h2 _ s2 d2 => ?_
  have d1' := d1.sb s2
  generalize docF ns = E at ok lE d1' d2
  trivial
  refine shown_ok d1' ok lE fun h3 s3 => ?_
  trivial
  refine l_due_ok (d1'.sb s3) ok lE fun h4 s4 => ?_
  refine oEq_ss ?_
  rw [decide_eq_true rfl]
  trivial
  refine oEq_pv (doc_pv ((d1'.sb s3).sb s4) ok) (doc_pv ((d2.sb s3).sb s4) ok) ?_
  rw [decide_eq_true rfl]
  trivial
  apply Pt.of
  rfl
end K47
end

section
set_option Elab.async false
set_option linter.all false
set_option maxRecDepth 100000
set_option maxHeartbeats 4000000
/-! The walk of pagefolk_k47_shown_as_text; printed by pp.py. -/
namespace K47
open PySem PySem.Spec PyProof.Rows L2 G
def topS (i : Nat) : Stmt := PySem.Challenge.pw_pagefolk_k47_shown_as_text.main.body.getD i (.Pass ⟨0, 0, 0, 0⟩)
abbrev s_stretches_of : Stmt := topS 1
theorem sc_stretches_of : FnScope ["row", "kind", "found", "place", "told", "value"] ["row", "kind"] (defScope s_stretches_of) := ⟨rfl, rfl, rfl, by decide +kernel, rfl, by decide +kernel, by decide +kernel⟩
abbrev s_mark_rows : Stmt := topS 2
theorem sc_mark_rows : FnScope ["row", "kinds", "name", "text", "marks", "kind", "value", "rows", "begin", "end"] ["row"] (defScope s_mark_rows) := ⟨rfl, rfl, rfl, by decide +kernel, rfl, by decide +kernel, by decide +kernel⟩
abbrev s_note_rows : Stmt := topS 3
theorem sc_note_rows : FnScope ["row", "notes", "names", "rows", "name", "word", "sign", "place", "told"] ["row", "notes"] (defScope s_note_rows) := ⟨rfl, rfl, rfl, by decide +kernel, rfl, by decide +kernel, by decide +kernel⟩
abbrev s_table_rows : Stmt := topS 4
theorem sc_table_rows : FnScope ["table", "rows", "columns", "words", "line", "word"] ["table"] (defScope s_table_rows) := ⟨rfl, rfl, rfl, by decide +kernel, rfl, by decide +kernel, by decide +kernel⟩
abbrev s_entry_rows : Stmt := topS 5
theorem sc_entry_rows : FnScope ["entry", "number", "part", "row", "notes", "table", "rows", "told"] ["entry"] (defScope s_entry_rows) := ⟨rfl, rfl, rfl, by decide +kernel, rfl, by decide +kernel, by decide +kernel⟩
abbrev s_shown : Stmt := topS 6
theorem sc_shown : FnScope ["entries", "rows", "entry"] ["entries"] (defScope s_shown) := ⟨rfl, rfl, rfl, by decide +kernel, rfl, by decide +kernel, by decide +kernel⟩
abbrev s_l_cell_at : Stmt := topS 8
theorem sc_l_cell_at : FnScope ["_law_script", "_law_k"] ["_law_script", "_law_k"] (defScope s_l_cell_at) := ⟨rfl, rfl, rfl, by decide +kernel, rfl, by decide +kernel, by decide +kernel⟩
abbrev s_l_drawn : Stmt := topS 9
theorem sc_l_drawn : FnScope ["_law_cell", "_law_digits"] ["_law_cell", "_law_digits"] (defScope s_l_drawn) := ⟨rfl, rfl, rfl, by decide +kernel, rfl, by decide +kernel, by decide +kernel⟩
abbrev s_l_draw : Stmt := topS 10
theorem sc_l_draw : FnScope ["_law_drawn_here", "_law_many", "_law_number"] ["_law_drawn_here", "_law_many"] (defScope s_l_draw) := ⟨rfl, rfl, rfl, by decide +kernel, rfl, by decide +kernel, by decide +kernel⟩
abbrev s_l_row : Stmt := topS 11
theorem sc_l_row : FnScope ["_law_drawn_here", "_law_row_here", "_law_k", "_law_marks_here", "_law_kind", "_law_way", "_law_text"] ["_law_drawn_here"] (defScope s_l_row) := ⟨rfl, rfl, rfl, by decide +kernel, rfl, by decide +kernel, by decide +kernel⟩
abbrev s_l_notes : Stmt := topS 12
theorem sc_l_notes : FnScope ["_law_drawn_here", "_law_row_here", "_law_notes_here", "_law_k", "_law_names", "_law_told"] ["_law_drawn_here", "_law_row_here"] (defScope s_l_notes) := ⟨rfl, rfl, rfl, by decide +kernel, rfl, by decide +kernel, by decide +kernel⟩
abbrev s_l_table : Stmt := topS 13
theorem sc_l_table : FnScope ["_law_drawn_here", "_law_rows", "_law_columns", "_law_words", "_law_row_here", "_law_k", "_law_column"] ["_law_drawn_here"] (defScope s_l_table) := ⟨rfl, rfl, rfl, by decide +kernel, rfl, by decide +kernel, by decide +kernel⟩
abbrev s_l_document : Stmt := topS 14
theorem sc_l_document : FnScope ["_law_script", "_law_digits", "_law_entries", "_law_k", "_law_drawn_here", "_law_number", "_law_part", "_law_row_here"] ["_law_script"] (defScope s_l_document) := ⟨rfl, rfl, rfl, by decide +kernel, rfl, by decide +kernel, by decide +kernel⟩
abbrev s_l_value : Stmt := topS 15
theorem sc_l_value : FnScope ["_law_told", "_law_kind", "_law_one", "_law_value_here"] ["_law_told", "_law_kind"] (defScope s_l_value) := ⟨rfl, rfl, rfl, by decide +kernel, rfl, by decide +kernel, by decide +kernel⟩
abbrev s_l_marks : Stmt := topS 16
theorem sc_l_marks : FnScope ["_law_row_here", "_law_rows", "_law_kind", "_law_begin", "_law_k", "_law_value_here"] ["_law_row_here"] (defScope s_l_marks) := ⟨rfl, rfl, rfl, by decide +kernel, rfl, by decide +kernel, by decide +kernel⟩
abbrev s_l_due : Stmt := topS 17
theorem sc_l_due : FnScope ["_law_entries", "_law_rows", "_law_number", "_law_part", "_law_row_here", "_law_notes_here", "_law_table_here", "_law_text", "_law_told", "_law_name", "_law_word", "_law_sign", "_law_places", "_law_line_words", "_law_cells", "_law_k"] ["_law_entries"] (defScope s_l_due) := ⟨rfl, rfl, rfl, by decide +kernel, rfl, by decide +kernel, by decide +kernel⟩
abbrev s_law : Stmt := topS 18
theorem sc_law : FnScope ["_law_script", "_law_entries", "_law_again", "_law_found"] ["_law_script"] (defScope s_law) := ⟨rfl, rfl, rfl, by decide +kernel, rfl, by decide +kernel, by decide +kernel⟩
local instance : Tb := tb0
section
variable {P : Program} {w : World} {K : PySem.W.Frag} {mg : Str → Option Value} {base : Heap}
theorem ok_stretches_of {f : PySem.Addr} {fd : FuncData} (F : Fun K "stretches_of" "stretches_of" s_stretches_of f fd) (b_enumerate : mg "enumerate" = none) (b_dict : mg "dict" = none) : FnG P w K mg base 1 f fd ["row", "kind"] (f_stretches_of) := by
  unfold f_stretches_of
  exact fn_ok F sc_stretches_of fun cdv A outer s H E hr =>
    (gss_cons (gs_set (i := 2) sc_stretches_of.nd (ge_lst ga_nil))
      (gss_cons (gs_for PassesOwn.never rfl (gi_enum b_enumerate (ga_cons (ge_var 0) ga_nil)) (gg_tup rfl (ggs_cons (gg_var sc_stretches_of.nd) (ggs_cons (gg_var sc_stretches_of.nd) ggs_nil))) (gss_cons (gs_set (i := 5) sc_stretches_of.nd (ge_meth PySem.F.plainAttrs_dict PySem.F.slot_dict_get PySem.F.type_dict_get (gm_get (hu64 hr)) (by decide) (ge_callTy (gb_dict rfl (hu64 hr)) b_dict (by decide +kernel) (ga_cons (ge_ix (gx_ix (hu64 hr)) (ge_var 4) ge_int) ga_nil)) (ga_cons (ge_var 1) ga_nil)))
      (gss_one (gs_if (gt_notN (ge_var 5)) (gss_one (gs_if (PW.pt (gw_and (gt_cmp (gc_ne (hu64 hr)) (ge_var 2) (ge_lst ga_nil)) (gw_and (gt_cmp (gc_eq (hu64 hr)) (ge_ix (gx_ix (hu64 hr)) (ge_ix (gx_ix (hu64 hr)) (ge_var 2) (ge_neg ge_int)) ge_int) (ge_var 5)) (gw_and1 (gt_cmp (gc_eq (hu64 hr)) (ge_ix (gx_ix (hu64 hr)) (ge_ix (gx_ix (hu64 hr)) (ge_var 2) (ge_neg ge_int)) ge_int) (ge_op go_sub (ge_var 3) ge_int)))))) (gss_one (gs_asg (ge_tup (ga_cons (ge_var 5) (ga_cons (ge_ix (gx_ix (hu64 hr)) (ge_ix (gx_ix (hu64 hr)) (ge_var 2) (ge_neg ge_int)) ge_int) (ga_cons (ge_var 3) ga_nil)))) (gg_sub (pg_sub (ge_var 2) (ge_neg ge_int) (set_ok (hu64 hr)))))) (gss_one (gs_exp (ge_meth PySem.F.plainAttrs_list PySem.F.slot_list_append PySem.F.type_list_append gm_append (by decide) (ge_var 2) (ga_cons (ge_tup (ga_cons (ge_var 5) (ga_cons (ge_var 3) (ga_cons (ge_var 3) ga_nil)))) ga_nil)))))) gss_nil))))
      (gss_one (gs_ret (ge_var 2)))))
theorem ok_mark_rows {f : PySem.Addr} {fd : FuncData} (F : Fun K "mark_rows" "mark_rows" s_mark_rows f fd) (b_sorted : mg "sorted" = none) {a_stretches_of : PySem.Addr} {d_stretches_of : FuncData} (G_stretches_of : FnG P w K mg base 1 a_stretches_of d_stretches_of ["row", "kind"] (f_stretches_of)) (g_stretches_of : mg "stretches_of" = some (.ref a_stretches_of)) (k_stretches_of : PySem.W.keepIn K (.ref a_stretches_of) = true) (b_stretches_of_ : Binds K d_stretches_of ["row", "kind"] []) : FnG P w K mg base 2 f fd ["row"] (f_mark_rows) := by
  unfold f_mark_rows
  exact fn_ok F sc_mark_rows fun cdv A outer s H E hr =>
    (gss_cons (gs_set (i := 1) sc_mark_rows.nd (ge_lst ga_nil))
      (gss_cons (gs_for PassesOwn.never rfl (gi_seq (ge_var 0)) (gg_tup rfl (ggs_cons (gg_var sc_mark_rows.nd) (ggs_cons (gg_var sc_mark_rows.nd) (ggs_cons (gg_var sc_mark_rows.nd) ggs_nil)))) (gss_one (gs_exp (ge_meth PySem.F.plainAttrs_list PySem.F.slot_list_extend PySem.F.type_list_extend gm_extend (by decide) (ge_var 1) (ga_cons (ge_comp (own := [("kind", 5), ("value", 6)]) (N := ["row", "kinds", "name", "text", "marks", "kind", "value", "rows", "begin", "end"]) (sc := defScope s_mark_rows) rfl sc_mark_rows.nd (gi_seq (ge_var 4)) rfl rfl (by decide +kernel) (fun _ _ _ _ _ => (gg_tup rfl (ggs_cons (gg_var sc_mark_rows.nd) (ggs_cons (gg_var sc_mark_rows.nd) ggs_nil)))) (fun _ _ _ _ _ => (gts_one (gt_cmp (gc_notIn (hu64 hr)) (ge_var 5) (ge_var 1)))) (fun _ _ _ _ _ => (ge_var 5))) ga_nil)))))
      (gss_cons (gs_set (i := 7) sc_mark_rows.nd (ge_lst ga_nil))
      (gss_cons (gs_for PassesOwn.never rfl (gi_seq (ge_callB (gb_sortD rfl (hu100 hr)) b_sorted (by decide +kernel) (ga_cons (ge_var 1) ga_nil))) (gg_var sc_mark_rows.nd) (gss_one (gs_for PassesOwn.never rfl (gi_seq (ge_call G_stretches_of (hr.mono (by decide)) g_stretches_of k_stretches_of b_stretches_of_ (ga_cons (ge_var 0) (ga_cons (ge_var 5) ga_nil)))) (gg_tup rfl (ggs_cons (gg_var sc_mark_rows.nd) (ggs_cons (gg_var sc_mark_rows.nd) (ggs_cons (gg_var sc_mark_rows.nd) ggs_nil)))) (gss_one (gs_exp (ge_meth PySem.F.plainAttrs_list PySem.F.slot_list_append PySem.F.type_list_append gm_append (by decide) (ge_var 7) (ga_cons (ge_fstr (gj_cons ge_str (gj_cons (ge_fmt (ge_var 5)) (gj_cons ge_str (gj_cons (ge_fmt (ge_var 6)) (gj_cons ge_str (gj_cons (ge_fmt (ge_var 8)) (gj_cons ge_str (gj_cons (ge_fmt (ge_var 9)) gj_nil))))))))) ga_nil)))))))
      (gss_one (gs_ret (ge_var 7)))))))
theorem ok_note_rows {f : PySem.Addr} {fd : FuncData} (F : Fun K "note_rows" "note_rows" s_note_rows f fd) (b_str : mg "str" = none) : FnG P w K mg base 1 f fd ["row", "notes"] (f_note_rows) := by
  unfold f_note_rows
  exact fn_ok F sc_note_rows fun cdv A outer s H E hr =>
    (gss_cons (gs_setComp (i := 2) (own := [("told", 8)]) (N := ["row", "notes", "names", "rows", "name", "word", "sign", "place", "told"]) (sc := defScope s_note_rows) rfl sc_note_rows.nd (gi_seq (ge_var 0)) rfl rfl (by decide +kernel) (fun _ _ _ _ _ => (gg_var sc_note_rows.nd)) (fun _ _ _ _ _ => gts_nil) (fun _ _ _ _ _ => (ge_ix (gx_ix (hu64 hr)) (ge_var 8) ge_int)) (sw_true rfl rfl rfl (by decide +kernel)))
      (gss_cons (gs_set (i := 3) sc_note_rows.nd (ge_lst ga_nil))
      (gss_cons (gs_for PassesOwn.never rfl (gi_seq (ge_var 1)) (gg_tup rfl (ggs_cons (gg_var sc_note_rows.nd) (ggs_cons (gg_var sc_note_rows.nd) (ggs_cons (gg_var sc_note_rows.nd) ggs_nil)))) (gss_cons (gs_set (i := 7) sc_note_rows.nd ge_str)
      (gss_cons (gs_if (gt_notN (ge_var 6)) (gss_one (gs_set (i := 7) sc_note_rows.nd (ge_callTy gb_str b_str (by decide +kernel) (ga_cons (ge_meth PySem.F.plainAttrs_list PySem.F.slot_list_index PySem.F.type_list_index (gm_index (hu100 hr)) (by decide) (ge_var 2) (ga_cons (ge_var 6) ga_nil)) ga_nil)))) gss_nil)
      (gss_one (gs_exp (ge_meth PySem.F.plainAttrs_list PySem.F.slot_list_append PySem.F.type_list_append gm_append (by decide) (ge_var 3) (ga_cons (ge_op go_add (ge_op go_add (ge_op go_add ge_str (ge_var 5)) ge_str) (ge_var 7)) ga_nil)))))))
      (gss_one (gs_ret (ge_var 3))))))
theorem ok_table_rows {f : PySem.Addr} {fd : FuncData} (F : Fun K "table_rows" "table_rows" s_table_rows f fd) : FnG P w K mg base 1 f fd ["table"] (f_table_rows) := by
  unfold f_table_rows
  exact fn_ok F sc_table_rows fun cdv A outer s H E hr =>
    (gss_cons (gs_asg (ge_var 0) (gg_tup rfl (ggs_cons (gg_var sc_table_rows.nd) (ggs_cons (gg_var sc_table_rows.nd) (ggs_cons (gg_var sc_table_rows.nd) ggs_nil)))))
      (gss_cons (gs_if (gt_cmp (gc_eq (hu64 hr)) (ge_var 2) (ge_lst ga_nil)) (gss_one (gs_ret (ge_lst ga_nil))) gss_nil)
      (gss_one (gs_ret (ge_comp (own := [("line", 4)]) (N := ["table", "rows", "columns", "words", "line", "word"]) (sc := defScope s_table_rows) rfl sc_table_rows.nd (gi_seq (ge_var 3)) rfl rfl (by decide +kernel) (fun _ _ _ _ _ => (gg_var sc_table_rows.nd)) (fun _ _ _ _ _ => gts_nil) (fun _ _ _ _ _ => (ge_op go_add ge_str (ge_meth PySem.F.plainAttrs_str PySem.F.slot_str_join PySem.F.type_str_join gm_join (by decide) ge_str (ga_cons (ge_comp (own := [("word", 5)]) (N := ["table", "rows", "columns", "words", "line", "word"]) (sc := _) rfl sc_table_rows.nd (gi_seq (ge_var 4)) rfl rfl (by kernel_rfl) (fun _ _ _ _ _ => (gg_var sc_table_rows.nd)) (fun _ _ _ _ _ => gts_nil) (fun _ _ _ _ _ => (ge_or (ge_var 5) (ge_one ge_str)))) ga_nil)))))))))
theorem ok_entry_rows {f : PySem.Addr} {fd : FuncData} (F : Fun K "entry_rows" "entry_rows" s_entry_rows f fd) {a_mark_rows : PySem.Addr} {d_mark_rows : FuncData} (G_mark_rows : FnG P w K mg base 2 a_mark_rows d_mark_rows ["row"] (f_mark_rows)) (g_mark_rows : mg "mark_rows" = some (.ref a_mark_rows)) (k_mark_rows : PySem.W.keepIn K (.ref a_mark_rows) = true) (b_mark_rows_ : Binds K d_mark_rows ["row"] []) {a_note_rows : PySem.Addr} {d_note_rows : FuncData} (G_note_rows : FnG P w K mg base 1 a_note_rows d_note_rows ["row", "notes"] (f_note_rows)) (g_note_rows : mg "note_rows" = some (.ref a_note_rows)) (k_note_rows : PySem.W.keepIn K (.ref a_note_rows) = true) (b_note_rows_ : Binds K d_note_rows ["row", "notes"] []) {a_table_rows : PySem.Addr} {d_table_rows : FuncData} (G_table_rows : FnG P w K mg base 1 a_table_rows d_table_rows ["table"] (f_table_rows)) (g_table_rows : mg "table_rows" = some (.ref a_table_rows)) (k_table_rows : PySem.W.keepIn K (.ref a_table_rows) = true) (b_table_rows_ : Binds K d_table_rows ["table"] []) : FnG P w K mg base 3 f fd ["entry"] (f_entry_rows) := by
  unfold f_entry_rows
  exact fn_ok F sc_entry_rows fun cdv A outer s H E hr =>
    (gss_cons (gs_asg (ge_var 0) (gg_tup rfl (ggs_cons (gg_var sc_entry_rows.nd) (ggs_cons (gg_var sc_entry_rows.nd) (ggs_cons (gg_var sc_entry_rows.nd) (ggs_cons (gg_var sc_entry_rows.nd) (ggs_cons (gg_var sc_entry_rows.nd) ggs_nil)))))))
      (gss_cons (gs_set (i := 6) sc_entry_rows.nd (ge_lst (ga_cons (ge_op go_add ge_str (ge_or (ge_var 1) (ge_one ge_str))) ga_nil)))
      (gss_cons (gs_if (gt_isN (ge_var 3)) (gss_one (gs_ret (ge_op go_add (ge_var 6) (ge_lst (ga_cons ge_str ga_nil))))) gss_nil)
      (gss_cons (gs_if (gt_cmp (gc_ne (hu64 hr)) (ge_var 3) (ge_lst ga_nil)) (gss_one (gs_exp (ge_meth PySem.F.plainAttrs_list PySem.F.slot_list_append PySem.F.type_list_append gm_append (by decide) (ge_var 6) (ga_cons (ge_op go_add ge_str (ge_meth PySem.F.plainAttrs_str PySem.F.slot_str_join PySem.F.type_str_join gm_join (by decide) ge_str (ga_cons (ge_comp (own := [("told", 7)]) (N := ["entry", "number", "part", "row", "notes", "table", "rows", "told"]) (sc := defScope s_entry_rows) rfl sc_entry_rows.nd (gi_seq (ge_var 3)) rfl rfl (by decide +kernel) (fun _ _ _ _ _ => (gg_var sc_entry_rows.nd)) (fun _ _ _ _ _ => gts_nil) (fun _ _ _ _ _ => (ge_ix (gx_ix (hu64 hr)) (ge_var 7) ge_int))) ga_nil))) ga_nil)))) gss_nil)
      (gss_one (gs_ret (ge_op go_add (ge_op go_add (ge_op go_add (ge_var 6) (ge_call G_mark_rows (hr.mono (by decide)) g_mark_rows k_mark_rows b_mark_rows_ (ga_cons (ge_var 3) ga_nil))) (ge_call G_note_rows (hr.mono (by decide)) g_note_rows k_note_rows b_note_rows_ (ga_cons (ge_var 3) (ga_cons (ge_var 4) ga_nil)))) (ge_call G_table_rows (hr.mono (by decide)) g_table_rows k_table_rows b_table_rows_ (ga_cons (ge_var 5) ga_nil)))))))))
theorem ok_shown {f : PySem.Addr} {fd : FuncData} (F : Fun K "shown" "shown" s_shown f fd) {a_entry_rows : PySem.Addr} {d_entry_rows : FuncData} (G_entry_rows : FnG P w K mg base 3 a_entry_rows d_entry_rows ["entry"] (f_entry_rows)) (g_entry_rows : mg "entry_rows" = some (.ref a_entry_rows)) (k_entry_rows : PySem.W.keepIn K (.ref a_entry_rows) = true) (b_entry_rows_ : Binds K d_entry_rows ["entry"] []) : FnG P w K mg base 4 f fd ["entries"] (f_shown) := by
  unfold f_shown
  exact fn_ok F sc_shown fun cdv A outer s H E hr =>
    (gss_cons (gs_set (i := 1) sc_shown.nd (ge_lst ga_nil))
      (gss_cons (gs_for PassesOwn.never rfl (gi_seq (ge_var 0)) (gg_var sc_shown.nd) (gss_one (gs_exp (ge_meth PySem.F.plainAttrs_list PySem.F.slot_list_extend PySem.F.type_list_extend gm_extend (by decide) (ge_var 1) (ga_cons (ge_call G_entry_rows (hr.mono (by decide)) g_entry_rows k_entry_rows b_entry_rows_ (ga_cons (ge_var 2) ga_nil)) ga_nil)))))
      (gss_one (gs_ret (ge_meth PySem.F.plainAttrs_str PySem.F.slot_str_join PySem.F.type_str_join gm_join (by decide) ge_str (ga_cons (ge_var 1) ga_nil))))))
theorem ok_l_cell_at {f : PySem.Addr} {fd : FuncData} (F : Fun K "_law_cell_at" "_law_cell_at" s_l_cell_at f fd) (b_len : mg "len" = none) : FnG P w K mg base 1 f fd ["_law_script", "_law_k"] (f_l_cell_at) := by
  unfold f_l_cell_at
  exact fn_ok F sc_l_cell_at fun cdv A outer s H E hr =>
    (gss_cons (gs_if (gt_cmp (gc_lt (hu64 hr)) (ge_var 1) (ge_callB gb_len b_len PySem.boot_len (ga_cons (ge_var 0) ga_nil))) (gss_one (gs_ret (ge_ix (gx_ix (hu64 hr)) (ge_var 0) (ge_var 1)))) gss_nil)
      (gss_one (gs_ret ge_int)))
theorem ok_l_drawn {f : PySem.Addr} {fd : FuncData} (F : Fun K "_law_drawn" "_law_drawn" s_l_drawn f fd) : FnG P w K mg base 1 f fd ["_law_cell", "_law_digits"] (f_l_drawn) := by
  unfold f_l_drawn
  exact fn_ok F sc_l_drawn fun cdv A outer s H E hr =>
    (gss_cons (gs_if (PW.pt (gw_and (gt_val (ge_var 1)) (gw_and1 (gt_cmp (gc_ge (hu64 hr)) (ge_var 0) (ge_op go_pow ge_int ge_int))))) (gss_one (gs_ret (ge_lst (ga_cons (ge_var 0) (ga_cons ge_int ga_nil))))) gss_nil)
      (gss_one (gs_ret (ge_lst (ga_cons (ge_op go_mod (ge_var 0) ge_int) (ga_cons ge_int ga_nil))))))
theorem ok_l_draw {f : PySem.Addr} {fd : FuncData} (F : Fun K "_law_draw" "_law_draw" s_l_draw f fd) : FnG P w K mg base 1 f fd ["_law_drawn_here", "_law_many"] (f_l_draw) := by
  unfold f_l_draw
  exact fn_ok F sc_l_draw fun cdv A outer s H E hr =>
    (gss_cons (gs_set (i := 2) sc_l_draw.nd (ge_ix (gx_ix (hu64 hr)) (ge_var 0) ge_int))
      (gss_cons (gs_if (gt_cmp (gc_eq (hu64 hr)) (ge_ix (gx_ix (hu64 hr)) (ge_var 0) ge_int) ge_int) (gss_cons (gs_asg (ge_op go_div (ge_var 2) (ge_var 1)) (gg_sub (pg_sub (ge_var 0) ge_int (set_ok (hu64 hr)))))
      (gss_one (gs_ret (ge_op go_mod (ge_var 2) (ge_var 1))))) gss_nil)
      (gss_cons (gs_asg (ge_op go_mod (ge_op go_add (ge_op go_mul (ge_var 2) ge_int) ge_int) ge_int) (gg_sub (pg_sub (ge_var 0) ge_int (set_ok (hu64 hr)))))
      (gss_one (gs_ret (ge_op go_mod (ge_op go_div (ge_op go_mod (ge_op go_mul (ge_ix (gx_ix (hu64 hr)) (ge_var 0) ge_int) ge_int) ge_int) ge_int) (ge_var 1)))))))
theorem ok_l_row {f : PySem.Addr} {fd : FuncData} (F : Fun K "_law_row" "_law_row" s_l_row f fd) (b_range : mg "range" = none) {a_l_draw : PySem.Addr} {d_l_draw : FuncData} (G_l_draw : FnG P w K mg base 1 a_l_draw d_l_draw ["_law_drawn_here", "_law_many"] (f_l_draw)) (g_l_draw : mg "_law_draw" = some (.ref a_l_draw)) (k_l_draw : PySem.W.keepIn K (.ref a_l_draw) = true) (b_l_draw_ : Binds K d_l_draw ["_law_drawn_here", "_law_many"] []) : FnG P w K mg base 2 f fd ["_law_drawn_here"] (f_l_row) := by
  unfold f_l_row
  exact fn_ok F sc_l_row fun cdv A outer s H E hr =>
    (gss_cons (gs_set (i := 1) sc_l_row.nd (ge_lst ga_nil))
      (gss_cons (gs_for PassesOwn.never rfl (gi_rng1 b_range (ga_cons (ge_call G_l_draw (hr.mono (by decide)) g_l_draw k_l_draw b_l_draw_ (ga_cons (ge_var 0) (ga_cons ge_int ga_nil))) ga_nil)) (gg_var sc_l_row.nd) (gss_cons (gs_set (i := 3) sc_l_row.nd (ge_lst ga_nil))
      (gss_cons (gs_for PassesOwn.never rfl (gi_seq (ge_lst (ga_cons ge_str (ga_cons ge_str (ga_cons ge_str ga_nil))))) (gg_var sc_l_row.nd) (gss_cons (gs_set (i := 5) sc_l_row.nd (ge_call G_l_draw (hr.mono (by decide)) g_l_draw k_l_draw b_l_draw_ (ga_cons (ge_var 0) (ga_cons ge_int ga_nil))))
      (gss_one (gs_if (gt_cmp (gc_gt (hu64 hr)) (ge_var 5) ge_int) (gss_one (gs_exp (ge_meth PySem.F.plainAttrs_list PySem.F.slot_list_append PySem.F.type_list_append gm_append (by decide) (ge_var 3) (ga_cons (ge_tup (ga_cons (ge_var 4) (ga_cons (ge_ix (gx_ix (hu64 hr)) (ge_lst (ga_cons ge_str (ga_cons ge_str ga_nil))) (ge_op go_sub (ge_var 5) ge_int)) ga_nil))) ga_nil)))) gss_nil))))
      (gss_cons (gs_set (i := 6) sc_l_row.nd (ge_ix (gx_ix (hu64 hr)) (ge_lst (ga_cons ge_str (ga_cons ge_str (ga_cons ge_str (ga_cons ge_str (ga_cons ge_str (ga_cons ge_str (ga_cons ge_str (ga_cons ge_str (ga_cons ge_str ga_nil)))))))))) (ge_call G_l_draw (hr.mono (by decide)) g_l_draw k_l_draw b_l_draw_ (ga_cons (ge_var 0) (ga_cons ge_int ga_nil)))))
      (gss_one (gs_exp (ge_meth PySem.F.plainAttrs_list PySem.F.slot_list_append PySem.F.type_list_append gm_append (by decide) (ge_var 1) (ga_cons (ge_tup (ga_cons (ge_tup (ga_cons ge_str (ga_cons (ge_op go_add ge_int (ge_var 2)) (ga_cons ge_int ga_nil)))) (ga_cons (ge_var 6) (ga_cons (ge_var 3) ga_nil)))) ga_nil))))))))
      (gss_one (gs_ret (ge_var 1)))))
theorem ok_l_notes {f : PySem.Addr} {fd : FuncData} (F : Fun K "_law_notes" "_law_notes" s_l_notes f fd) (b_range : mg "range" = none) (b_len : mg "len" = none) {a_l_draw : PySem.Addr} {d_l_draw : FuncData} (G_l_draw : FnG P w K mg base 1 a_l_draw d_l_draw ["_law_drawn_here", "_law_many"] (f_l_draw)) (g_l_draw : mg "_law_draw" = some (.ref a_l_draw)) (k_l_draw : PySem.W.keepIn K (.ref a_l_draw) = true) (b_l_draw_ : Binds K d_l_draw ["_law_drawn_here", "_law_many"] []) : FnG P w K mg base 2 f fd ["_law_drawn_here", "_law_row_here"] (f_l_notes) := by
  unfold f_l_notes
  exact fn_ok F sc_l_notes fun cdv A outer s H E hr =>
    (gss_cons (gs_set (i := 2) sc_l_notes.nd (ge_lst ga_nil))
      (gss_cons (gs_for PassesOwn.never rfl (gi_rng1 b_range (ga_cons (ge_call G_l_draw (hr.mono (by decide)) g_l_draw k_l_draw b_l_draw_ (ga_cons (ge_var 0) (ga_cons ge_int ga_nil))) ga_nil)) (gg_var sc_l_notes.nd) (gss_cons (gs_set (i := 4) sc_l_notes.nd (ge_op go_add (ge_comp (own := [("_law_told", 5)]) (N := ["_law_drawn_here", "_law_row_here", "_law_notes_here", "_law_k", "_law_names", "_law_told"]) (sc := defScope s_l_notes) rfl sc_l_notes.nd (gi_seq (ge_var 1)) rfl rfl (by decide +kernel) (fun _ _ _ _ _ => (gg_var sc_l_notes.nd)) (fun _ _ _ _ _ => gts_nil) (fun _ _ _ _ _ => (ge_ix (gx_ix (hu64 hr)) (ge_var 5) ge_int))) (ge_lst (ga_cons ge_non ga_nil))))
      (gss_one (gs_exp (ge_meth PySem.F.plainAttrs_list PySem.F.slot_list_append PySem.F.type_list_append gm_append (by decide) (ge_var 2) (ga_cons (ge_tup (ga_cons (ge_tup (ga_cons ge_str (ga_cons (ge_op go_add ge_int (ge_var 3)) ga_nil))) (ga_cons (ge_ix (gx_ix (hu64 hr)) (ge_lst (ga_cons ge_str (ga_cons ge_str ga_nil))) (ge_op go_mod (ge_var 3) ge_int)) (ga_cons (ge_ix (gx_ix (hu64 hr)) (ge_var 4) (ge_call G_l_draw (hr.mono (by decide)) g_l_draw k_l_draw b_l_draw_ (ga_cons (ge_var 0) (ga_cons (ge_callB gb_len b_len PySem.boot_len (ga_cons (ge_var 4) ga_nil)) ga_nil)))) ga_nil)))) ga_nil))))))
      (gss_one (gs_ret (ge_var 2)))))
theorem ok_l_table {f : PySem.Addr} {fd : FuncData} (F : Fun K "_law_table" "_law_table" s_l_table f fd) (b_range : mg "range" = none) {a_l_draw : PySem.Addr} {d_l_draw : FuncData} (G_l_draw : FnG P w K mg base 1 a_l_draw d_l_draw ["_law_drawn_here", "_law_many"] (f_l_draw)) (g_l_draw : mg "_law_draw" = some (.ref a_l_draw)) (k_l_draw : PySem.W.keepIn K (.ref a_l_draw) = true) (b_l_draw_ : Binds K d_l_draw ["_law_drawn_here", "_law_many"] []) : FnG P w K mg base 2 f fd ["_law_drawn_here"] (f_l_table) := by
  unfold f_l_table
  exact fn_ok F sc_l_table fun cdv A outer s H E hr =>
    (gss_cons (gs_setComp (i := 1) (own := [("_law_k", 5)]) (N := ["_law_drawn_here", "_law_rows", "_law_columns", "_law_words", "_law_row_here", "_law_k", "_law_column"]) (sc := defScope s_l_table) rfl sc_l_table.nd (gi_rng1 b_range (ga_cons (ge_call G_l_draw (hr.mono (by decide)) g_l_draw k_l_draw b_l_draw_ (ga_cons (ge_var 0) (ga_cons ge_int ga_nil))) ga_nil)) rfl rfl (by decide +kernel) (fun _ _ _ _ _ => (gg_var sc_l_table.nd)) (fun _ _ _ _ _ => gts_nil) (fun _ _ _ _ _ => (ge_tup (ga_cons ge_str (ga_cons (ge_op go_add ge_int (ge_var 5)) ga_nil)))) (sw_true rfl rfl rfl (by decide +kernel)))
      (gss_cons (gs_setComp (i := 2) (own := [("_law_k", 5)]) (N := ["_law_drawn_here", "_law_rows", "_law_columns", "_law_words", "_law_row_here", "_law_k", "_law_column"]) (sc := defScope s_l_table) rfl sc_l_table.nd (gi_rng1 b_range (ga_cons (ge_call G_l_draw (hr.mono (by decide)) g_l_draw k_l_draw b_l_draw_ (ga_cons (ge_var 0) (ga_cons ge_int ga_nil))) ga_nil)) rfl rfl (by decide +kernel) (fun _ _ _ _ _ => (gg_var sc_l_table.nd)) (fun _ _ _ _ _ => gts_nil) (fun _ _ _ _ _ => (ge_tup (ga_cons ge_str (ga_cons (ge_op go_add ge_int (ge_var 5)) ga_nil)))) (sw_true rfl rfl rfl (by decide +kernel)))
      (gss_cons (gs_set (i := 3) sc_l_table.nd (ge_lst ga_nil))
      (gss_cons (gs_for PassesOwn.never rfl (gi_seq (ge_var 1)) (gg_var sc_l_table.nd) (gss_one (gs_exp (ge_meth PySem.F.plainAttrs_list PySem.F.slot_list_append PySem.F.type_list_append gm_append (by decide) (ge_var 3) (ga_cons (ge_comp (own := [("_law_column", 6)]) (N := ["_law_drawn_here", "_law_rows", "_law_columns", "_law_words", "_law_row_here", "_law_k", "_law_column"]) (sc := defScope s_l_table) rfl sc_l_table.nd (gi_seq (ge_var 2)) rfl rfl (by decide +kernel) (fun _ _ _ _ _ => (gg_var sc_l_table.nd)) (fun _ _ _ _ _ => gts_nil) (fun _ _ _ _ _ => (ge_ix (gx_ix (hu64 hr)) (ge_lst (ga_cons ge_str (ga_cons ge_str (ga_cons ge_str ga_nil)))) (ge_call G_l_draw (hr.mono (by decide)) g_l_draw k_l_draw b_l_draw_ (ga_cons (ge_var 0) (ga_cons ge_int ga_nil)))))) ga_nil)))))
      (gss_one (gs_ret (ge_tup (ga_cons (ge_var 1) (ga_cons (ge_var 2) (ga_cons (ge_var 3) ga_nil))))))))))
theorem ok_l_document {f : PySem.Addr} {fd : FuncData} (F : Fun K "_law_document" "_law_document" s_l_document f fd) (b_range : mg "range" = none) (b_int : mg "int" = none) {a_l_cell_at : PySem.Addr} {d_l_cell_at : FuncData} (G_l_cell_at : FnG P w K mg base 1 a_l_cell_at d_l_cell_at ["_law_script", "_law_k"] (f_l_cell_at)) (g_l_cell_at : mg "_law_cell_at" = some (.ref a_l_cell_at)) (k_l_cell_at : PySem.W.keepIn K (.ref a_l_cell_at) = true) (b_l_cell_at_ : Binds K d_l_cell_at ["_law_script", "_law_k"] []) {a_l_drawn : PySem.Addr} {d_l_drawn : FuncData} (G_l_drawn : FnG P w K mg base 1 a_l_drawn d_l_drawn ["_law_cell", "_law_digits"] (f_l_drawn)) (g_l_drawn : mg "_law_drawn" = some (.ref a_l_drawn)) (k_l_drawn : PySem.W.keepIn K (.ref a_l_drawn) = true) (b_l_drawn_ : Binds K d_l_drawn ["_law_cell", "_law_digits"] []) {a_l_draw : PySem.Addr} {d_l_draw : FuncData} (G_l_draw : FnG P w K mg base 1 a_l_draw d_l_draw ["_law_drawn_here", "_law_many"] (f_l_draw)) (g_l_draw : mg "_law_draw" = some (.ref a_l_draw)) (k_l_draw : PySem.W.keepIn K (.ref a_l_draw) = true) (b_l_draw_ : Binds K d_l_draw ["_law_drawn_here", "_law_many"] []) {a_l_row : PySem.Addr} {d_l_row : FuncData} (G_l_row : FnG P w K mg base 2 a_l_row d_l_row ["_law_drawn_here"] (f_l_row)) (g_l_row : mg "_law_row" = some (.ref a_l_row)) (k_l_row : PySem.W.keepIn K (.ref a_l_row) = true) (b_l_row_ : Binds K d_l_row ["_law_drawn_here"] []) {a_l_notes : PySem.Addr} {d_l_notes : FuncData} (G_l_notes : FnG P w K mg base 2 a_l_notes d_l_notes ["_law_drawn_here", "_law_row_here"] (f_l_notes)) (g_l_notes : mg "_law_notes" = some (.ref a_l_notes)) (k_l_notes : PySem.W.keepIn K (.ref a_l_notes) = true) (b_l_notes_ : Binds K d_l_notes ["_law_drawn_here", "_law_row_here"] []) {a_l_table : PySem.Addr} {d_l_table : FuncData} (G_l_table : FnG P w K mg base 2 a_l_table d_l_table ["_law_drawn_here"] (f_l_table)) (g_l_table : mg "_law_table" = some (.ref a_l_table)) (k_l_table : PySem.W.keepIn K (.ref a_l_table) = true) (b_l_table_ : Binds K d_l_table ["_law_drawn_here"] []) : FnG P w K mg base 3 f fd ["_law_script"] (f_l_document) := by
  unfold f_l_document
  exact fn_ok F sc_l_document fun cdv A outer s H E hr =>
    (gss_cons (gs_set (i := 1) sc_l_document.nd (ge_cmp (gc_eq (hu64 hr)) (ge_op go_mod (ge_call G_l_cell_at (hr.mono (by decide)) g_l_cell_at k_l_cell_at b_l_cell_at_ (ga_cons (ge_var 0) (ga_cons ge_int ga_nil))) ge_int) ge_int))
      (gss_cons (gs_set (i := 2) sc_l_document.nd (ge_lst ga_nil))
      (gss_cons (gs_for PassesOwn.never rfl (gi_rng1 b_range (ga_cons (ge_op go_add ge_int (ge_op go_mod (ge_op go_div (ge_call G_l_cell_at (hr.mono (by decide)) g_l_cell_at k_l_cell_at b_l_cell_at_ (ga_cons (ge_var 0) (ga_cons ge_int ga_nil))) ge_int) ge_int)) ga_nil)) (gg_var sc_l_document.nd) (gss_cons (gs_set (i := 4) sc_l_document.nd (ge_call G_l_drawn (hr.mono (by decide)) g_l_drawn k_l_drawn b_l_drawn_ (ga_cons (ge_call G_l_cell_at (hr.mono (by decide)) g_l_cell_at k_l_cell_at b_l_cell_at_ (ga_cons (ge_var 0) (ga_cons (ge_op go_add ge_int (ge_var 3)) ga_nil))) (ga_cons (ge_var 1) ga_nil))))
      (gss_cons (gs_set (i := 5) sc_l_document.nd (ge_ix (gx_ix (hu64 hr)) (ge_lst (ga_cons ge_str (ga_cons ge_str (ga_cons ge_str (ga_cons ge_str (ga_cons ge_str ga_nil)))))) (ge_var 3)))
      (gss_cons (gs_set (i := 6) sc_l_document.nd (ge_ix (gx_ix (hu64 hr)) (ge_lst (ga_cons (ge_tup (ga_cons ge_str (ga_cons ge_int ga_nil))) (ga_cons (ge_tup (ga_cons ge_str (ga_cons (ge_op go_add ge_int (ge_var 3)) ga_nil))) ga_nil))) (ge_callTy gb_int b_int (by decide +kernel) (ga_cons (ge_cmp (gc_gt (hu64 hr)) (ge_var 3) ge_int) ga_nil))))
      (gss_one (gs_if (gt_cmp (gc_eq (hu64 hr)) (ge_call G_l_draw (hr.mono (by decide)) g_l_draw k_l_draw b_l_draw_ (ga_cons (ge_var 4) (ga_cons ge_int ga_nil))) ge_int) (gss_one (gs_exp (ge_meth PySem.F.plainAttrs_list PySem.F.slot_list_append PySem.F.type_list_append gm_append (by decide) (ge_var 2) (ga_cons (ge_tup (ga_cons (ge_var 5) (ga_cons (ge_var 6) (ga_cons ge_non (ga_cons ge_non (ga_cons ge_non ga_nil)))))) ga_nil)))) (gss_cons (gs_set (i := 7) sc_l_document.nd (ge_call G_l_row (hr.mono (by decide)) g_l_row k_l_row b_l_row_ (ga_cons (ge_var 4) ga_nil)))
      (gss_one (gs_exp (ge_meth PySem.F.plainAttrs_list PySem.F.slot_list_append PySem.F.type_list_append gm_append (by decide) (ge_var 2) (ga_cons (ge_tup (ga_cons (ge_var 5) (ga_cons (ge_var 6) (ga_cons (ge_var 7) (ga_cons (ge_call G_l_notes (hr.mono (by decide)) g_l_notes k_l_notes b_l_notes_ (ga_cons (ge_var 4) (ga_cons (ge_var 7) ga_nil))) (ga_cons (ge_call G_l_table (hr.mono (by decide)) g_l_table k_l_table b_l_table_ (ga_cons (ge_var 4) ga_nil)) ga_nil)))))) ga_nil)))))))))))
      (gss_one (gs_ret (ge_var 2))))))
theorem ok_l_value {f : PySem.Addr} {fd : FuncData} (F : Fun K "_law_value" "_law_value" s_l_value f fd) : FnG P w K mg base 1 f fd ["_law_told", "_law_kind"] (f_l_value) := by
  unfold f_l_value
  exact fn_ok F sc_l_value fun cdv A outer s H E hr =>
    (gss_cons (gs_for PassesOwn.never rfl (gi_seq (ge_ix (gx_ix (hu64 hr)) (ge_var 0) ge_int)) (gg_tup rfl (ggs_cons (gg_var sc_l_value.nd) (ggs_cons (gg_var sc_l_value.nd) ggs_nil))) (gss_one (gs_if (gt_cmp (gc_eq (hu64 hr)) (ge_var 2) (ge_var 1)) (gss_one (gs_ret (ge_var 3))) gss_nil)))
      (gss_one (gs_ret ge_str)))
theorem ok_l_marks {f : PySem.Addr} {fd : FuncData} (F : Fun K "_law_marks" "_law_marks" s_l_marks f fd) (b_range : mg "range" = none) (b_len : mg "len" = none) (b_str : mg "str" = none) {a_l_value : PySem.Addr} {d_l_value : FuncData} (G_l_value : FnG P w K mg base 1 a_l_value d_l_value ["_law_told", "_law_kind"] (f_l_value)) (g_l_value : mg "_law_value" = some (.ref a_l_value)) (k_l_value : PySem.W.keepIn K (.ref a_l_value) = true) (b_l_value_ : Binds K d_l_value ["_law_told", "_law_kind"] []) : FnG P w K mg base 2 f fd ["_law_row_here"] (f_l_marks) := by
  unfold f_l_marks
  exact fn_ok F sc_l_marks fun cdv A outer s H E hr =>
    (gss_cons (gs_set (i := 1) sc_l_marks.nd (ge_lst ga_nil))
      (gss_cons (gs_for PassesOwn.never rfl (gi_seq (ge_lst (ga_cons ge_str (ga_cons ge_str (ga_cons ge_str ga_nil))))) (gg_var sc_l_marks.nd) (gss_cons (gs_set (i := 3) sc_l_marks.nd ge_int)
      (gss_one (gs_for PassesOwn.never rfl (gi_rng2 b_range (ga_cons ge_int (ga_cons (ge_op go_add (ge_callB gb_len b_len PySem.boot_len (ga_cons (ge_var 0) ga_nil)) ge_int) ga_nil))) (gg_var sc_l_marks.nd) (gss_cons (gs_set (i := 5) sc_l_marks.nd (ge_call G_l_value (hr.mono (by decide)) g_l_value k_l_value b_l_value_ (ga_cons (ge_ix (gx_ix (hu64 hr)) (ge_var 0) (ge_var 3)) (ga_cons (ge_var 2) ga_nil))))
      (gss_one (gs_if (PW.pt (gw_or (gt_cmp (gc_eq (hu64 hr)) (ge_var 4) (ge_callB gb_len b_len PySem.boot_len (ga_cons (ge_var 0) ga_nil))) (gw_or1 (gt_cmp (gc_ne (hu64 hr)) (ge_call G_l_value (hr.mono (by decide)) g_l_value k_l_value b_l_value_ (ga_cons (ge_ix (gx_ix (hu64 hr)) (ge_var 0) (ge_var 4)) (ga_cons (ge_var 2) ga_nil))) (ge_var 5))))) (gss_cons (gs_if (gt_cmp (gc_ne (hu64 hr)) (ge_var 5) ge_str) (gss_one (gs_exp (ge_meth PySem.F.plainAttrs_list PySem.F.slot_list_append PySem.F.type_list_append gm_append (by decide) (ge_var 1) (ga_cons (ge_meth PySem.F.plainAttrs_str PySem.F.slot_str_join PySem.F.type_str_join gm_join (by decide) ge_str (ga_cons (ge_lst (ga_cons ge_str (ga_cons (ge_var 2) (ga_cons (ge_var 5) (ga_cons (ge_callTy gb_str b_str (by decide +kernel) (ga_cons (ge_var 3) ga_nil)) (ga_cons (ge_callTy gb_str b_str (by decide +kernel) (ga_cons (ge_op go_sub (ge_var 4) ge_int) ga_nil)) ga_nil)))))) ga_nil)) ga_nil)))) gss_nil)
      (gss_one (gs_set (i := 3) sc_l_marks.nd (ge_var 4)))) gss_nil)))))))
      (gss_one (gs_ret (ge_var 1)))))
theorem ok_l_due {f : PySem.Addr} {fd : FuncData} (F : Fun K "_law_due" "_law_due" s_l_due f fd) (b_int : mg "int" = none) (b_range : mg "range" = none) (b_len : mg "len" = none) (b_str : mg "str" = none) {a_l_marks : PySem.Addr} {d_l_marks : FuncData} (G_l_marks : FnG P w K mg base 2 a_l_marks d_l_marks ["_law_row_here"] (f_l_marks)) (g_l_marks : mg "_law_marks" = some (.ref a_l_marks)) (k_l_marks : PySem.W.keepIn K (.ref a_l_marks) = true) (b_l_marks_ : Binds K d_l_marks ["_law_row_here"] []) : FnG P w K mg base 3 f fd ["_law_entries"] (f_l_due) := by
  unfold f_l_due
  exact fn_ok F sc_l_due fun cdv A outer s H E hr =>
    (gss_cons (gs_set (i := 1) sc_l_due.nd (ge_lst ga_nil))
      (gss_cons (gs_for PassesOwn.never rfl (gi_seq (ge_var 0)) (gg_tup rfl (ggs_cons (gg_var sc_l_due.nd) (ggs_cons (gg_var sc_l_due.nd) (ggs_cons (gg_var sc_l_due.nd) (ggs_cons (gg_var sc_l_due.nd) (ggs_cons (gg_var sc_l_due.nd) ggs_nil)))))) (gss_cons (gs_exp (ge_meth PySem.F.plainAttrs_list PySem.F.slot_list_append PySem.F.type_list_append gm_append (by decide) (ge_var 1) (ga_cons (ge_op go_add (ge_op go_add ge_str (ge_var 2)) (ge_op go_mulS ge_str (ge_callTy gb_int b_int (by decide +kernel) (ga_cons (ge_cmp (gc_eq (hu64 hr)) (ge_var 2) ge_str) ga_nil)))) ga_nil)))
      (gss_one (gs_if (gt_isN (ge_var 4)) (gss_one (gs_exp (ge_meth PySem.F.plainAttrs_list PySem.F.slot_list_append PySem.F.type_list_append gm_append (by decide) (ge_var 1) (ga_cons ge_str ga_nil)))) (gss_cons (gs_set (i := 7) sc_l_due.nd ge_str)
      (gss_cons (gs_for PassesOwn.never rfl (gi_seq (ge_var 4)) (gg_var sc_l_due.nd) (gss_one (gs_set (i := 7) sc_l_due.nd (ge_op go_add (ge_var 7) (ge_ix (gx_ix (hu64 hr)) (ge_var 8) ge_int)))))
      (gss_cons (gs_set (i := 1) sc_l_due.nd (ge_op go_add (ge_op go_add (ge_var 1) (ge_op go_mul (ge_lst (ga_cons (ge_op go_add ge_str (ge_var 7)) ga_nil)) (ge_callTy gb_int b_int (by decide +kernel) (ga_cons (ge_cmp (gc_ne (hu64 hr)) (ge_var 4) (ge_lst ga_nil)) ga_nil)))) (ge_call G_l_marks (hr.mono (by decide)) g_l_marks k_l_marks b_l_marks_ (ga_cons (ge_var 4) ga_nil))))
      (gss_cons (gs_for PassesOwn.never rfl (gi_seq (ge_var 5)) (gg_tup rfl (ggs_cons (gg_var sc_l_due.nd) (ggs_cons (gg_var sc_l_due.nd) (ggs_cons (gg_var sc_l_due.nd) ggs_nil)))) (gss_cons (gs_setComp (i := 12) (own := [("_law_k", 15)]) (N := ["_law_entries", "_law_rows", "_law_number", "_law_part", "_law_row_here", "_law_notes_here", "_law_table_here", "_law_text", "_law_told", "_law_name", "_law_word", "_law_sign", "_law_places", "_law_line_words", "_law_cells", "_law_k"]) (sc := defScope s_l_due) rfl sc_l_due.nd (gi_rng1 b_range (ga_cons (ge_callB gb_len b_len PySem.boot_len (ga_cons (ge_var 4) ga_nil)) ga_nil)) rfl rfl (by decide +kernel) (fun _ _ _ _ _ => (gg_var sc_l_due.nd)) (fun _ _ _ _ _ => (gts_one (gt_cmp (gc_eq (hu64 hr)) (ge_ix (gx_ix (hu64 hr)) (ge_ix (gx_ix (hu64 hr)) (ge_var 4) (ge_var 15)) ge_int) (ge_var 11)))) (fun _ _ _ _ _ => (ge_var 15)) (sw_true rfl rfl rfl (by decide +kernel)))
      (gss_one (gs_exp (ge_meth PySem.F.plainAttrs_list PySem.F.slot_list_append PySem.F.type_list_append gm_append (by decide) (ge_var 1) (ga_cons (ge_op go_add (ge_op go_add (ge_op go_add ge_str (ge_var 10)) ge_str) (ge_ix (gx_ix (hu64 hr)) (ge_op go_add (ge_comp (own := [("_law_k", 15)]) (N := ["_law_entries", "_law_rows", "_law_number", "_law_part", "_law_row_here", "_law_notes_here", "_law_table_here", "_law_text", "_law_told", "_law_name", "_law_word", "_law_sign", "_law_places", "_law_line_words", "_law_cells", "_law_k"]) (sc := defScope s_l_due) rfl sc_l_due.nd (gi_seq (ge_var 12)) rfl rfl (by decide +kernel) (fun _ _ _ _ _ => (gg_var sc_l_due.nd)) (fun _ _ _ _ _ => gts_nil) (fun _ _ _ _ _ => (ge_callTy gb_str b_str (by decide +kernel) (ga_cons (ge_var 15) ga_nil)))) (ge_lst (ga_cons ge_str ga_nil))) ge_int)) ga_nil))))))
      (gss_one (gs_for PassesOwn.never rfl (gi_seq (ge_ix (gx_ix (hu64 hr)) (ge_var 6) ge_int)) (gg_var sc_l_due.nd) (gss_cons (gs_setComp (i := 14) (own := [("_law_word", 10)]) (N := ["_law_entries", "_law_rows", "_law_number", "_law_part", "_law_row_here", "_law_notes_here", "_law_table_here", "_law_text", "_law_told", "_law_name", "_law_word", "_law_sign", "_law_places", "_law_line_words", "_law_cells", "_law_k"]) (sc := defScope s_l_due) rfl sc_l_due.nd (gi_seq (ge_var 13)) rfl rfl (by decide +kernel) (fun _ _ _ _ _ => (gg_var sc_l_due.nd)) (fun _ _ _ _ _ => gts_nil) (fun _ _ _ _ _ => (ge_op go_add (ge_var 10) (ge_op go_mulS ge_str (ge_callTy gb_int b_int (by decide +kernel) (ga_cons (ge_cmp (gc_eq (hu64 hr)) (ge_var 10) ge_str) ga_nil))))) (sw_true rfl rfl rfl (by decide +kernel)))
      (gss_one (gs_set (i := 1) sc_l_due.nd (ge_op go_add (ge_var 1) (ge_op go_mul (ge_lst (ga_cons (ge_op go_add ge_str (ge_meth PySem.F.plainAttrs_str PySem.F.slot_str_join PySem.F.type_str_join gm_join (by decide) ge_str (ga_cons (ge_var 14) ga_nil))) ga_nil)) (ge_callTy gb_int b_int (by decide +kernel) (ga_cons (ge_cmp (gc_ne (hu64 hr)) (ge_ix (gx_ix (hu64 hr)) (ge_var 6) ge_int) (ge_lst ga_nil)) ga_nil)))))))))))))))))
      (gss_one (gs_ret (ge_meth PySem.F.plainAttrs_str PySem.F.slot_str_join PySem.F.type_str_join gm_join (by decide) ge_str (ga_cons (ge_var 1) ga_nil))))))
theorem ok_law {f : PySem.Addr} {fd : FuncData} (F : Fun K "law" "law" s_law f fd) (b_isinstance : mg "isinstance" = none) (b_str : mg "str" = none) {a_l_document : PySem.Addr} {d_l_document : FuncData} (G_l_document : FnG P w K mg base 3 a_l_document d_l_document ["_law_script"] (f_l_document)) (g_l_document : mg "_law_document" = some (.ref a_l_document)) (k_l_document : PySem.W.keepIn K (.ref a_l_document) = true) (b_l_document_ : Binds K d_l_document ["_law_script"] []) {a_shown : PySem.Addr} {d_shown : FuncData} (G_shown : FnG P w K mg base 4 a_shown d_shown ["entries"] (f_shown)) (g_shown : mg "shown" = some (.ref a_shown)) (k_shown : PySem.W.keepIn K (.ref a_shown) = true) (b_shown_ : Binds K d_shown ["entries"] []) {a_l_due : PySem.Addr} {d_l_due : FuncData} (G_l_due : FnG P w K mg base 3 a_l_due d_l_due ["_law_entries"] (f_l_due)) (g_l_due : mg "_law_due" = some (.ref a_l_due)) (k_l_due : PySem.W.keepIn K (.ref a_l_due) = true) (b_l_due_ : Binds K d_l_due ["_law_entries"] []) : FnG P w K mg base 5 f fd ["_law_script"] (f_law) := by
  unfold f_law
  exact fn_ok F sc_law fun cdv A outer s H E hr =>
    (gss_cons (gs_set (i := 1) sc_law.nd (ge_call G_l_document (hr.mono (by decide)) g_l_document k_l_document b_l_document_ (ga_cons (ge_var 0) ga_nil)))
      (gss_cons (gs_set (i := 2) sc_law.nd (ge_call G_l_document (hr.mono (by decide)) g_l_document k_l_document b_l_document_ (ga_cons (ge_var 0) ga_nil)))
      (gss_cons (gs_set (i := 3) sc_law.nd (ge_call G_shown (hr.mono (by decide)) g_shown k_shown b_shown_ (ga_cons (ge_var 1) ga_nil)))
      (gss_one (gs_ret (ge_and (ge_isT (T := "str") (by decide) (ge_var 3) b_isinstance b_str (by decide +kernel)) (ge_and (ge_cmp (gc_eq (hu64 hr)) (ge_var 3) (ge_call G_l_due (hr.mono (by decide)) g_l_due k_l_due b_l_due_ (ga_cons (ge_var 1) ga_nil))) (ge_one (ge_cmp (gc_eq (hu64 hr)) (ge_var 1) (ge_var 2))))))))))
end
theorem all_mk {l : PySem.W.OpenLaw} {w : World} {K : PySem.W.Frag} {h : Heap} {mg : Str → Option Value} {fa : PySem.Addr} (X : K.In h) (G : h.Ns mainGlobals mg) (hfa : mg "law" = some (.ref fa))
    {f0 : PySem.Addr} {oc0 kV0 dc0 pm0 cd0 ct0 : Value} {od0 an0 : Option PySem.Addr} {sl0 : Array (Option Value)}
    (a0 : PySem.W.nsIn K mainGlobals "stretches_of" = some (some (.ref f0))) (l0 : K.lookup f0 = some ⟨oc0, od0, .func (PySem.W.fnOf "stretches_of" "stretches_of" (defArgs s_stretches_of) (defBody s_stretches_of) (defScope s_stretches_of) .none kV0 dc0 pm0 an0 cd0 ct0), sl0⟩) (c0 : PySem.W.codeIn K cd0 "stretches_of" = true) (k0 : PySem.W.keepIn K (.ref f0) = true)
    {f1 : PySem.Addr} {oc1 kV1 dc1 pm1 cd1 ct1 : Value} {od1 an1 : Option PySem.Addr} {sl1 : Array (Option Value)}
    (a1 : PySem.W.nsIn K mainGlobals "mark_rows" = some (some (.ref f1))) (l1 : K.lookup f1 = some ⟨oc1, od1, .func (PySem.W.fnOf "mark_rows" "mark_rows" (defArgs s_mark_rows) (defBody s_mark_rows) (defScope s_mark_rows) .none kV1 dc1 pm1 an1 cd1 ct1), sl1⟩) (c1 : PySem.W.codeIn K cd1 "mark_rows" = true) (k1 : PySem.W.keepIn K (.ref f1) = true)
    {f2 : PySem.Addr} {oc2 kV2 dc2 pm2 cd2 ct2 : Value} {od2 an2 : Option PySem.Addr} {sl2 : Array (Option Value)}
    (a2 : PySem.W.nsIn K mainGlobals "note_rows" = some (some (.ref f2))) (l2 : K.lookup f2 = some ⟨oc2, od2, .func (PySem.W.fnOf "note_rows" "note_rows" (defArgs s_note_rows) (defBody s_note_rows) (defScope s_note_rows) .none kV2 dc2 pm2 an2 cd2 ct2), sl2⟩) (c2 : PySem.W.codeIn K cd2 "note_rows" = true) (k2 : PySem.W.keepIn K (.ref f2) = true)
    {f3 : PySem.Addr} {oc3 kV3 dc3 pm3 cd3 ct3 : Value} {od3 an3 : Option PySem.Addr} {sl3 : Array (Option Value)}
    (a3 : PySem.W.nsIn K mainGlobals "table_rows" = some (some (.ref f3))) (l3 : K.lookup f3 = some ⟨oc3, od3, .func (PySem.W.fnOf "table_rows" "table_rows" (defArgs s_table_rows) (defBody s_table_rows) (defScope s_table_rows) .none kV3 dc3 pm3 an3 cd3 ct3), sl3⟩) (c3 : PySem.W.codeIn K cd3 "table_rows" = true) (k3 : PySem.W.keepIn K (.ref f3) = true)
    {f4 : PySem.Addr} {oc4 kV4 dc4 pm4 cd4 ct4 : Value} {od4 an4 : Option PySem.Addr} {sl4 : Array (Option Value)}
    (a4 : PySem.W.nsIn K mainGlobals "entry_rows" = some (some (.ref f4))) (l4 : K.lookup f4 = some ⟨oc4, od4, .func (PySem.W.fnOf "entry_rows" "entry_rows" (defArgs s_entry_rows) (defBody s_entry_rows) (defScope s_entry_rows) .none kV4 dc4 pm4 an4 cd4 ct4), sl4⟩) (c4 : PySem.W.codeIn K cd4 "entry_rows" = true) (k4 : PySem.W.keepIn K (.ref f4) = true)
    {f5 : PySem.Addr} {oc5 kV5 dc5 pm5 cd5 ct5 : Value} {od5 an5 : Option PySem.Addr} {sl5 : Array (Option Value)}
    (a5 : PySem.W.nsIn K mainGlobals "shown" = some (some (.ref f5))) (l5 : K.lookup f5 = some ⟨oc5, od5, .func (PySem.W.fnOf "shown" "shown" (defArgs s_shown) (defBody s_shown) (defScope s_shown) .none kV5 dc5 pm5 an5 cd5 ct5), sl5⟩) (c5 : PySem.W.codeIn K cd5 "shown" = true) (k5 : PySem.W.keepIn K (.ref f5) = true)
    {f6 : PySem.Addr} {oc6 kV6 dc6 pm6 cd6 ct6 : Value} {od6 an6 : Option PySem.Addr} {sl6 : Array (Option Value)}
    (a6 : PySem.W.nsIn K mainGlobals "_law_cell_at" = some (some (.ref f6))) (l6 : K.lookup f6 = some ⟨oc6, od6, .func (PySem.W.fnOf "_law_cell_at" "_law_cell_at" (defArgs s_l_cell_at) (defBody s_l_cell_at) (defScope s_l_cell_at) .none kV6 dc6 pm6 an6 cd6 ct6), sl6⟩) (c6 : PySem.W.codeIn K cd6 "_law_cell_at" = true) (k6 : PySem.W.keepIn K (.ref f6) = true)
    {f7 : PySem.Addr} {oc7 kV7 dc7 pm7 cd7 ct7 : Value} {od7 an7 : Option PySem.Addr} {sl7 : Array (Option Value)}
    (a7 : PySem.W.nsIn K mainGlobals "_law_drawn" = some (some (.ref f7))) (l7 : K.lookup f7 = some ⟨oc7, od7, .func (PySem.W.fnOf "_law_drawn" "_law_drawn" (defArgs s_l_drawn) (defBody s_l_drawn) (defScope s_l_drawn) .none kV7 dc7 pm7 an7 cd7 ct7), sl7⟩) (c7 : PySem.W.codeIn K cd7 "_law_drawn" = true) (k7 : PySem.W.keepIn K (.ref f7) = true)
    {f8 : PySem.Addr} {oc8 kV8 dc8 pm8 cd8 ct8 : Value} {od8 an8 : Option PySem.Addr} {sl8 : Array (Option Value)}
    (a8 : PySem.W.nsIn K mainGlobals "_law_draw" = some (some (.ref f8))) (l8 : K.lookup f8 = some ⟨oc8, od8, .func (PySem.W.fnOf "_law_draw" "_law_draw" (defArgs s_l_draw) (defBody s_l_draw) (defScope s_l_draw) .none kV8 dc8 pm8 an8 cd8 ct8), sl8⟩) (c8 : PySem.W.codeIn K cd8 "_law_draw" = true) (k8 : PySem.W.keepIn K (.ref f8) = true)
    {f9 : PySem.Addr} {oc9 kV9 dc9 pm9 cd9 ct9 : Value} {od9 an9 : Option PySem.Addr} {sl9 : Array (Option Value)}
    (a9 : PySem.W.nsIn K mainGlobals "_law_row" = some (some (.ref f9))) (l9 : K.lookup f9 = some ⟨oc9, od9, .func (PySem.W.fnOf "_law_row" "_law_row" (defArgs s_l_row) (defBody s_l_row) (defScope s_l_row) .none kV9 dc9 pm9 an9 cd9 ct9), sl9⟩) (c9 : PySem.W.codeIn K cd9 "_law_row" = true) (k9 : PySem.W.keepIn K (.ref f9) = true)
    {f10 : PySem.Addr} {oc10 kV10 dc10 pm10 cd10 ct10 : Value} {od10 an10 : Option PySem.Addr} {sl10 : Array (Option Value)}
    (a10 : PySem.W.nsIn K mainGlobals "_law_notes" = some (some (.ref f10))) (l10 : K.lookup f10 = some ⟨oc10, od10, .func (PySem.W.fnOf "_law_notes" "_law_notes" (defArgs s_l_notes) (defBody s_l_notes) (defScope s_l_notes) .none kV10 dc10 pm10 an10 cd10 ct10), sl10⟩) (c10 : PySem.W.codeIn K cd10 "_law_notes" = true) (k10 : PySem.W.keepIn K (.ref f10) = true)
    {f11 : PySem.Addr} {oc11 kV11 dc11 pm11 cd11 ct11 : Value} {od11 an11 : Option PySem.Addr} {sl11 : Array (Option Value)}
    (a11 : PySem.W.nsIn K mainGlobals "_law_table" = some (some (.ref f11))) (l11 : K.lookup f11 = some ⟨oc11, od11, .func (PySem.W.fnOf "_law_table" "_law_table" (defArgs s_l_table) (defBody s_l_table) (defScope s_l_table) .none kV11 dc11 pm11 an11 cd11 ct11), sl11⟩) (c11 : PySem.W.codeIn K cd11 "_law_table" = true) (k11 : PySem.W.keepIn K (.ref f11) = true)
    {f12 : PySem.Addr} {oc12 kV12 dc12 pm12 cd12 ct12 : Value} {od12 an12 : Option PySem.Addr} {sl12 : Array (Option Value)}
    (a12 : PySem.W.nsIn K mainGlobals "_law_document" = some (some (.ref f12))) (l12 : K.lookup f12 = some ⟨oc12, od12, .func (PySem.W.fnOf "_law_document" "_law_document" (defArgs s_l_document) (defBody s_l_document) (defScope s_l_document) .none kV12 dc12 pm12 an12 cd12 ct12), sl12⟩) (c12 : PySem.W.codeIn K cd12 "_law_document" = true) (k12 : PySem.W.keepIn K (.ref f12) = true)
    {f13 : PySem.Addr} {oc13 kV13 dc13 pm13 cd13 ct13 : Value} {od13 an13 : Option PySem.Addr} {sl13 : Array (Option Value)}
    (a13 : PySem.W.nsIn K mainGlobals "_law_value" = some (some (.ref f13))) (l13 : K.lookup f13 = some ⟨oc13, od13, .func (PySem.W.fnOf "_law_value" "_law_value" (defArgs s_l_value) (defBody s_l_value) (defScope s_l_value) .none kV13 dc13 pm13 an13 cd13 ct13), sl13⟩) (c13 : PySem.W.codeIn K cd13 "_law_value" = true) (k13 : PySem.W.keepIn K (.ref f13) = true)
    {f14 : PySem.Addr} {oc14 kV14 dc14 pm14 cd14 ct14 : Value} {od14 an14 : Option PySem.Addr} {sl14 : Array (Option Value)}
    (a14 : PySem.W.nsIn K mainGlobals "_law_marks" = some (some (.ref f14))) (l14 : K.lookup f14 = some ⟨oc14, od14, .func (PySem.W.fnOf "_law_marks" "_law_marks" (defArgs s_l_marks) (defBody s_l_marks) (defScope s_l_marks) .none kV14 dc14 pm14 an14 cd14 ct14), sl14⟩) (c14 : PySem.W.codeIn K cd14 "_law_marks" = true) (k14 : PySem.W.keepIn K (.ref f14) = true)
    {f15 : PySem.Addr} {oc15 kV15 dc15 pm15 cd15 ct15 : Value} {od15 an15 : Option PySem.Addr} {sl15 : Array (Option Value)}
    (a15 : PySem.W.nsIn K mainGlobals "_law_due" = some (some (.ref f15))) (l15 : K.lookup f15 = some ⟨oc15, od15, .func (PySem.W.fnOf "_law_due" "_law_due" (defArgs s_l_due) (defBody s_l_due) (defScope s_l_due) .none kV15 dc15 pm15 an15 cd15 ct15), sl15⟩) (c15 : PySem.W.codeIn K cd15 "_law_due" = true) (k15 : PySem.W.keepIn K (.ref f15) = true)
    {f16 : PySem.Addr} {oc16 kV16 dc16 pm16 cd16 ct16 : Value} {od16 an16 : Option PySem.Addr} {sl16 : Array (Option Value)}
    (a16 : PySem.W.nsIn K mainGlobals "law" = some (some (.ref f16))) (l16 : K.lookup f16 = some ⟨oc16, od16, .func (PySem.W.fnOf "law" "law" (defArgs s_law) (defBody s_law) (defScope s_law) .none kV16 dc16 pm16 an16 cd16 ct16), sl16⟩) (c16 : PySem.W.codeIn K cd16 "law" = true) (k16 : PySem.W.keepIn K (.ref f16) = true) (z_enumerate : PySem.W.nsIn K mainGlobals "enumerate" = some none) (z_dict : PySem.W.nsIn K mainGlobals "dict" = some none) (z_sorted : PySem.W.nsIn K mainGlobals "sorted" = some none) (z_str : PySem.W.nsIn K mainGlobals "str" = some none) (z_len : PySem.W.nsIn K mainGlobals "len" = some none) (z_range : PySem.W.nsIn K mainGlobals "range" = some none) (z_int : PySem.W.nsIn K mainGlobals "int" = some none) (z_isinstance : PySem.W.nsIn K mainGlobals "isinstance" = some none) :
    ∃ fd : FuncData, (∀ (s : Shared) (v : Value), BindsTo s fd ⟨[v], []⟩ [("_law_script", v)]) ∧ ∀ base : Heap, K.In base → base.Ns mainGlobals mg → FnOk l.prog w K mg base CX0 5 fa fd ["_law_script"] (spG K w f_law) := by
  have e := hfa.symm.trans (PySem.W.mg_of X G a16)
  cases e
  have F0 := fun_mk (st := s_stretches_of) l0 c0 k0
  have b0 := F0.binds (ps := ["row", "kind"]) fun _ _ _ _ _ _ us hl => match us, hl with | [_, _], _ => rfl
  have F1 := fun_mk (st := s_mark_rows) l1 c1 k1
  have b1 := F1.binds (ps := ["row"]) fun _ _ _ _ _ _ us hl => match us, hl with | [_], _ => rfl
  have F2 := fun_mk (st := s_note_rows) l2 c2 k2
  have b2 := F2.binds (ps := ["row", "notes"]) fun _ _ _ _ _ _ us hl => match us, hl with | [_, _], _ => rfl
  have F3 := fun_mk (st := s_table_rows) l3 c3 k3
  have b3 := F3.binds (ps := ["table"]) fun _ _ _ _ _ _ us hl => match us, hl with | [_], _ => rfl
  have F4 := fun_mk (st := s_entry_rows) l4 c4 k4
  have b4 := F4.binds (ps := ["entry"]) fun _ _ _ _ _ _ us hl => match us, hl with | [_], _ => rfl
  have F5 := fun_mk (st := s_shown) l5 c5 k5
  have b5 := F5.binds (ps := ["entries"]) fun _ _ _ _ _ _ us hl => match us, hl with | [_], _ => rfl
  have F6 := fun_mk (st := s_l_cell_at) l6 c6 k6
  have b6 := F6.binds (ps := ["_law_script", "_law_k"]) fun _ _ _ _ _ _ us hl => match us, hl with | [_, _], _ => rfl
  have F7 := fun_mk (st := s_l_drawn) l7 c7 k7
  have b7 := F7.binds (ps := ["_law_cell", "_law_digits"]) fun _ _ _ _ _ _ us hl => match us, hl with | [_, _], _ => rfl
  have F8 := fun_mk (st := s_l_draw) l8 c8 k8
  have b8 := F8.binds (ps := ["_law_drawn_here", "_law_many"]) fun _ _ _ _ _ _ us hl => match us, hl with | [_, _], _ => rfl
  have F9 := fun_mk (st := s_l_row) l9 c9 k9
  have b9 := F9.binds (ps := ["_law_drawn_here"]) fun _ _ _ _ _ _ us hl => match us, hl with | [_], _ => rfl
  have F10 := fun_mk (st := s_l_notes) l10 c10 k10
  have b10 := F10.binds (ps := ["_law_drawn_here", "_law_row_here"]) fun _ _ _ _ _ _ us hl => match us, hl with | [_, _], _ => rfl
  have F11 := fun_mk (st := s_l_table) l11 c11 k11
  have b11 := F11.binds (ps := ["_law_drawn_here"]) fun _ _ _ _ _ _ us hl => match us, hl with | [_], _ => rfl
  have F12 := fun_mk (st := s_l_document) l12 c12 k12
  have b12 := F12.binds (ps := ["_law_script"]) fun _ _ _ _ _ _ us hl => match us, hl with | [_], _ => rfl
  have F13 := fun_mk (st := s_l_value) l13 c13 k13
  have b13 := F13.binds (ps := ["_law_told", "_law_kind"]) fun _ _ _ _ _ _ us hl => match us, hl with | [_, _], _ => rfl
  have F14 := fun_mk (st := s_l_marks) l14 c14 k14
  have b14 := F14.binds (ps := ["_law_row_here"]) fun _ _ _ _ _ _ us hl => match us, hl with | [_], _ => rfl
  have F15 := fun_mk (st := s_l_due) l15 c15 k15
  have b15 := F15.binds (ps := ["_law_entries"]) fun _ _ _ _ _ _ us hl => match us, hl with | [_], _ => rfl
  have F16 := fun_mk (st := s_law) l16 c16 k16
  have b16 := F16.binds (ps := ["_law_script"]) fun _ _ _ _ _ _ us hl => match us, hl with | [_], _ => rfl
  refine ⟨PySem.W.fnOf "law" "law" (defArgs s_law) (defBody s_law) (defScope s_law) .none kV16 dc16 pm16 an16 cd16 ct16, fun s v => .of_eq rfl, fun base _ _ => ?_⟩
  have b_enumerate := PySem.W.mg_none_of X G z_enumerate
  have b_dict := PySem.W.mg_none_of X G z_dict
  have b_sorted := PySem.W.mg_none_of X G z_sorted
  have b_str := PySem.W.mg_none_of X G z_str
  have b_len := PySem.W.mg_none_of X G z_len
  have b_range := PySem.W.mg_none_of X G z_range
  have b_int := PySem.W.mg_none_of X G z_int
  have b_isinstance := PySem.W.mg_none_of X G z_isinstance
  have G_stretches_of := ok_stretches_of (mg := mg) (P := l.prog) (w := w) (base := base) F0 b_enumerate b_dict
  have G_mark_rows := ok_mark_rows (mg := mg) (P := l.prog) (w := w) (base := base) F1 b_sorted G_stretches_of (PySem.W.mg_of X G a0) F0.kp b0
  have G_note_rows := ok_note_rows (mg := mg) (P := l.prog) (w := w) (base := base) F2 b_str
  have G_table_rows := ok_table_rows (mg := mg) (P := l.prog) (w := w) (base := base) F3
  have G_entry_rows := ok_entry_rows (mg := mg) (P := l.prog) (w := w) (base := base) F4 G_mark_rows (PySem.W.mg_of X G a1) F1.kp b1 G_note_rows (PySem.W.mg_of X G a2) F2.kp b2 G_table_rows (PySem.W.mg_of X G a3) F3.kp b3
  have G_shown := ok_shown (mg := mg) (P := l.prog) (w := w) (base := base) F5 G_entry_rows (PySem.W.mg_of X G a4) F4.kp b4
  have G_l_cell_at := ok_l_cell_at (mg := mg) (P := l.prog) (w := w) (base := base) F6 b_len
  have G_l_drawn := ok_l_drawn (mg := mg) (P := l.prog) (w := w) (base := base) F7
  have G_l_draw := ok_l_draw (mg := mg) (P := l.prog) (w := w) (base := base) F8
  have G_l_row := ok_l_row (mg := mg) (P := l.prog) (w := w) (base := base) F9 b_range G_l_draw (PySem.W.mg_of X G a8) F8.kp b8
  have G_l_notes := ok_l_notes (mg := mg) (P := l.prog) (w := w) (base := base) F10 b_range b_len G_l_draw (PySem.W.mg_of X G a8) F8.kp b8
  have G_l_table := ok_l_table (mg := mg) (P := l.prog) (w := w) (base := base) F11 b_range G_l_draw (PySem.W.mg_of X G a8) F8.kp b8
  have G_l_document := ok_l_document (mg := mg) (P := l.prog) (w := w) (base := base) F12 b_range b_int G_l_cell_at (PySem.W.mg_of X G a6) F6.kp b6 G_l_drawn (PySem.W.mg_of X G a7) F7.kp b7 G_l_draw (PySem.W.mg_of X G a8) F8.kp b8 G_l_row (PySem.W.mg_of X G a9) F9.kp b9 G_l_notes (PySem.W.mg_of X G a10) F10.kp b10 G_l_table (PySem.W.mg_of X G a11) F11.kp b11
  have G_l_value := ok_l_value (mg := mg) (P := l.prog) (w := w) (base := base) F13
  have G_l_marks := ok_l_marks (mg := mg) (P := l.prog) (w := w) (base := base) F14 b_range b_len b_str G_l_value (PySem.W.mg_of X G a13) F13.kp b13
  have G_l_due := ok_l_due (mg := mg) (P := l.prog) (w := w) (base := base) F15 b_int b_range b_len b_str G_l_marks (PySem.W.mg_of X G a14) F14.kp b14
  have G_law := ok_law (mg := mg) (P := l.prog) (w := w) (base := base) F16 b_isinstance b_str G_l_document (PySem.W.mg_of X G a12) F12.kp b12 G_shown (PySem.W.mg_of X G a5) F5.kp b5 G_l_due (PySem.W.mg_of X G a15) F15.kp b15
  exact G_law
end K47
open PySem PySem.W PyProof.Rows
local instance : G.Tb := G.tb0
set_option maxHeartbeats 0 in
theorem PySem.Challenge.cw_pagefolk_k47_shown_as_text_holds : PySem.Challenge.rw_pagefolk_k47_shown_as_text.Holds := by
  w_on; o_law; k_head; (case hw => w_witness2)
  k_fill
  refine L2.walk_of (l := PySem.Challenge.rw_pagefolk_k47_shown_as_text) (n := 63) (k := 5) (x := "_law_script") (CX := fun _ => L2.CX0) (sp := fun w => G.spG _ w K47.f_law) rfl (by decide) rfl ⟨rfl, by decide, by decide⟩ (fun w h Y => PySem.W.kIn_of Y) ?F (fun w H a ns hl ho hS => G.sp_law0 K47.law_holds H a ns hl ho hS) (fun _ _ _ _ _ h => h)
  case F =>
    intro w mg fa h KX G hmg
    refine' K47.all_mk KX G hmg ?a0 ?l0 ?c0 ?k0 ?a1 ?l1 ?c1 ?k1 ?a2 ?l2 ?c2 ?k2 ?a3 ?l3 ?c3 ?k3 ?a4 ?l4 ?c4 ?k4 ?a5 ?l5 ?c5 ?k5 ?a6 ?l6 ?c6 ?k6 ?a7 ?l7 ?c7 ?k7 ?a8 ?l8 ?c8 ?k8 ?a9 ?l9 ?c9 ?k9 ?a10 ?l10 ?c10 ?k10 ?a11 ?l11 ?c11 ?k11 ?a12 ?l12 ?c12 ?k12 ?a13 ?l13 ?c13 ?k13 ?a14 ?l14 ?c14 ?k14 ?a15 ?l15 ?c15 ?k15 ?a16 ?l16 ?c16 ?k16 ?z_enumerate ?z_dict ?z_sorted ?z_str ?z_len ?z_range ?z_int ?z_isinstance
    (case a0 => k_is); (case l0 => k_is); (case c0 => k_is); (case k0 => k_is); (case a1 => k_is); (case l1 => k_is); (case c1 => k_is); (case k1 => k_is); (case a2 => k_is); (case l2 => k_is); (case c2 => k_is); (case k2 => k_is); (case a3 => k_is); (case l3 => k_is); (case c3 => k_is); (case k3 => k_is); (case a4 => k_is); (case l4 => k_is); (case c4 => k_is); (case k4 => k_is); (case a5 => k_is); (case l5 => k_is); (case c5 => k_is); (case k5 => k_is); (case a6 => k_is); (case l6 => k_is); (case c6 => k_is); (case k6 => k_is); (case a7 => k_is); (case l7 => k_is); (case c7 => k_is); (case k7 => k_is); (case a8 => k_is); (case l8 => k_is); (case c8 => k_is); (case k8 => k_is); (case a9 => k_is); (case l9 => k_is); (case c9 => k_is); (case k9 => k_is); (case a10 => k_is); (case l10 => k_is); (case c10 => k_is); (case k10 => k_is); (case a11 => k_is); (case l11 => k_is); (case c11 => k_is); (case k11 => k_is); (case a12 => k_is); (case l12 => k_is); (case c12 => k_is); (case k12 => k_is); (case a13 => k_is); (case l13 => k_is); (case c13 => k_is); (case k13 => k_is); (case a14 => k_is); (case l14 => k_is); (case c14 => k_is); (case k14 => k_is); (case a15 => k_is); (case l15 => k_is); (case c15 => k_is); (case k15 => k_is); (case a16 => k_is); (case l16 => k_is); (case c16 => k_is); (case k16 => k_is); (case z_enumerate => k_is); (case z_dict => k_is); (case z_sorted => k_is); (case z_str => k_is); (case z_len => k_is); (case z_range => k_is); (case z_int => k_is); (case z_isinstance => k_is)
end
