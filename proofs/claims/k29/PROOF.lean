import PyProof.Rows.All
import PySem.Str
import KE.KeyNested
import PyProof.DictFindH
import PyProof.DictMoreH
import PyProof.DictRoadsH
import KE.KDictPairs
import HandS.ForMost
import KE.SortData
import KE.SortKeyHeap
import HandS.Lambda
import HandS.TupAny
import HandS.Wide
import HandS.Flow
import KE.DataEq
import KE.DataCmp
import KE.DataMinMax
import HandS.Style
import HandS.IsInst
import HandS.More
import HandS.Text
import HandS.RaiseMore
import KE.KNestM
import HandS.EndTab
import HandS.SortKw
import HandS.Conv
import KE.KIndexOf
import HandS.Rev
import HandS.RevTup
import KE.KDictList
import HandS.RevRange
import PyProof.CollectIter
import PyProof.FactsAll.range_iterator_1
import KE.KEqNest
import KE.DataFind
import PyProof.Rows.TupDisplay
import HandS.SortOrd
import KE.KDictWalk
import KE.KDictCopyH
import PySem.Challenge.RW_pagefolk_k29_parts_shown
section
set_option linter.all false
set_option autoImplicit false
/-! G layer, domain: values by value, an abstract heap, readings as plain functions (predicate transformers). -/
namespace G
open PySem (Str)
abbrev Addr := Nat

/-- a value: tuples (and lists, dicts that are only read) by value, what may change by its address -/
inductive D where
  | non | bl (b : Bool) | int (i : Int) | str (x : Str) | tup (ds : List D) | rl (ds : List D) | rd (ks vs : List D) | ref (a : Addr)
deriving Inhabited

mutual
def D.beq : D → D → Bool
  | .non, .non => true
  | .bl a, .bl b => a == b
  | .int a, .int b => decide (a = b)
  | .str a, .str b => decide (a = b)
  | .tup a, .tup b => D.beqL a b
  | .rl a, .rl b => D.beqL a b
  | .rd a b, .rd c d => D.beqL a c && D.beqL b d
  | .ref a, .ref b => decide (a = b)
  | _, _ => false
def D.beqL : List D → List D → Bool
  | [], [] => true
  | a :: as, b :: bs => D.beq a b && D.beqL as bs
  | _, _ => false
end
mutual
theorem D.beq_self : ∀ a : D, D.beq a a = true
  | .non => rfl
  | .bl a => by simp [D.beq]
  | .int a => by simp [D.beq]
  | .str a => by simp [D.beq]
  | .tup a => by rw [D.beq]; exact D.beqL_self a
  | .rl a => by rw [D.beq]; exact D.beqL_self a
  | .rd a b => by rw [D.beq, D.beqL_self a, D.beqL_self b]; rfl
  | .ref a => by simp [D.beq]
theorem D.beqL_self : ∀ a : List D, D.beqL a a = true
  | [] => rfl
  | a :: as => by rw [D.beqL, D.beq_self a, D.beqL_self as]; rfl
end
mutual
theorem D.eq_of_beq : ∀ a b : D, D.beq a b = true → a = b
  | .non, b, h => by cases b <;> simp_all [D.beq]
  | .bl _, b, h => by cases b <;> simp_all [D.beq]
  | .int _, b, h => by cases b <;> simp_all [D.beq]
  | .str _, b, h => by cases b <;> simp_all [D.beq]
  | .ref _, b, h => by cases b <;> simp_all [D.beq]
  | .tup xs, b, h => by
    cases b with
    | tup ys => rw [D.beq] at h; rw [D.eq_of_beqL xs ys h]
    | _ => simp [D.beq] at h
  | .rl xs, b, h => by
    cases b with
    | rl ys => rw [D.beq] at h; rw [D.eq_of_beqL xs ys h]
    | _ => simp [D.beq] at h
  | .rd xs us, b, h => by
    cases b with
    | rd ys ws =>
      rw [D.beq, Bool.and_eq_true] at h
      rw [D.eq_of_beqL xs ys h.1, D.eq_of_beqL us ws h.2]
    | _ => simp [D.beq] at h
theorem D.eq_of_beqL : ∀ a b : List D, D.beqL a b = true → a = b
  | [], b, h => by cases b <;> simp_all [D.beqL]
  | x :: xs, b, h => by
    cases b with
    | nil => simp [D.beqL] at h
    | cons y ys =>
      rw [D.beqL, Bool.and_eq_true] at h
      rw [D.eq_of_beq x y h.1, D.eq_of_beqL xs ys h.2]
end
instance : DecidableEq D := fun a b => if h : D.beq a b = true then .isTrue (D.eq_of_beq a b h) else .isFalse fun e => h (e ▸ D.beq_self a)

mutual
/-- plain data of depth n at most: None, ints, texts and tuples of such -/
def pl : Nat → D → Bool
  | _, .non => true
  | _, .int _ => true
  | _, .str _ => true
  | n + 1, .tup ds => plL n ds
  | _, _ => false
def plL : Nat → List D → Bool
  | _, [] => true
  | n, d :: ds => pl n d && plL n ds
end

/-! ### order and equality as Python has them -/
mutual
/-- a < b, of data that are alike -/
def dlt : D → D → Bool
  | .int a, .int b => decide (a < b)
  | .str a, .str b => decide (a.cps.toList < b.cps.toList)
  | .bl a, .bl b => !a && b
  | .tup a, .tup b => dltL a b
  | _, _ => false
def dltL : List D → List D → Bool
  | [], [] => false
  | [], _ :: _ => true
  | _ :: _, [] => false
  | x :: xs, y :: ys => dlt x y || (decide (x = y) && dltL xs ys)
end
mutual
/-- the two can be compared, place by place -/
def alk : D → D → Bool
  | .non, .non => true
  | .bl _, .bl _ => true
  | .int _, .int _ => true
  | .str _, .str _ => true
  | .tup a, .tup b => alkL a b
  | _, _ => false
def alkL : List D → List D → Bool
  | x :: xs, y :: ys => alk x y && alkL xs ys
  | [], _ => true
  | _ :: _, [] => true
end
def dle (rev : Bool) (a b : D) : Bool := if rev then !dlt a b else !dlt b a
mutual
/-- data of depth n at most: None, truths, ints, texts and tuples of such -/
def dat : Nat → D → Bool
  | _, .non => true
  | _, .bl _ => true
  | _, .int _ => true
  | _, .str _ => true
  | n + 1, .tup ds => datL n ds
  | _, _ => false
def datL : Nat → List D → Bool
  | _, [] => true
  | n, d :: ds => dat n d && datL n ds
end
mutual
/-- Python's == of data by value -/
def deqv : D → D → Bool
  | .non, .non => true
  | .bl a, .bl b => a == b
  | .bl a, .int j => (if a then 1 else 0) == j
  | .int i, .bl b => i == (if b then 1 else 0)
  | .int a, .int b => a == b
  | .str a, .str b => a == b
  | .tup a, .tup b => deqvL a b
  | .rl a, .rl b => deqvL a b
  | _, _ => false
def deqvL : List D → List D → Bool
  | [], [] => true
  | x :: xs, y :: ys => deqv x y && deqvL xs ys
  | _, _ => false
end

/-! ### the heap -/
inductive O where
  | lst (ds : List D) | dic (kvs : List (D × D)) | ins (C : Addr) (fs : List (Str × D))
abbrev AH := Addr → Option O
def up (h : AH) (a : Addr) (o : O) : AH := fun b => if b = a then some o else h b
@[simp] theorem up_same {h : AH} {a : Addr} {o : O} : up h a o a = some o := by simp [up]
theorem up_ne {h : AH} {a b : Addr} {o : O} (e : b ≠ a) : up h a o b = h b := by simp [up, e]
@[simp] theorem up_up {h : AH} {a : Addr} {o u : O} : up (up h a o) a u = up h a u := by funext b; unfold up; split <;> rfl
theorem up_none {h : AH} {a b : Addr} {o : O} : up h a o b = none ↔ b ≠ a ∧ h b = none := by
  unfold up; by_cases e : b = a <;> simp [e]
theorem up_comm {h : AH} {a b : Addr} {o u : O} (e : a ≠ b) : up (up h a o) b u = up (up h b u) a o := by
  funext c; unfold up; by_cases h1 : c = a <;> by_cases h2 : c = b <;> simp_all
theorem up_self {h : AH} {a : Addr} {o : O} (e : h a = some o) : up h a o = h := by
  funext c; unfold up; by_cases h1 : c = a <;> simp_all
/-- h0 is a part of h -/
def Sb (h0 h : AH) : Prop := ∀ a o, h0 a = some o → h a = some o
theorem Sb.refl (h : AH) : Sb h h := fun _ _ e => e
theorem Sb.trans {a b c : AH} (x : Sb a b) (y : Sb b c) : Sb a c := fun p o e => y p o (x p o e)
theorem Sb.upn {h0 h : AH} {a : Addr} {o : O} (x : Sb h0 h) (e : h a = none) : Sb h0 (up h a o) := fun p u q => by
  have q' := x p u q
  have : p ≠ a := fun z => by rw [z, e] at q'; cases q'
  rw [up_ne this]; exact q'
theorem Sb.both {h0 h : AH} {a : Addr} {o : O} (x : Sb h0 h) : Sb (up h0 a o) (up h a o) := fun p u q => by
  by_cases e : p = a
  · subst e; rw [up_same] at q; rw [up_same]; exact q
  · rw [up_ne e] at q; rw [up_ne e]; exact x p u q
theorem ne_of {h : AH} {a b : Addr} {o : O} (x : h a = some o) (y : h b = none) : a ≠ b := fun e => by rw [e, y] at x; cases x
theorem ne_of' {h : AH} {a b : Addr} {o : O} (x : h a = some o) (y : h b = none) : b ≠ a := fun e => by rw [← e, y] at x; cases x
/-- P of a part of h -/
def Pt (P : AH → Prop) (h : AH) : Prop := ∃ h0, Sb h0 h ∧ P h0
theorem Pt.of {P : AH → Prop} {h : AH} (x : P h) : Pt P h := ⟨h, Sb.refl h, x⟩

/-- the largest number of items -/
def SZ : Nat := 16777216
/-- a list's items, whatever it is held by -/
def lsOf (h : AH) : D → Option (List D)
  | .rl ds => some ds
  | .ref a => match h a with
    | some (.lst ds) => some ds
    | _ => none
  | _ => none
/-- the items of a list or a tuple -/
def sqOf (h : AH) : D → Option (List D)
  | .tup ds => some ds
  | d => lsOf h d
/-- a dict's entries -/
def dcOf (h : AH) : D → Option (List (D × D))
  | .rd ks vs => some (ks.zip vs)
  | .ref a => match h a with
    | some (.dic kvs) => some kvs
    | _ => none
  | _ => none
def mapO {α β : Type} (f : α → Option β) : List α → Option (List β)
  | [] => some []
  | d :: ds => match f d, mapO f ds with
    | some e, some es => some (e :: es)
    | _, _ => none
/-- lists at addresses put by value, n levels of lists and tuples at most -/
def rei (h : AH) : Nat → D → Option D
  | _, .non => some .non
  | _, .bl b => some (.bl b)
  | _, .int i => some (.int i)
  | _, .str x => some (.str x)
  | n + 1, .tup ds => (mapO (rei h n) ds).map .tup
  | n + 1, .rl ds => (mapO (rei h n) ds).map .rl
  | n + 1, .ref a => match h a with
    | some (.lst ds) => (mapO (rei h n) ds).map .rl
    | _ => none
  | _, _ => none
def dget : List (D × D) → D → Option D
  | [], _ => none
  | (a, b) :: r, k => if a = k then some b else dget r k
def dput : List (D × D) → D → D → List (D × D)
  | [], k, v => [(k, v)]
  | (a, b) :: r, k, v => if a = k then (a, v) :: r else (a, b) :: dput r k v

/-! ### readings -/
abbrev Lo := List (Option D)
abbrev KD := D → AH → Prop
abbrev DE := Lo → AH → KD → Prop
abbrev DT := Lo → AH → (Bool → AH → Prop) → Prop
abbrev DA := Lo → AH → (List D → AH → Prop) → Prop
structure Fin where
  nx : Lo → AH → Prop
  rt : KD
  bk : Lo → AH → Prop := fun _ _ => False
  ct : Lo → AH → Prop := fun _ _ => False
abbrev DS := Fin → Lo → AH → Prop
/-- a def, from its arguments -/
abbrev FS := List D → AH → KD → Prop

def onV : Option (Option D) → (D → Prop) → Prop
  | some (some d), Q => Q d
  | _, _ => False
def onB : Option Bool → (Bool → Prop) → Prop
  | some b, Q => Q b
  | none, _ => False
def onT (b : Bool) (p q : Prop) : Prop := match b with
  | true => p
  | false => q
def isBl : D → (Bool → Prop) → Prop
  | .bl b, Q => Q b
  | _, _ => False
def isInt : D → (Int → Prop) → Prop
  | .int i, Q => Q i
  | _, _ => False
def isTup : D → (List D → Prop) → Prop
  | .tup ds, Q => Q ds
  | _, _ => False
def isCons : List D → (D → List D → Prop) → Prop
  | d :: ds, Q => Q d ds
  | [], _ => False
def isNil : List D → Prop → Prop
  | [], Q => Q
  | _, _ => False
def dVar (i : Nat) : DE := fun ρ h Q => onV ρ[i]? fun d => Q d h
def dC (d : D) : DE := fun _ h Q => Q d h
abbrev dInt (i : Int) : DE := dC (.int i)
abbrev dStr (x : Str) : DE := dC (.str x)
abbrev dNon : DE := dC .non
abbrev dBl (b : Bool) : DE := dC (.bl b)
def daNil : DA := fun _ h Q => Q [] h
def daCons (a : DE) (r : DA) : DA := fun ρ h Q => a ρ h fun x h1 => r ρ h1 fun xs h2 => Q (x :: xs) h2
def dTup (as : DA) : DE := fun ρ h Q => as ρ h fun ds h1 => ds.length ≤ SZ ∧ Q (.tup ds) h1
@[irreducible] def newL (ds : List D) (h : AH) (Q : KD) : Prop := ∀ p, h p = none → Q (.ref p) (up h p (.lst ds))
@[irreducible] def newD (kvs : List (D × D)) (h : AH) (Q : KD) : Prop := ∀ p, h p = none → Q (.ref p) (up h p (.dic kvs))
theorem newL.go {ds : List D} {h : AH} {Q : KD} (q : newL ds h Q) : ∀ p, h p = none → Q (.ref p) (up h p (.lst ds)) := by unfold newL at q; exact q
theorem newD.go {ds : List (D × D)} {h : AH} {Q : KD} (q : newD ds h Q) : ∀ p, h p = none → Q (.ref p) (up h p (.dic ds)) := by unfold newD at q; exact q
def dLst (as : DA) : DE := fun ρ h Q => as ρ h fun ds h1 => ds.length ≤ SZ ∧ newL ds h1 Q

/-- two expressions and what is made of their values -/
def d2 (f : D → D → AH → KD → Prop) (a b : DE) : DE := fun ρ h Q => a ρ h fun x h1 => b ρ h1 fun y h2 => f x y h2 Q
def d1 (f : D → AH → KD → Prop) (a : DE) : DE := fun ρ h Q => a ρ h fun x h1 => f x h1 Q

def mulOk (i j : Int) : Prop := (-(2 ^ 64) < i ∧ i < 2 ^ 64) ∨ (-(2 ^ 64) < j ∧ j < 2 ^ 64) ∨ (i.natAbs < 2 ^ 8000 ∧ j.natAbs < 2 ^ 8000)
@[irreducible] def addR (a b : Addr) (h : AH) (Q : KD) : Prop := match h a, h b with
  | some (.lst xs), some (.lst ys) => xs.length + ys.length ≤ SZ ∧ newL (xs ++ ys) h Q
  | _, _ => False
def oAdd : D → D → AH → KD → Prop
  | .int i, .int j, h, Q => Q (.int (i + j)) h
  | .str x, .str y, h, Q => x.length + y.length ≤ SZ ∧ Q (.str (x ++ y)) h
  | .tup x, .tup y, h, Q => x.length + y.length ≤ SZ ∧ Q (.tup (x ++ y)) h
  | .ref a, .ref b, h, Q => addR a b h Q
  | _, _, _, _ => False
def oAddI : D → D → AH → KD → Prop
  | .int i, .int j, h, Q => Q (.int (i + j)) h
  | _, _, _, _ => False
def oSub : D → D → AH → KD → Prop
  | .int i, .int j, h, Q => Q (.int (i - j)) h
  | _, _, _, _ => False
/-- a list times an int -/
@[irreducible] def mulR (a : Addr) (k : Int) (h : AH) (Q : KD) : Prop := match h a with
  | some (.lst xs) => (-(2 ^ 62) ≤ k ∧ k < 2 ^ 62) ∧ xs.length * k.toNat ≤ SZ ∧ newL (List.replicate k.toNat xs).flatten h Q
  | _ => False
def oMul : D → D → AH → KD → Prop
  | .int i, .int j, h, Q => mulOk i j ∧ Q (.int (i * j)) h
  | .ref a, .int k, h, Q => mulR a k h Q
  | _, _, _, _ => False
def oDiv : D → D → AH → KD → Prop
  | .int i, .int j, h, Q => 0 < j ∧ j < 2 ^ 64 ∧ Q (.int (i / j)) h
  | _, _, _, _ => False
def oMod : D → D → AH → KD → Prop
  | .int i, .int j, h, Q => 0 < j ∧ Q (.int (i % j)) h
  | _, _, _, _ => False
def oPow : D → D → AH → KD → Prop
  | .int i, .int j, h, Q => 0 ≤ j ∧ j ≤ 1000000 ∧ i.natAbs < 2 ^ 64 ∧ Q (.int (i ^ j.toNat)) h
  | _, _, _, _ => False
def oNeg : D → AH → KD → Prop
  | .int i, h, Q => Q (.int (-i)) h
  | _, _, _ => False
/-- dicts of plain values -/
def dOkE (h : AH) (kvs : List (D × D)) : Prop := ∀ p ∈ kvs, ∃ z, rei h 10 p.2 = some z
/-- one dict's entry is in the other -/
def hitE (h : AH) (kb : List (D × D)) (p : D × D) : Bool := match dget kb p.1 with
  | none => false
  | some v => match rei h 10 p.2, rei h 10 v with
    | some a, some b => deqv a b
    | _, _ => false
/-- == of two dicts -/
def dEqB (h : AH) (a b : Addr) (Q : Bool → Prop) : Prop := match h a, h b with
  | some (.dic ka), some (.dic kb) => dOkE h ka ∧ dOkE h kb ∧ Q (ka.length == kb.length && ka.all (hitE h kb))
  | _, _ => False
/-- == of the two, as the heap has them -/
def oEqB (x y : D) (h : AH) (Q : Bool → Prop) : Prop := match rei h 12 x, rei h 12 y with
  | some x', some y' => Q (deqv x' y')
  | _, _ => match x, y with
    | .ref a, .ref b => dEqB h a b Q
    | _, _ => False
/-- == of two tuples of two dicts -/
structure oEqT (x y : D) (h : AH) (Q : KD) : Prop where
  un : ∃ a b c d, x = .tup [.ref a, .ref b] ∧ y = .tup [.ref c, .ref d] ∧ a ≠ c ∧ b ≠ d ∧ dEqB h a c fun r => dEqB h b d fun r' => Q (.bl (r && r')) h
structure oEq (x y : D) (h : AH) (Q : KD) : Prop where
  un : oEqB x y h fun b => Q (.bl b) h
structure oNe (x y : D) (h : AH) (Q : KD) : Prop where
  un : oEqB x y h fun b => Q (.bl (!b)) h
/-- a < b -/
def oLtB : D → D → (Bool → Prop) → Prop
  | .int i, .int j, Q => Q (decide (i < j))
  | .str x, .str y, Q => Q (decide (x.cps.toList < y.cps.toList))
  | .tup x, .tup y, Q => alkL x y = true ∧ datL 12 x = true ∧ datL 12 y = true ∧ Q (dltL x y)
  | _, _, _ => False
def oLt (x y : D) (h : AH) (Q : KD) : Prop := oLtB x y fun b => Q (.bl b) h
def oGt (x y : D) (h : AH) (Q : KD) : Prop := oLtB y x fun b => Q (.bl b) h
def oLe : D → D → AH → KD → Prop
  | .int i, .int j, h, Q => Q (.bl (decide (i ≤ j))) h
  | .tup x, .tup y, h, Q => (alkL x y = true ∧ datL 12 x = true ∧ datL 12 y = true) ∧ Q (.bl (!dltL y x)) h
  | _, _, _, _ => False
def oGe : D → D → AH → KD → Prop
  | .int i, .int j, h, Q => Q (.bl (decide (j ≤ i))) h
  | .tup x, .tup y, h, Q => (alkL x y = true ∧ datL 12 x = true ∧ datL 12 y = true) ∧ Q (.bl (!dltL x y)) h
  | _, _, _, _ => False
def oIsN (x : D) (h : AH) (Q : KD) : Prop := Q (.bl (decide (x = .non))) h
def oNotN (x : D) (h : AH) (Q : KD) : Prop := Q (.bl (!decide (x = .non))) h

/-! truth -/
def tru (h : AH) : D → Option Bool
  | .non => some false
  | .bl b => some b
  | .int i => some (i != 0)
  | .str x => some (x.length != 0)
  | .tup ds => some (!ds.isEmpty)
  | .rl ds => some (!ds.isEmpty)
  | .ref a => match h a with
    | some (.lst ds) => some (!ds.isEmpty)
    | _ => none
  | _ => none
/-- an expression as a test -/
def tV (e : DE) : DT := fun ρ h Q => e ρ h fun d h1 => onB (tru h1 d) fun b => Q b h1
/-- a comparison as a test -/
def tQ (e : DE) : DT := fun ρ h Q => e ρ h fun d h1 => isBl d fun b => Q b h1
def tNot (t : DT) : DT := fun ρ h Q => t ρ h fun b h1 => Q (!b) h1
def tAnd (s t : DT) : DT := fun ρ h Q => s ρ h fun b h1 => onT b (t ρ h1 Q) (Q false h1)
def tOr (s t : DT) : DT := fun ρ h Q => s ρ h fun b h1 => onT b (Q true h1) (t ρ h1 Q)
/-- a and b, a or b, not a as values -/
def dAnd (a b : DE) : DE := fun ρ h Q => a ρ h fun x h1 => onB (tru h1 x) fun c => onT c (b ρ h1 Q) (Q x h1)
def dOr (a b : DE) : DE := fun ρ h Q => a ρ h fun x h1 => onB (tru h1 x) fun c => onT c (Q x h1) (b ρ h1 Q)
def dNot (a : DE) : DE := fun ρ h Q => a ρ h fun x h1 => onB (tru h1 x) fun c => Q (.bl (!c)) h1
def dIfE (t : DT) (a b : DE) : DE := fun ρ h Q => t ρ h fun c h1 => onT c (a ρ h1 Q) (b ρ h1 Q)
/-- a op b op' c -/
def dCh (f g : D → D → AH → KD → Prop) (a b c : DE) : DE := fun ρ h Q => a ρ h fun x h1 => b ρ h1 fun y h2 => f x y h2 fun r h3 => isBl r fun t => onT t (c ρ h3 fun z h4 => g y z h4 Q) (Q (.bl false) h3)

/-! subscripts -/
/-- the place that an index names -/
def ixN (n : Nat) (i : Int) : Option Nat := if 0 ≤ i then (if i < n then some i.toNat else none) else if -(n : Int) ≤ i then some (i + n).toNat else none
def atI {α : Type} (xs : List α) (i : Int) : Option α := (ixN xs.length i).bind fun j => xs[j]?
structure oIx (x y : D) (h : AH) (Q : KD) : Prop where
  un : match dcOf h x with
    | some kvs => pl 8 y = true ∧ ∃ v, dget kvs y = some v ∧ Q v h
    | none => match y with
      | .int i => match x with
        | .str s => ∃ c, atI s.cps.toList i = some c ∧ Q (.str ⟨#[c]⟩) h
        | _ => match sqOf h x with
          | some ds => ∃ d, atI ds i = some d ∧ Q d h
          | none => False
      | _ => False

/-- x in y -/
def oInB (x y : D) (h : AH) (Q : Bool → Prop) : Prop := match dcOf h y with
  | some kvs => pl 8 x = true ∧ Q (decide (x ∈ kvs.map (·.1)))
  | none => match y with
    | .str s => match x with
      | .str t => ∃ c, t.cps.toList = [c] ∧ Q (decide (c ∈ s.cps.toList))
      | _ => False
    | _ => match rei h 12 x, (sqOf h y).bind (mapO (rei h 12)) with
      | some x', some ys => Q (ys.any fun y' => deqv y' x')
      | _, _ => False
structure oIn (x y : D) (h : AH) (Q : KD) : Prop where
  un : oInB x y h fun b => Q (.bl b) h
structure oNotIn (x y : D) (h : AH) (Q : KD) : Prop where
  un : oInB x y h fun b => Q (.bl (!b)) h

/-! ### statements -/
def dSeq (s t : DS) : DS := fun F => s { F with nx := t F }
def dNx : DS := fun F ρ h => F.nx ρ h
def dBrk : DS := fun F ρ h => F.bk ρ h
def dCnt : DS := fun F ρ h => F.ct ρ h
def dExp (e : DE) : DS := fun F ρ h => e ρ h fun _ h1 => F.nx ρ h1
def dRet (e : DE) : DS := fun F ρ h => e ρ h F.rt
def dRetN : DS := fun F _ h => F.rt .non h
def dIf (t : DT) (a b : DS) : DS := fun F ρ h => t ρ h fun c h1 => onT c (a F ρ h1) (b F ρ h1)
def dDead : DS := fun _ _ _ => False
/-- targets -/
abbrev DG := D → Lo → AH → (Lo → AH → Prop) → Prop
abbrev DGs := List D → Lo → AH → (Lo → AH → Prop) → Prop
def gVar (i : Nat) : DG := fun d ρ h Q => Q (ρ.set i (some d)) h
def gNil : DGs := fun ds ρ h Q => isNil ds (Q ρ h)
def gCons (g : DG) (r : DGs) : DGs := fun ds ρ h Q => isCons ds fun d ds => g d ρ h fun ρ1 h1 => r ds ρ1 h1 Q
def gTup (n : Nat) (gs : DGs) : DG := fun d ρ h Q => isTup d fun ds => ds.length = n ∧ gs ds ρ h Q
/-- xs[i] = v, d[k] = v -/
structure oPut (x y v : D) (h : AH) (Q : AH → Prop) : Prop where
  un : match x with
    | .ref a => match h a with
      | some (.lst ds) => match y with
        | .int i => ∃ k, ixN ds.length i = some k ∧ Q (up h a (.lst (ds.set k v)))
        | _ => False
      | some (.dic kvs) => pl 8 y = true ∧ kvs.length < SZ ∧ Q (up h a (.dic (dput kvs y v)))
      | _ => False
    | _ => False
def gSub (o i : DE) : DG := fun d ρ h Q => o ρ h fun x h1 => i ρ h1 fun y h2 => oPut x y d h2 fun h3 => Q ρ h3
def dAsg (e : DE) (g : DG) : DS := fun F ρ h => e ρ h fun d h1 => g d ρ h1 F.nx
abbrev dSet (i : Nat) (e : DE) : DS := dAsg e (gVar i)
/-- x += e of ints -/
def dAug (f : D → D → AH → KD → Prop) (i : Nat) (e : DE) : DS := fun F ρ h => onV ρ[i]? fun x => e ρ h fun y h1 => f x y h1 fun z h2 => F.nx (ρ.set i (some z)) h2

/-! ### loops -/
def dWhile (c : DT) (b : DS) : DS := fun F ρ h => ∃ I : Nat → Lo → AH → Prop, (∃ m, I m ρ h) ∧ ∀ m ρ h, I m ρ h →
  c ρ h fun t h1 => onT t (b { nx := fun ρ' h' => Pt (fun h0 => ∃ m', m' < m ∧ I m' ρ' h0) h', ct := fun ρ' h' => Pt (fun h0 => ∃ m', m' < m ∧ I m' ρ' h0) h', bk := F.nx, rt := F.rt } ρ h1)
  (F.nx ρ h1)
/-- what a loop walks: the items, and what must be so of the heap meanwhile -/
structure Src where
  ds : List D
  ok : AH → Prop
abbrev DI := Lo → AH → (Src → AH → Prop) → Prop
def dFor (it : DI) (g : DG) (b : DS) : DS := fun F ρ h => it ρ h fun S h1 => ∃ I : Nat → Lo → AH → Prop, I 0 ρ h1 ∧ (∀ i ρ h, i ≤ S.ds.length → I i ρ h → S.ok h) ∧
  (∀ i ρ h d, I i ρ h → S.ds[i]? = some d → g d ρ h fun ρ1 h1 => b { nx := fun ρ' h' => Pt (I (i + 1) ρ') h', ct := fun ρ' h' => Pt (I (i + 1) ρ') h', bk := F.nx, rt := F.rt } ρ1 h1) ∧
  ∀ ρ h, I S.ds.length ρ h → F.nx ρ h
def wipe (ρ : Lo) : List Nat → Lo
  | [] => ρ
  | v :: vs => (wipe ρ vs).set v none
/-- [e for g in it if t] -/
def dComp (it : DI) (g : DG) (t : DT) (e : DE) (own : List Nat) : DE := fun ρ h Q => it ρ h fun S h1 => ∀ p, h1 p = none → ∃ I : Nat → List D → AH → Prop, I 0 [] (up h1 p (.lst [])) ∧
  (∀ i acc h, i ≤ S.ds.length → I i acc h → S.ok h ∧ h p = some (.lst acc)) ∧
  (∀ i acc h d, I i acc h → S.ds[i]? = some d → g d (wipe ρ own) h fun ρ1 h1 => t ρ1 h1 fun b h2 =>
    onT b (e ρ1 h2 fun y h3 => acc.length < SZ ∧ h3 p = some (.lst acc) ∧ Pt (I (i + 1) (acc ++ [y])) (up h3 p (.lst (acc ++ [y])))) (Pt (I (i + 1) acc) h2)) ∧
  ∀ acc h, I S.ds.length acc h → Q (.ref p) h
def tYes : DT := fun _ h Q => Q true h

def srcL (a : Addr) (ds : List D) : Src := ⟨ds, fun h => h a = some (.lst ds)⟩
def srcV (ds : List D) : Src := ⟨ds, fun _ => True⟩
/-- a dict's keys: it may get other values meanwhile -/
def srcK (a : Addr) (ks : List D) : Src := ⟨ks, fun h => ∃ kvs, h a = some (.dic kvs) ∧ kvs.map (·.1) = ks⟩
/-- what is walked of a list or tuple by value or at an address -/
@[irreducible] def walkD (h : AH) (x : D) (R : Src → AH → Prop) : Prop := match x with
  | .tup ds => R (srcV ds) h
  | .rl ds => R (srcV ds) h
  | .ref a => match h a with
    | some (.lst ds) => R (srcL a ds) h
    | some (.dic kvs) => R (srcK a (kvs.map (·.1))) h
    | _ => False
  | _ => False
/-- a dict's entries, as pairs: it stays as it is meanwhile -/
def srcI (a : Addr) (kvs : List (D × D)) : Src := ⟨kvs.map fun p => .tup [p.1, p.2], fun h => h a = some (.dic kvs)⟩
@[irreducible] def walkI (h : AH) (x : D) (R : Src → AH → Prop) : Prop := match x with
  | .ref a => match h a with
    | some (.dic kvs) => R (srcI a kvs) h
    | _ => False
  | _ => False
def iItems (e : DE) : DI := fun ρ h R => e ρ h fun x h1 => walkI h1 x R
def iSeq (e : DE) : DI := fun ρ h R => e ρ h fun x h1 => walkD h1 x R
def rng (lo : Int) (n : Nat) : List D := (List.range n).map fun i => .int (lo + (i : Nat))
def iRng1 (as : DA) : DI := fun ρ h R => as ρ h fun xs h1 => match xs with
  | [.int j] => -(2 ^ 62) ≤ j ∧ j < 2 ^ 62 ∧ R (srcV (rng 0 j.toNat)) h1
  | _ => False
def iRng2 (as : DA) : DI := fun ρ h R => as ρ h fun xs h1 => match xs with
  | [.int i, .int j] => (-(2 ^ 62) ≤ i ∧ i < 2 ^ 62 ∧ -(2 ^ 62) ≤ j ∧ j < 2 ^ 62) ∧ R (srcV (rng i (j - i).toNat)) h1
  | _ => False
def enumD (i : Nat) : List D → List D
  | [] => []
  | d :: ds => .tup [.int i, d] :: enumD (i + 1) ds
/-- reversed(range(j)) -/
def iRevRng (as : DA) : DI := fun ρ h R => as ρ h fun xs h1 => match xs with
  | [.int j] => -(2 ^ 62) ≤ j ∧ j < 2 ^ 62 ∧ R (srcV (rng 0 j.toNat).reverse) h1
  | _ => False
/-- list(reversed(range(j))) -/
def dRevRng (as : DA) : DE := fun ρ h Q => as ρ h fun xs h1 => match xs with
  | [.int j] => -(2 ^ 62) ≤ j ∧ j ≤ SZ ∧ newL (rng 0 j.toNat).reverse h1 Q
  | _ => False
/-- a list alone, by value or at an address -/
@[irreducible] def walkL (h : AH) (x : D) (R : Src → AH → Prop) : Prop := match x with
  | .rl ds => R (srcV ds) h
  | .ref a => match h a with
    | some (.lst ds) => R (srcL a ds) h
    | _ => False
  | _ => False
def iEnum (as : DA) : DI := fun ρ h R => as ρ h fun xs h1 => match xs with
  | [x] => walkL h1 x fun S h2 => R ⟨enumD 0 S.ds, S.ok⟩ h2
  | _ => False
def zipD : List D → List D → List D
  | x :: xs, y :: ys => .tup [x, y] :: zipD xs ys
  | _, _ => []
def iZip (as : DA) : DI := fun ρ h R => as ρ h fun xs h1 => match xs with
  | [x, y] => walkL h1 x fun S h3 => walkL h3 y fun T h4 => R ⟨zipD S.ds T.ds, fun h => S.ok h ∧ T.ok h⟩ h4
  | _ => False

/-! ### defs -/
def start (n : Nat) (ds : List D) : Lo := ds.map some ++ List.replicate (n - ds.length) none
/-- a def of n names and k parameters: what is no longer asked of the heap is forgotten at its end -/
def fnOf (n k : Nat) (b : DS) : FS := fun ds h Q => ds.length = k ∧ b { nx := fun _ h' => Pt (Q .non) h', rt := fun d h' => Pt (Q d) h' } (start n ds) h
def dCall (f : FS) (as : DA) : DE := fun ρ h Q => as ρ h fun ds h1 => f ds h1 Q

/-! ### built-ins -/
/-- how far a slice goes -/
def sIx (n : Nat) (dflt : Nat) : Option Int → Nat
  | none => dflt
  | some i => if i < 0 then (i + (n : Int)).toNat else min i.toNat n
def cut {α : Type} (xs : List α) (lo hi : Option Int) : List α := (xs.drop (sIx xs.length 0 lo)).take (sIx xs.length xs.length hi - sIx xs.length 0 lo)
abbrev DO := Lo → AH → (Option Int → AH → Prop) → Prop
def doNone : DO := fun _ h Q => Q none h
def doSome (e : DE) : DO := fun ρ h Q => e ρ h fun d h1 => isInt d fun i => Q (some i) h1
@[irreducible] def oSl (x : D) (lo hi : Option Int) (h : AH) (Q : KD) : Prop := match x with
  | .str s => Q (.str ⟨(cut s.cps.toList lo hi).toArray⟩) h
  | .tup ds => Q (.tup (cut ds lo hi)) h
  | x => match lsOf h x with
    | some ds => newL (cut ds lo hi) h Q
    | none => False
def dSl (e : DE) (lo hi : DO) : DE := fun ρ h Q => e ρ h fun x h1 => lo ρ h1 fun l h2 => hi ρ h2 fun u h3 => oSl x l u h3 Q
/-- xs[::-1] -/
@[irreducible] def oRevSl (x : D) (h : AH) (Q : KD) : Prop := match lsOf h x with
  | some ds => newL ds.reverse h Q
  | none => False
@[irreducible] def bLen : FS
  | [x], h, Q => match x with
    | .str s => Q (.int s.length) h
    | _ => match sqOf h x with
      | some ds => Q (.int ds.length) h
      | none => False
  | _, _, _ => False
def intsOf : List D → Option (List Int)
  | [] => some []
  | .int i :: r => (intsOf r).map (i :: ·)
  | _ => none
@[irreducible] def bSum : FS
  | [x], h, Q => match (lsOf h x).bind intsOf with
    | some ns => Q (.int ns.sum) h
    | none => False
  | _, _, _ => False
/-- list(x) -/
@[irreducible] def bList : FS
  | [x], h, Q => match sqOf h x with
    | some ds => newL ds h Q
    | none => match dcOf h x with
      | some kvs => newL (kvs.map (·.1)) h Q
      | none => False
  | _, _, _ => False
/-- what dict(pairs) holds -/
def pairsOf : List D → Option (List (D × D))
  | [] => some []
  | .tup [k, v] :: r => (pairsOf r).map ((k, v) :: ·)
  | _ => none
def dputs (kvs : List (D × D)) (ps : List (D × D)) : List (D × D) := ps.foldl (fun m p => dput m p.1 p.2) kvs
@[irreducible] def bDict : FS
  | [x], h, Q => match (lsOf h x).bind pairsOf with
    | some ps => (∀ p ∈ ps, pl 8 p.1 = true) ∧ newD (dputs [] ps) h Q
    | none => False
  | _, _, _ => False
/-- what may be sorted: all alike, tuples none of which is empty, or no tuples and no None -/
def sortable (ds : List D) : Prop := (∀ a ∈ ds, ∀ b ∈ ds, alk a b = true) ∧ (∀ a ∈ ds, dat 12 a = true) ∧ ((∀ d ∈ ds, ∃ x r, d = .tup (x :: r)) ∨ ∀ d ∈ ds, d ≠ .non ∧ ∀ xs, d ≠ .tup xs)
@[irreducible] def bSorted (rev : Bool) : FS
  | [x], h, Q => match lsOf h x with
    | some ds => sortable ds ∧ newL (ds.mergeSort (dle rev)) h Q
    | none => False
  | _, _, _ => False
/-- sorted(xs), or of a dict's keys -/
@[irreducible] def bSortD : FS
  | [x], h, Q => match lsOf h x with
    | some ds => sortable ds ∧ newL (ds.mergeSort (dle false)) h Q
    | none => match dcOf h x with
      | some kvs => sortable (kvs.map (·.1)) ∧ newL ((kvs.map (·.1)).mergeSort (dle false)) h Q
      | none => False
  | _, _, _ => False
/-- isinstance(x, T) of the built-in T -/
def isT (T : String) (h : AH) : D → Option Bool
  | .non => some (T == "NoneType")
  | .bl _ => some (T == "bool" || T == "int")
  | .int _ => some (T == "int")
  | .str _ => some (T == "str")
  | .tup _ => some (T == "tuple")
  | .rl _ => some (T == "list")
  | .rd _ _ => some (T == "dict")
  | .ref a => match h a with
    | some (.lst _) => some (T == "list")
    | some (.dic _) => some (T == "dict")
    | _ => none
@[irreducible] def oIsT (T : String) (x : D) (h : AH) (Q : KD) : Prop := match isT T h x with
  | some b => Q (.bl b) h
  | none => False
/-- o.m(as), o of the built-in type T -/
def dMeth (T : String) (m : D → List D → AH → KD → Prop) (o : DE) (as : DA) : DE := fun ρ h Q => o ρ h fun x h1 => isT T h1 x = some true ∧ as ρ h1 fun ds h2 => m x ds h2 Q
@[irreducible] def mAppend (x : D) (as : List D) (h : AH) (Q : KD) : Prop := match x, as with
  | .ref a, [d] => match h a with
    | some (.lst ds) => ds.length < SZ ∧ Q .non (up h a (.lst (ds ++ [d])))
    | _ => False
  | _, _ => False
/-- d.get(k), d.get(k, x) -/
@[irreducible] def mGet (x : D) (as : List D) (h : AH) (Q : KD) : Prop := match x with
  | .ref a => match h a with
    | some (.dic kvs) => match as with
      | [k] => pl 8 k = true ∧ Q ((dget kvs k).getD .non) h
      | [k, d] => pl 8 k = true ∧ Q ((dget kvs k).getD d) h
      | _ => False
    | _ => False
  | _ => False
@[irreducible] def mSetDef (x : D) (as : List D) (h : AH) (Q : KD) : Prop := match x, as with
  | .ref a, [k, d] => match h a with
    | some (.dic kvs) => pl 8 k = true ∧ kvs.length < SZ ∧ match dget kvs k with
      | some v => Q v h
      | none => Q d (up h a (.dic (dput kvs k d)))
    | _ => False
  | _, _ => False
@[irreducible] def mExtend (x : D) (as : List D) (h : AH) (Q : KD) : Prop := match x, as with
  | .ref a, [.ref b] => match h a, h b with
    | some (.lst xs), some (.lst ys) => xs.length + ys.length ≤ SZ ∧ Q .non (up h a (.lst (xs ++ ys)))
    | _, _ => False
  | _, _ => False
@[irreducible] def mPop (x : D) (as : List D) (h : AH) (Q : KD) : Prop := match x with
  | .ref a => match h a with
    | some (.lst xs) => match as with
      | [] => ∃ y, xs[xs.length - 1]? = some y ∧ Q y (up h a (.lst xs.dropLast))
      | [.int i] => -(2 ^ 63) ≤ i ∧ i < 2 ^ 63 ∧ ∃ k y, ixN xs.length i = some k ∧ xs[k]? = some y ∧ Q y (up h a (.lst (xs.eraseIdx k)))
      | _ => False
    | _ => False
  | _ => False
@[irreducible] def mInsert (x : D) (as : List D) (h : AH) (Q : KD) : Prop := match x, as with
  | .ref a, [.int i, d] => match h a with
    | some (.lst xs) => xs.length < SZ ∧ 0 ≤ i ∧ i < 2 ^ 63 ∧ Q .non (up h a (.lst (xs.take i.toNat ++ [d] ++ xs.drop i.toNat)))
    | _ => False
  | _, _ => False
@[irreducible] def mClear (x : D) (as : List D) (h : AH) (Q : KD) : Prop := match x, as with
  | .ref a, [] => match h a with
    | some (.lst _) => Q .non (up h a (.lst []))
    | _ => False
  | _, _ => False
def hid (h : AH) (a : Addr) : AH := fun b => if b = a then none else h b
@[irreducible] def mDClear (x : D) (as : List D) (h : AH) (Q : KD) : Prop := match x, as with
  | .ref a, [] => match h a with
    | some (.dic _) => Q .non (hid h a)
    | _ => False
  | _, _ => False
def strsOf : List D → Option (List Str)
  | [] => some []
  | .str x :: r => (strsOf r).map (x :: ·)
  | _ => none
@[irreducible] def mJoin (x : D) (as : List D) (h : AH) (Q : KD) : Prop := match x, as with
  | .str a, [y] => match (sqOf h y).bind strsOf with
    | some ys => (ys.map (·.length)).sum + ys.length * a.length ≤ SZ ∧ Q (.str (PySem.Str.join a ys)) h
    | none => False
  | _, _ => False
/-- the first least one -/
def dmin (d : D) (ds : List D) : D := ds.foldl (fun a y => if dlt y a then y else a) d
@[irreducible] def bMin : FS
  | [.int i, .int j], h, Q => Q (.int (if j < i then j else i)) h
  | [x], h, Q => match lsOf h x with
    | some (d :: ds) => ((∀ a ∈ d :: ds, ∀ b ∈ d :: ds, alk a b = true) ∧ ∀ a ∈ d :: ds, dat 12 a = true ∧ a ≠ .non) ∧ Q (dmin d ds) h
    | _ => False
  | _, _, _ => False
/-- the first greatest one -/
def dmax (d : D) (ds : List D) : D := ds.foldl (fun a y => if dlt a y then y else a) d
@[irreducible] def bMax : FS
  | [.int i, .int j], h, Q => Q (.int (if j > i then j else i)) h
  | [x], h, Q => match lsOf h x with
    | some (d :: ds) => ((∀ a ∈ d :: ds, ∀ b ∈ d :: ds, alk a b = true) ∧ ∀ a ∈ d :: ds, dat 12 a = true ∧ a ≠ .non) ∧ Q (dmax d ds) h
    | _ => False
  | _, _, _ => False
def bAbs : FS
  | [.int i], h, Q => Q (.int (if i < 0 then -i else i)) h
  | _, _, _ => False
def bInt : FS
  | [.int i], h, Q => Q (.int i) h
  | [.bl b], h, Q => Q (.int (if b then 1 else 0)) h
  | _, _, _ => False
@[irreducible] def bTuple : FS
  | [x], h, Q => match sqOf h x with
    | some ds => Q (.tup ds) h
    | none => False
  | _, _, _ => False
def bStr : FS
  | [.int i], h, Q => i.natAbs.log2 < 1920 ∧ Q (.str (PySem.Str.ofString (toString i))) h
  | [.str x], h, Q => Q (.str x) h
  | _, _, _ => False
def dDic0 : DE := fun _ h Q => newD [] h Q
def kAt (i : Nat) : D → D
  | .tup xs => xs[i]?.getD .non
  | _ => .non
/-- sorted(xs, key=lambda x: x[i]), xs tuples -/
@[irreducible] def oSortK (i : Nat) (x : D) (h : AH) (Q : KD) : Prop := match lsOf h x with
  | some ds => (∀ d ∈ ds, ∃ xs y, d = .tup xs ∧ xs[i]? = some y) ∧ sortable (ds.map (kAt i)) ∧ newL (ds.mergeSort fun a b => dle false (kAt i a) (kAt i b)) h Q
  | none => False
/-- a pair's second item -/
def D.tupAt1 : D → D
  | .tup [_, y] => y
  | _ => .non
/-- xs.index(v), v in xs -/
@[irreducible] def mIndex (x : D) (as : List D) (h : AH) (Q : KD) : Prop := match as with
  | [v] => match lsOf h x with
    | some ds => (∀ d ∈ ds, pl 8 d = true) ∧ pl 8 v = true ∧ ∃ j : Nat, ds[j]? = some v ∧ (∀ i, i < j → ds[i]? ≠ some v) ∧ Q (.int j) h
    | none => False
  | _ => False
/-- xs.count(v) -/
@[irreducible] def mCount (x : D) (as : List D) (h : AH) (Q : KD) : Prop := match as with
  | [v] => match (lsOf h x).bind (mapO (rei h 12)), rei h 12 v with
    | some ys, some v' => Q (.int ((ys.countP fun y => deqv y v' : Nat) : Int)) h
    | _, _ => False
  | _ => False
/-! ### dict displays: the dict is there, empty, ahead of its pairs -/
abbrev DP := Lo → AH → (List (D × D) → AH → Prop) → Prop
def dpNil : DP := fun _ h Q => Q [] h
def dpCons (a b : DE) (r : DP) : DP := fun ρ h Q => a ρ h fun x h1 => b ρ h1 fun y h2 => r ρ h2 fun ps h3 => Q ((x, y) :: ps) h3
structure fillD (d : D) (ps : List (D × D)) (h : AH) (Q : KD) : Prop where
  un : match d with
    | .ref p => h p = some (.dic []) ∧ ps.length ≤ 15 ∧ (∀ q ∈ ps, pl 8 q.1 = true) ∧ Q (.ref p) (up h p (.dic (dputs [] ps)))
    | _ => False
def dDisp (as : DP) : DE := fun ρ h Q => newD [] h fun d h1 => as ρ h1 fun ps h2 => fillD d ps h2 Q
/-- tuples whose first places are rising tuples of ints, whatever stands behind -/
def kIn : D → List Int
  | .tup (.tup xs :: _) => (intsOf xs).getD []
  | _ => []
structure incK (ds : List D) : Prop where
  el : ∀ d ∈ ds, ∃ (ns : List Int) (r : List D), d = .tup (.tup (ns.map .int) :: r)
  up : ds.Pairwise fun a b => kIn a < kIn b
/-- sorted(xs) of such -/
@[irreducible] def bSortI : FS
  | [x], h, Q => match lsOf h x with
    | some ds => incK ds ∧ newL ds h Q
    | none => False
  | _, _, _ => False
end G
end

section
set_option Elab.async false
set_option linter.all false
set_option maxRecDepth 100000
set_option maxHeartbeats 4000000
/-! Raw dicts whose keys are any nested data (None, numbers, texts, tuples of such, in one dict): find, get, set, setdefault, del, in. -/
namespace GR
open PySem
open Sem (wp)

section
variable {prog : Program} {w : World} {A : Around} {E : Value → Shared → Prop} {s : Shared}

/-- the entries es have the keys ks -/
structure Ks (w : World) (h : Heap) (ks : List NestedKey) (es : Array DictEntry) : Prop where
  sz : es.size = ks.length
  at_ : ∀ (j : Nat) (k : NestedKey), ks[j]? = some k → ∃ e : DictEntry, es[j]? = some e ∧ e.hash = k.hash w ∧ NestedIs h k e.key ∧ k.depth ≤ 8
  nd : ks.Nodup

theorem Ks.mem {h : Heap} {ks : List NestedKey} {es : Array DictEntry} (x : Ks w h ks es) {j : Nat} {e : DictEntry} (he : es[j]? = some e) : ∃ k, ks[j]? = some k ∧ e.hash = k.hash w ∧ NestedIs h k e.key ∧ k.depth ≤ 8 := by
  have hj : j < ks.length := by rw [← x.sz]; exact (Array.getElem?_eq_some_iff.mp he).1
  obtain ⟨e', h1, h2⟩ := x.at_ j _ (List.getElem?_eq_getElem hj)
  rw [he] at h1; cases h1
  exact ⟨_, List.getElem?_eq_getElem hj, h2⟩
theorem Ks.uniq {h : Heap} {ks : List NestedKey} {es : Array DictEntry} (x : Ks w h ks es) {i j : Nat} {k : NestedKey} (h1 : ks[i]? = some k) (h2 : ks[j]? = some k) : i = j :=
  (List.getElem?_inj (List.getElem?_eq_some_iff.mp h1).1 x.nd).mp (h1.trans h2.symm)

theorem eqBool_key {x y : NestedKey} {u v : Value} {Q : Bool → Shared → Prop} (hx : NestedIs s.heap x u) (hy : NestedIs s.heap y v) (hu : A.units + 8 < cLine) (d : x.depth ≤ 8) (h : Q (decide (x = y)) s) : wpAny (model prog w) A (eqBool u v) Q E s :=
  eqAt_key x y A s u v hx hy (by omega) _ _ _ _ (by rw [← NestedKey.decide_eq]; exact h)

theorem tells_quiet {k : NestedKey} {u : Value} {stored : List Value} {Q : Bool → Shared → Prop} (hkey : NestedIs s.heap k u) (hd : k.depth ≤ 8)
    (hst : ∀ v ∈ stored, ∃ k', NestedIs s.heap k' v ∧ k'.depth ≤ 8) (h : Q false s) : wpAny (model prog w) A (tableMayTell u stored) Q E s := by
  unfold tableMayTell
  split
  · exact wpAny_pure h
  · refine wpAny_bind (quiet_key k u 8 s hkey hd A E _ ?_)
    simp only [Bool.not_true, Bool.false_eq_true, if_false]
    refine wpAny_bind ?_
    refine wpAny_forIn_list _ (fun rest r s' => s' = s ∧ r = (none, ()) ∧ ∀ v ∈ rest, ∃ k', NestedIs s.heap k' v ∧ k'.depth ≤ 8) _ ?_ ?_ _ _ ⟨rfl, rfl, hst⟩
    · rintro x rest r s' ⟨rfl, rfl, hr⟩
      obtain ⟨k', hb, hd'⟩ := hr x List.mem_cons_self
      refine wpAny_bind (quiet_key k' x 8 s' hb hd' A E _ ?_)
      simp only [Bool.not_true, Bool.false_eq_true, if_false]
      exact wpAny_pure ⟨rfl, rfl, fun v hv => hr v (List.mem_cons_of_mem _ hv)⟩
    · rintro r s' ⟨rfl, rfl, _⟩
      exact wpAny_pure h

theorem find_any {d : Addr} {o : Obj} {es ep} {ks : List NestedKey} {k : NestedKey} {u : Value} {Q : Option Nat → Shared → Prop} (hu : A.units + 8 < cLine) (hkey : NestedIs s.heap k u) (hdp : k.depth ≤ 8)
    (ho : s.heap.get? d = some o) (hd : o.data = .dict es ep) (hK : Ks w s.heap ks es)
    (hnone : k ∉ ks → Q none s) (hsome : ∀ j, ks[j]? = some k → Q (some j) s) :
    wpAny (model prog w) A (dictFind d u (k.hash w)) Q E s := by
  have haskey : ∀ (j : Nat), ks[j]? = some k → ((es[j]?.map (·.hash)) == some (k.hash w)) = true := by
    intro j hj
    obtain ⟨e, h1, h2, _⟩ := hK.at_ j k hj
    rw [h1]; simp [h2]
  have hst : ∀ v ∈ (placesWithHash es.size (fun i => es[i]?.map (·.hash)) (k.hash w)).filterMap (fun i => es[i]?.map (·.key)), ∃ k', NestedIs s.heap k' v ∧ k'.depth ≤ 8 := by
    intro v hv
    obtain ⟨i, _, hi⟩ := List.mem_filterMap.mp hv
    cases hei : es[i]? with
    | none => rw [hei] at hi; cases hi
    | some e =>
      rw [hei] at hi
      obtain rfl : e.key = v := by simpa using hi
      obtain ⟨k', _, _, h3, h4⟩ := hK.mem hei
      exact ⟨k', h3, h4⟩
  have notin : ∀ (P : Nat → Prop), (∀ j, ks[j]? ≠ some k) → k ∉ ks := fun _ hno hm => by
    obtain ⟨j, hj⟩ := List.mem_iff_getElem?.mp hm
    exact hno j hj
  have hplain : wpAny (model prog w) A (dictWalkPlain d u (k.hash w) es (placesWithHash es.size (fun i => es[i]?.map (·.hash)) (k.hash w))) Q E s := by
    refine wpAny_bind ?_
    refine wpAny_forIn_list _
      (fun rest b s' => s' = s ∧ b = (none, ()) ∧ ∃ i, rest = (List.range' i (es.size - i)).filter (fun i => (es[i]?.map (·.hash)) == some (k.hash w)) ∧ i ≤ es.size ∧
        ∀ j, j < i → ks[j]? ≠ some k) _ ?_ ?_ _ _
      ⟨rfl, rfl, 0, by rw [placesWithHash, List.range_eq_range', Nat.sub_zero], Nat.zero_le _, fun _ h => absurd h (Nat.not_lt_zero _)⟩
    · rintro x rest b s' ⟨rfl, rfl, i, hr, hi, hno⟩
      obtain ⟨hix, hxn, hpx, hskip, hrest⟩ := filter_range'_cons _ _ _ _ _ hr.symm
      have hlt : x < es.size := by omega
      obtain ⟨k', hk1, hk2, hk3, hk4⟩ := hK.mem (Array.getElem?_eq_getElem hlt)
      have hnext : ¬ k' = k → ∃ i, rest = (List.range' i (es.size - i)).filter (fun i => (es[i]?.map (·.hash)) == some (k.hash w)) ∧ i ≤ es.size ∧ ∀ j, j < i → ks[j]? ≠ some k := fun hne =>
        ⟨x + 1, by rw [hrest]; congr 2; omega, hlt, fun j hji hj => by
          rcases Nat.lt_or_ge j i with h | h
          · exact hno j h hj
          · rcases Nat.lt_or_ge j x with h' | h'
            · have := hskip j h h'
              rw [haskey j hj] at this
              exact absurd this (by decide)
            · have : j = x := by omega
              subst this
              rw [hk1] at hj; cases hj; exact hne rfl⟩
      simp only [Array.getElem?_eq_getElem hlt]
      by_cases hh : (es[x].hash == k.hash w) = true
      · rw [if_pos hh]
        refine wpAny_bind (wpAny_dictEpoch ho hd (wpAny_bind (eqBool_key hk3 hkey hu hk4 (wpAny_bind (wpAny_dictEpoch ho hd ?_)))))
        show wpAny _ _ (if (ep != ep) = true then _ else _) _ E _
        rw [if_neg (by simp)]
        by_cases hkk : k' = k
        · rw [decide_eq_true hkk]
          subst hkk
          exact wpAny_bind (wpAny_rule (wpAny_pure (wpAny_pure (hsome x hk1))))
        · rw [decide_eq_false hkk]
          exact wpAny_bind (wpAny_rule (wpAny_pure ⟨rfl, rfl, hnext hkk⟩))
      · rw [if_neg hh]
        refine wpAny_pure ⟨rfl, rfl, hnext ?_⟩
        intro hkk
        rw [hk2, hkk] at hh; simp at hh
    · rintro b s' ⟨rfl, rfl, i, hr, hi, hno⟩
      refine wpAny_pure (hnone (notin (fun _ => True) fun j hj => ?_))
      rcases Nat.lt_or_ge j i with h | h
      · exact hno j h hj
      · have hjl : j < es.size := by rw [hK.sz]; exact (List.getElem?_eq_some_iff.mp hj).1
        have := List.filter_eq_nil_iff.mp hr.symm j (List.mem_range'_1.mpr ⟨h, by omega⟩)
        exact this (haskey j hj)
  -- the general road
  have hany : ∀ a, u = .ref a → ¬ (es.any fun e => e.key == u && e.hash != k.hash w) = true := by
    intro a hua
    rw [← Array.any_toList, List.any_eq_true]
    rintro ⟨e, hin, hc⟩
    obtain ⟨j, hj⟩ := Array.mem_iff_getElem?.mp (Array.mem_toList_iff.mp hin)
    obtain ⟨k', h1, h2, h3, _⟩ := hK.mem hj
    simp only [Bool.and_eq_true, beq_iff_eq, bne_iff_ne, ne_eq] at hc
    obtain ⟨hxa, hne⟩ := hc
    rw [hxa] at h3
    exact hne (by rw [h2, NestedIs.inj _ _ _ h3 hkey])
  unfold dictFind
  try with_reducible refine wpAny_holding ?_
  refine wpAny_bind (wpAny_dictEntries ho hd ?_)
  dsimp only
  by_cases hall : ((u :: (placesWithHash es.size (fun i => es[i]?.map (·.hash)) (k.hash w)).filterMap (fun i => es[i]?.map (·.key))).all carriedByValue) = true
  · rw [if_pos hall]
    split
    next x t =>
      split
      next hstrs =>
        have kx : k = .text x := by cases hkey; rfl
        unfold foundByValue
        cases hf : es.findIdx? (fun e => e.key.isStr x) with
        | none =>
          refine wpAny_pure (hnone fun hm => ?_)
          obtain ⟨j, hj⟩ := List.mem_iff_getElem?.mp hm
          obtain ⟨e, h1, _, h3, _⟩ := hK.at_ j k hj
          rw [kx] at h3
          have := Array.findIdx?_eq_none_iff.mp hf e (Array.mem_of_getElem? h1)
          cases he : e.key with
          | str y u =>
            rw [he] at h3 this
            cases h3
            simp [Value.isStr] at this
          | _ => rw [he] at h3; cases h3
        | some i =>
          obtain ⟨hlt, hi, _⟩ := Array.findIdx?_eq_some_iff_getElem.mp hf
          obtain ⟨k', h1, h2, h3, h4⟩ := hK.mem (Array.getElem?_eq_getElem hlt)
          have hkk : k' = k := by
            rw [kx]
            cases he : es[i].key with
            | str y u =>
              rw [he] at h3 hi
              cases h3
              simp [Value.isStr] at hi
              rw [hi]
            | _ => rw [he] at hi; simp [Value.isStr] at hi
          simp only [Array.getElem?_eq_getElem hlt]
          refine wpAny_bind (wpAny_dictEpoch ho hd (wpAny_bind (eqBool_key h3 hkey hu h4 (wpAny_bind (wpAny_dictEpoch ho hd ?_)))))
          show wpAny _ _ (if (ep != ep) = true then _ else _) _ E _
          rw [if_neg (by simp), decide_eq_true hkk]
          exact wpAny_bind (wpAny_rule (wpAny_pure (hsome i (by rw [h1, hkk]))))
      next => exact hplain
    next => exact hplain
  · rw [if_neg hall]
    have strs_no : ∀ x t, u = .str x t → ¬ (es.all fun e => isExactStrKey e.key) = true := by
      intro x t hu' hstrs
      apply hall
      rw [List.all_cons, Bool.and_eq_true]
      refine ⟨by rw [hu']; rfl, List.all_eq_true.mpr fun v hv => ?_⟩
      obtain ⟨i, _, hi⟩ := List.mem_filterMap.mp hv
      cases hei : es[i]? with
      | none => rw [hei] at hi; cases hi
      | some e =>
        rw [hei] at hi
        obtain rfl : e.key = v := by simpa using hi
        have := Array.all_eq_true_iff_forall_mem.mp hstrs e (Array.mem_of_getElem? hei)
        cases he : e.key <;> rw [he] at this <;> simp [isExactStrKey] at this <;> rfl
    have ho2 := Bool.eq_false_or_eq_true (((placesWithHash es.size (fun i => es[i]?.map (·.hash)) (k.hash w)).filterMap (fun i => es[i]?.map (·.key))) == [u])
    rcases (show (∃ x t, u = .str x t) ∨ (∃ a, u = .ref a) ∨ (∃ b, u = .bool b) ∨ (∃ i t, u = .int i t) ∨ u = .none by
      cases hkey <;> simp) with ⟨x, t, hu'⟩ | ⟨a, hu'⟩ | ⟨b, hu'⟩ | ⟨i, t, hu'⟩ | hu'
    all_goals subst hu'
    all_goals dsimp only
    all_goals first | rw [if_neg (strs_no _ _ rfl)] | rw [if_neg (hany _ rfl)] | skip
    all_goals rcases ho2 with hone | hone
    all_goals first | rw [if_pos hone] | rw [if_neg (by rw [hone]; exact Bool.false_ne_true)]
    all_goals first | refine wpAny_bind (wpAny_pure ?_) | refine wpAny_bind (tells_quiet hkey hdp hst ?_)
    all_goals rw [if_neg (by simp)]
    all_goals refine wpAny_bind ?_
    all_goals refine wpAny_forIn_list _ (fun rest b s' => s' = s ∧ ∃ i hit, b = (none, hit) ∧ rest = (List.range' i (es.size - i)).filter (fun i => (es[i]?.map (·.hash)) == some (k.hash w)) ∧ i ≤ es.size ∧
        ((hit = none ∧ ∀ j, j < i → ks[j]? ≠ some k) ∨ ∃ j, hit = some j ∧ j < i ∧ ks[j]? = some k)) _ ?_ ?_ _ _ ⟨rfl, 0, none, rfl, by rw [placesWithHash, List.range_eq_range', Nat.sub_zero], Nat.zero_le _, .inl ⟨rfl, fun _ h => absurd h (Nat.not_lt_zero _)⟩⟩
    all_goals first
      | (rintro b s' ⟨rfl, i, hit, rfl, hr, hi, hH⟩
         have hallz : ∀ j, i ≤ j → j < es.size → ((es[j]?.map (·.hash)) == some (k.hash w)) = false := by
           intro j h1 h2
           have := List.filter_eq_nil_iff.mp hr.symm j (List.mem_range'_1.mpr ⟨h1, by omega⟩)
           simpa using this
         rcases hH with ⟨rfl, hno⟩ | ⟨j, rfl, _, hj⟩
         · refine wpAny_pure (hnone (notin (fun _ => True) fun j hj => ?_))
           rcases Nat.lt_or_ge j i with h | h
           · exact hno j h hj
           · have hjl : j < es.size := by rw [hK.sz]; exact (List.getElem?_eq_some_iff.mp hj).1
             have := hallz j h hjl
             rw [haskey j hj] at this
             exact absurd this (by decide)
         · exact wpAny_pure (hsome j hj))
      | (rintro x rest b s' ⟨rfl, i, hit, rfl, hr, hi, hH⟩
         obtain ⟨hix, hxn, hpx, hskip, hrest⟩ := filter_range'_cons _ _ _ _ _ hr.symm
         have hlt : x < es.size := by omega
         have hrest' : rest = (List.range' (x + 1) (es.size - (x + 1))).filter (fun i => (es[i]?.map (·.hash)) == some (k.hash w)) := by rw [hrest]; congr 2; omega
         obtain ⟨k', hk1, hk2, hk3, hk4⟩ := hK.mem (Array.getElem?_eq_getElem hlt)
         have hHx : (hit = none ∧ ∀ j, j < x → ks[j]? ≠ some k) ∨ ∃ j, hit = some j ∧ j < x ∧ ks[j]? = some k := by
           rcases hH with ⟨h0, hno⟩ | ⟨j, h1, hji, hj⟩
           · refine .inl ⟨h0, fun j hjx hj => ?_⟩
             rcases Nat.lt_or_ge j i with h | h
             · exact hno j h hj
             · have := hskip j h hjx
               rw [haskey j hj] at this
               exact absurd this (by decide)
           · exact .inr ⟨j, h1, by omega, hj⟩
         have hstay : ¬ k' = k → ((hit = none ∧ ∀ j, j < x + 1 → ks[j]? ≠ some k) ∨ ∃ j, hit = some j ∧ j < x + 1 ∧ ks[j]? = some k) := by
           intro hne
           rcases hHx with ⟨h0, hno⟩ | ⟨j, h1, hjx, hj⟩
           · refine .inl ⟨h0, fun j hjx hj => ?_⟩
             rcases Nat.lt_or_ge j x with h | h
             · exact hno j h hj
             · have hjx' : j = x := by omega
               subst hjx'
               rw [hk1] at hj; cases hj; exact hne rfl
           · exact .inr ⟨j, h1, by omega, hj⟩
         simp only [Array.getElem?_eq_getElem hlt]
         by_cases hh : (es[x].hash == k.hash w) = true
         · rw [if_pos hh]
           refine wpAny_bind (wpAny_dictEpoch ho hd (wpAny_bind (eqBool_key hk3 hkey hu hk4 (wpAny_bind (wpAny_dictEpoch ho hd ?_)))))
           show wpAny _ _ (if (ep != ep) = true then _ else _) _ E _
           rw [if_neg (by simp)]
           by_cases hkk : k' = k
           · rw [decide_eq_true hkk]
             subst hkk
             rcases hHx with ⟨rfl, _⟩ | ⟨j, _, hjx, hj⟩
             · first | rw [if_pos rfl] | skip
               simp only [Option.isSome_none, Bool.false_eq_true, if_false]
               first | refine wpAny_bind (wpAny_pure ?_) | skip
               refine wpAny_bind (wpAny_rule ?_)
               split
               · exact wpAny_pure (wpAny_pure (hsome x hk1))
               · exact wpAny_pure ⟨rfl, x + 1, some x, rfl, hrest', hlt, .inr ⟨x, rfl, Nat.lt_succ_self x, hk1⟩⟩
             · exact absurd (hK.uniq hj hk1) (by omega)
           · rw [decide_eq_false hkk]
             simp only [Bool.false_eq_true, if_false]
             refine wpAny_bind (wpAny_rule ?_)
             first | rw [if_neg (by simp)] | skip
             first
               | exact wpAny_pure ⟨rfl, x + 1, hit, rfl, hrest', hlt, hstay hkk⟩
               | exact wpAny_bind (wpAny_pure (wpAny_pure ⟨rfl, x + 1, hit, rfl, hrest', hlt, hstay hkk⟩))
         · rw [if_neg hh]
           refine wpAny_pure ⟨rfl, x + 1, hit, rfl, hrest', hlt, hstay ?_⟩
           intro hkk
           rw [hk2, hkk] at hh; simp at hh)

/-- the dict d of the heap h, as it is -/
def Dic (h : Heap) (d : Addr) (es : Array DictEntry) (ep : Nat) : Prop := ∃ o, h.get? d = some o ∧ o.ExactDict ∧ o.data = .dict es ep
theorem Dic.typeIs {d : Addr} {es ep} (x : Dic s.heap d es ep) : s.TypeIs (.ref d) "dict" := let ⟨o, h1, h2, _⟩ := x; ⟨o, h1, h2.1⟩
theorem Dic.noDict {h : Heap} {d : Addr} {es ep} (x : Dic h d es ep) : ∀ a, Value.ref d = .ref a → ∃ o, h.get? a = some o ∧ o.dict = none := fun a e => by
  cases e
  obtain ⟨o, h1, h2, _⟩ := x
  exact ⟨o, h1, h2.2.1⟩
/-- key j is k -/
def At (w : World) (ks : List NestedKey) (k : NestedKey) : Option Nat := ks.findIdx? fun x => decide (x = k)

theorem get_any {d : Addr} {es ep} {ks : List NestedKey} {k : NestedKey} {u : Value} {Q : Option Value → Shared → Prop} (hu : A.units + 8 < cLine) (hkey : NestedIs s.heap k u) (hdp : k.depth ≤ 8)
    (hD : Dic s.heap d es ep) (hK : Ks w s.heap ks es) (hnone : k ∉ ks → Q none { s with toks := s.toks + k.draws })
    (hsome : ∀ (j : Nat) (e : DictEntry), ks[j]? = some k → es[j]? = some e → Q (some e.val) { s with toks := s.toks + k.draws }) : wpAny (model prog w) A (dictGet d u) Q E s := by
  obtain ⟨o, ho, _, hd⟩ := hD
  unfold dictGet
  try with_reducible refine wpAny_holding ?_
  refine wpAny_bind (pyHash_key k u A s _ hkey (by omega) (wpAny_bind (find_any (s := { s with toks := s.toks + k.draws }) hu hkey hdp ho hd hK (fun h => wpAny_pure (hnone h)) fun j hj => ?_)))
  obtain ⟨e, h1, _⟩ := hK.at_ j k hj
  refine wpAny_bind (wpAny_dictEntries (s := { s with toks := s.toks + k.draws }) ho hd ?_)
  rw [h1]
  exact wpAny_pure (hsome j e hj h1)
theorem set_any {d : Addr} {es ep} {ks : List NestedKey} {k : NestedKey} {u v : Value} {Q : Unit → Shared → Prop} (hu : A.units + 8 < cLine) (hkey : NestedIs s.heap k u) (hdp : k.depth ≤ 8)
    (hD : Dic s.heap d es ep) (hK : Ks w s.heap ks es) (hz : ks.length ≤ sizeLine)
    (hnew : k ∉ ks → ∀ h', Dic h' d (es.push ⟨k.hash w, u, v⟩) (ep + 1) → Heap.SameBut d s.heap h' → Q () { s with heap := h', toks := s.toks + k.draws })
    (hold : ∀ (j : Nat), ks[j]? = some k → ∀ h', Dic h' d (es.modify j fun e => { e with val := v }) ep → Heap.SameBut d s.heap h' → Q () { s with heap := h', toks := s.toks + k.draws }) : wpAny (model prog w) A (dictSet d u v) Q E s := by
  obtain ⟨o, ho, hc, hd⟩ := hD
  unfold dictSet
  try with_reducible refine wpAny_holding ?_
  refine wpAny_bind (pyHash_key k u A s _ hkey (by omega) ?_)
  unfold dictSetHashed
  try with_reducible refine wpAny_holding ?_
  have hsz : es.size ≤ sizeLine := by rw [hK.sz]; exact hz
  refine wpAny_bind (find_any (s := { s with toks := s.toks + k.draws }) hu hkey hdp ho hd hK (fun hn => ?_) fun j hj => ?_)
  · exact wpAny_bind (wpAny_rule (wpAny_updateDictKeys (hz := by omega) (s := { s with toks := s.toks + k.draws }) ho hd
      (hnew hn _ ⟨_, Heap.get?_update_self _ ho (Obj.isFreed_of_dict (Obj.data_mapDictKeys hd _)), hc.mapDictKeys _, Obj.data_mapDictKeys hd _⟩ (Heap.SameBut.update ..))))
  · exact wpAny_bind (wpAny_rule (wpAny_bind (wpAny_updateDict (s := { s with toks := s.toks + k.draws }) ho hd
      (wpAny_point (hold j hj _ ⟨_, Heap.get?_update_self _ ho (Obj.isFreed_of_dict (Obj.data_mapDict hd _)), hc.mapDict _, Obj.data_mapDict hd _⟩ (Heap.SameBut.update ..))))))
theorem setdefault_any {d : Addr} {es ep} {ks : List NestedKey} {k : NestedKey} {u v : Value} {Q : Value → Shared → Prop} (hu : A.units + 8 < cLine) (hkey : NestedIs s.heap k u) (hdp : k.depth ≤ 8)
    (hD : Dic s.heap d es ep) (hK : Ks w s.heap ks es) (hz : ks.length ≤ sizeLine)
    (hnew : k ∉ ks → ∀ h', Dic h' d (es.push ⟨k.hash w, u, v⟩) (ep + 1) → Heap.SameBut d s.heap h' → Q v { s with heap := h', toks := s.toks + k.draws })
    (hold : ∀ (j : Nat) (e : DictEntry), ks[j]? = some k → es[j]? = some e → Q e.val { s with toks := s.toks + k.draws }) : wpAny (model prog w) A (dictSetDefault d u v) Q E s := by
  obtain ⟨o, ho, hc, hd⟩ := hD
  unfold dictSetDefault
  try with_reducible refine wpAny_holding ?_
  refine wpAny_bind (pyHash_key k u A s _ hkey (by omega) ?_)
  have hsz : es.size ≤ sizeLine := by rw [hK.sz]; exact hz
  refine wpAny_bind (find_any (s := { s with toks := s.toks + k.draws }) hu hkey hdp ho hd hK (fun hn => ?_) fun j hj => ?_)
  · exact wpAny_bind (wpAny_rule (wpAny_bind (wpAny_updateDictKeys (hz := by omega) (s := { s with toks := s.toks + k.draws }) ho hd (wpAny_pure
      (hnew hn _ ⟨_, Heap.get?_update_self _ ho (Obj.isFreed_of_dict (Obj.data_mapDictKeys hd _)), hc.mapDictKeys _, Obj.data_mapDictKeys hd _⟩ (Heap.SameBut.update ..))))))
  · obtain ⟨e, h1, _⟩ := hK.at_ j k hj
    refine wpAny_bind (wpAny_dictEntries (s := { s with toks := s.toks + k.draws }) ho hd ?_)
    rw [h1]
    exact wpAny_bind (wpAny_rule (wpAny_pure (hold j e hj h1)))

/-! the operations -/
theorem getItem_any {d : Addr} {es ep} {ks : List NestedKey} {k : NestedKey} {u : Value} {Q : Value → Shared → Prop} (hu : A.units + 9 < cLine) (hkey : NestedIs s.heap k u) (hdp : k.depth ≤ 8)
    (hD : Dic s.heap d es ep) (hK : Ks w s.heap ks es) (hin : k ∈ ks)
    (hsome : ∀ (j : Nat) (e : DictEntry), ks[j]? = some k → es[j]? = some e → Q e.val { s with toks := s.toks + k.draws }) : wpAny (model prog w) A (getItem (.ref d) u) Q E s := by
  unfold getItem
  try with_reducible refine wpAny_holding ?_
  refine wpAny_bind (wpAny_sequenceKey hD.typeIs (by decide) ?_)
  refine wpAny_bind (wpAny_callSpecial?_slot (name := Str.ofString "__getitem__") hD.typeIs slot_dict_getitem
    (wpAny_call_entry slot_dict_getitem hD.typeIs entry_dict_getitem ?_ (args_dict_getitem _ _)))
  show wpAny _ _ (dictGet d u >>= _) _ _ s
  refine wpAny_bind (get_any (by rw [Around.in1_units]; omega) hkey hdp hD hK (fun h => absurd hin h) fun j e h1 h2 => ?_)
  exact wpAny_pure ⟨e.val, rfl, wpAny_pure (hsome j e h1 h2)⟩
theorem contains_any {d : Addr} {es ep} {ks : List NestedKey} {k : NestedKey} {u : Value} {Q : Bool → Shared → Prop} (hu : A.units + 9 < cLine) (hkey : NestedIs s.heap k u) (hdp : k.depth ≤ 8) (hs : (d == sysModules) = false)
    (hD : Dic s.heap d es ep) (hK : Ks w s.heap ks es) (h : Q (decide (k ∈ ks)) { s with toks := s.toks + k.draws }) : wpAny (model prog w) A (contains (.ref d) u) Q E s := by
  unfold contains
  try with_reducible refine wpAny_holding ?_
  refine wpAny_bind (wpAny_specialOf hD.typeIs slot_dict_contains.lookup ?_)
  show wpAny _ _ (if (some (Value.builtin "dict.__contains__") == some Value.none) = true then _ else _) _ E s
  rw [if_neg (by rw [beq_builtin_none]; exact Bool.false_ne_true)]
  refine wpAny_bind (wpAny_callSpecialUnlessNone?_slot (name := Str.ofString "__contains__") hD.typeIs slot_dict_contains
    (wpAny_call_entry slot_dict_contains hD.typeIs entry_dict_contains ?_ (args_dict_contains _ _)))
  show wpAny _ _ (dictGet d u >>= _) _ _ s
  refine wpAny_bind (get_any (by rw [Around.in1_units]; omega) hkey hdp hD hK (fun hn => ?_) fun j e h1 h2 => ?_)
  · rw [decide_eq_false hn] at h
    show wpAny _ _ (Builtin.Dict.pendingKey? d u >>= _) _ _ _
    exact wpAny_bind (wpAny_pendingKey_other hs (wpAny_pure ⟨_, rfl, wpAny_truthy_bool h⟩))
  · rw [decide_eq_true (List.mem_of_getElem? h1)] at h
    show wpAny _ _ (ret (.bool true)) _ _ _
    exact wpAny_pure ⟨_, rfl, wpAny_truthy_bool h⟩
theorem in_any {d : Addr} {es ep} {ks : List NestedKey} {k : NestedKey} {u : Value} {Q : Value → Shared → Prop} (hu : A.units + 9 < cLine) (hkey : NestedIs s.heap k u) (hdp : k.depth ≤ 8) (hs : (d == sysModules) = false)
    (hD : Dic s.heap d es ep) (hK : Ks w s.heap ks es) (h : Q (.bool (decide (k ∈ ks))) { s with toks := s.toks + k.draws }) : wpAny (model prog w) A (compareOp .In u (.ref d)) Q E s := by
  show wpAny _ _ (do return .bool (← contains (.ref d) u)) Q E s
  exact wpAny_bind (contains_any hu hkey hdp hs hD hK (wpAny_pure h))
theorem notIn_any {d : Addr} {es ep} {ks : List NestedKey} {k : NestedKey} {u : Value} {Q : Value → Shared → Prop} (hu : A.units + 9 < cLine) (hkey : NestedIs s.heap k u) (hdp : k.depth ≤ 8) (hs : (d == sysModules) = false)
    (hD : Dic s.heap d es ep) (hK : Ks w s.heap ks es) (h : Q (.bool (!decide (k ∈ ks))) { s with toks := s.toks + k.draws }) : wpAny (model prog w) A (compareOp .NotIn u (.ref d)) Q E s := by
  show wpAny _ _ (do return .bool (!(← contains (.ref d) u))) Q E s
  exact wpAny_bind (contains_any hu hkey hdp hs hD hK (wpAny_pure h))
theorem setItem_any {d : Addr} {es ep} {ks : List NestedKey} {k : NestedKey} {u v : Value} {Q : Unit → Shared → Prop} (hu : A.units + 9 < cLine) (hkey : NestedIs s.heap k u) (hdp : k.depth ≤ 8)
    (hD : Dic s.heap d es ep) (hK : Ks w s.heap ks es) (hz : ks.length ≤ sizeLine)
    (hnew : k ∉ ks → ∀ h', Dic h' d (es.push ⟨k.hash w, u, v⟩) (ep + 1) → Heap.SameBut d s.heap h' → Q () { s with heap := h', toks := s.toks + k.draws })
    (hold : ∀ (j : Nat), ks[j]? = some k → ∀ h', Dic h' d (es.modify j fun e => { e with val := v }) ep → Heap.SameBut d s.heap h' → Q () { s with heap := h', toks := s.toks + k.draws }) :
    wpAny (model prog w) A (setItem (.ref d) u v) Q E s := by
  unfold setItem
  try with_reducible refine wpAny_holding ?_
  refine wpAny_bind (wpAny_sequenceKey hD.typeIs (by decide) ?_)
  refine wpAny_bind (wpAny_callSpecial?_slot (name := Str.ofString "__setitem__") hD.typeIs slot_dict_setitem
    (wpAny_call_entry slot_dict_setitem hD.typeIs entry_dict_setitem ?_ (args_dict_setitem _ _ _)))
  show wpAny _ _ (Builtin.Dict.notOrdered "__setitem__" ⟨[.ref d, u, v], []⟩ >>= _) _ _ s
  refine wpAny_bind (wpAny_notOrdered_dict hD.typeIs ?_)
  show wpAny _ _ (dictSet d u v >>= _) _ _ s
  exact wpAny_bind (set_any (by rw [Around.in1_units]; omega) hkey hdp hD hK hz (fun a b c e => wpAny_pure ⟨.none, rfl, wpAny_pure (hnew a b c e)⟩) fun a b c d e => wpAny_pure ⟨.none, rfl, wpAny_pure (hold a b c d e)⟩)
/-- d.get(u), d.get(u, x) -/
theorem dget_any {d : Addr} {es ep} {ks : List NestedKey} {k : NestedKey} {u : Value} {dflt : Value} {more : List Value} {R : Result → Shared → Prop} (hm : more = [] ∧ dflt = .none ∨ more = [dflt]) (hu : A.units + 8 < cLine) (hkey : NestedIs s.heap k u) (hdp : k.depth ≤ 8) (hs : (d == sysModules) = false)
    (hD : Dic s.heap d es ep) (hK : Ks w s.heap ks es) (hnone : k ∉ ks → R (.ok (.ret dflt)) { s with toks := s.toks + k.draws })
    (hsome : ∀ (j : Nat) (e : DictEntry), ks[j]? = some k → es[j]? = some e → R (.ok (.ret e.val)) { s with toks := s.toks + k.draws }) :
    wpAny (model prog w) A (Builtin.«dict.get» ⟨.ref d :: u :: more, []⟩) (fun f s' => ∃ v, f = .done (.ret v) ∧ R (.ok (.ret v)) s') (fun e s' => R (.error e) s') s := by
  rcases hm with ⟨rfl, rfl⟩ | rfl
  all_goals show wpAny _ _ (dictGet d u >>= _) _ _ s
  all_goals refine wpAny_bind (get_any hu hkey hdp hD hK (fun hn => ?_) fun j e h1 h2 => wpAny_pure ⟨e.val, rfl, hsome j e h1 h2⟩)
  all_goals show wpAny _ _ (Builtin.Dict.missed d u >>= _) _ _ _
  all_goals exact wpAny_bind (wpAny_missed_other hs (wpAny_pure ⟨_, rfl, hnone hn⟩))

/-! the entries as a list -/
abbrev RE := NestedKey × Value × Value
def ent (w : World) (x : RE) : DictEntry := ⟨x.1.hash w, x.2.1, x.2.2⟩
def rput : List RE → NestedKey → Value → Value → List RE
  | [], k, u, v => [(k, u, v)]
  | x :: r, k, u, v => if x.1 = k then (x.1, x.2.1, v) :: r else x :: rput r k u v
def rputs (L : List RE) (ps : List RE) : List RE := ps.foldl (fun m p => rput m p.1 p.2.1 p.2.2) L
theorem rput_new : ∀ {L : List RE} {k : NestedKey} {u v : Value}, k ∉ L.map (·.1) → rput L k u v = L ++ [(k, u, v)]
  | [], _, _, _, _ => rfl
  | x :: r, k, u, v, h => by
    have h1 : ¬ x.1 = k := fun e => h (by simp [e])
    rw [rput, if_neg h1, rput_new (fun z => h (List.mem_cons_of_mem _ z))]; rfl
theorem rput_keys_old : ∀ {L : List RE} {k : NestedKey} {u v : Value}, k ∈ L.map (·.1) → (rput L k u v).map (·.1) = L.map (·.1)
  | [], _, _, _, h => by simp at h
  | x :: r, k, u, v, h => by
    rw [rput]
    by_cases e : x.1 = k
    · rw [if_pos e]; rfl
    · rw [if_neg e]
      have : k ∈ r.map (·.1) := by
        rcases List.mem_cons.mp h with z | z
        · exact absurd z.symm e
        · exact z
      show x.1 :: _ = x.1 :: _
      rw [rput_keys_old this]
theorem rput_len : ∀ (L : List RE) (k : NestedKey) (u v : Value), (rput L k u v).length ≤ L.length + 1
  | [], _, _, _ => Nat.le_refl _
  | x :: r, k, u, v => by
    rw [rput]
    split
    · simp
    · have := rput_len r k u v
      simp only [List.length_cons]; omega
theorem rputs_len : ∀ (ps L : List RE), (rputs L ps).length ≤ L.length + ps.length
  | [], L => Nat.le_refl _
  | p :: ps, L => by
    show (rputs (rput L p.1 p.2.1 p.2.2) ps).length ≤ _
    have h1 := rputs_len ps (rput L p.1 p.2.1 p.2.2)
    have h2 := rput_len L p.1 p.2.1 p.2.2
    simp only [List.length_cons]; omega
theorem rputs_snoc (L ps : List RE) (p : RE) : rputs L (ps ++ [p]) = rput (rputs L ps) p.1 p.2.1 p.2.2 := by
  unfold rputs; rw [List.foldl_append]; rfl
theorem rput_nodup {L : List RE} {k : NestedKey} {u v : Value} (h : (L.map (·.1)).Nodup) : ((rput L k u v).map (·.1)).Nodup := by
  by_cases e : k ∈ L.map (·.1)
  · rw [rput_keys_old e]; exact h
  · rw [rput_new e, List.map_append, List.nodup_append]
    refine ⟨h, by simp, fun x hx y hy => ?_⟩
    simp only [List.map_cons, List.map_nil, List.mem_singleton] at hy
    subst hy
    exact fun z => e (z ▸ hx)
theorem rput_mem : ∀ {L : List RE} {k : NestedKey} {u v : Value} {x : RE}, x ∈ rput L k u v → (∃ y ∈ L, x.1 = y.1 ∧ x.2.1 = y.2.1) ∨ x = (k, u, v)
  | [], _, _, _, x, h => by
    rw [rput, List.mem_singleton] at h
    exact .inr h
  | y :: r, k, u, v, x, h => by
    rw [rput] at h
    split at h
    · rcases List.mem_cons.mp h with z | z
      · exact .inl ⟨y, List.mem_cons_self, by rw [z], by rw [z]⟩
      · exact .inl ⟨x, List.mem_cons_of_mem _ z, rfl, rfl⟩
    · rcases List.mem_cons.mp h with z | z
      · exact .inl ⟨y, List.mem_cons_self, by rw [z], by rw [z]⟩
      · rcases rput_mem z with ⟨y', h1, h2⟩ | h2
        · exact .inl ⟨y', List.mem_cons_of_mem _ h1, h2⟩
        · exact .inr h2
theorem modify_cons {α : Type} (x : α) (xs : List α) (j : Nat) (f : α → α) : (x :: xs).modify (j + 1) f = x :: xs.modify j f := by simp
theorem rput_ent : ∀ {L : List RE} {k : NestedKey} {u v : Value} {j : Nat}, (L.map (·.1)).Nodup → (L.map (·.1))[j]? = some k → (L.map (ent w)).modify j (fun e => { e with val := v }) = (rput L k u v).map (ent w)
  | [], _, _, _, _, _, h => by simp at h
  | x :: r, k, u, v, 0, _, h => by
    have e : x.1 = k := by simpa using h
    rw [rput, if_pos e]; rfl
  | x :: r, k, u, v, j + 1, hn, h => by
    have h' : (r.map (·.1))[j]? = some k := by simpa using h
    rw [List.map_cons, List.nodup_cons] at hn
    have e : ¬ x.1 = k := fun z => hn.1 (z ▸ List.mem_of_getElem? h')
    rw [rput, if_neg e, List.map_cons, modify_cons, rput_ent hn.2 h']; rfl
/-- at d stands a dict of the entries L -/
structure Rw (w : World) (h : Heap) (d : Addr) (L : List RE) (es : Array DictEntry) (ep : Nat) : Prop where
  dic : Dic h d es ep
  ents : es.toList = L.map (ent w)
  nd : (L.map (·.1)).Nodup
  keys : ∀ x ∈ L, NestedIs h x.1 x.2.1 ∧ x.1.depth ≤ 8
  ver : ep = es.size
theorem Rw.at_ {h : Heap} {d : Addr} {L : List RE} {es ep} (x : Rw w h d L es ep) (j : Nat) : es[j]? = (L[j]?).map (ent w) := by
  rw [← Array.getElem?_toList, x.ents, List.getElem?_map]
theorem Rw.ks {h : Heap} {d : Addr} {L : List RE} {es ep} (x : Rw w h d L es ep) : Ks w h (L.map (·.1)) es where
  sz := by rw [← Array.length_toList, x.ents, List.length_map, List.length_map]
  at_ := fun j k hj => by
    rw [List.getElem?_map] at hj
    cases e : L[j]? with
    | none => rw [e] at hj; cases hj
    | some y =>
      rw [e] at hj; cases hj
      obtain ⟨h1, h2⟩ := x.keys y (List.mem_of_getElem? e)
      exact ⟨ent w y, by rw [x.at_ j, e]; rfl, rfl, h1, h2⟩
  nd := x.nd
theorem same_nested {h h' : Heap} {d : Addr} {es ep} (hD : Dic h d es ep) (hs : Heap.SameBut d h h') {k : NestedKey} {u : Value} (hk : NestedIs h k u) : NestedIs h' k u := by
  obtain ⟨o, ho, _, hd⟩ := hD
  refine NestedIs.at (fun b ob vs n hb hc => (hs.2 b fun e => ?_).trans hb) k u hk
  subst e
  rw [ho] at hb; cases hb
  rw [hd] at hc; cases hc
theorem set_rw {d : Addr} {es ep} {L : List RE} {k : NestedKey} {u v : Value} {Q : Unit → Shared → Prop} (hu : A.units + 8 < cLine) (hkey : NestedIs s.heap k u) (hdp : k.depth ≤ 8)
    (hR : Rw w s.heap d L es ep) (hz : L.length ≤ sizeLine)
    (hQ : ∀ h' es' ep', Rw w h' d (rput L k u v) es' ep' → Heap.SameBut d s.heap h' → Q () { s with heap := h', toks := s.toks + k.draws }) : wpAny (model prog w) A (dictSet d u v) Q E s := by
  have old : ∀ h', Heap.SameBut d s.heap h' → ∀ x ∈ rput L k u v, NestedIs h' x.1 x.2.1 ∧ x.1.depth ≤ 8 := fun h' hs x hx => by
    rcases rput_mem hx with ⟨y, hy, e1, e2⟩ | e
    · rw [e1, e2]; exact ⟨same_nested hR.dic hs (hR.keys y hy).1, (hR.keys y hy).2⟩
    · subst e; exact ⟨same_nested hR.dic hs hkey, hdp⟩
  refine set_any hu hkey hdp hR.dic hR.ks (by rw [List.length_map]; exact hz) (fun hn h' hd' hs => hQ h' _ _ ⟨hd', ?_, rput_nodup hR.nd, old h' hs, by rw [Array.size_push, ← hR.ver]⟩ hs) fun j hj h' hd' hs => hQ h' _ _ ⟨hd', ?_, rput_nodup hR.nd, old h' hs, by rw [Array.size_modify, ← hR.ver]⟩ hs
  · rw [rput_new hn, Array.toList_push, hR.ents, List.map_append]; rfl
  · rw [Array.toList_modify, hR.ents]
    exact rput_ent hR.nd hj
/-- dict(xs), xs a list of tuples of two -/
theorem dict_list {a : Addr} {items : Array Value} {Ts : Nat → Addr} {ps : List RE} {Q : Value → Shared → Prop} (hh : A.handled = none) (hu : A.units + 12 < cLine)
    (hl : PlainSeq "list" s.heap a items) (hp : PairItems s.heap items Ts (ps.map (·.2))) (hk : ∀ p ∈ ps, NestedIs s.heap p.1 p.2.1 ∧ p.1.depth ≤ 8) (hz : ps.length ≤ sizeLine)
    (h : ∀ h' tk es ep, Rw w h' s.heap.objs.size (rputs [] ps) es ep → (∀ b o, s.heap.get? b = some o → h'.get? b = some o) → Q (.ref s.heap.objs.size) { s with heap := h', toks := tk }) :
    wpAny (model prog w) A (call (.type "dict") [.ref a]) Q E s := by
  refine call_dict_arg (PairArg.list a items Ts (ps.map (·.2))) ⟨hl, hp⟩ fun s₁ hs₁ hdf ok₁ => ?_
  subst hs₁
  refine updateFrom_arg (s := { s with heap := s.heap.push { cls := .type "dict", data := .dict #[] } }) (Tab := fun i h' => (∃ es ep, Rw w h' s.heap.objs.size (rputs [] (ps.take i)) es ep) ∧ ∀ b o, s.heap.get? b = some o → h'.get? b = some o) (PairArg.list a items Ts (ps.map (·.2))) .none hh ok₁ hdf ?_ ?_ ?_ ?_ ?_
  · exact ⟨⟨#[], 0, ⟨_, Heap.get?_push_size _ rfl, ⟨rfl, rfl, rfl⟩, rfl⟩, rfl, List.nodup_nil, (fun _ hx => by cases hx), rfl⟩, fun b o e => Heap.get?_push_of_some _ e⟩
  · rintro i h' ⟨⟨es, ep, x⟩, _⟩
    obtain ⟨o, ho, _⟩ := x.dic
    exact Heap.lt_size ho
  · rintro i h1 h2 wr' hd hw ⟨⟨es, ep, x⟩, kk⟩ hkp
    have hsz : ∀ b o, s.heap.get? b = some o → b ∉ wr' := fun b o e hb => by
      rcases hw b hb with q | q
      · cases q
      · have q' : (s.heap.push { cls := .type "dict", data := .dict #[] }).get? b = none := q
        rw [Heap.get?_push_of_some _ e] at q'; cases q'
    have kk' : ∀ b o, s.heap.get? b = some o → h2.get? b = some o := fun b o e => hkp b o (hsz b o e) (kk b o e)
    obtain ⟨o, ho, hc, hdt⟩ := x.dic
    refine ⟨⟨es, ep, ⟨o, hkp _ _ hd ho, hc, hdt⟩, x.ents, x.nd, fun y hy => ?_, x.ver⟩, kk'⟩
    have hy' : y ∈ rputs [] (ps.take i) := hy
    have src : ∀ (qs L : List RE), (∀ z ∈ L, NestedIs s.heap z.1 z.2.1) → (∀ z ∈ qs, NestedIs s.heap z.1 z.2.1) → ∀ z ∈ rputs L qs, NestedIs s.heap z.1 z.2.1 := by
      intro qs
      induction qs with
      | nil => exact fun L hL _ => hL
      | cons q qs ih =>
        intro L hL hq
        refine ih _ (fun z hz => ?_) fun z hz => hq z (List.mem_cons_of_mem _ hz)
        rcases rput_mem hz with ⟨y, hy, e1, e2⟩ | e
        · rw [e1, e2]; exact hL y hy
        · subst e; exact hq q List.mem_cons_self
    have n0 := src (ps.take i) [] (fun _ hz => by cases hz) (fun z hz => (hk z (List.mem_of_mem_take hz)).1) y hy'
    exact ⟨NestedIs.at (fun b ob vs n hb _ => kk' b ob hb) _ _ n0, (x.keys y hy).2⟩
  · intro i key v s' Q' E' hi hrel tb _ hQ
    obtain ⟨⟨es, ep, x⟩, kk⟩ := tb
    have hrel' : (ps.map (·.2))[i]? = some (key, v) := hrel
    rw [List.getElem?_map] at hrel'
    cases e : ps[i]? with
    | none => rw [e] at hrel'; cases hrel'
    | some p =>
      obtain ⟨k0, u0, v0⟩ := p
      rw [e] at hrel'
      have e2 : u0 = key ∧ v0 = v := by simpa using hrel'
      obtain ⟨rfl, rfl⟩ := e2
      obtain ⟨h1, h2⟩ := hk _ (List.mem_of_getElem? e)
      refine set_rw (k := k0) (by simp only [Around.in1_units]; omega) (NestedIs.at (fun b ob vs n hb _ => kk b ob hb) _ _ h1) h2 x ?_ fun h' es' ep' x' hs => ?_
      · have := rputs_len (ps.take i) []
        rw [List.length_take] at this
        simp only [List.length_nil] at this
        omega
      · refine hQ h' _ ⟨⟨es', ep', ?_⟩, fun b o eb => (hs.2 b fun z => ?_).trans (kk b o eb)⟩ hs
        · rw [List.take_add_one, e]
          rw [show (some (k0, u0, v0)).toList = [(k0, u0, v0)] from rfl, rputs_snoc]
          exact x'
        · subst z
          exact absurd (Heap.lt_size eb) (Nat.lt_irrefl _)
  · rintro h' tk ⟨⟨es, ep, x⟩, kk⟩ _
    rw [List.take_of_length_le (by rw [List.length_map]; exact Nat.le_refl _)] at x
    exact ⟨rfl, h h' tk es ep x kk⟩
end
end GR
end

section
set_option Elab.async false
set_option linter.all false
set_option maxRecDepth 100000
set_option maxHeartbeats 4000000
/-! G layer, soundness 1: how values and heaps of the domain stand for the hand layer's; judgements; names, constants, arithmetic, tests, statements. -/
namespace G
open PySem PySem.Spec PyProof.Rows L2

theorem sz_eq : sizeLine = SZ := by first | rfl | decide
/-- a text as the model lays it -/
def okS (x : Str) : Prop := x.length ≤ sizeLine
/-- a list that nobody writes -/
def RoL (K : PySem.W.Frag) (H : Hp) (a : Addr) (xs : List V) : Prop :=
  (∃ o, H a = some (.frz o (.lst xs))) ∨
    ∃ (o : Obj) (its : Array Value) (n : Nat), K.lookup a = some o ∧ o.cls = .type "list" ∧ o.dict = none ∧ o.data = .seq its n ∧ its.size ≤ sizeLine ∧ Vals xs its.toList
theorem RoL.sq {K : PySem.W.Frag} {H : Hp} {a : Addr} {xs : List V} (h : RoL K H a xs) : SqL K H a xs := by
  rcases h with h | h
  · exact .inl (.inr h)
  · exact .inr h

mutual
/-- the value v stands for d -/
inductive Rv (K : PySem.W.Frag) (H : Hp) : D → V → Prop
  | non : Rv K H .non .non
  | bl (b : Bool) : Rv K H (.bl b) (.bl b)
  | int (i : Int) : Rv K H (.int i) (.int i)
  | str (x : Str) : okS x → Rv K H (.str x) (.str x)
  | ref (a : Addr) : Rv K H (.ref a) (.ref a)
  | tup {a : Addr} {vs : List V} {ds : List D} : SqT K H a vs → RvL K H ds vs → Rv K H (.tup ds) (.ref a)
  | rl {a : Addr} {vs : List V} {ds : List D} : RoL K H a vs → RvL K H ds vs → Rv K H (.rl ds) (.ref a)
inductive RvL (K : PySem.W.Frag) (H : Hp) : List D → List V → Prop
  | nil : RvL K H [] []
  | cons {d : D} {v : V} {ds : List D} {vs : List V} : Rv K H d v → RvL K H ds vs → RvL K H (d :: ds) (v :: vs)
end

/-- what never changes stays -/
structure Kp (H H' : Hp) : Prop where
  tup : ∀ a xs, H a = some (.tup xs) → H' a = some (.tup xs)
  frz : ∀ a o u, H a = some (.frz o u) → H' a = some (.frz o u)
theorem Kp.refl (H : Hp) : Kp H H := ⟨fun _ _ e => e, fun _ _ _ e => e⟩
theorem Kp.trans {H H1 H2 : Hp} (x : Kp H H1) (y : Kp H1 H2) : Kp H H2 := ⟨fun a xs e => y.tup a xs (x.tup a xs e), fun a o u e => y.frz a o u (x.frz a o u e)⟩
theorem Kp.new {H : Hp} {p : Addr} {o : HO} (n : H p = none) : Kp H (upd H p o) := ⟨fun a xs e => by rw [upd_ne (L2.ne_of_none e n)]; exact e, fun a _ u e => by rw [upd_ne (L2.ne_of_none e n)]; exact e⟩
theorem Kp.wr {H : Hp} {p : Addr} {o u : HO} (e : H p = some u) (m : Mut (some u)) : Kp H (upd H p o) := by
  refine ⟨fun a xs q => ?_, fun a w x q => ?_⟩
  · have : a ≠ p := fun z => by subst z; rw [q] at e; cases e; exact m
    rw [upd_ne this]; exact q
  · have : a ≠ p := fun z => by subst z; rw [q] at e; cases e; exact m
    rw [upd_ne this]; exact q
theorem SqT.kp {K : PySem.W.Frag} {H H' : Hp} {a : Addr} {xs : List V} (k : Kp H H') (h : SqT K H a xs) : SqT K H' a xs := by
  rcases h with (h | ⟨o, h⟩) | h
  · exact .inl (.inl (k.tup _ _ h))
  · exact .inl (.inr ⟨o, k.frz _ _ _ h⟩)
  · exact .inr h
theorem RoL.kp {K : PySem.W.Frag} {H H' : Hp} {a : Addr} {xs : List V} (k : Kp H H') (h : RoL K H a xs) : RoL K H' a xs := by
  rcases h with ⟨o, h⟩ | h
  · exact .inl ⟨o, k.frz _ _ _ h⟩
  · exact .inr h
mutual
theorem Rv.kp {K : PySem.W.Frag} {H H' : Hp} (k : Kp H H') : ∀ {d : D} {v : V}, Rv K H d v → Rv K H' d v
  | _, _, .non => .non
  | _, _, .bl b => .bl b
  | _, _, .int i => .int i
  | _, _, .str x h => .str x h
  | _, _, .ref a => .ref a
  | _, _, .tup h r => .tup (SqT.kp k h) (RvL.kp k r)
  | _, _, .rl h r => .rl (RoL.kp k h) (RvL.kp k r)
theorem RvL.kp {K : PySem.W.Frag} {H H' : Hp} (k : Kp H H') : ∀ {ds : List D} {vs : List V}, RvL K H ds vs → RvL K H' ds vs
  | _, _, .nil => .nil
  | _, _, .cons h r => .cons (Rv.kp k h) (RvL.kp k r)
end
section
variable {K : PySem.W.Frag} {H : Hp}
theorem RvL.length : ∀ {ds : List D} {vs : List V}, RvL K H ds vs → ds.length = vs.length
  | _, _, .nil => rfl
  | _, _, .cons _ r => congrArg (· + 1) (RvL.length r)
theorem RvL.get : ∀ {ds : List D} {vs : List V} {i : Nat} {d : D}, RvL K H ds vs → ds[i]? = some d → ∃ v, vs[i]? = some v ∧ Rv K H d v
  | _, _, _, _, .nil, e => by simp at e
  | _, _, 0, _, .cons r _, e => by simp at e; subst e; exact ⟨_, rfl, r⟩
  | _, _, i + 1, d, .cons _ t, e => by
    obtain ⟨u, h1, h2⟩ := RvL.get (i := i) (d := d) t (by simpa using e)
    exact ⟨u, by simpa using h1, h2⟩
theorem RvL.get' : ∀ {ds : List D} {vs : List V} {i : Nat} {v : V}, RvL K H ds vs → vs[i]? = some v → ∃ d, ds[i]? = some d ∧ Rv K H d v
  | _, _, _, _, .nil, e => by simp at e
  | _, _, 0, _, .cons r _, e => by simp at e; subst e; exact ⟨_, rfl, r⟩
  | _, _, i + 1, d, .cons _ t, e => by
    obtain ⟨u, h1, h2⟩ := RvL.get' (i := i) (v := d) t (by simpa using e)
    exact ⟨u, by simpa using h1, h2⟩
theorem RvL.append : ∀ {ds es : List D} {vs us : List V}, RvL K H ds vs → RvL K H es us → RvL K H (ds ++ es) (vs ++ us)
  | _, _, _, _, .nil, s => s
  | _, _, _, _, .cons r t, s => .cons r (RvL.append t s)
theorem RvL.set {d : D} {v : V} (r : Rv K H d v) : ∀ {ds : List D} {vs : List V} (i : Nat), RvL K H ds vs → RvL K H (ds.set i d) (vs.set i v)
  | _, _, _, .nil => .nil
  | _, _, 0, .cons _ t => .cons r t
  | _, _, i + 1, .cons q t => .cons q (RvL.set r i t)
theorem RvL.take : ∀ {ds : List D} {vs : List V} (n : Nat), RvL K H ds vs → RvL K H (ds.take n) (vs.take n)
  | _, _, 0, _ => .nil
  | _, _, _ + 1, .nil => .nil
  | _, _, n + 1, .cons r t => .cons r (RvL.take n t)
theorem RvL.drop : ∀ {ds : List D} {vs : List V} (n : Nat), RvL K H ds vs → RvL K H (ds.drop n) (vs.drop n)
  | _, _, 0, r => r
  | _, _, _ + 1, .nil => .nil
  | _, _, n + 1, .cons _ t => RvL.drop n t
theorem RvL.one {d : D} {v : V} (r : Rv K H d v) : RvL K H [d] [v] := .cons r .nil
end

/-- the raw dict at a: its entries as they are -/
def RawD (a : Addr) (es : Array DictEntry) (ep : Nat) : Heap → Prop := fun h => GR.Dic h a es ep
mutual
/-- a key, as the library's -/
def nk : D → NestedKey
  | .int i => .num i
  | .str x => .text x
  | .tup ds => .tup (nkL ds)
  | _ => .none
def nkL : List D → List NestedKey
  | [] => []
  | d :: ds => nk d :: nkL ds
end
/-- an entry stands for a key and a value -/
def EntR (K : PySem.W.Frag) (w : World) (H : Hp) (p : D × D) (e : DictEntry) : Prop :=
  e.hash = (nk p.1).hash w ∧ pl 8 p.1 = true ∧ (∃ v, Rv K H p.1 v ∧ RelV v e.key) ∧ ∃ v, Rv K H p.2 v ∧ RelV v e.val
/-- what stands at an address -/
def RO (K : PySem.W.Frag) (w : World) (H : Hp) (a : Addr) : O → Prop
  | .lst ds => ∃ vs, H a = some (.lst vs) ∧ RvL K H ds vs
  | .dic kvs => kvs.length ≤ sizeLine ∧ (a == sysModules) = false ∧ (kvs.map (·.1)).Nodup ∧ ∃ (es : Array DictEntry) (ep : Nat), H a = some (.ext (RawD a es ep)) ∧ Paired (EntR K w H) kvs es.toList ∧ ep = es.size
  | .ins C fs => ∃ dx vs, H a = some (.ins C dx vs) ∧ fs.map (·.1) = vs.map (·.1) ∧ RvL K H (fs.map (·.2)) (vs.map (·.2))
/-- the tables of code objects that a program with lambdas has -/
class Tb where
  T : List (PySem.Addr × Str)
variable [Tb]
structure Abs (K : PySem.W.Frag) (w : World) (h : AH) (H : Hp) : Prop where
  at_ : ∀ a o, h a = some o → RO K w H a o
  tabs : LamX.Tabs Tb.T H
instance {K : PySem.W.Frag} {w : World} {h : AH} {H : Hp} : CoeFun (Abs K w h H) (fun _ => ∀ a o, h a = some o → RO K w H a o) := ⟨Abs.at_⟩
theorem tabs_wr {T : List (PySem.Addr × Str)} {H : Hp} {p : Addr} {u u' : HO} (t : LamX.Tabs T H) (e : H p = some u) (m : Mut (some u)) (hx : ∀ q, u ≠ LamX.CodeO p q) : LamX.Tabs T (upd H p u') := fun z hz => by
  obtain ⟨ps, h1, h2, h3⟩ := t z hz
  have n1 : z.1 ≠ p := fun y => by rw [y, e] at h1; cases h1; exact m
  refine ⟨ps, by rw [upd_ne n1]; exact h1, h2, fun pos cv hc => ?_⟩
  obtain ⟨c, e1, e2⟩ := h3 pos cv hc
  refine ⟨c, e1, ?_⟩
  have n2 : c ≠ p := fun y => by subst y; rw [e] at e2; cases e2; exact hx _ rfl
  rw [upd_ne n2]; exact e2
theorem pImp {α β : Type} {F G : α → β → Prop} (f : ∀ a b, F a b → G a b) : ∀ {l₁ : List α} {l₂ : List β}, Paired F l₁ l₂ → Paired G l₁ l₂
  | _, _, .nil => .nil
  | _, _, .cons r t => .cons (f _ _ r) (pImp f t)
section
variable {K : PySem.W.Frag} {w : World} {H H' : Hp} {h : AH} {a p : Addr} {o : O}
theorem EntR.kp (k : Kp H H') {q : D × D} {e : DictEntry} (r : EntR K w H q e) : EntR K w H' q e := by
  obtain ⟨h1, h2, ⟨v, r1, r2⟩, u, s1, s2⟩ := r
  exact ⟨h1, h2, ⟨v, r1.kp k, r2⟩, u, s1.kp k, s2⟩
theorem RO.some (r : RO K w H a o) : ∃ u, H a = some u ∧ Mut (some u) := by
  cases o with
  | lst ds => obtain ⟨vs, e, _⟩ := r; exact ⟨_, e, trivial⟩
  | dic kvs => obtain ⟨_, _, _, es, ep, e, _⟩ := r; exact ⟨_, e, trivial⟩
  | ins C fs => obtain ⟨dx, vs, e, _⟩ := r; exact ⟨_, e, trivial⟩
theorem RO.kp (k : Kp H H') (e : H' a = H a) (r : RO K w H a o) : RO K w H' a o := by
  cases o with
  | lst ds => obtain ⟨vs, q, s⟩ := r; exact ⟨vs, e.trans q, s.kp k⟩
  | dic kvs => obtain ⟨h1, h2, h3, es, ep, q, s, vv⟩ := r; exact ⟨h1, h2, h3, es, ep, e.trans q, pImp (fun _ _ x => x.kp k) s, vv⟩
  | ins C fs => obtain ⟨dx, vs, q, s1, s2⟩ := r; exact ⟨dx, vs, e.trans q, s1, s2.kp k⟩
theorem Abs.nil (A : Abs K w h H) (n : H p = .none) : h p = .none := by
  cases e : h p with
  | none => rfl
  | some o =>
    obtain ⟨u, q, _⟩ := (A p o e).some
    rw [n] at q; cases q
/-- a new object -/
theorem Abs.new {u : HO} (A : Abs K w h H) (n : H p = none) (r : RO K w (upd H p u) p o) : Abs K w (up h p o) (upd H p u) := ⟨fun a o' e => by
  by_cases z : a = p
  · subst z; rw [up_same] at e; cases e; exact r
  · rw [up_ne z] at e
    exact (A a o' e).kp (Kp.new n) (upd_ne z), A.tabs.ext fun b o e => by rw [upd_ne (L2.ne_of_none e n)]; exact e⟩
/-- something new that is not told of -/
theorem Abs.newH {u : HO} (A : Abs K w h H) (n : H p = none) : Abs K w h (upd H p u) := ⟨fun a o' e => by
  have z : a ≠ p := fun z => by subst z; rw [A.nil n] at e; cases e
  exact (A a o' e).kp (Kp.new n) (upd_ne z), A.tabs.ext fun b o e => by rw [upd_ne (L2.ne_of_none e n)]; exact e⟩
/-- a store -/
theorem Abs.wr {u u' : HO} (A : Abs K w h H) (e : H p = some u) (m : Mut (some u)) (r : RO K w (upd H p u') p o) (hx : ∀ q, u ≠ LamX.CodeO p q := by intro q z; unfold LamX.CodeO at z; cases z) : Abs K w (up h p o) (upd H p u') := ⟨fun a o' q => by
  by_cases z : a = p
  · subst z; rw [up_same] at q; cases q; exact r
  · rw [up_ne z] at q
    exact (A a o' q).kp (Kp.wr e m) (upd_ne z), tabs_wr A.tabs e m hx⟩
theorem Abs.sub {h0 : AH} (A : Abs K w h H) (s : Sb h0 h) : Abs K w h0 H := ⟨fun a o e => A a o (s a o e), A.tabs⟩
end

/-- the slots -/
def RS (K : PySem.W.Frag) (H : Hp) (ρ : Lo) (σ : L2.St) : Prop := ρ.length = σ.length ∧ ∀ (i : Nat) (d : D), ρ[i]? = some (some d) → ∃ v, σ[i]? = some (some v) ∧ Rv K H d v
theorem RS.kp {K : PySem.W.Frag} {H H' : Hp} {ρ : Lo} {σ : L2.St} (k : Kp H H') (r : RS K H ρ σ) : RS K H' ρ σ := ⟨r.1, fun i d e => let ⟨v, h1, h2⟩ := r.2 i d e; ⟨v, h1, h2.kp k⟩⟩
theorem RS.set {K : PySem.W.Frag} {H : Hp} {ρ : Lo} {σ : L2.St} {d : D} {v : V} {i : Nat} (r : RS K H ρ σ) (x : Rv K H d v) : RS K H (ρ.set i (some d)) (σ.set i (some v)) := by
  refine ⟨by simp [r.1], fun j e q => ?_⟩
  by_cases z : i = j
  · subst z
    by_cases hl : i < ρ.length
    · rw [List.getElem?_set_self hl] at q
      cases q
      exact ⟨v, by rw [List.getElem?_set_self (by rw [← r.1]; exact hl)], x⟩
    · rw [List.getElem?_eq_none (by simp; omega)] at q; cases q
  · rw [List.getElem?_set_ne z] at q
    obtain ⟨u, h1, h2⟩ := r.2 j e q
    exact ⟨u, by rw [List.getElem?_set_ne z]; exact h1, h2⟩
theorem RS.wipe {K : PySem.W.Frag} {H : Hp} {ρ : Lo} {σ : L2.St} (r : RS K H ρ σ) : ∀ vs : List Nat, RS K H (wipe ρ vs) (L2.wipe σ vs)
  | [] => r
  | i :: vs => by
    have ih := RS.wipe r vs
    unfold G.wipe L2.wipe
    refine ⟨by simp [ih.1], fun j e q => ?_⟩
    by_cases z : i = j
    · subst z
      by_cases hl : i < (G.wipe ρ vs).length
      · rw [List.getElem?_set_self hl] at q; cases q
      · rw [List.getElem?_eq_none (by simp; omega)] at q; cases q
    · rw [List.getElem?_set_ne z] at q
      obtain ⟨u, h1, h2⟩ := ih.2 j e q
      exact ⟨u, by rw [List.getElem?_set_ne z]; exact h1, h2⟩

/-! ### readings of the hand layer from those of the domain -/
/-- Q0 of the domain is enough for Q -/
def KQ (K : PySem.W.Frag) (w : World) (H : Hp) (Q0 : KD) (Q : VK) : Prop := ∀ d h' v H', Q0 d h' → Kp H H' → Rv K H' d v → Abs K w h' H' → Q v H'
def tE (K : PySem.W.Frag) (w : World) (f : DE) : TE := fun σ H Q => ∃ ρ h Q0, RS K H ρ σ ∧ Abs K w h H ∧ f ρ h Q0 ∧ KQ K w H Q0 Q
def tT (K : PySem.W.Frag) (w : World) (f : DT) : TT := fun σ H Q => ∃ ρ h Q0, RS K H ρ σ ∧ Abs K w h H ∧ f ρ h Q0 ∧ ∀ b h' H', Q0 b h' → Kp H H' → Abs K w h' H' → Q b H'
def tA (K : PySem.W.Frag) (w : World) (f : DA) : TA := fun σ H Q => ∃ ρ h Q0, RS K H ρ σ ∧ Abs K w h H ∧ f ρ h Q0 ∧ ∀ ds h' vs H', Q0 ds h' → Kp H H' → RvL K H' ds vs → Abs K w h' H' → Q vs H'
structure KF (K : PySem.W.Frag) (w : World) (H : Hp) (F : Fin) (D : Ends) : Prop where
  nx : ∀ ρ h σ H', F.nx ρ h → Kp H H' → RS K H' ρ σ → Abs K w h H' → D.nx σ H'
  rt : KQ K w H F.rt D.rt
  bk : ∀ ρ h σ H', F.bk ρ h → Kp H H' → RS K H' ρ σ → Abs K w h H' → D.bk σ H'
  ct : ∀ ρ h σ H', F.ct ρ h → Kp H H' → RS K H' ρ σ → Abs K w h H' → D.ct σ H'
theorem KF.kp {K : PySem.W.Frag} {w : World} {H H1 : Hp} {F : Fin} {D : Ends} (k : Kp H H1) (x : KF K w H F D) : KF K w H1 F D :=
  ⟨fun ρ h σ H' a b => x.nx ρ h σ H' a (k.trans b), fun d h v H' a b => x.rt d h v H' a (k.trans b), fun ρ h σ H' a b => x.bk ρ h σ H' a (k.trans b), fun ρ h σ H' a b => x.ct ρ h σ H' a (k.trans b)⟩
def tS (K : PySem.W.Frag) (w : World) (f : DS) : TS := fun D σ H => ∃ ρ h F, RS K H ρ σ ∧ Abs K w h H ∧ f F ρ h ∧ KF K w H F D
/-- the two differ at sl alone -/
def Sm (sl : List Nat) (σ σ' : L2.St) : Prop := σ'.length = σ.length ∧ ∀ i, i ∉ sl → σ'[i]? = σ[i]?
theorem Sm.refl (sl : List Nat) (σ : L2.St) : Sm sl σ σ := ⟨rfl, fun _ _ => rfl⟩
theorem Sm.trans {a b : List Nat} {σ σ' σ'' : L2.St} (x : Sm a σ σ') (y : Sm b σ' σ'') : Sm (a ++ b) σ σ'' :=
  ⟨y.1.trans x.1, fun i n => (y.2 i fun z => n (List.mem_append_right _ z)).trans (x.2 i fun z => n (List.mem_append_left _ z))⟩
theorem Sm.one {i : Nat} {σ : L2.St} {x : Option V} : Sm [i] σ (σ.set i x) := ⟨by simp, fun j n => by
  have : i ≠ j := fun e => n (by simp [e])
  rw [List.getElem?_set_ne this]⟩
theorem wipe_get (σ : L2.St) (i : Nat) : ∀ vs : List Nat, (L2.wipe σ vs)[i]? = if i ∈ vs then (if i < σ.length then some none else none) else σ[i]?
  | [] => by simp [L2.wipe]
  | v :: vs => by
    have ih := wipe_get σ i vs
    unfold L2.wipe
    by_cases e : v = i
    · subst e
      rw [if_pos List.mem_cons_self]
      by_cases hl : v < σ.length
      · rw [if_pos hl, List.getElem?_set_self (by rw [wipe_length]; exact hl)]
      · rw [if_neg hl, List.getElem?_eq_none (by rw [List.length_set, wipe_length]; omega)]
    · rw [List.getElem?_set_ne e, ih]
      have : (i ∈ v :: vs) ↔ i ∈ vs := by
        simp only [List.mem_cons]
        exact ⟨fun h => h.resolve_left (fun z => e z.symm), .inr⟩
      simp only [this]
theorem Sm.wipe {own : List Nat} {σ σ' : L2.St} (x : Sm own (L2.wipe σ own) σ') : L2.wipe σ' own = L2.wipe σ own := by
  apply List.ext_getElem?
  intro i
  rw [wipe_get, wipe_get]
  have e := x.1
  rw [wipe_length] at e
  by_cases hi : i ∈ own
  · rw [if_pos hi, if_pos hi, e]
  · rw [if_neg hi, if_neg hi, x.2 i hi, wipe_get, if_neg hi]
def tG (K : PySem.W.Frag) (w : World) (sl : List Nat) (g : DG) : TG := fun v σ H Q => ∃ d ρ h Q0, Rv K H d v ∧ RS K H ρ σ ∧ Abs K w h H ∧ g d ρ h Q0 ∧ ∀ ρ' h' σ' H', Q0 ρ' h' → Kp H H' → RS K H' ρ' σ' → Abs K w h' H' → Sm sl σ σ' → Q σ' H'
def tGs (K : PySem.W.Frag) (w : World) (sl : List Nat) (g : DGs) : TGs := fun vs σ H Q => ∃ ds ρ h Q0, RvL K H ds vs ∧ RS K H ρ σ ∧ Abs K w h H ∧ g ds ρ h Q0 ∧ ∀ ρ' h' σ' H', Q0 ρ' h' → Kp H H' → RS K H' ρ' σ' → Abs K w h' H' → Sm sl σ σ' → Q σ' H'

abbrev GE (X : Cx) (e : Expr) (f : DE) : Prop := PE X e (tE X.K X.w f)
abbrev GT (X : Cx) (e : Expr) (f : DT) : Prop := PT X e (tT X.K X.w f)
abbrev GW (X : Cx) (e : Expr) (f : DT) : Prop := PW X e (tT X.K X.w f)
abbrev GA (X : Cx) (es : List Expr) (f : DA) : Prop := PA X es (tA X.K X.w f)
abbrev GS (X : Cx) (st : Stmt) (f : DS) : Prop := PS X st (tS X.K X.w f)
abbrev GSs (X : Cx) (st : List Stmt) (f : DS) : Prop := PSs X st (tS X.K X.w f)
abbrev GG (X : Cx) (tg : Expr) (sl : List Nat) (g : DG) : Prop := PG X tg (tG X.K X.w sl g)
abbrev GGs (X : Cx) (tgs : List Expr) (sl : List Nat) (g : DGs) : Prop := PGs X tgs (tGs X.K X.w sl g)

theorem pe_imp {X : Cx} {e : Expr} {t t' : TE} (h : PE X e t) (f : ∀ σ H Q, t' σ H Q → t σ H Q) : PE X e t' := ⟨fun pins s σ H Q I q => h.run pins s σ H Q I (f _ _ _ q)⟩
theorem pt_imp {X : Cx} {e : Expr} {t t' : TT} (h : PT X e t) (f : ∀ σ H Q, t' σ H Q → t σ H Q) : PT X e t' := ⟨fun pins s σ H Q I q => h.run pins s σ H Q I (f _ _ _ q)⟩
theorem pw_imp {X : Cx} {e : Expr} {t t' : TT} (h : PW X e t) (f : ∀ σ H Q, t' σ H Q → t σ H Q) : PW X e t' := ⟨fun w pins s σ H Q I q => h.run w pins s σ H Q I (f _ _ _ q)⟩
theorem pa_imp {X : Cx} {e : List Expr} {t t' : TA} (h : PA X e t) (f : ∀ σ H Q, t' σ H Q → t σ H Q) : PA X e t' := ⟨fun p pins s σ H Q I q => h.run p pins s σ H Q I (f _ _ _ q)⟩
theorem ps_imp {X : Cx} {e : Stmt} {t t' : TS} (h : PS X e t) (f : ∀ D σ H, t' D σ H → t D σ H) : PS X e t' := ⟨fun pins s σ H D I q => h.run pins s σ H D I (f _ _ _ q)⟩
theorem pss_imp {X : Cx} {e : List Stmt} {t t' : TS} (h : PSs X e t) (f : ∀ D σ H, t' D σ H → t D σ H) : PSs X e t' := ⟨fun pins s σ H D I q => h.run pins s σ H D I (f _ _ _ q)⟩
section
variable {X : Cx} {e : Expr} {tg : Expr} {pos : Pos}
/-! names, constants -/
theorem ge_var (i : Nat) {x : Str} (hN : X.N[i]? = some x := by rfl) (hv : Vis X.env.scope x := by first | exact Or.inl rfl | exact Or.inr (Or.inl rfl) | exact Or.inr (Or.inr rfl)) (hd : (x == ("__debug__" : Str)) = false := by decide)
    (hcd : (x == ("__classdict__" : Str)) = false := by decide) : GE X (.Name x pos) (dVar i) :=
  pe_imp (pv i hN hv hd hcd) fun σ H Q ⟨ρ, h, Q0, R, A, q, k⟩ => by
    unfold dVar onV at q
    split at q
    · rename_i d e
      obtain ⟨v, e1, r⟩ := R.2 i d e
      exact ⟨v, e1, k _ _ _ _ q (Kp.refl _) r A⟩
    · exact q.elim
theorem ge_c {d : D} {v : V} (h : PE X e (tC v)) (r : ∀ H, Rv X.K H d v) : GE X e (dC d) :=
  pe_imp h fun σ H Q ⟨ρ, h, Q0, R, A, q, k⟩ => k _ _ _ _ q (Kp.refl _) (r H) A
theorem ge_int {i : Int} {j pos} : GE X (.Constant (.int i) j pos) (dInt i) := ge_c pe_int fun _ => .int _
theorem ge_bl {b j pos} : GE X (.Constant (.bool b) j pos) (dBl b) := ge_c pe_bl fun _ => .bl _
theorem ge_non {j pos} : GE X (.Constant .none j pos) dNon := ge_c pe_non fun _ => .non
theorem ge_str {x : String} {j pos} (ok : okS (Str.ofString x) := by unfold okS; decide) : GE X (.Constant (.str x) j pos) (dStr (Str.ofString x)) := ge_c pe_str fun _ => .str _ ok

/-! argument lists, displays -/
theorem ga_nil : GA X [] daNil := pa_imp pa_nil fun σ H Q ⟨ρ, h, Q0, R, A, q, k⟩ => k _ _ _ _ q (Kp.refl _) .nil A
theorem ga_cons {es : List Expr} {f : DE} {g : DA} (ha : GE X e f) (hr : GA X es g) (hs : starEach (e :: es) X.env = (false, eval e X.env) :: starEach es X.env := by rfl) : GA X (e :: es) (daCons f g) :=
  pa_imp (pa_cons ha hr hs) fun σ H Q ⟨ρ, h, Q0, R, A, q, k⟩ =>
    ⟨ρ, h, _, R, A, q, fun d h1 v H1 q1 k1 r1 A1 => ⟨ρ, h1, _, R.kp k1, A1, q1, fun ds h2 vs H2 q2 k2 r2 A2 => k _ _ _ _ q2 (k1.trans k2) (.cons (r1.kp k2) r2) A2⟩⟩
theorem ge_tup {es : List Expr} {x1} {f : DA} (h : GA X es f) : GE X (.Tuple es x1 pos) (dTup f) :=
  pe_imp (pe_tup h) fun σ H Q ⟨ρ, h, Q0, R, A, q, k⟩ =>
    ⟨ρ, h, _, R, A, q, fun ds h1 vs H1 ⟨z, q1⟩ k1 r1 A1 => ⟨by rw [← r1.length, sz_eq]; exact z, fun p n =>
      k _ _ _ _ q1 (k1.trans (Kp.new n)) (.tup (SqT.of upd_same) (r1.kp (Kp.new n))) (A1.newH n)⟩⟩
theorem newL_ok {ds : List D} {vs : List V} {h : AH} {H H1 : Hp} {Q0 : KD} {Q : VK} {K : PySem.W.Frag} {w : World} {p : Addr} (q : newL ds h Q0) (A : Abs K w h H1) (r : RvL K H1 ds vs) (n : H1 p = none) (k1 : Kp H H1) (k : KQ K w H Q0 Q) : Q (.ref p) (upd H1 p (.lst vs)) :=
  k _ _ _ _ (q.go p (A.nil n)) (k1.trans (Kp.new n)) (.ref p) (A.new (o := .lst ds) n ⟨vs, upd_same, r.kp (Kp.new n)⟩)
theorem ge_lst {es : List Expr} {f : DA} (h : GA X es f) : GE X (.List es pos) (dLst f) :=
  pe_imp (pe_lst h) fun σ H Q ⟨ρ, h, Q0, R, A, q, k⟩ =>
    ⟨ρ, h, _, R, A, q, fun ds h1 vs H1 ⟨z, q1⟩ k1 r1 A1 => ⟨by rw [← r1.length, sz_eq]; exact z, fun p n => newL_ok q1 A1 r1 n k1 k⟩⟩

/-! operators by value -/
/-- f of the domain is enough for r of the hand layer -/
def R2ok (K : PySem.W.Frag) (w : World) (f : D → D → AH → KD → Prop) : R2 := fun x y H Q => ∃ d e h Q0, Rv K H d x ∧ Rv K H e y ∧ Abs K w h H ∧ f d e h Q0 ∧ KQ K w H Q0 Q
abbrev GO (X : Cx) (op : Operator) (f : D → D → AH → KD → Prop) : Prop := OpR X (binaryOp op) (R2ok X.K X.w f)
abbrev GC (X : Cx) (op : CmpOp) (f : D → D → AH → KD → Prop) : Prop := OpR X (compareOp op) (R2ok X.K X.w f)
theorem KQ.kp {K : PySem.W.Frag} {w : World} {H H1 : Hp} {Q0 : KD} {Q : VK} (k : Kp H H1) (x : KQ K w H Q0 Q) : KQ K w H1 Q0 Q := fun d h v H' a b => x d h v H' a (k.trans b)
theorem d2_ok {K : PySem.W.Frag} {w : World} {f : D → D → AH → KD → Prop} {a b : DE} {σ : L2.St} {H : Hp} {Q : VK} (x : tE K w (d2 f a b) σ H Q) : tOp (R2ok K w f) (tE K w a) (tE K w b) σ H Q := by
  obtain ⟨ρ, h, Q0, R, A, q, k⟩ := x
  exact ⟨ρ, h, _, R, A, q, fun d h1 v H1 q1 k1 r1 A1 => ⟨ρ, h1, _, R.kp k1, A1, q1, fun e h2 u H2 q2 k2 r2 A2 => ⟨d, e, h2, Q0, r1.kp k2, r2, A2, q2, k.kp (k1.trans k2)⟩⟩⟩
theorem ge_op {op : Operator} {a b : Expr} {f : D → D → AH → KD → Prop} {fa fb : DE} (ho : GO X op f) (ha : GE X a fa) (hb : GE X b fb) : GE X (.BinOp a op b pos) (d2 f fa fb) :=
  pe_imp (pe_op ho ha hb) fun _ _ _ x => d2_ok x
theorem ge_cmp {op : CmpOp} {a b : Expr} {f : D → D → AH → KD → Prop} {fa fb : DE} (ho : GC X op f) (ha : GE X a fa) (hb : GE X b fb) (hm : behindInMarks op b = false := by first | exact nobehind _ (by decide) (by decide) | rfl) : GE X (.Compare a [op] [b] pos) (d2 f fa fb) :=
  pe_imp (pe_cmpR ho ha hb hm) fun _ _ _ x => d2_ok x
/-- from int rules -/
theorem op_use {f : Value → Value → Sem Value} {r : R2} {g : D → D → AH → KD → Prop} (ho : OpR X f r) (h : ∀ x y H Q, R2ok X.K X.w g x y H Q → r x y H Q) : OpR X f (R2ok X.K X.w g) :=
  fun pins s σ H x y v u Q I rx ry q => ho pins s σ H x y v u Q I rx ry (h _ _ _ _ q)
end
end G
end

section
set_option Elab.async false
set_option linter.all false
set_option maxRecDepth 100000
set_option maxHeartbeats 4000000
/-! G layer, soundness 2: operators, comparisons, tests, statements, targets, subscripts. -/
namespace G
open PySem PySem.Spec PyProof.Rows L2
variable [Tb]
section
variable {X : Cx}

/-! ### arithmetic -/
theorem go_add : GO X .Add oAdd := fun pins s σ H x y v u Q I rx ry ⟨d, e, h, Q0, rd, re, A, q, k⟩ => by
  cases d with
  | int i =>
    cases e with
    | int j =>
      cases rd; cases re
      exact op_add pins s σ H _ _ v u Q I rx ry ⟨i, j, rfl, rfl, k _ _ _ _ q (Kp.refl _) (.int _) A⟩
    | _ => exact q.elim
  | str i =>
    cases e with
    | str j =>
      obtain ⟨z, q⟩ := q
      cases rd; cases re
      exact op_add_str pins s σ H _ _ v u Q I rx ry ⟨i, j, rfl, rfl, by rw [sz_eq]; exact z, k _ _ _ _ q (Kp.refl _) (.str _ (by
        show (i ++ j).length ≤ sizeLine
        have e : (i ++ j).length = i.length + j.length := by
          show (Str.append i j).length = _
          simp [Str.append, Str.length]
        rw [e, sz_eq]; exact z)) A⟩
    | _ => exact q.elim
  | tup ds =>
    cases e with
    | tup es =>
      obtain ⟨z, q⟩ := q
      cases rd with
      | tup h1 r1 =>
      cases re with
      | tup h2 r2 =>
      have l1 := r1.length
      have l2 := r2.length
      refine op_catA pins s σ H _ _ v u Q I rx ry ⟨_, _, _, _, rfl, rfl, h1, h2, by rw [sz_eq]; omega, fun e => ?_, fun e1 e2 => ?_, fun e1 e2 p n => ?_⟩
      · subst e
        have : ds = [] := List.eq_nil_of_length_eq_zero l1
        subst this
        exact k _ _ _ _ q (Kp.refl _) (.tup h2 r2) A
      · subst e2
        have : es = [] := List.eq_nil_of_length_eq_zero l2
        subst this
        rw [List.append_nil] at q
        exact k _ _ _ _ q (Kp.refl _) (.tup h1 r1) A
      · exact k _ _ _ _ q (Kp.new n) (.tup (SqT.of upd_same) ((r1.append r2).kp (Kp.new n))) (A.newH n)
    | _ => exact q.elim
  | ref a =>
    cases e with
    | ref b =>
      cases rd; cases re
      dsimp only [oAdd] at q
      unfold addR at q
      split at q
      · rename_i xs ys ea eb
        obtain ⟨z, q⟩ := q
        obtain ⟨vs, e1, r1⟩ := A a _ ea
        obtain ⟨us, e2, r2⟩ := A b _ eb
        have l1 := r1.length
        have l2 := r2.length
        exact op_cat pins s σ H _ _ v u Q I rx ry ⟨a, b, vs, us, rfl, rfl, e1, e2, by rw [sz_eq]; omega, fun p n => newL_ok q A (r1.append r2) n (Kp.refl _) k⟩
      · exact q.elim
    | _ => exact q.elim
  | _ => exact q.elim
theorem go_sub : GO X .Sub oSub := op_use op_sub fun x y H Q ⟨d, e, h, Q0, rd, re, A, q, k⟩ => by
  cases d <;> cases e <;> first | exact q.elim | skip
  cases rd; cases re
  exact ⟨_, _, rfl, rfl, k _ _ _ _ q (Kp.refl _) (.int _) A⟩
theorem rvL_rep {K : PySem.W.Frag} {H : Hp} {ds : List D} {vs : List V} (r : RvL K H ds vs) : ∀ n : Nat, RvL K H (List.replicate n ds).flatten (List.replicate n vs).flatten
  | 0 => .nil
  | n + 1 => by
    rw [List.replicate_succ, List.replicate_succ, List.flatten_cons, List.flatten_cons]
    exact r.append (rvL_rep r n)
theorem go_mul : GO X .Mult oMul := fun pins s σ H x y v u Q I rx ry ⟨d, e, h, Q0, rd, re, A, q, k⟩ => by
  cases d with
  | int i =>
    cases e with
    | int j =>
      cases rd; cases re
      obtain ⟨c | c | c, q⟩ := q
      · exact op_mul pins s σ H _ _ v u Q I rx ry ⟨_, _, rfl, rfl, .inl c, k _ _ _ _ q (Kp.refl _) (.int _) A⟩
      · exact op_mul pins s σ H _ _ v u Q I rx ry ⟨_, _, rfl, rfl, .inr c, k _ _ _ _ q (Kp.refl _) (.int _) A⟩
      · exact op_mulW pins s σ H _ _ v u Q I rx ry ⟨_, _, rfl, rfl, wide_mul c.1 c.2 (by decide) (by decide) (by decide), k _ _ _ _ q (Kp.refl _) (.int _) A⟩
    | _ => exact q.elim
  | ref a =>
    cases e with
    | int j =>
      cases rd; cases re
      dsimp only [oMul] at q
      unfold mulR at q
      split at q
      · rename_i xs ea
        obtain ⟨⟨b1, b2⟩, z, q⟩ := q
        obtain ⟨vs, e1, r1⟩ := A a _ ea
        have l1 := r1.length
        exact op_rep pins s σ H _ _ v u Q I rx ry ⟨a, j, vs, rfl, rfl, e1, by omega, by omega, by rw [sz_eq, ← l1]; exact z, fun p n => newL_ok q A (rvL_rep r1 _) n (Kp.refl _) k⟩
      · exact q.elim
    | _ => exact q.elim
  | _ => exact q.elim
theorem big_le : (2 : Int) ^ 64 ≤ 2 ^ 8000 := by
  have h : (2 : Nat) ^ 64 ≤ 2 ^ 8000 := Nat.pow_le_pow_right (by decide) (by decide)
  exact_mod_cast h
theorem div_lt {j : Int} (c : 0 < j) (c2 : j < 2 ^ 8000) : j.natAbs < 2 ^ 8000 := by
  have h1 : (j.natAbs : Int) = j := Int.natAbs_of_nonneg (Int.le_of_lt c)
  have h2 : (j.natAbs : Int) < ((2 ^ 8000 : Nat) : Int) := by
    rw [h1, Int.natCast_pow]
    exact c2
  exact Int.ofNat_lt.mp h2
theorem go_div : GO X .FloorDiv oDiv := op_use op_fdivW fun x y H Q ⟨d, e, h, Q0, rd, re, A, q, k⟩ => by
  cases d <;> cases e <;> first | exact q.elim | skip
  cases rd; cases re
  obtain ⟨c, c2, q⟩ := q
  refine ⟨_, _, rfl, rfl, wide_div (b := 8000) c (div_lt c (Int.lt_of_lt_of_le c2 big_le)) (by decide) (by decide), k _ _ _ _ q (Kp.refl _) (.int _) A⟩
theorem go_mod : GO X .Mod oMod := op_use op_mod fun x y H Q ⟨d, e, h, Q0, rd, re, A, q, k⟩ => by
  cases d <;> cases e <;> first | exact q.elim | skip
  cases rd; cases re
  obtain ⟨c, q⟩ := q
  exact ⟨_, _, rfl, rfl, c, k _ _ _ _ q (Kp.refl _) (.int _) A⟩
theorem go_pow : GO X .Pow oPow := op_use op_pow fun x y H Q ⟨d, e, h, Q0, rd, re, A, q, k⟩ => by
  cases d <;> cases e <;> first | exact q.elim | skip
  cases rd; cases re
  obtain ⟨c1, c2, c3, q⟩ := q
  exact ⟨_, _, rfl, rfl, ⟨c1, c2, c3⟩, k _ _ _ _ q (Kp.refl _) (.int _) A⟩
theorem ge_neg {a : Expr} {pos : Pos} {f : DE} (ha : GE X a f) : GE X (.UnaryOp .USub a pos) (d1 oNeg f) :=
  pe_imp (pe_un un_neg ha) fun σ H Q ⟨ρ, h, Q0, R, A, q, k⟩ => ⟨ρ, h, _, R, A, q, fun d h1 v H1 q1 k1 r1 A1 => by
    cases d <;> first | exact q1.elim | skip
    cases r1
    exact ⟨_, rfl, k _ _ _ _ q1 k1 (.int _) A1⟩⟩

/-! ### comparisons -/
mutual
/-- the library's datum of data by value -/
def tp : D → PyData
  | .bl b => .bool b
  | .int i => .int i
  | .str x => .str x
  | .tup ds => .tuple (tpL ds)
  | .rl ds => .list (tpL ds)
  | _ => .none
def tpL : List D → List PyData
  | [] => []
  | d :: ds => tp d :: tpL ds
end
theorem tpL_map : ∀ ds : List D, tpL ds = ds.map tp
  | [] => rfl
  | d :: ds => by rw [tpL, tpL_map ds]; rfl
/-- no address in it -/
inductive Cl : D → Prop
  | non : Cl .non
  | bl (b) : Cl (.bl b)
  | int (i) : Cl (.int i)
  | str (x) : Cl (.str x)
  | tup {ds} : (∀ d ∈ ds, Cl d) → Cl (.tup ds)
  | rl {ds} : (∀ d ∈ ds, Cl d) → Cl (.rl ds)
theorem mapO_some {α β : Type} {f : α → Option β} : ∀ {xs : List α} {ys : List β}, mapO f xs = some ys → Paired (fun x y => f x = some y) xs ys
  | [], ys, h => by unfold mapO at h; cases h; exact .nil
  | x :: xs, ys, h => by
    unfold mapO at h
    split at h
    · rename_i e es h1 h2
      cases h
      exact .cons h1 (mapO_some h2)
    · cases h
theorem readsAll_of {h : Heap} : ∀ {us : List Value} {ps : List PyData}, Paired (fun u p => ∃ as, Reads h u p as) us ps → ∃ as, ReadsAll h us ps as
  | _, _, .nil => ⟨[], .nil⟩
  | _, _, .cons ⟨as, r⟩ t => by
    obtain ⟨bs, q⟩ := readsAll_of t
    exact ⟨as ++ bs, .cons r q⟩
section
variable {pins : List (Addr × Obj)} {σ : L2.St} {H : Hp} {s : Shared} {h : AH}
theorem reads_list {f : D → Option D} (ih : ∀ d d' v u, f d = some d' → Rv X.K H d v → RelV v u → ∃ as, Reads s.heap u (tp d') as) : ∀ {ds ds' : List D} {vs : List V} {us : List Value}, mapO f ds = some ds' → RvL X.K H ds vs → Vals vs us → ∃ as, ReadsAll s.heap us (tpL ds') as
  | [], _, _, _, e, r, r2 => by
    unfold mapO at e; cases e
    cases r; cases r2
    exact ⟨[], .nil⟩
  | d :: ds, ds', _, _, e, r, r2 => by
    unfold mapO at e
    split at e
    · rename_i e1 es h1 h2
      cases e
      cases r with
      | cons ra rb =>
        cases r2 with
        | cons sa sb =>
          obtain ⟨as, q1⟩ := ih _ _ _ _ h1 ra sa
          obtain ⟨bs, q2⟩ := reads_list ih h2 rb sb
          exact ⟨as ++ bs, .cons q1 q2⟩
    · cases e
theorem reads (I : Inv X pins σ H s) (A : Abs X.K X.w h H) : ∀ (n : Nat) (d d' : D) (v : V) (u : Value), rei h n d = some d' → Rv X.K H d v → RelV v u → ∃ as, Reads s.heap u (tp d') as := by
  intro n
  induction n with
  | zero =>
    intro d d' v u e r r2
    cases d <;> simp [rei] at e
    all_goals (subst e; cases r)
    · cases r2; exact ⟨_, .none⟩
    · cases r2; exact ⟨_, .bool _⟩
    · obtain ⟨t, rfl⟩ := r2; exact ⟨_, .int _ t⟩
    · obtain ⟨t, rfl⟩ := r2; exact ⟨_, .str _ t⟩
  | succ n ih =>
    intro d d' v u e r r2
    cases d with
    | non => simp [rei] at e; subst e; cases r; cases r2; exact ⟨_, .none⟩
    | bl b => simp [rei] at e; subst e; cases r; cases r2; exact ⟨_, .bool _⟩
    | int i => simp [rei] at e; subst e; cases r; obtain ⟨t, rfl⟩ := r2; exact ⟨_, .int _ t⟩
    | str x => simp [rei] at e; subst e; cases r; obtain ⟨t, rfl⟩ := r2; exact ⟨_, .str _ t⟩
    | tup ds =>
      simp only [rei, Option.map_eq_some_iff] at e
      obtain ⟨ds', e, rfl⟩ := e
      cases r with
      | tup h1 h2 =>
        cases r2
        obtain ⟨its, rv, ⟨o, ho, hc, m, hd⟩, _⟩ := I.tuple h1
        obtain ⟨as, hr⟩ := reads_list (fun d d' v u => ih d d' v u) e h2 rv
        exact ⟨_, Reads.tuple ho hc hd hr⟩
    | rl ds =>
      simp only [rei, Option.map_eq_some_iff] at e
      obtain ⟨ds', e, rfl⟩ := e
      cases r with
      | rl h1 h2 =>
        cases r2
        obtain ⟨its, rv, ⟨o, m, ho, hc, _, hd⟩, _⟩ := I.list h1.sq
        obtain ⟨as, hr⟩ := reads_list (fun d d' v u => ih d d' v u) e h2 rv
        exact ⟨_, Reads.list ho hc hd hr⟩
    | ref a =>
      simp only [rei] at e
      split at e
      · rename_i ds ea
        simp only [Option.map_eq_some_iff] at e
        obtain ⟨ds', e, rfl⟩ := e
        cases r; cases r2
        obtain ⟨vs, q1, q2⟩ := A a _ ea
        obtain ⟨its, rv, ⟨o, m, ho, hc, _, hd⟩, _⟩ := I.list (SqL.of q1)
        obtain ⟨as, hr⟩ := reads_list (fun d d' v u => ih d d' v u) e q2 rv
        exact ⟨_, Reads.list ho hc hd hr⟩
      · cases e
    | rd _ _ => simp [rei] at e
end
/-- what is put by value has no address, and is as deep as told -/
inductive Dn : Nat → D → Prop
  | non (n) : Dn n .non
  | bl (n b) : Dn n (.bl b)
  | int (n i) : Dn n (.int i)
  | str (n x) : Dn n (.str x)
  | tup {n ds} : (∀ d ∈ ds, Dn n d) → Dn (n + 1) (.tup ds)
  | rl {n ds} : (∀ d ∈ ds, Dn n d) → Dn (n + 1) (.rl ds)
theorem pMem {α β : Type} {F : α → β → Prop} : ∀ {xs : List α} {ys : List β}, Paired F xs ys → ∀ y ∈ ys, ∃ x ∈ xs, F x y
  | _, _, .nil, y, h => by cases h
  | _, _, .cons r t, y, h => by
    rcases List.mem_cons.mp h with rfl | h
    · exact ⟨_, List.mem_cons_self, r⟩
    · obtain ⟨x, hx, q⟩ := pMem t y h
      exact ⟨x, List.mem_cons_of_mem _ hx, q⟩
theorem rei_dn {h : AH} : ∀ (n : Nat) (d d' : D), rei h n d = some d' → Dn n d' := by
  intro n
  induction n with
  | zero => intro d d' e; cases d <;> simp [rei] at e <;> subst e <;> constructor
  | succ n ih =>
    intro d d' e
    cases d with
    | tup ds =>
      simp only [rei, Option.map_eq_some_iff] at e
      obtain ⟨ds', e, rfl⟩ := e
      exact .tup fun y hy => let ⟨x, _, q⟩ := pMem (mapO_some e) y hy; ih _ _ q
    | rl ds =>
      simp only [rei, Option.map_eq_some_iff] at e
      obtain ⟨ds', e, rfl⟩ := e
      exact .rl fun y hy => let ⟨x, _, q⟩ := pMem (mapO_some e) y hy; ih _ _ q
    | ref a =>
      simp only [rei] at e
      split at e
      · simp only [Option.map_eq_some_iff] at e
        obtain ⟨ds', e, rfl⟩ := e
        exact .rl fun y hy => let ⟨x, _, q⟩ := pMem (mapO_some e) y hy; ih _ _ q
      · cases e
    | _ => simp [rei] at e <;> subst e <;> constructor
theorem depthAll_le {n : Nat} : ∀ {ps : List PyData}, (∀ p ∈ ps, p.depth ≤ n) → PyData.depthAll ps ≤ n
  | [], _ => Nat.zero_le _
  | p :: ps, h => by
    rw [PyData.depthAll]
    exact Nat.max_le.mpr ⟨h p List.mem_cons_self, depthAll_le fun q hq => h q (List.mem_cons_of_mem _ hq)⟩
theorem plainAll_of : ∀ {ps : List PyData}, (∀ p ∈ ps, p.plain = true) → PyData.plainAll ps = true
  | [], _ => by simp [PyData.plainAll]
  | p :: ps, h => by
    rw [PyData.plainAll, h p List.mem_cons_self, plainAll_of fun q hq => h q (List.mem_cons_of_mem _ hq)]; rfl
theorem Dn.tp : ∀ {n : Nat} {d : D}, Dn n d → (G.tp d).depth ≤ n ∧ (G.tp d).plain = true := by
  intro n d x
  induction x with
  | non => simp [G.tp, PyData.depth, PyData.plain]
  | bl => simp [G.tp, PyData.depth, PyData.plain]
  | int => simp [G.tp, PyData.depth, PyData.plain]
  | str => simp [G.tp, PyData.depth, PyData.plain]
  | tup hs ih =>
    rw [G.tp, tpL_map, PyData.depth, PyData.plain]
    exact ⟨Nat.succ_le_succ (depthAll_le fun p hp => let ⟨d, hd, e⟩ := List.mem_map.mp hp; e ▸ (ih d hd).1), plainAll_of fun p hp => let ⟨d, hd, e⟩ := List.mem_map.mp hp; e ▸ (ih d hd).2⟩
  | rl hs ih =>
    rw [G.tp, tpL_map, PyData.depth, PyData.plain]
    exact ⟨Nat.succ_le_succ (depthAll_le fun p hp => let ⟨d, hd, e⟩ := List.mem_map.mp hp; e ▸ (ih d hd).1), plainAll_of fun p hp => let ⟨d, hd, e⟩ := List.mem_map.mp hp; e ▸ (ih d hd).2⟩
mutual
theorem eqv_tp : ∀ (x y : D) (n m : Nat), Dn n x → Dn m y → PyData.eqv (tp x) (tp y) = deqv x y
  | .non, y, n, m, hx, hy => by cases y <;> first | (cases hy; done) | simp [tp, deqv, PyData.eqv]
  | .bl a, y, n, m, hx, hy => by cases y <;> first | (cases hy; done) | simp [tp, deqv, PyData.eqv]
  | .int a, y, n, m, hx, hy => by cases y <;> first | (cases hy; done) | simp [tp, deqv, PyData.eqv]
  | .str a, y, n, m, hx, hy => by cases y <;> first | (cases hy; done) | simp [tp, deqv, PyData.eqv]
  | .tup a, y, n, m, hx, hy => by
    cases y <;> first | (cases hy; done) | (simp [tp, deqv, PyData.eqv]; done) | skip
    rw [tp, tp, deqv, PyData.eqv]
    cases hx with
    | tup h1 =>
      cases hy with
      | tup h2 => exact eqv_tpL _ _ _ _ h1 h2
  | .rl a, y, n, m, hx, hy => by
    cases y <;> first | (cases hy; done) | (simp [tp, deqv, PyData.eqv]; done) | skip
    rw [tp, tp, deqv, PyData.eqv]
    cases hx with
    | rl h1 =>
      cases hy with
      | rl h2 => exact eqv_tpL _ _ _ _ h1 h2
  | .rd _ _, y, n, m, hx, hy => by cases hx
  | .ref _, y, n, m, hx, hy => by cases hx
theorem eqv_tpL : ∀ (x y : List D) (n m : Nat), (∀ d ∈ x, Dn n d) → (∀ d ∈ y, Dn m d) → PyData.eqvAll (tpL x) (tpL y) = deqvL x y
  | [], [], _, _, _, _ => by simp [tpL, deqvL, PyData.eqvAll]
  | [], _ :: _, _, _, _, _ => by simp [tpL, deqvL, PyData.eqvAll]
  | _ :: _, [], _, _, _, _ => by simp [tpL, deqvL, PyData.eqvAll]
  | x :: xs, y :: ys, n, m, h1, h2 => by
    rw [tpL, tpL, deqvL, PyData.eqvAll, eqv_tp x y n m (h1 x List.mem_cons_self) (h2 y List.mem_cons_self), eqv_tpL xs ys n m (fun d hd => h1 d (List.mem_cons_of_mem _ hd)) (fun d hd => h2 d (List.mem_cons_of_mem _ hd))]
end
end
end G
end

section
set_option Elab.async false
set_option linter.all false
set_option maxRecDepth 100000
set_option maxHeartbeats 4000000
/-! G layer, soundness 3: order of data, tests, boolean operators, statements, targets, subscripts by lists, tuples, texts. -/
namespace G
open PySem PySem.Spec PyProof.Rows L2
variable [Tb]
section
variable {X : Cx}

/-! ### order -/
mutual
theorem dat_dn : ∀ (n : Nat) (d : D), dat n d = true → Dn n d
  | n, .non, _ => .non n
  | n, .bl b, _ => .bl n b
  | n, .int i, _ => .int n i
  | n, .str x, _ => .str n x
  | n + 1, .tup ds, h => .tup (datL_dn n ds (by simpa [dat] using h))
  | 0, .tup ds, h => by simp [dat] at h
  | n, .rl ds, h => by cases n <;> simp [dat] at h
  | n, .rd _ _, h => by cases n <;> simp [dat] at h
  | n, .ref _, h => by cases n <;> simp [dat] at h
theorem datL_dn : ∀ (n : Nat) (ds : List D), datL n ds = true → ∀ d ∈ ds, Dn n d
  | n, [], _, d, h => by cases h
  | n, x :: xs, h, d, hd => by
    rw [datL, Bool.and_eq_true] at h
    rcases List.mem_cons.mp hd with e | hd
    · rw [e]; exact dat_dn n x h.1
    · exact datL_dn n xs h.2 d hd
end
mutual
theorem rei_dat {h : AH} : ∀ (n : Nat) (d : D), dat n d = true → rei h n d = some d
  | n, .non, _ => by cases n <;> rfl
  | n, .bl b, _ => by cases n <;> rfl
  | n, .int i, _ => by cases n <;> rfl
  | n, .str x, _ => by cases n <;> rfl
  | n + 1, .tup ds, q => by rw [rei, mapO_dat n ds (by simpa [dat] using q)]; rfl
  | 0, .tup ds, h => by simp [dat] at h
  | n, .rl ds, h => by cases n <;> simp [dat] at h
  | n, .rd _ _, h => by cases n <;> simp [dat] at h
  | n, .ref _, h => by cases n <;> simp [dat] at h
theorem mapO_dat {h : AH} : ∀ (n : Nat) (ds : List D), datL n ds = true → mapO (rei h n) ds = some ds
  | n, [], _ => rfl
  | n, x :: xs, q => by
    rw [datL, Bool.and_eq_true] at q
    rw [mapO, rei_dat n x q.1, mapO_dat n xs q.2]
end
mutual
theorem alike_tp : ∀ (x y : D) (n m : Nat), Dn n x → Dn m y → alk x y = true → PySem.W.alike (tp x) (tp y) = true
  | .non, y, n, m, hx, hy, h => by cases y <;> first | (cases hy; done) | simp_all [tp, alk, PySem.W.alike]
  | .bl a, y, n, m, hx, hy, h => by cases y <;> first | (cases hy; done) | simp_all [tp, alk, PySem.W.alike]
  | .int a, y, n, m, hx, hy, h => by cases y <;> first | (cases hy; done) | simp_all [tp, alk, PySem.W.alike]
  | .str a, y, n, m, hx, hy, h => by cases y <;> first | (cases hy; done) | simp_all [tp, alk, PySem.W.alike]
  | .tup a, y, n, m, hx, hy, h => by
    cases y <;> first | (simp [alk] at h; done) | skip
    rw [tp, tp, PySem.W.alike]
    cases hx with
    | tup h1 =>
      cases hy with
      | tup h2 => exact alike_tpL _ _ _ _ h1 h2 (by simpa [alk] using h)
  | .rl a, y, n, m, hx, hy, h => by cases y <;> simp [alk] at h
  | .rd _ _, y, n, m, hx, hy, h => by cases hx
  | .ref _, y, n, m, hx, hy, h => by cases hx
theorem alike_tpL : ∀ (x y : List D) (n m : Nat), (∀ d ∈ x, Dn n d) → (∀ d ∈ y, Dn m d) → alkL x y = true → PySem.W.alikeAll (tpL x) (tpL y) = true
  | [], [], _, _, _, _, _ => by simp [tpL, PySem.W.alikeAll]
  | [], _ :: _, _, _, _, _, _ => by simp [tpL, PySem.W.alikeAll]
  | _ :: _, [], _, _, _, _, _ => by simp [tpL, PySem.W.alikeAll]
  | x :: xs, y :: ys, n, m, h1, h2, h => by
    rw [alkL, Bool.and_eq_true] at h
    rw [tpL, tpL, PySem.W.alikeAll, alike_tp x y n m (h1 x List.mem_cons_self) (h2 y List.mem_cons_self) h.1, alike_tpL xs ys n m (fun d hd => h1 d (List.mem_cons_of_mem _ hd)) (fun d hd => h2 d (List.mem_cons_of_mem _ hd)) h.2]
    rfl
end
mutual
theorem deqv_alk : ∀ (x y : D), alk x y = true → deqv x y = decide (x = y)
  | .non, y, h => by cases y <;> simp_all [alk, deqv]
  | .bl a, y, h => by cases y <;> simp_all [alk, deqv, Bool.beq_eq_decide_eq]
  | .int a, y, h => by cases y <;> simp_all [alk, deqv, Bool.beq_eq_decide_eq]
  | .str a, y, h => by cases y <;> simp_all [alk, deqv, Bool.beq_eq_decide_eq]
  | .tup a, y, h => by
    cases y <;> first | (simp [alk] at h; done) | skip
    rw [deqv, deqvL_alk _ _ (by simpa [alk] using h)]
    simp
  | .rl a, y, h => by cases y <;> simp [alk] at h
  | .rd _ _, y, h => by cases y <;> simp [alk] at h
  | .ref _, y, h => by cases y <;> simp [alk] at h
theorem deqvL_alk : ∀ (x y : List D), alkL x y = true → deqvL x y = decide (x = y)
  | [], [], _ => by simp [deqvL]
  | [], _ :: _, _ => by simp [deqvL]
  | _ :: _, [], _ => by simp [deqvL]
  | x :: xs, y :: ys, h => by
    rw [alkL, Bool.and_eq_true] at h
    rw [deqvL, deqv_alk x y h.1, deqvL_alk xs ys h.2]
    by_cases e : x = y <;> simp [e]
end
mutual
theorem dlt_tp : ∀ (x y : D) (n m : Nat), Dn n x → Dn m y → alk x y = true → PySem.W.dataLt (tp x) (tp y) = dlt x y
  | .non, y, n, m, hx, hy, h => by
    cases y <;> first | (simp [alk] at h; done) | skip
    rfl
  | .bl a, y, n, m, hx, hy, h => by
    cases y <;> first | (simp [alk] at h; done) | skip
    rename_i b
    rw [tp, tp, PySem.W.dataLt_bool, dlt]
    cases a <;> cases b <;> rfl
  | .int a, y, n, m, hx, hy, h => by
    cases y <;> first | (simp [alk] at h; done) | skip
    rw [tp, tp, PySem.W.dataLt_int, dlt]
  | .str a, y, n, m, hx, hy, h => by
    cases y <;> first | (simp [alk] at h; done) | skip
    rw [tp, tp, PySem.W.dataLt_str, dlt]
  | .tup a, y, n, m, hx, hy, h => by
    cases y <;> first | (simp [alk] at h; done) | skip
    rw [tp, tp, PySem.W.dataLt_tuple, dlt]
    cases hx with
    | tup h1 =>
      cases hy with
      | tup h2 => exact dlt_tpL _ _ _ _ h1 h2 (by simpa [alk] using h)
  | .rl a, y, n, m, hx, hy, h => by cases y <;> simp [alk] at h
  | .rd _ _, y, n, m, hx, hy, h => by cases hx
  | .ref _, y, n, m, hx, hy, h => by cases hx
theorem dlt_tpL : ∀ (x y : List D) (n m : Nat), (∀ d ∈ x, Dn n d) → (∀ d ∈ y, Dn m d) → alkL x y = true → PyProof.Rows.lexLt itemOrd (PySem.W.keyToksAll (tpL x)) (PySem.W.keyToksAll (tpL y)) = dltL x y
  | [], [], _, _, _, _, _ => by simp [tpL, dltL, PySem.W.keyToksAll]; rfl
  | [], _ :: _, _, _, _, _, _ => by simp [tpL, dltL, PySem.W.keyToksAll]; rfl
  | _ :: _, [], _, _, _, _, _ => by simp [tpL, dltL, PySem.W.keyToksAll]; rfl
  | x :: xs, y :: ys, n, m, h1, h2, h => by
    rw [alkL, Bool.and_eq_true] at h
    have a1 := h1 x List.mem_cons_self
    have a2 := h2 y List.mem_cons_self
    have al := alike_tp x y n m a1 a2 h.1
    have ev := (eqv_tp x y n m a1 a2).trans (deqv_alk x y h.1)
    have ih := dlt_tpL xs ys n m (fun d hd => h1 d (List.mem_cons_of_mem _ hd)) (fun d hd => h2 d (List.mem_cons_of_mem _ hd)) h.2
    have ix := dlt_tp x y n m a1 a2 h.1
    rw [tpL, tpL, dltL]
    by_cases e : x = y
    · subst e
      rw [PySem.W.dataLt_all_yes al (by rw [ev]; simp), ih]
      have : dlt x x = false := by
        rw [← ix]
        exact PyProof.Rows.lex_irrefl _
      simp [this]
    · rw [PySem.W.dataLt_all_no al (by rw [ev]; simp [e]), ix]
      simp [e]
end
theorem lt_ok {P : Bool → Prop} {d e : D} (q : oLtB d e P) : dat 13 d = true ∧ dat 13 e = true ∧ alk d e = true ∧ d ≠ .non ∧ e ≠ .non ∧ P (dlt d e) := by
  cases d with
  | int i =>
    cases e with
    | int j => exact ⟨rfl, rfl, rfl, by simp, by simp, q⟩
    | _ => exact q.elim
  | str i =>
    cases e with
    | str j => exact ⟨rfl, rfl, rfl, by simp, by simp, q⟩
    | _ => exact q.elim
  | tup i =>
    cases e with
    | tup j =>
      obtain ⟨z, d1, d2, q⟩ := q
      exact ⟨by rw [dat]; exact d1, by rw [dat]; exact d2, by rw [alk]; exact z, by simp, by simp, by rw [dlt]; exact q⟩
    | _ => exact q.elim
  | _ => exact q.elim
theorem tp_none {n : Nat} {d : D} (h : Dn n d) (e : d ≠ .non) : tp d ≠ .none := by
  cases h <;> simp [tp] at e ⊢
mutual
theorem alk_comm : ∀ x y : D, alk x y = alk y x
  | .non, y => by cases y <;> rfl
  | .bl a, y => by cases y <;> rfl
  | .int a, y => by cases y <;> rfl
  | .str a, y => by cases y <;> rfl
  | .tup a, y => by
    cases y <;> first | rfl | skip
    rw [alk, alk]; exact alkL_comm _ _
  | .rl a, y => by cases y <;> rfl
  | .rd _ _, y => by cases y <;> rfl
  | .ref _, y => by cases y <;> rfl
theorem alkL_comm : ∀ x y : List D, alkL x y = alkL y x
  | [], [] => rfl
  | [], _ :: _ => rfl
  | _ :: _, [] => rfl
  | x :: xs, y :: ys => by rw [alkL, alkL, alk_comm x y, alkL_comm xs ys]
end
theorem gc_lt (hu : X.A.units + 64 < cLine) : GC X .Lt oLt := fun pins s σ H x y v u Q I rx ry ⟨d, e, h, Q0, rd, re, A, q, k⟩ => by
  obtain ⟨d1, d2, al, n1, n2, q⟩ := lt_ok q
  obtain ⟨as, r1⟩ := reads I A 13 _ _ _ _ (rei_dat 13 _ d1) rd rx
  obtain ⟨bs, r2⟩ := reads I A 13 _ _ _ _ (rei_dat 13 _ d2) re ry
  have m1 := dat_dn _ _ d1
  have m2 := dat_dn _ _ d2
  have b1 := m1.tp.1
  refine PySem.W.lt_data r1 r2 (alike_tp _ _ _ _ m1 m2 al) (tp_none m1 n1) (by omega) ⟨.bl _, H, I, rfl, ?_⟩
  rw [dlt_tp _ _ _ _ m1 m2 al]
  exact k _ _ _ _ q (Kp.refl _) (.bl _) A
theorem gc_gt (hu : X.A.units + 64 < cLine) : GC X .Gt oGt := fun pins s σ H x y v u Q I rx ry ⟨d, e, h, Q0, rd, re, A, q, k⟩ => by
  obtain ⟨d2, d1, al, n2, n1, q⟩ := lt_ok q
  obtain ⟨as, r1⟩ := reads I A 13 _ _ _ _ (rei_dat 13 _ d1) rd rx
  obtain ⟨bs, r2⟩ := reads I A 13 _ _ _ _ (rei_dat 13 _ d2) re ry
  have m1 := dat_dn _ _ d1
  have m2 := dat_dn _ _ d2
  have b1 := m1.tp.1
  refine PySem.W.gt_data r1 r2 (alike_tp _ _ _ _ m1 m2 ((alk_comm _ _).trans al)) (tp_none m1 n1) (by omega) ⟨.bl _, H, I, rfl, ?_⟩
  rw [dlt_tp _ _ _ _ m2 m1 al]
  exact k _ _ _ _ q (Kp.refl _) (.bl _) A
theorem gc_le (hu : X.A.units + 64 < cLine) : GC X .LtE oLe := fun pins s σ H x y v u Q I rx ry ⟨d, e, h, Q0, rd, re, A, q, k⟩ => by
  cases d with
  | int i =>
    cases e with
    | int j =>
      cases rd; cases re
      exact op_le pins s σ H _ _ v u Q I rx ry ⟨i, j, rfl, rfl, k _ _ _ _ q (Kp.refl _) (.bl _) A⟩
    | _ => exact q.elim
  | tup xs =>
    cases e with
    | tup ys =>
      obtain ⟨⟨al, d1, d2⟩, q⟩ := q
      have d1' : dat 13 (.tup xs) = true := by rw [dat]; exact d1
      have d2' : dat 13 (.tup ys) = true := by rw [dat]; exact d2
      have al' : alk (.tup xs) (.tup ys) = true := by rw [alk]; exact al
      obtain ⟨as, r1⟩ := reads I A 13 _ _ _ _ (rei_dat 13 _ d1') rd rx
      obtain ⟨bs, r2⟩ := reads I A 13 _ _ _ _ (rei_dat 13 _ d2') re ry
      have m1 := dat_dn _ _ d1'
      have m2 := dat_dn _ _ d2'
      have b1 := m1.tp.1
      refine PySem.W.le_data r1 r2 (alike_tp _ _ _ _ m1 m2 al') (tp_none m1 (by simp)) (by omega) ⟨.bl _, H, I, rfl, ?_⟩
      rw [dlt_tp _ _ _ _ m2 m1 ((alk_comm _ _).trans al'), dlt]
      exact k _ _ _ _ q (Kp.refl _) (.bl _) A
    | _ => exact q.elim
  | _ => exact q.elim
theorem gc_ge (hu : X.A.units + 64 < cLine) : GC X .GtE oGe := fun pins s σ H x y v u Q I rx ry ⟨d, e, h, Q0, rd, re, A, q, k⟩ => by
  cases d with
  | int i =>
    cases e with
    | int j =>
      cases rd; cases re
      exact op_ge pins s σ H _ _ v u Q I rx ry ⟨i, j, rfl, rfl, k _ _ _ _ q (Kp.refl _) (.bl _) A⟩
    | _ => exact q.elim
  | tup xs =>
    cases e with
    | tup ys =>
      obtain ⟨⟨al, d1, d2⟩, q⟩ := q
      have d1' : dat 13 (.tup xs) = true := by rw [dat]; exact d1
      have d2' : dat 13 (.tup ys) = true := by rw [dat]; exact d2
      have al' : alk (.tup xs) (.tup ys) = true := by rw [alk]; exact al
      obtain ⟨as, r1⟩ := reads I A 13 _ _ _ _ (rei_dat 13 _ d1') rd rx
      obtain ⟨bs, r2⟩ := reads I A 13 _ _ _ _ (rei_dat 13 _ d2') re ry
      have m1 := dat_dn _ _ d1'
      have m2 := dat_dn _ _ d2'
      have b1 := m1.tp.1
      refine PySem.W.ge_data r1 r2 (alike_tp _ _ _ _ m1 m2 al') (tp_none m1 (by simp)) (by omega) ⟨.bl _, H, I, rfl, ?_⟩
      rw [dlt_tp _ _ _ _ m1 m2 al', dlt]
      exact k _ _ _ _ q (Kp.refl _) (.bl _) A
    | _ => exact q.elim
  | _ => exact q.elim
end
end G
end

section
set_option Elab.async false
set_option linter.all false
set_option maxRecDepth 100000
set_option maxHeartbeats 4000000
/-! G layer, soundness 4: tests, boolean operators, statements, targets, loops, comprehensions. -/
namespace G
open PySem PySem.Spec PyProof.Rows L2
variable [Tb]
section
variable {X : Cx} {a b c e : Expr} {pos : Pos}

/-! ### truth, tests -/
theorem tru_ok' {K : PySem.W.Frag} {w : World} {h : AH} {H : Hp} {d : D} {v : V} {k : Bool} (A : Abs K w h H) (r : Rv K H d v) (t : tru h d = some k) : TruV K v H k := by
  cases r with
  | non => cases t; rfl
  | bl b => cases t; rfl
  | int i => cases t; rfl
  | str x o =>
    cases t
    refine ⟨o, ?_⟩
    by_cases z : x.length = 0
    · rw [z]; rfl
    · have : ((x.length : Int) != 0) = true := by simp; omega
      rw [this]; simp [z]
  | tup h1 h2 =>
    cases t
    refine .inr (.inl ⟨_, h1, ?_⟩)
    cases h2 <;> rfl
  | rl h1 h2 =>
    cases t
    refine .inl ⟨_, h1.sq, ?_⟩
    cases h2 <;> rfl
  | ref a =>
    dsimp only [tru] at t
    split at t
    · rename_i ds e
      cases t
      obtain ⟨vs, e1, r1⟩ := A _ _ e
      refine .inl ⟨_, SqL.of e1, ?_⟩
      cases r1 <;> rfl
    · cases t
theorem gt_val {f : DE} (ha : GE X a f) (he : ∀ whole, isTrue a X.env whole = (do let v ← whole; standAt a.pos; holding [v] (truthy v)) := by intro _; rfl) : GT X a (tV f) :=
  pt_imp (pt_truth ha he) fun σ H Q ⟨ρ, h, Q0, R, A, q, k⟩ => ⟨ρ, h, _, R, A, q, fun d h1 v H1 q1 k1 r1 A1 => by
    cases e : tru h1 d with
    | some t => rw [e] at q1; exact ⟨t, tru_ok' A1 r1 e, k _ _ _ q1 k1 A1⟩
    | none => rw [e] at q1; exact q1.elim⟩
/-- a comparison as a test: what it hands back must be a truth -/
theorem gt_cmp {op : CmpOp} {f : D → D → AH → KD → Prop} {fa fb : DE} (ho : GC X op f) (ha : GE X a fa) (hb : GE X b fb) (hm : behindInMarks op b = false := by first | exact nobehind _ (by decide) (by decide) | rfl) :
    GT X (.Compare a [op] [b] pos) (tQ (d2 f fa fb)) :=
  pt_imp (pt_cmpR ho ha hb hm) fun σ H Q ⟨ρ, h, Q0, R, A, q, k⟩ => d2_ok (f := f) (a := fa) (b := fb) ⟨ρ, h, _, R, A, q, fun d h1 v H1 q1 k1 r1 A1 => by
    cases d with
    | bl b => cases r1; exact ⟨_, rfl, k _ _ _ q1 k1 A1⟩
    | _ => exact q1.elim⟩
theorem gt_not {f : DT} (ha : GT X a f) : GT X (.UnaryOp .Not a pos) (tNot f) :=
  pt_imp (pt_not ha) fun σ H Q ⟨ρ, h, Q0, R, A, q, k⟩ => ⟨ρ, h, _, R, A, q, fun d h1 H1 q1 k1 A1 => k _ _ _ q1 k1 A1⟩
theorem gw_and1 {f : DT} (ha : GT X a f) : GW X (.BoolOp .And [a] pos) f := pw_and1 ha
theorem gw_or1 {f : DT} (ha : GT X a f) : GW X (.BoolOp .Or [a] pos) f := pw_or1 ha
theorem gw_and {rest : List Expr} {f g : DT} (ha : GT X a f) (hb : GW X (.BoolOp .And (b :: rest) pos) g) : GW X (.BoolOp .And (a :: b :: rest) pos) (G.tAnd f g) :=
  pw_imp (pw_and ha hb) fun σ H Q ⟨ρ, h, Q0, R, A, q, k⟩ => ⟨ρ, h, _, R, A, q, fun t h1 H1 q1 k1 A1 => by
    cases t with
    | true => rw [if_pos rfl]; exact ⟨ρ, h1, Q0, R.kp k1, A1, q1, fun t h2 H2 q2 k2 A2 => k _ _ _ q2 (k1.trans k2) A2⟩
    | false => rw [if_neg Bool.false_ne_true]; exact k _ _ _ q1 k1 A1⟩
theorem gw_or {rest : List Expr} {f g : DT} (ha : GT X a f) (hb : GW X (.BoolOp .Or (b :: rest) pos) g) : GW X (.BoolOp .Or (a :: b :: rest) pos) (G.tOr f g) :=
  pw_imp (pw_or ha hb) fun σ H Q ⟨ρ, h, Q0, R, A, q, k⟩ => ⟨ρ, h, _, R, A, q, fun t h1 H1 q1 k1 A1 => by
    cases t with
    | true => rw [if_pos rfl]; exact k _ _ _ q1 k1 A1
    | false => rw [if_neg Bool.false_ne_true]; exact ⟨ρ, h1, Q0, R.kp k1, A1, q1, fun t h2 H2 q2 k2 A2 => k _ _ _ q2 (k1.trans k2) A2⟩⟩
theorem ge_one {op} {f : DE} (h : GE X a f) : GE X (.BoolOp op [a] pos) f := pe_one h
theorem ge_or {rest : List Expr} {f g : DE} (ha : GE X a f) (hb : GE X (.BoolOp .Or (b :: rest) pos) g) : GE X (.BoolOp .Or (a :: b :: rest) pos) (dOr f g) :=
  pe_imp (pe_orT ha hb) fun σ H Q ⟨ρ, h, Q0, R, A, q, k⟩ => ⟨ρ, h, _, R, A, q, fun d h1 v H1 q1 k1 r1 A1 => by
    cases e : tru h1 d with
    | some t =>
      rw [e] at q1
      cases t with
      | true => exact ⟨true, tru_ok' A1 r1 e, by rw [if_pos rfl]; exact k _ _ _ _ q1 k1 r1 A1⟩
      | false => exact ⟨false, tru_ok' A1 r1 e, by rw [if_neg Bool.false_ne_true]; exact ⟨ρ, h1, Q0, R.kp k1, A1, q1, k.kp k1⟩⟩
    | none => rw [e] at q1; exact q1.elim⟩
theorem ge_and {rest : List Expr} {f g : DE} (ha : GE X a f) (hb : GE X (.BoolOp .And (b :: rest) pos) g) : GE X (.BoolOp .And (a :: b :: rest) pos) (dAnd f g) :=
  pe_imp (pe_andT ha hb) fun σ H Q ⟨ρ, h, Q0, R, A, q, k⟩ => ⟨ρ, h, _, R, A, q, fun d h1 v H1 q1 k1 r1 A1 => by
    cases e : tru h1 d with
    | some t =>
      rw [e] at q1
      cases t with
      | true => exact ⟨true, tru_ok' A1 r1 e, by rw [if_pos rfl]; exact ⟨ρ, h1, Q0, R.kp k1, A1, q1, k.kp k1⟩⟩
      | false => exact ⟨false, tru_ok' A1 r1 e, by rw [if_neg Bool.false_ne_true]; exact k _ _ _ _ q1 k1 r1 A1⟩
    | none => rw [e] at q1; exact q1.elim⟩
theorem ge_not {f : DE} (ha : GE X a f) : GE X (.UnaryOp .Not a pos) (dNot f) :=
  pe_imp (pe_notT ha) fun σ H Q ⟨ρ, h, Q0, R, A, q, k⟩ => ⟨ρ, h, _, R, A, q, fun d h1 v H1 q1 k1 r1 A1 => by
    cases e : tru h1 d with
    | some t => rw [e] at q1; exact ⟨t, tru_ok' A1 r1 e, k _ _ _ _ q1 k1 (.bl _) A1⟩
    | none => rw [e] at q1; exact q1.elim⟩
theorem ge_ifE {t : DT} {f g : DE} (hc : GT X c t) (ha : GE X a f) (hb : GE X b g) : GE X (.IfExp c a b pos) (dIfE t f g) :=
  pe_imp (pe_ifExp hc ha hb) fun σ H Q ⟨ρ, h, Q0, R, A, q, k⟩ => ⟨ρ, h, _, R, A, q, fun t h1 H1 q1 k1 A1 => by
    cases t with
    | true => rw [if_pos rfl]; exact ⟨ρ, h1, Q0, R.kp k1, A1, q1, k.kp k1⟩
    | false => rw [if_neg Bool.false_ne_true]; exact ⟨ρ, h1, Q0, R.kp k1, A1, q1, k.kp k1⟩⟩
theorem ch_ok {K : PySem.W.Frag} {w : World} {f g : D → D → AH → KD → Prop} {fa fb fc : DE} {σ : L2.St} {H : Hp} {Q : VK} (x : tE K w (dCh f g fa fb fc) σ H Q) : tChain (R2ok K w f) (R2ok K w g) (tE K w fa) (tE K w fb) (tE K w fc) σ H Q := by
  obtain ⟨ρ, h, Q0, R, A, q, k⟩ := x
  exact ⟨ρ, h, _, R, A, q, fun x h1 v H1 q1 k1 r1 A1 => ⟨ρ, h1, _, R.kp k1, A1, q1, fun y h2 u H2 q2 k2 r2 A2 =>
    ⟨x, y, h2, _, r1.kp k2, r2, A2, q2, fun d h3 z H3 q3 k3 r3 A3 => by
      cases d with
      | bl t =>
        cases r3
        cases t with
        | true => exact ⟨true, rfl, by rw [if_pos rfl]; exact ⟨ρ, h3, _, R.kp (k1.trans (k2.trans k3)), A3, q3, fun z' h4 u4 H4 q4 k4 r4 A4 => ⟨y, z', h4, Q0, r2.kp (k3.trans k4), r4, A4, q4, k.kp (k1.trans (k2.trans (k3.trans k4)))⟩⟩⟩
        | false => exact ⟨false, rfl, by rw [if_neg Bool.false_ne_true]; exact k _ _ _ _ q3 (k1.trans (k2.trans k3)) (.bl _) A3⟩
      | _ => exact q3.elim⟩⟩⟩
theorem ge_chain {op op' : CmpOp} {f g : D → D → AH → KD → Prop} {fa fb fc : DE} (ho : GC X op f) (ho' : GC X op' g) (ha : GE X a fa) (hb : GE X b fb) (hc : GE X c fc) (hm : lastMarks [op, op'] [b, c] = false := by with_unfolding_all rfl) :
    GE X (.Compare a [op, op'] [b, c] pos) (dCh f g fa fb fc) :=
  pe_imp (pe_chain ho ho' ha hb hc hm) fun _ _ _ x => ch_ok x
theorem gt_chain {op op' : CmpOp} {f g : D → D → AH → KD → Prop} {fa fb fc : DE} (ho : GC X op f) (ho' : GC X op' g) (ha : GE X a fa) (hb : GE X b fb) (hc : GE X c fc) (hm : lastMarks [op, op'] [b, c] = false := by with_unfolding_all rfl) :
    GT X (.Compare a [op, op'] [b, c] pos) (G.tQ (dCh f g fa fb fc)) :=
  pt_imp (pt_chain ho ho' ha hb hc hm) fun _ _ _ ⟨ρ, h, Q0, R, A, q, k⟩ => ch_ok ⟨ρ, h, _, R, A, q, fun d h1 v H1 q1 k1 r1 A1 => by
    cases d with
    | bl b => cases r1; exact ⟨_, rfl, k _ _ _ q1 k1 A1⟩
    | _ => exact q1.elim⟩

/-! ### statements -/
variable {st : Stmt} {rest : List Stmt}
theorem gss_nil : GSs X [] dNx := pss_imp pss_nil fun D σ H ⟨ρ, h, F, R, A, q, k⟩ => k.nx _ _ _ _ q (Kp.refl _) R A
theorem gss_cons {f g : DS} (h1 : GS X st f) (h2 : GSs X rest g) : GSs X (st :: rest) (dSeq f g) :=
  pss_imp (pss_cons h1 h2) fun D σ H ⟨ρ, h, F, R, A, q, k⟩ => ⟨ρ, h, _, R, A, q, ⟨fun ρ' h' σ' H' q' k' R' A' => ⟨ρ', h', F, R', A', q', k.kp k'⟩, k.rt, k.bk, k.ct⟩⟩
theorem gss_one {f : DS} (h1 : GS X st f) : GSs X [st] f := pss_one h1
theorem gs_pass : GS X (.Pass pos) dNx := ps_imp ps_pass fun D σ H ⟨ρ, h, F, R, A, q, k⟩ => k.nx _ _ _ _ q (Kp.refl _) R A
theorem gs_break : GS X (.Break pos) dBrk := ps_imp ps_break fun D σ H ⟨ρ, h, F, R, A, q, k⟩ => k.bk _ _ _ _ q (Kp.refl _) R A
theorem gs_cont : GS X (.Continue pos) dCnt := ps_imp ps_continue fun D σ H ⟨ρ, h, F, R, A, q, k⟩ => k.ct _ _ _ _ q (Kp.refl _) R A
theorem gs_doc {x j pos pos'} : GS X (.Expr (.Constant (.str x) j pos) pos') dNx := ps_imp ps_doc fun D σ H ⟨ρ, h, F, R, A, q, k⟩ => k.nx _ _ _ _ q (Kp.refl _) R A
theorem gs_exp {f : DE} (he : GE X e f) (hs : swapsWith e none pos.line X.env = pure false := by rfl) : GS X (.Expr e pos) (dExp f) :=
  ps_imp (ps_expr he hs) fun D σ H ⟨ρ, h, F, R, A, q, k⟩ => ⟨ρ, h, _, R, A, q, fun d h1 v H1 q1 k1 r1 A1 => k.nx _ _ _ _ q1 k1 (R.kp k1) A1⟩
theorem gs_ret {f : DE} (he : GE X e f) : GS X (.Return (some e) pos) (dRet f) := ps_imp (ps_ret he) fun D σ H ⟨ρ, h, F, R, A, q, k⟩ => ⟨ρ, h, _, R, A, q, k.rt⟩
theorem gs_retN : GS X (.Return none pos) dRetN := ps_imp ps_retN fun D σ H ⟨ρ, h, F, R, A, q, k⟩ => k.rt _ _ _ _ q (Kp.refl _) .non A
theorem gs_if {t : DT} {f g : DS} {as bs : List Stmt} (hc : GT X c t) (ha : GSs X as f) (hb : GSs X bs g) : GS X (.If c as bs pos) (dIf t f g) :=
  ps_imp (ps_if hc ha hb) fun D σ H ⟨ρ, h, F, R, A, q, k⟩ => ⟨ρ, h, _, R, A, q, fun t h1 H1 q1 k1 A1 => by
    cases t with
    | true => rw [if_pos rfl]; exact ⟨ρ, h1, F, R.kp k1, A1, q1, k.kp k1⟩
    | false => rw [if_neg Bool.false_ne_true]; exact ⟨ρ, h1, F, R.kp k1, A1, q1, k.kp k1⟩⟩
theorem gs_dead : GS X st dDead := ⟨fun _ _ _ _ _ _ ⟨ρ, h, F, R, A, q, k⟩ => q.elim⟩

/-! ### targets -/
theorem gg_var {i : Nat} {x : Str} (hN : X.N.Nodup) (hi : X.N[i]? = some x := by rfl) (hx : Loc X.env.scope x := by first | exact Or.inl rfl | exact Or.inr rfl) (hf : X.fn x = true ∨ X.env.scope.names.lookup x = some .local := by first | exact .inl rfl | exact .inr rfl) : GG X (.Name x pos) [i] (gVar i) :=
  ⟨fun pins s σ H v u Q I r ⟨d, ρ, h, Q0, rd, R, A, q, k⟩ => (pg_name (i := i) hN hi hx hf).run pins s σ H v u Q I r (k _ _ _ _ q (Kp.refl _) (R.set rd) A Sm.one)⟩
theorem ggs_nil : GGs X [] [] G.gNil :=
  ⟨fun pins s σ H vs us Q I r ⟨ds, ρ, h, Q0, rd, R, A, q, k⟩ => by
    cases rd with
    | nil => exact pgs_nil.run pins s σ H [] us Q I r ⟨rfl, k _ _ _ _ q (Kp.refl _) R A (Sm.refl _ _)⟩
    | cons _ _ => exact q.elim⟩
theorem ggs_cons {es : List Expr} {g : DG} {r : DGs} {a b : List Nat} (h1 : GG X e a g) (h2 : GGs X es b r) (hs : (assignEach (e :: es) X.env).map (·.2) = assign e X.env :: (assignEach es X.env).map (·.2) := by rfl) : GGs X (e :: es) (a ++ b) (G.gCons g r) :=
  ⟨fun pins s σ H vs us Q I rr ⟨ds, ρ, h, Q0, rd, R, A, q, k⟩ => by
    cases rd with
    | nil => exact q.elim
    | cons ra rb =>
      refine (pgs_cons h1 h2 hs).run pins s σ H _ us Q I rr ⟨_, _, rfl, _, ρ, h, _, ra, R, A, q, fun ρ' h' σ' H' q' k' R' A' s' => ⟨_, ρ', h', Q0, rb.kp k', R', A', q', fun ρ2 h2 σ2 H2 q2 k2 R2 A2 s2 => k _ _ _ _ q2 (k'.trans k2) R2 A2 (s'.trans s2)⟩⟩⟩
theorem gg_tup {es : List Expr} {k n : Nat} {g : DGs} {sl : List Nat} (hc : X.calm = true) (h : GGs X es sl g) (hn : (assignEach es X.env).length = n := by rfl) (hst : (assignEach es X.env).findIdx? (·.1) = none := by rfl) : GG X (.Tuple es k pos) sl (G.gTup n g) :=
  ⟨fun pins s σ H v u Q I r ⟨d, ρ, h0, Q0, rd, R, A, q, k⟩ => by
    cases rd with
    | tup hT hL => exact (pg_tup hc h hn hst).run pins s σ H _ u Q I r ⟨_, _, rfl, hT, by rw [← hL.length]; exact q.1, _, ρ, h0, Q0, hL, R, A, q.2, k⟩
    | _ => exact q.elim⟩
theorem gs_asg {tg : Expr} {f : DE} {g : DG} {sl : List Nat} (he : GE X e f) (hg : GG X tg sl g) (hs : swapsWithSole [tg] e pos.line X.env = pure false := by rfl) (hw : swappedStores [tg] e X.env = pure none := by rfl) (h1 : (assignEach [tg] X.env).map (·.2) = [assign tg X.env] := by rfl) : GS X (.Assign [tg] e pos) (dAsg f g) :=
  ps_imp (ps_asg he hg hs hw h1) fun D σ H ⟨ρ, h, F, R, A, q, k⟩ => ⟨ρ, h, _, R, A, q, fun d h1 v H1 q1 k1 r1 A1 => ⟨d, ρ, h1, F.nx, r1, R.kp k1, A1, q1, fun ρ2 h2 σ2 H2 q2 k2 R2 A2 _ => k.nx _ _ _ _ q2 (k1.trans k2) R2 A2⟩⟩
theorem gs_set {i : Nat} {x : Str} {f : DE} {pos' : Pos} (hN : X.N.Nodup) (he : GE X e f) (hi : X.N[i]? = some x := by rfl) (hx : Loc X.env.scope x := by first | exact Or.inl rfl | exact Or.inr rfl) (hs : swapsWith e (some (.Name x pos')) pos.line X.env = pure false := by rfl) (hf : X.fn x = true ∨ X.env.scope.names.lookup x = some .local := by first | exact .inl rfl | exact .inr rfl) :
    GS X (.Assign [.Name x pos'] e pos) (dSet i f) :=
  ps_imp (ps_set (i := i) hN hi hx he hs hf) fun D σ H ⟨ρ, h, F, R, A, q, k⟩ => ⟨ρ, h, _, R, A, q, fun d h1 v H1 q1 k1 r1 A1 => k.nx _ _ _ _ q1 k1 ((R.kp k1).set r1) A1⟩

/-! ### while -/
theorem gs_while {t : DT} {b : DS} {body : List Stmt} (hp : PassesOwn (model X.prog X.w) X.A X.env X.xe) (hc : GT X c t) (hb : GSs X body b) : GS X (.While c body [] pos) (dWhile t b) :=
  ps_imp (ps_while hp hc hb) fun D σ H ⟨ρ, h, F, R, A, q, k⟩ => by
    obtain ⟨J, ⟨m, j0⟩, turn⟩ := q
    refine ⟨fun m σ' H' => ∃ ρ' h', RS X.K H' ρ' σ' ∧ Abs X.K X.w h' H' ∧ Kp H H' ∧ J m ρ' h', ⟨m, ρ, h, R, A, Kp.refl _, j0⟩, fun m σ1 H1 ⟨ρ1, h1, R1, A1, k1, j1⟩ => ?_⟩
    refine ⟨ρ1, h1, _, R1, A1, turn m ρ1 h1 j1, fun b h2 H2 q2 k2 A2 => ?_⟩
    cases b with
    | true =>
      rw [if_pos rfl]
      refine ⟨fun σ' H' => ∃ m', m' < m ∧ ∃ ρ' h', RS X.K H' ρ' σ' ∧ Abs X.K X.w h' H' ∧ Kp H H' ∧ J m' ρ' h', fun σ' H' ⟨m', hm, w⟩ => ⟨m', hm, w⟩, ρ1, h2, _, R1.kp k2, A2, q2, ⟨?_, ?_, ?_, ?_⟩⟩
      · intro ρ' h' σ' H' ⟨h0, sb, m', hm, j⟩ k' R' A'
        exact ⟨m', hm, ρ', h0, R', A'.sub sb, k1.trans (k2.trans k'), j⟩
      · exact k.rt.kp (k1.trans k2)
      · intro ρ' h' σ' H' q' k' R' A'
        exact k.nx _ _ _ _ q' (k1.trans (k2.trans k')) R' A'
      · intro ρ' h' σ' H' ⟨h0, sb, m', hm, j⟩ k' R' A'
        exact ⟨m', hm, ρ', h0, R', A'.sub sb, k1.trans (k2.trans k'), j⟩
    | false =>
      rw [if_neg Bool.false_ne_true]
      exact k.nx _ _ _ _ q2 (k1.trans k2) (R1.kp k2) A2

/-! ### what is walked -/
/-- the hand layer's walk is that of the items -/
def JS (K : PySem.W.Frag) (w : World) (H1 : Hp) (J : It) (S : Src) : Prop := ∀ (i : Nat) (h : AH) (H : Hp), Kp H1 H → Abs K w h H → S.ok h →
  (∀ d, S.ds[i]? = some d → J.go i H ∧ ∀ x H', J.yld i H x H' → Kp H H' ∧ Abs K w h H' ∧ Rv K H' d x) ∧ (S.ds.length ≤ i → J.stop i H)
def tI (K : PySem.W.Frag) (w : World) (it : DI) : TI := fun σ H R => ∃ ρ h R0, RS K H ρ σ ∧ Abs K w h H ∧ it ρ h R0 ∧ ∀ S h1 J H1, R0 S h1 → Kp H H1 → Abs K w h1 H1 → JS K w H1 J S → R J H1
abbrev GI (X : Cx) (tg iter : Expr) (it : DI) : Prop := PI X tg iter (tI X.K X.w it)
theorem pi_imp {tg iter : Expr} {t t' : TI} (h : PI X tg iter t) (f : ∀ σ H R, t' σ H R → t σ H R) : PI X tg iter t' := ⟨fun pins s σ H R I q => h.run pins s σ H R I (f _ _ _ q)⟩
theorem js_list {K : PySem.W.Frag} {w : World} {H : Hp} {a : Addr} {ds : List D} : JS K w H (Itl K a) (srcL a ds) := fun i h H1 k A ok => by
  obtain ⟨vs, e1, r1⟩ := A a _ ok
  refine ⟨fun d e => ?_, fun z => ⟨vs, SqL.of e1, by rw [← r1.length]; exact z⟩⟩
  obtain ⟨v, e2, r2⟩ := r1.get e
  refine ⟨⟨vs, v, SqL.of e1, e2⟩, fun x H' ⟨e3, f⟩ => ?_⟩
  subst e3
  have e4 := f vs (SqL.of e1)
  rw [e2] at e4; cases e4
  exact ⟨Kp.refl _, A, r2⟩
theorem js_listV {K : PySem.W.Frag} {w : World} {H : Hp} {a : Addr} {ds : List D} {vs : List V} (hr : RoL K H a vs) (r : RvL K H ds vs) : JS K w H (Itl K a) (srcV ds) := fun i h H1 k A ok => by
  have e1 : SqL K H1 a vs := (hr.kp k).sq
  refine ⟨fun d e => ?_, fun z => ⟨vs, e1, by rw [← r.length]; exact z⟩⟩
  obtain ⟨v, e2, r2⟩ := r.get e
  refine ⟨⟨vs, v, e1, e2⟩, fun x H' ⟨e3, f⟩ => ?_⟩
  subst e3
  have e4 := f vs e1
  rw [e2] at e4; cases e4
  exact ⟨Kp.refl _, A, r2.kp k⟩
theorem js_tup {K : PySem.W.Frag} {w : World} {H : Hp} {a : Addr} {ds : List D} {vs : List V} (hr : SqT K H a vs) (r : RvL K H ds vs) : JS K w H (Itt K a) (srcV ds) := fun i h H1 k A ok => by
  have e1 : SqT K H1 a vs := SqT.kp k hr
  refine ⟨fun d e => ?_, fun z => ⟨vs, e1, by rw [← r.length]; exact z⟩⟩
  obtain ⟨v, e2, r2⟩ := r.get e
  refine ⟨⟨vs, v, e1, e2⟩, fun x H' ⟨e3, f⟩ => ?_⟩
  subst e3
  have e4 := f vs e1
  rw [e2] at e4; cases e4
  exact ⟨Kp.refl _, A, r2.kp k⟩
theorem js_rng {K : PySem.W.Frag} {w : World} {H : Hp} {lo : Int} {n : Nat} : JS K w H (Itr lo n) (srcV (rng lo n)) := fun i h H1 k A ok => by
  have hl : (rng lo n).length = n := by simp [rng]
  refine ⟨fun d e => ?_, fun z => by rw [show (srcV (rng lo n)).ds = rng lo n from rfl, hl] at z; exact z⟩
  have hi : i < n := by
    have := (List.getElem?_eq_some_iff.mp e).1
    rw [show (srcV (rng lo n)).ds = rng lo n from rfl, hl] at this; exact this
  have ed : d = .int (lo + (i : Nat)) := by
    have e' : (rng lo n)[i]? = some d := e
    simp [rng, hi] at e'
    exact e'.symm
  subst ed
  exact ⟨hi, fun x H' ⟨e1, e2⟩ => by subst e1; subst e2; exact ⟨Kp.refl _, A, .int _⟩⟩
/-! for -/
theorem gs_for {tg iter : Expr} {body : List Stmt} {it : DI} {g : DG} {b : DS} {sl : List Nat} (hp : PassesOwn (model X.prog X.w) X.A X.env X.xe) (hc : X.calm = true) (hi : GI X tg iter it) (hg : GG X tg sl g) (hb : GSs X body b)
    (hs : ∀ x, foldedSetIterable iter X.env x = pure x := by intro _; rfl) : GS X (.For tg iter body [] pos) (dFor it g b) :=
  ps_imp (ps_for hp hc hi hg hb hs) fun D σ H ⟨ρ, h, F, R, A, q, k⟩ => by
    refine ⟨ρ, h, _, R, A, q, fun S h1 J H1 q1 k1 A1 js => ?_⟩
    obtain ⟨W, w0, ok, turn, fin⟩ := q1
    refine ⟨fun i m σ' H' => i + m = S.ds.length ∧ ∃ ρ' h', RS X.K H' ρ' σ' ∧ Abs X.K X.w h' H' ∧ Kp H1 H' ∧ W i ρ' h', ⟨S.ds.length, by omega, ρ, h1, R.kp k1, A1, Kp.refl _, w0⟩, fun i m σ2 H2 ⟨em, ρ2, h2, R2, A2, k2, w2⟩ => ?_⟩
    obtain ⟨go, stop⟩ := js i h2 H2 k2 A2 (ok i ρ2 h2 (by omega) w2)
    by_cases hi : i < S.ds.length
    · obtain ⟨go1, go2⟩ := go _ (List.getElem?_eq_getElem hi)
      refine .inr ⟨go1, fun σ' H' => ∃ ρ' h', RS X.K H' ρ' σ' ∧ Abs X.K X.w h' H' ∧ Kp H1 H' ∧ W (i + 1) ρ' h', fun σ' H' w => ⟨m - 1, by omega, by omega, w⟩, fun x H' y => ?_⟩
      obtain ⟨k3, A3, r3⟩ := go2 x H' y
      have step : ∀ ρ' h' σ' H'', Pt (W (i + 1) ρ') h' → Kp H' H'' → RS X.K H'' ρ' σ' → Abs X.K X.w h' H'' → ∃ ρ' h', RS X.K H'' ρ' σ' ∧ Abs X.K X.w h' H'' ∧ Kp H1 H'' ∧ W (i + 1) ρ' h' := fun ρ' h' σ' H'' ⟨h0, sb, w⟩ k' R' A' => ⟨ρ', h0, R', A'.sub sb, k2.trans (k3.trans k'), w⟩
      refine ⟨_, ρ2, h2, _, r3, R2.kp k3, A3, turn i ρ2 h2 _ w2 (List.getElem?_eq_getElem hi), fun ρ4 h4 σ4 H4 q4 k4 R4 A4 _ => ⟨ρ4, h4, _, R4, A4, q4, ⟨?_, ?_, ?_, ?_⟩⟩⟩
      · exact fun ρ' h' σ' H'' a b c d => step ρ' h' σ' H'' a (k4.trans b) c d
      · exact k.rt.kp (k1.trans (k2.trans (k3.trans k4)))
      · exact fun ρ' h' σ' H'' a b c d => k.nx _ _ _ _ a (k1.trans (k2.trans (k3.trans (k4.trans b)))) c d
      · exact fun ρ' h' σ' H'' a b c d => step ρ' h' σ' H'' a (k4.trans b) c d
    · have ei : i = S.ds.length := by omega
      subst ei
      exact .inl ⟨stop (Nat.le_refl _), k.nx _ _ _ _ (fin _ _ w2) (k1.trans k2) R2 A2⟩
/-- at d stands a dict of the keys ks -/
def KR (K : PySem.W.Frag) (H : Hp) (d : Addr) (ks : List D) : Prop := (d == sysModules) = false ∧ ∃ es : Array DictEntry, H d = some (.ext (RawD d es es.size)) ∧ Paired (fun k e => ∃ v, Rv K H k v ∧ RelV v e.key) ks es.toList
/-- a walk over a dict's keys -/
def Itx (K : PySem.W.Frag) (d : Addr) (ks : List D) : It :=
  ⟨fun i H => i < ks.length ∧ KR K H d ks, fun i H x H' => H' = H ∧ ∃ k, ks[i]? = some k ∧ Rv K H k x, fun i H => ks.length ≤ i ∧ KR K H d ks⟩
theorem kr_of {K : PySem.W.Frag} {w : World} {h : AH} {H : Hp} {d : Addr} {kvs : List (D × D)} (A : Abs K w h H) (e : h d = some (.dic kvs)) : KR K H d (kvs.map (·.1)) := by
  obtain ⟨h1, h2, h3, es, ep, h4, h5, rfl⟩ := A d _ e
  refine ⟨h2, es, h4, ?_⟩
  generalize es.toList = l at h5
  clear e h1 h3 h4
  induction h5 with
  | nil => exact .nil
  | cons r _ ih => exact .cons r.2.2.1 ih
theorem js_keys {K : PySem.W.Frag} {w : World} {H : Hp} {d : Addr} {ks : List D} : JS K w H (Itx K d ks) (srcK d ks) := fun i h H1 k A ok => by
  obtain ⟨kvs, e1, rfl⟩ := ok
  have r := kr_of A e1
  refine ⟨fun x e => ⟨⟨(List.getElem?_eq_some_iff.mp e).1, r⟩, fun y H' ⟨e2, k', e3, r3⟩ => ?_⟩, fun z => ⟨z, r⟩⟩
  subst e2
  have e' : (kvs.map (·.1))[i]? = some x := e
  rw [e'] at e3; cases e3
  exact ⟨Kp.refl _, A, r3⟩
theorem walk_ok {K : PySem.W.Frag} {w : World} {h : AH} {H H1 : Hp} {x : D} {v : V} {R0 : Src → AH → Prop} {R : It → Hp → Prop} (A : Abs K w h H1) (r : Rv K H1 x v) (q : walkD h x R0) (k1 : Kp H H1) (k : ∀ S h1 J H1, R0 S h1 → Kp H H1 → Abs K w h1 H1 → JS K w H1 J S → R J H1) :
    ∃ a, v = .ref a ∧ ((∃ xs, SqL K H1 a xs) ∧ R (Itl K a) H1 ∨ (∃ xs, SqT K H1 a xs) ∧ R (Itt K a) H1 ∨ ∃ ks, KR K H1 a ks ∧ R (Itx K a ks) H1) := by
  unfold walkD at q
  cases r with
  | tup h1 h2 => exact ⟨_, rfl, .inr (.inl ⟨⟨_, h1⟩, k _ _ _ _ q k1 A (js_tup h1 h2)⟩)⟩
  | rl h1 h2 => exact ⟨_, rfl, .inl ⟨⟨_, h1.sq⟩, k _ _ _ _ q k1 A (js_listV h1 h2)⟩⟩
  | ref a =>
    dsimp only at q
    split at q
    · rename_i ds e
      obtain ⟨vs, e1, r1⟩ := A _ _ e
      exact ⟨a, rfl, .inl ⟨⟨vs, SqL.of e1⟩, k _ _ _ _ q k1 A js_list⟩⟩
    · rename_i kvs e
      exact ⟨a, rfl, .inr (.inr ⟨_, kr_of A e, k _ _ _ _ q k1 A js_keys⟩)⟩
    · exact q.elim
  | _ => exact q.elim
end
end G
end

section
set_option Elab.async false
set_option linter.all false
set_option maxRecDepth 100000
set_option maxHeartbeats 4000000
/-! G layer, soundness 5: what is walked, comprehensions, defs and their calls, the end of a law. -/
namespace G
open PySem PySem.Spec PyProof.Rows L2
variable [Tb]
section
variable {X : Cx} {a b c e tg : Expr} {pos : Pos}
/-- the dict at d as the raw heap has it -/
theorem kr_raw {pins : List (Addr × Obj)} {σ : L2.St} {H : Hp} {s : Shared} {d : Addr} {ks : List D} (I : L2.Inv X pins σ H s) (r : KR X.K H d ks) : ∃ (o : Obj) (es : Array DictEntry), s.heap.get? d = some o ∧ o.ExactDict ∧ o.data = .dict es ks.length ∧ es.size = ks.length ∧ Paired (fun k e => ∃ v, Rv X.K H k v ∧ RelV v e.key) ks es.toList := by
  obtain ⟨_, es, e1, e2⟩ := r
  obtain ⟨⟨o, o1, o2, o3⟩, _, _⟩ := I.hok d _ e1
  have hl : es.size = ks.length := by
    have := Paired.length e2
    rw [this, Array.length_toList]
  exact ⟨o, es, o1, o2, by rw [← hl]; exact o3, hl, e2⟩
theorem pair_at {α β : Type} {F : α → β → Prop} : ∀ {xs : List α} {ys : List β} {i : Nat} {x : α}, Paired F xs ys → xs[i]? = some x → ∃ y, ys[i]? = some y ∧ F x y
  | _, _, _, _, .nil, e => by simp at e
  | _, _, 0, _, .cons r _, e => by simp at e; subst e; exact ⟨_, rfl, r⟩
  | _, _, i + 1, x, .cons _ t, e => by
    obtain ⟨u, h1, h2⟩ := pair_at (i := i) (x := x) t (by simpa using e)
    exact ⟨u, by simpa using h1, h2⟩
theorem turn_keysX {P : Program} {w : World} {K : PySem.W.Frag} {d : Addr} {ks : List D} (it : Addr) : Turn P w K tg (Itx K d ks) [it] it (fun i h => h.IsKeyIter it d i ks.length ks.length) where
  mem := List.mem_singleton.mpr rfl
  obj := fun i h st b hb => by
    obtain ⟨oi, e, _, dd⟩ := st
    rw [List.mem_singleton.mp hb]
    exact ⟨oi, e, fun v z => by rw [dd] at z; cases z⟩
  keep := fun i h h' st k => let ⟨oi, e, c, dd⟩ := st; ⟨oi, k it (List.mem_singleton.mpr rfl) oi e, c, dd⟩
  item := by
    rintro X rfl rfl rfl hc i pins s σ H E I hf st ⟨hi, hr⟩
    obtain ⟨o, es, o1, o2, o3, hl, hp⟩ := kr_raw I hr
    have fp := hf it (List.mem_singleton.mpr rfl)
    obtain ⟨en, en1, v, rv1, rv2⟩ := pair_at hp (List.getElem?_eq_getElem hi)
    rw [Array.getElem?_toList] at en1
    refine next_key_item st o1 o3 hl en1 fun h' st' sb => ?_
    have I1 := I.turnedL (t' := s.toks) (ch := [it]) (h' := h') (fun b ob hb e => (sb.2 b (fun z => hb (List.mem_singleton.mpr z))).trans e) (fun b hb => by rw [List.mem_singleton.mp hb]; exact fp)
    obtain ⟨oi, e, c, dd⟩ := id st'
    exact ⟨en.key, rfl, go_of (s := { s with heap := h' }) e c dd (by decide) ⟨v, H, I1, rv2, ⟨rfl, _, List.getElem?_eq_getElem hi, rv1⟩, st', fun b hb => (hf b hb).1⟩⟩
  done := by
    rintro X rfl rfl rfl hc i pins s σ H E I hf st ⟨hi, hr⟩
    obtain ⟨o, es, o1, o2, o3, hl, _⟩ := kr_raw I hr
    have fp := hf it (List.mem_singleton.mpr rfl)
    refine next_key_end (I.ok.hd hc) st o1 o3 hl hi fun h' eb => ⟨rfl, ?_⟩
    exact I.turnedL (t' := s.toks) (ch := [it]) (fun b ob hb e => eb b ob (fun z => hb (List.mem_singleton.mpr z)) e) (fun b hb => by rw [List.mem_singleton.mp hb]; exact fp)
  self := fun A i s Q E st h => wpAny_pyIter_keyiter st h
theorem gi_seq {f : DE} (he : GE X e f) : GI X tg e (iSeq f) := by
  refine ⟨fun pins s σ H R I ⟨ρ, h, R0, RR, A, q, k⟩ => ?_⟩
  refine thn (he.run pins s σ H (fun v H1 => ∃ a, v = .ref a ∧ ((∃ xs, SqL X.K H1 a xs) ∧ R (Itl X.K a) H1 ∨ (∃ xs, SqT X.K H1 a xs) ∧ R (Itt X.K a) H1 ∨ ∃ ks, KR X.K H1 a ks ∧ R (Itx X.K a ks) H1)) I ⟨ρ, h, _, RR, A, q, fun d h1 v H1 q1 k1 r1 A1 => walk_ok A1 r1 q1 k1 k⟩) fun v s1 ⟨x, H1, I1, r1, q1⟩ => ?_
  obtain ⟨a, rfl, ⟨⟨xs, hq⟩, q⟩ | ⟨⟨xs, hq⟩, q⟩ | ⟨ks, hk, q⟩⟩ := q1
  · cases r1
    obtain ⟨its, rv, p, hz⟩ := I1.list hq
    refine wpAny_pyIter_list p.isList ?_
    refine ⟨s1.heap.objs.size, [s1.heap.objs.size], _, _, H1, rfl, I1.kept (t' := s1.toks) fun b o e => Heap.get?_push_of_some _ e, turn_list a _, ⟨_, Heap.get?_push_size _ rfl, rfl, rfl⟩, fun b hb => ?_, q⟩
    have e : b = s1.heap.objs.size := by simpa using hb
    subst e
    exact I1.fpOk (Nat.le_refl _) (I1.hok.fresh (Nat.le_refl _))
  · cases r1
    obtain ⟨its, rv, p, hz⟩ := I1.tuple hq
    refine wpAny_pyIter_tuple (show s1.heap.IsTuple a its.toArray from p) ?_
    refine ⟨s1.heap.objs.size, [s1.heap.objs.size], _, _, H1, rfl, I1.kept (t' := s1.toks) fun b o e => Heap.get?_push_of_some _ e, turn_tuple a _, ⟨_, Heap.get?_push_size _ rfl, rfl, rfl⟩, fun b hb => ?_, q⟩
    have e : b = s1.heap.objs.size := by simpa using hb
    subst e
    exact I1.fpOk (Nat.le_refl _) (I1.hok.fresh (Nat.le_refl _))
  · cases r1
    obtain ⟨o, es, o1, o2, o3, hl, _⟩ := kr_raw I1 hk
    refine iter_keys hk.1 o1 o2 o3 (pi_one (tk := s1.toks) I1 _ (turn_keysX _) ⟨_, Heap.get?_push_size _ rfl, rfl, ?_⟩ q)
    rw [hl] <;> rfl
theorem gi_rng1 {f : DA} {p : Pos} (hm : X.mg "range" = none) (ha : GA X [a] f) (hg : Gl X "range" := by rfl) (hs : starEach [a] X.env = [(false, eval a X.env)] := by rfl) : GI X tg (.Call (.Name "range" p) [a] [] pos) (iRng1 f) :=
  pi_imp (pi_range1 hg hm ha hs) fun σ H R ⟨ρ, h, R0, RR, A, q, k⟩ => ⟨ρ, h, _, RR, A, q, fun ds h1 vs H1 q1 k1 r1 A1 => by
    split at q1
    · rename_i j
      cases r1 with
      | cons ra rb =>
        cases rb; cases ra
        exact ⟨j, rfl, q1.1, q1.2.1, k _ _ _ _ q1.2.2 k1 A1 js_rng⟩
    · exact q1.elim⟩
theorem gi_rng2 {f : DA} {p : Pos} (hm : X.mg "range" = none) (ha : GA X [a, b] f) (hg : Gl X "range" := by rfl) (hs : starEach [a, b] X.env = [(false, eval a X.env), (false, eval b X.env)] := by rfl) (hs2 : starEach [b] X.env = [(false, eval b X.env)] := by rfl) : GI X tg (.Call (.Name "range" p) [a, b] [] pos) (iRng2 f) :=
  pi_imp (pi_range2 hg hm ha hs hs2) fun σ H R ⟨ρ, h, R0, RR, A, q, k⟩ => ⟨ρ, h, _, RR, A, q, fun ds h1 vs H1 q1 k1 r1 A1 => by
    split at q1
    · rename_i i j
      cases r1 with
      | cons ra rb =>
        cases rb with
        | cons rc rd =>
          cases rd; cases ra; cases rc
          exact ⟨i, j, rfl, q1.1, k _ _ _ _ q1.2 k1 A1 js_rng⟩
    · exact q1.elim⟩
theorem enumD_get : ∀ {ds : List D} {n i : Nat} {d : D}, (enumD n ds)[i]? = some d → ∃ x, ds[i]? = some x ∧ d = .tup [.int ((n + i : Nat)), x]
  | [], _, _, _, h => by simp [enumD] at h
  | x :: xs, n, 0, d, h => by
    simp [enumD] at h
    exact ⟨x, rfl, by rw [← h]; rfl⟩
  | x :: xs, n, i + 1, d, h => by
    have h' : (enumD (n + 1) xs)[i]? = some d := by simpa [enumD] using h
    obtain ⟨y, h1, h2⟩ := enumD_get h'
    exact ⟨y, by simpa using h1, by rw [h2, show n + 1 + i = n + (i + 1) by omega]⟩
theorem enumD_len : ∀ (ds : List D) (n : Nat), (enumD n ds).length = ds.length
  | [], _ => rfl
  | _ :: xs, n => congrArg (· + 1) (enumD_len xs (n + 1))
theorem zipD_get : ∀ {xs ys : List D} {i : Nat} {d : D}, (zipD xs ys)[i]? = some d → ∃ x y, xs[i]? = some x ∧ ys[i]? = some y ∧ d = .tup [x, y]
  | [], ys, _, _, h => by cases ys <;> simp [zipD] at h
  | x :: xs, [], _, _, h => by simp [zipD] at h
  | x :: xs, y :: ys, 0, d, h => by
    simp [zipD] at h
    exact ⟨x, y, rfl, rfl, h.symm⟩
  | x :: xs, y :: ys, i + 1, d, h => by
    have h' : (zipD xs ys)[i]? = some d := by simpa [zipD] using h
    obtain ⟨x, y, h1, h2, h3⟩ := zipD_get h'
    exact ⟨x, y, by simpa using h1, by simpa using h2, h3⟩
theorem zipD_len : ∀ (xs ys : List D), (zipD xs ys).length = min xs.length ys.length
  | [], ys => by cases ys <;> simp [zipD]
  | x :: xs, [] => by simp [zipD]
  | x :: xs, y :: ys => by simp [zipD, zipD_len xs ys]
/-- a list that is walked: its items are read wherever it still stands -/
def LRd (K : PySem.W.Frag) (w : World) (H1 : Hp) (a : Addr) (S : Src) : Prop := ∀ (h : AH) (H : Hp), Kp H1 H → Abs K w h H → S.ok h → ∃ vs, SqL K H a vs ∧ RvL K H S.ds vs
theorem walkL_ok {K : PySem.W.Frag} {w : World} {h : AH} {H1 : Hp} {x : D} {v : V} {R0 : Src → AH → Prop} (A : Abs K w h H1) (r : Rv K H1 x v) (q : walkL h x R0) : ∃ a S, v = .ref a ∧ LRd K w H1 a S ∧ S.ok h ∧ R0 S h := by
  unfold walkL at q
  cases r with
  | rl h1 h2 => exact ⟨_, _, rfl, fun h' H' k' A' _ => ⟨_, (h1.kp k').sq, h2.kp k'⟩, trivial, q⟩
  | ref a =>
    dsimp only at q
    split at q
    · rename_i ds e
      exact ⟨a, _, rfl, fun h' H' k' A' ok => let ⟨vs, e1, r1⟩ := A' a (.lst ds) ok; ⟨vs, SqL.of e1, r1⟩, e, q⟩
    · exact q.elim
  | _ => exact q.elim
theorem gi_enum {f : DA} {p tpos : Pos} {elts : List Expr} {kk : Nat} (hm : X.mg "enumerate" = none) (ha : GA X [e] f) (hg : Gl X "enumerate" := by rfl) (hs : starEach [e] X.env = [(false, eval e X.env)] := by rfl) : GI X (.Tuple elts kk tpos) (.Call (.Name "enumerate" p) [e] [] pos) (G.iEnum f) :=
  pi_imp (pi_enum hg hm ha hs) fun σ H R ⟨ρ, h, R0, RR, A, q, k⟩ => ⟨ρ, h, _, RR, A, q, fun ds h1 vs H1 q1 k1 r1 A1 => by
    split at q1
    · rename_i x
      cases r1 with
      | cons ra rb =>
        cases rb
        obtain ⟨a, S, rfl, rd, ok, q2⟩ := walkL_ok A1 ra q1
        obtain ⟨us, s1, s2⟩ := rd h1 H1 (Kp.refl _) A1 ok
        refine ⟨a, us, rfl, s1, k _ _ _ _ q2 k1 A1 fun i h2 H2 k2 A2 ok2 => ?_⟩
        obtain ⟨ws, w1, w2⟩ := rd h2 H2 k2 A2 ok2
        refine ⟨fun d ed => ?_, fun z => ⟨ws, w1, by rw [← w2.length]; rw [show (⟨enumD 0 S.ds, S.ok⟩ : Src).ds = enumD 0 S.ds from rfl, enumD_len] at z; exact z⟩⟩
        obtain ⟨y, ey, rfl⟩ := enumD_get ed
        obtain ⟨v, ev, rv⟩ := w2.get ey
        refine ⟨⟨ws, v, w1, ev⟩, fun u H' ⟨T, v', e1, nT, e2, f2⟩ => ?_⟩
        subst e1; subst e2
        have e3 := f2 ws w1
        rw [ev] at e3; cases e3
        exact ⟨Kp.new nT, A2.newH nT, .tup (SqT.of upd_same) (.cons (by rw [Nat.zero_add]; exact .int _) (.cons (rv.kp (Kp.new nT)) .nil))⟩
    · exact q1.elim⟩
theorem gi_zip {f : DA} {p tpos : Pos} {elts : List Expr} {kk : Nat} (hm : X.mg "zip" = none) (ha : GA X [a, b] f) (hg : Gl X "zip" := by rfl) (hs : starEach [a, b] X.env = (false, eval a X.env) :: starEach [b] X.env := by rfl) (hpl : (backTo pos (starEach [b] X.env)).any (·.1) = false := by rfl) : GI X (.Tuple elts kk tpos) (.Call (.Name "zip" p) [a, b] [] pos) (G.iZip f) :=
  pi_imp (pi_zip hg hm ha hs hpl) fun σ H R ⟨ρ, h, R0, RR, A, q, k⟩ => ⟨ρ, h, _, RR, A, q, fun ds h1 vs H1 q1 k1 r1 A1 => by
    split at q1
    · rename_i x y
      cases r1 with
      | cons ra rb =>
        cases rb with
        | cons rc rd' =>
          cases rd'
          obtain ⟨a, S, rfl, rd, ok, q2⟩ := walkL_ok A1 ra q1
          obtain ⟨b, T, rfl, rd2, okT, q3⟩ := walkL_ok A1 rc q2
          obtain ⟨us, s1, s2⟩ := rd h1 H1 (Kp.refl _) A1 ok
          obtain ⟨us2, t1, t2⟩ := rd2 h1 H1 (Kp.refl _) A1 okT
          refine ⟨a, b, us, us2, rfl, s1, t1, k _ _ _ _ q3 k1 A1 fun i h2 H2 k2 A2 ok2 => ?_⟩
          obtain ⟨ws, w1, w2⟩ := rd h2 H2 k2 A2 ok2.1
          obtain ⟨zs, z1, z2⟩ := rd2 h2 H2 k2 A2 ok2.2
          refine ⟨fun d ed => ?_, fun z => ⟨ws, zs, w1, z1, by
            have z' : (zipD S.ds T.ds).length ≤ i := z
            rw [zipD_len] at z'
            rw [← w2.length, ← z2.length]; omega⟩⟩
          obtain ⟨y1, y2, ey1, ey2, rfl⟩ := zipD_get ed
          obtain ⟨v1, ev1, rv1⟩ := w2.get ey1
          obtain ⟨v2, ev2, rv2⟩ := z2.get ey2
          refine ⟨⟨ws, zs, v1, v2, w1, z1, ev1, ev2⟩, fun u H' ⟨TT, v', v'', e1, nT, e2, f2, f3⟩ => ?_⟩
          subst e1; subst e2
          have e3 := f2 ws w1
          rw [ev1] at e3; cases e3
          have e4 := f3 zs z1
          rw [ev2] at e4; cases e4
          exact ⟨Kp.new nT, A2.newH nT, .tup (SqT.of upd_same) (.cons (rv1.kp (Kp.new nT)) (.cons (rv2.kp (Kp.new nT)) .nil))⟩
    · exact q1.elim⟩

/-! ### comprehensions -/
abbrev GTs (X : Cx) (es : List Expr) (f : DT) : Prop := PTs X es (tT X.K X.w f)
theorem gts_nil : GTs X [] G.tYes := ⟨fun pins s σ H Q I ⟨ρ, h, Q0, R, A, q, k⟩ => pts_nil.run pins s σ H Q I (k _ _ _ q (Kp.refl _) A)⟩
theorem gts_one {t : DT} (h : GT X c t) : GTs X [c] t := pts_one h
theorem dComp_ok {K : PySem.W.Frag} {w : World} {it : DI} {g : DG} {t : DT} {f : DE} {own : List Nat} {σ : L2.St} {H : Hp} {Q : VK} (x : tE K w (dComp it g t f own) σ H Q) : tLc (tI K w it) (tG K w own g) (tT K w t) (tE K w f) own σ H Q := by
  obtain ⟨ρ, h, Q0, R, A, q, k⟩ := x
  refine ⟨ρ, h, _, R, A, q, fun S h1 J H1 q1 k1 A1 js D n => ?_⟩
  obtain ⟨W, w0, ok, turn, fin⟩ := q1 D (A1.nil n)
  have kD : Kp H1 (upd H1 D (.lst [])) := Kp.new n
  refine ⟨fun i m H' => i + m = S.ds.length ∧ ∃ acc h', Abs K w h' H' ∧ Kp H1 H' ∧ W i acc h', ⟨S.ds.length, by omega, [], _, A1.new n (o := .lst []) ⟨[], upd_same, .nil⟩, kD, w0⟩, fun i m H2 ⟨em, acc, h2, A2, k2, w2⟩ => ?_⟩
  obtain ⟨ok1, ok2⟩ := ok i acc h2 (by omega) w2
  obtain ⟨go, stop⟩ := js i h2 H2 k2 A2 ok1
  by_cases hi : i < S.ds.length
  · obtain ⟨go1, go2⟩ := go _ (List.getElem?_eq_getElem hi)
    refine .inr ⟨go1, fun H' => ∃ acc h', Abs K w h' H' ∧ Kp H1 H' ∧ W (i + 1) acc h', fun H' w => ⟨m - 1, by omega, by omega, w⟩, fun x H' y => ?_⟩
    obtain ⟨k3, A3, r3⟩ := go2 x H' y
    refine ⟨_, G.wipe ρ own, h2, _, r3, (R.kp (k1.trans (k2.trans k3))).wipe own, A3, turn i acc h2 _ w2 (List.getElem?_eq_getElem hi), fun ρ4 h4 σ4 H4 q4 k4 R4 A4 sm => ⟨sm.wipe, ρ4, h4, _, R4, A4, q4, fun b h5 H5 q5 k5 A5 => ?_⟩⟩
    have kk : Kp H1 H5 := k2.trans (k3.trans (k4.trans k5))
    cases b with
    | true =>
      dsimp only
      rw [if_pos rfl]
      refine ⟨ρ4, h5, _, R4.kp k5, A5, q5, fun y h6 v H6 ⟨z, e6, h0, sb, w6⟩ k6 r6 A6 => ?_⟩
      obtain ⟨vs, e7, r7⟩ := A6 _ _ e6
      have kw : Kp H6 (upd H6 D (.lst (vs ++ [v]))) := Kp.wr e7 trivial
      have A7 : Abs K w (up h6 D (.lst (acc ++ [y]))) (upd H6 D (.lst (vs ++ [v]))) := A6.wr (o := .lst (acc ++ [y])) e7 trivial ⟨_, upd_same, (r7.append (.one r6)).kp kw⟩
      exact ⟨vs, e7, by rw [← r7.length, sz_eq]; exact z, acc ++ [y], h0, A7.sub sb, kk.trans (k6.trans kw), w6⟩
    | false =>
      dsimp only
      rw [if_neg Bool.false_ne_true]
      obtain ⟨h0, sb, w6⟩ := q5
      exact ⟨acc, h0, A5.sub sb, kk, w6⟩
  · have ei : i = S.ds.length := by omega
    subst ei
    exact .inl ⟨stop (Nat.le_refl _), k _ _ _ _ (fin _ _ w2) (k1.trans k2) (.ref _) A2⟩
theorem ge_comp {elt iter : Expr} {ifs : List Expr} {scope : Scope} {own : List (Str × Nat)} {it : DI} {g : DG} {t : DT} {f : DE} (hc : X.calm = true) (hN : X.N.Nodup) (hi : GI X tg iter it) {N : List Str} {sc : Scope} (eN : X.N = N) (eS : X.env.scope = sc) (ok : blkC N sc scope own = true)
    (hg : ∀ (s : Shared) (H : Hp) (C : Addr) (cl : List (Str × Addr)) (fp : List Addr), GG (X.blk s H scope (compEnvC scope cl C X.env) fp) tg (own.map (·.2)) g)
    (ht : ∀ (s : Shared) (H : Hp) (C : Addr) (cl : List (Str × Addr)) (fp : List Addr), GTs (X.blk s H scope (compEnvC scope cl C X.env) fp) ifs t)
    (he : ∀ (s : Shared) (H : Hp) (C : Addr) (cl : List (Str × Addr)) (fp : List Addr), GE (X.blk s H scope (compEnvC scope cl C X.env) fp) elt f) (hs : ∀ x, foldedSetIterable iter X.env x = pure x := by intro _; rfl) :
    GE X (.ListComp elt [⟨tg, iter, ifs, 0⟩] scope pos) (dComp it g t f (own.map (·.2))) :=
  pe_imp (pe_lc hc hN hi (by rw [eN, eS]; exact blkOk_by ok) hg ht he hs) fun σ H Q x => dComp_ok x
theorem gs_setComp {i : Nat} {y : Str} {py spos : Pos} {elt iter : Expr} {ifs : List Expr} {scope : Scope} {own : List (Str × Nat)} {it : DI} {g : DG} {t : DT} {f : DE} (hc : X.calm = true) (hN : X.N.Nodup) (hi : GI X tg iter it) {N : List Str} {sc : Scope} (eN : X.N = N) (eS : X.env.scope = sc) (ok : blkC N sc scope own = true)
    (hg : ∀ (s : Shared) (H : Hp) (C : Addr) (cl : List (Str × Addr)) (fp : List Addr), GG (X.blk s H scope (compEnvC scope cl C X.env) fp) tg (own.map (·.2)) g)
    (ht : ∀ (s : Shared) (H : Hp) (C : Addr) (cl : List (Str × Addr)) (fp : List Addr), GTs (X.blk s H scope (compEnvC scope cl C X.env) fp) ifs t)
    (he : ∀ (s : Shared) (H : Hp) (C : Addr) (cl : List (Str × Addr)) (fp : List Addr), GE (X.blk s H scope (compEnvC scope cl C X.env) fp) elt f)
    (hsw : swapsWith (.ListComp elt [⟨tg, iter, ifs, 0⟩] scope pos) (some (.Name y py)) spos.line X.env = pure true) (hy : X.N[i]? = some y := by rfl) (hyl : X.env.scope.names.lookup y = some .local := by rfl) (hs : ∀ x, foldedSetIterable iter X.env x = pure x := by intro _; rfl) :
    GS X (.Assign [.Name y py] (.ListComp elt [⟨tg, iter, ifs, 0⟩] scope pos) spos) (dSet i (dComp it g t f (own.map (·.2)))) :=
  ps_imp (ps_setLc (i := i) hc hN hy hyl hsw hi (by rw [eN, eS]; exact blkOk_by ok) hg ht he hs) fun D σ H ⟨ρ, h, F, R, A, q, k⟩ => dComp_ok (K := X.K) (w := X.w) ⟨ρ, h, _, R, A, q, fun d h1 v H1 q1 k1 r1 A1 => k.nx _ _ _ _ q1 k1 ((R.kp k1).set r1) A1⟩

/-! ### defs -/
/-- the promise of a def, from its function of the domain -/
def spG (K : PySem.W.Frag) (w : World) (f : FS) : Sp := fun vs H Q _ => ∃ ds h Q0, RvL K H ds vs ∧ Abs K w h H ∧ f ds h Q0 ∧ KQ K w H Q0 Q
def FnG (P : Program) (w : World) (K : PySem.W.Frag) (mg : Str → Option Value) (base : Heap) (k : Nat) (f : Addr) (fd : FuncData) (ps : List Str) (sp : FS) : Prop := FnOk P w K mg base CX0 k f fd ps (spG K w sp)
theorem start_rs {K : PySem.W.Frag} {H : Hp} {N : List Str} {ds : List D} {vs : List V} (r : RvL K H ds vs) : RS K H (G.start N.length ds) (L2.start N vs) := by
  have hl := r.length
  refine ⟨by simp [G.start, L2.start, hl], fun i d e => ?_⟩
  unfold G.start at e
  by_cases hi : i < ds.length
  · rw [List.getElem?_append_left (by simpa using hi), List.getElem?_map] at e
    cases e2 : ds[i]? with
    | none => rw [e2] at e; cases e
    | some d' =>
      rw [e2] at e; cases e
      obtain ⟨v, e3, r3⟩ := r.get e2
      refine ⟨v, ?_, r3⟩
      unfold L2.start
      rw [List.getElem?_append_left (by simp; omega), List.getElem?_map, e3]; rfl
  · rw [List.getElem?_append_right (by simp; omega)] at e
    have := (List.getElem?_eq_some_iff.mp e)
    obtain ⟨h1, h2⟩ := this
    simp at h2
theorem fn_ok {P : Program} {w : World} {K : PySem.W.Frag} {mg : Str → Option Value} {base : Heap} {x qual : Str} {st : Stmt} {f : Addr} {fd : FuncData} {N ps : List Str} {k : Nat} {b : DS} (F : Fun K x qual st f fd) (S : FnScope N ps (defScope st))
    (body : ∀ (cdv : Value) (A : Around) (outer : List Env) (s : Shared) (H : Hp) (E : XK), Room k (A.deeper (envOfC qual (defScope st) s.heap.objs.size f cdv)) →
      GSs (cxOf CX0 P w K mg base N qual (defScope st) f cdv A outer s H E).nox (defBody st) b) : FnG P w K mg base (k + 1) f fd ps (fnOf N.length ps.length b) := by
  refine F.ok S (fun vs H Q E ⟨ds, h, Q0, r, A, q, _⟩ => by rw [← r.length]; exact q.1) fun cdv A outer s H vs Q E hr ⟨ds, h, Q0, r, Ab, q, kq⟩ => ?_
  refine ⟨_, body cdv A outer s H E hr, _, h, _, start_rs r, Ab, q.2, ⟨?_, ?_, ?_, ?_⟩⟩
  · intro ρ' h' σ' H' ⟨h0, sb, q'⟩ k' R' A'
    exact kq _ _ _ _ q' k' .non (A'.sub sb)
  · intro d h' v H' ⟨h0, sb, q'⟩ k' r' A'
    exact kq _ _ _ _ q' k' r' (A'.sub sb)
  · intro _ _ _ _ q'; exact q'.elim
  · intro _ _ _ _ q'; exact q'.elim
theorem ge_call {k : Nat} {f : Addr} {fd : FuncData} {ps : List Str} {sp : FS} {x : Str} {p : Pos} {es : List Expr} {fa : DA} (F : FnG X.prog X.w X.K X.mg X.base k f fd ps sp) (hr : Room k X.A) (hm : X.mg x = some (.ref f)) (hk : PySem.W.keepIn X.K (.ref f) = true) (hb : Binds X.K fd ps [])
    (ha : GA X (e :: es) fa) (hg : Gl X x := by rfl) (hdb : (x == ("__debug__" : Str)) = false := by decide) (he : starEach (e :: es) X.env = (false, eval e X.env) :: starEach es X.env := by rfl) (hpl : (backTo pos (starEach es X.env)).any (·.1) = false := by rfl) :
    GE X (.Call (.Name x p) (e :: es) [] pos) (dCall sp fa) :=
  pe_imp (pe_call F hr hg hm hk hb .nil pass0 ha hdb he hpl) fun σ H Q ⟨ρ, h, Q0, R, A, q, k⟩ => ⟨ρ, h, _, R, A, q, fun ds h1 vs H1 q1 k1 r1 A1 => ⟨ds, h1, Q0, by rw [List.append_nil]; exact r1, A1, q1, k.kp k1⟩⟩
theorem ge_call0 {k : Nat} {f : Addr} {fd : FuncData} {ps : List Str} {sp : FS} {x : Str} {p : Pos} (F : FnG X.prog X.w X.K X.mg X.base k f fd ps sp) (hr : Room k X.A) (hm : X.mg x = some (.ref f)) (hk : PySem.W.keepIn X.K (.ref f) = true) (hb : Binds X.K fd ps [])
    (hg : Gl X x := by rfl) (hdb : (x == ("__debug__" : Str)) = false := by decide) : GE X (.Call (.Name x p) [] [] pos) (dCall sp daNil) :=
  pe_imp (pe_call0 F hr hg hm hk hb .nil pass0 hdb) fun σ H Q ⟨ρ, h, Q0, R, A, q, k⟩ => ⟨[], h, Q0, .nil, A, q, k⟩
/-- a module's constant -/
theorem ge_glob {x : Str} {u : Value} {d : D} {v : V} (hm : X.mg x = some u) (r : RelV v u) (rd : ∀ H, Rv X.K H d v) (hg : Gl X x := by rfl) (hd : (x == ("__debug__" : Str)) = false := by decide) : GE X (.Name x pos) (dC d) := ge_c (pe_glob hg hm r hd) rd
end
end G
end

section
set_option Elab.async false
set_option linter.all false
set_option maxRecDepth 100000
set_option maxHeartbeats 4000000
/-! G layer, soundness 6: dicts. -/
namespace G
open PySem PySem.Spec PyProof.Rows L2
variable [Tb]
mutual
theorem nk_inj : ∀ (n m : Nat) (a b : D), pl n a = true → pl m b = true → nk a = nk b → a = b
  | n, m, .non, b, _, hb, e => by cases b <;> first | rfl | (simp [nk] at e; done) | (cases m <;> simp [pl] at hb)
  | n, m, .int i, b, _, hb, e => by cases b <;> simp [nk] at e; rw [e]
  | n, m, .str i, b, _, hb, e => by cases b <;> simp [nk] at e; rw [e]
  | n, m, .tup ds, b, ha, hb, e => by
    cases b <;> simp [nk] at e
    rename_i es
    cases n <;> simp [pl] at ha
    cases m <;> simp [pl] at hb
    rw [nkL_inj _ _ _ _ ha hb e]
  | n, m, .bl _, b, ha, hb, e => by cases n <;> simp [pl] at ha
  | n, m, .rl _, b, ha, hb, e => by cases n <;> simp [pl] at ha
  | n, m, .rd _ _, b, ha, hb, e => by cases n <;> simp [pl] at ha
  | n, m, .ref _, b, ha, hb, e => by cases n <;> simp [pl] at ha
theorem nkL_inj : ∀ (n m : Nat) (a b : List D), plL n a = true → plL m b = true → nkL a = nkL b → a = b
  | _, _, [], [], _, _, _ => rfl
  | _, _, [], _ :: _, _, _, e => by simp [nkL] at e
  | _, _, _ :: _, [], _, _, e => by simp [nkL] at e
  | n, m, x :: xs, y :: ys, ha, hb, e => by
    simp only [nkL, List.cons.injEq] at e
    rw [plL, Bool.and_eq_true] at ha hb
    rw [nk_inj n m x y ha.1 hb.1 e.1, nkL_inj n m xs ys ha.2 hb.2 e.2]
end
section
variable {X : Cx} {pins : List (PySem.Addr × Obj)} {σ : L2.St} {H : Hp} {s : Shared} {h : AH}
mutual
theorem nested_of (I : L2.Inv X pins σ H s) : ∀ (n : Nat) (d : D) (v : V) (u : Value), pl n d = true → Rv X.K H d v → L2.RelV v u → NestedIs s.heap (nk d) u ∧ (nk d).depth ≤ n
  | n, .non, v, u, _, r, q => by cases r; cases q; exact ⟨.none, by simp [nk, NestedKey.depth]⟩
  | n, .int i, v, u, _, r, q => by cases r; obtain ⟨t, rfl⟩ := q; exact ⟨.int _ _, by simp [nk, NestedKey.depth]⟩
  | n, .str i, v, u, _, r, q => by cases r; obtain ⟨t, rfl⟩ := q; exact ⟨.text _ _, by simp [nk, NestedKey.depth]⟩
  | n + 1, .tup ds, v, u, hp, r, q => by
    cases r with
    | tup h1 h2 =>
      cases q
      obtain ⟨its, rv, ⟨o, ho, hc, m, hd⟩, _⟩ := I.tuple h1
      obtain ⟨k1, k2⟩ := nestedL_of I n ds _ its (by simpa [pl] using hp) h2 rv
      exact ⟨.tup ho hc hd (by simpa using k1), by simp only [nk, NestedKey.depth]; omega⟩
  | 0, .tup ds, v, u, hp, r, q => by simp [pl] at hp
  | n, .bl _, v, u, hp, r, q => by cases n <;> simp [pl] at hp
  | n, .rl _, v, u, hp, r, q => by cases n <;> simp [pl] at hp
  | n, .rd _ _, v, u, hp, r, q => by cases n <;> simp [pl] at hp
  | n, .ref _, v, u, hp, r, q => by cases n <;> simp [pl] at hp
theorem nestedL_of (I : L2.Inv X pins σ H s) : ∀ (n : Nat) (ds : List D) (vs : List V) (us : List Value), plL n ds = true → RvL X.K H ds vs → L2.Vals vs us → NestedAll s.heap (nkL ds) us ∧ NestedKey.depthAll (nkL ds) ≤ n
  | n, [], vs, us, _, r, q => by cases r; cases q; exact ⟨.nil, by simp [nkL, NestedKey.depthAll]⟩
  | n, d :: ds, vs, us, hp, r, q => by
    rw [plL, Bool.and_eq_true] at hp
    cases r with
    | cons r1 r2 =>
      cases q with
      | cons q1 q2 =>
        obtain ⟨a1, a2⟩ := nested_of I n d _ _ hp.1 r1 q1
        obtain ⟨b1, b2⟩ := nestedL_of I n ds _ _ hp.2 r2 q2
        exact ⟨.cons a1 b1, by simp only [nkL, NestedKey.depthAll]; omega⟩
end
/-- an entry by its parts -/
def EP (K : PySem.W.Frag) (H : Hp) (p : D × D) (x : GR.RE) : Prop := x.1 = nk p.1 ∧ pl 8 p.1 = true ∧ (∃ v, Rv K H p.1 v ∧ L2.RelV v x.2.1) ∧ ∃ v, Rv K H p.2 v ∧ L2.RelV v x.2.2
theorem ent_list {K : PySem.W.Frag} {w : World} {H : Hp} : ∀ {kvs : List (D × D)} {l : List DictEntry}, Paired (EntR K w H) kvs l → ∃ L, l = L.map (GR.ent w) ∧ Paired (EP K H) kvs L
  | _, _, .nil => ⟨[], rfl, .nil⟩
  | p :: _, e :: _, .cons ⟨h1, h2, h3, h4⟩ t => by
    obtain ⟨L, e1, q⟩ := ent_list t
    refine ⟨(nk p.1, e.key, e.val) :: L, ?_, .cons ⟨rfl, h2, h3, h4⟩ q⟩
    rw [List.map_cons, ← e1]
    congr 1
    cases e
    simp only [GR.ent] at h1 ⊢
    rw [h1]
theorem list_ent {K : PySem.W.Frag} {w : World} {H : Hp} : ∀ {kvs : List (D × D)} {L : List GR.RE}, Paired (EP K H) kvs L → Paired (EntR K w H) kvs (L.map (GR.ent w))
  | _, _, .nil => .nil
  | p :: _, x :: _, .cons ⟨h1, h2, h3, h4⟩ t => .cons ⟨by show x.1.hash w = _; rw [h1], h2, h3, h4⟩ (list_ent t)
theorem EP.kp {K : PySem.W.Frag} {H H' : Hp} (k : Kp H H') {p : D × D} {x : GR.RE} (r : EP K H p x) : EP K H' p x := by
  obtain ⟨h1, h2, ⟨v, a, b⟩, u, c, d⟩ := r
  exact ⟨h1, h2, ⟨v, a.kp k, b⟩, u, c.kp k, d⟩
theorem ep_keys {K : PySem.W.Frag} {H : Hp} : ∀ {kvs : List (D × D)} {L : List GR.RE}, Paired (EP K H) kvs L → L.map (·.1) = (kvs.map (·.1)).map nk
  | _, _, .nil => rfl
  | p :: _, x :: _, .cons ⟨h1, _⟩ t => by rw [List.map_cons, List.map_cons, List.map_cons, ep_keys t, h1]
theorem ep_pl {K : PySem.W.Frag} {H : Hp} : ∀ {kvs : List (D × D)} {L : List GR.RE}, Paired (EP K H) kvs L → ∀ p ∈ kvs, pl 8 p.1 = true
  | _, _, .nil, p, h => by cases h
  | _, _, .cons ⟨_, h2, _⟩ t, p, h => by
    rcases List.mem_cons.mp h with e | h
    · rw [e]; exact h2
    · exact ep_pl t p h
theorem ep_put {K : PySem.W.Frag} {H : Hp} {k d : D} {u v : Value} (e : EP K H (k, d) (nk k, u, v)) : ∀ {kvs : List (D × D)} {L : List GR.RE}, Paired (EP K H) kvs L → Paired (EP K H) (dput kvs k d) (GR.rput L (nk k) u v)
  | _, _, .nil => .cons e .nil
  | (a, b) :: r, x :: _, .cons r1 t => by
    have h1 : x.1 = nk a := r1.1
    rw [dput, GR.rput]
    by_cases z : a = k
    · rw [if_pos z, if_pos (by rw [h1, z])]
      exact .cons ⟨r1.1, r1.2.1, r1.2.2.1, e.2.2.2⟩ t
    · rw [if_neg z, if_neg (fun q => z (nk_inj 8 8 _ _ r1.2.1 e.2.1 (h1.symm.trans q)))]
      exact .cons r1 (ep_put e t)
theorem dput_keys : ∀ (kvs : List (D × D)) (k v : D), (dput kvs k v).map (·.1) = if k ∈ kvs.map (·.1) then kvs.map (·.1) else kvs.map (·.1) ++ [k]
  | [], k, v => rfl
  | (a, b) :: r, k, v => by
    rw [dput]
    by_cases z : a = k
    · rw [if_pos z, if_pos (by simp [z])]; rfl
    · rw [if_neg z, List.map_cons, dput_keys r k v]
      have : (k ∈ ((a, b) :: r).map (·.1)) ↔ k ∈ r.map (·.1) := by
        simp only [List.map_cons, List.mem_cons]
        exact ⟨fun q => q.resolve_left fun e => z e.symm, .inr⟩
      simp only [this]
      split <;> rfl
theorem dput_nodup {kvs : List (D × D)} {k v : D} (h : (kvs.map (·.1)).Nodup) : ((dput kvs k v).map (·.1)).Nodup := by
  rw [dput_keys]
  split
  · exact h
  · rename_i n
    rw [List.nodup_append]
    exact ⟨h, by simp, fun x hx y hy => by simp at hy; subst hy; exact fun e => n (e ▸ hx)⟩
theorem dput_len (kvs : List (D × D)) (k v : D) : (dput kvs k v).length ≤ kvs.length + 1 := by
  have := congrArg List.length (dput_keys kvs k v)
  rw [List.length_map] at this
  split at this <;> simp at this <;> omega
theorem dget_of {kvs : List (D × D)} {L : List GR.RE} {K : PySem.W.Frag} {H : Hp} {k : D} {j : Nat} {x : GR.RE} (hk : pl 8 k = true) : Paired (EP K H) kvs L → (kvs.map (·.1)).Nodup → L[j]? = some x → x.1 = nk k → ∃ d v, dget kvs k = some d ∧ Rv K H d v ∧ L2.RelV v x.2.2 := by
  intro r
  induction r generalizing j with
  | nil => intro _ e; simp at e
  | @cons p y kvs L r1 t ih =>
    intro hn e ex
    obtain ⟨a, b⟩ := p
    rw [List.map_cons, List.nodup_cons] at hn
    cases j with
    | zero =>
      simp only [List.getElem?_cons_zero, Option.some.injEq] at e
      subst e
      have : a = k := nk_inj 8 8 _ _ r1.2.1 hk (r1.1.symm.trans ex)
      obtain ⟨v, h1, h2⟩ := r1.2.2.2
      exact ⟨b, v, by rw [dget, if_pos this], h1, h2⟩
    | succ j =>
      have e' : L[j]? = some x := by simpa using e
      obtain ⟨d, v, h1, h2⟩ := ih hn.2 e' ex
      have hm : k ∈ kvs.map (·.1) := by
        have e2 : (L.map (·.1))[j]? = some (nk k) := by rw [List.getElem?_map, e']; exact congrArg some ex
        rw [ep_keys t, List.getElem?_map] at e2
        cases e3 : (kvs.map (·.1))[j]? with
        | none => rw [e3] at e2; cases e2
        | some c =>
          rw [e3] at e2
          have hc := List.mem_of_getElem? e3
          obtain ⟨q, hq, rfl⟩ := List.mem_map.mp hc
          have : q.1 = k := nk_inj 8 8 _ _ (ep_pl t q hq) hk (Option.some.inj e2)
          rw [← this]; exact hc
      refine ⟨d, v, ?_, h2⟩
      rw [dget, if_neg (fun z => hn.1 (by rw [show (a, b).1 = a from rfl, z]; exact hm))]
      exact h1
theorem dget_none {kvs : List (D × D)} {k : D} : k ∉ kvs.map (·.1) → dget kvs k = none := by
  intro h
  induction kvs with
  | nil => rfl
  | cons p r ih =>
    obtain ⟨a, b⟩ := p
    rw [dget, if_neg (fun z => h (by simp [z]))]
    exact ih fun z => h (List.mem_cons_of_mem _ z)
theorem dget_mem {kvs : List (D × D)} {k v : D} (h : dget kvs k = some v) : k ∈ kvs.map (·.1) := by
  induction kvs with
  | nil => simp [dget] at h
  | cons p r ih =>
    obtain ⟨a, b⟩ := p
    rw [dget] at h
    split at h
    · rename_i e; simp [e]
    · exact List.mem_cons_of_mem _ (ih h)
theorem nk_mem {kvs : List (D × D)} {k : D} (hk : pl 8 k = true) (hp : ∀ p ∈ kvs, pl 8 p.1 = true) : nk k ∈ (kvs.map (·.1)).map nk ↔ k ∈ kvs.map (·.1) := by
  constructor
  · intro h
    obtain ⟨a, ha, e⟩ := List.mem_map.mp h
    obtain ⟨p, hp', rfl⟩ := List.mem_map.mp ha
    rw [← nk_inj 8 8 _ _ (hp p hp') hk e]; exact ha
  · exact fun h => List.mem_map.mpr ⟨k, h, rfl⟩
theorem nk_nodup {kvs : List (D × D)} (hp : ∀ p ∈ kvs, pl 8 p.1 = true) (hn : (kvs.map (·.1)).Nodup) : ((kvs.map (·.1)).map nk).Nodup := by
  induction kvs with
  | nil => simp
  | cons p r ih =>
    rw [List.map_cons, List.nodup_cons] at hn
    rw [List.map_cons, List.map_cons, List.nodup_cons]
    exact ⟨fun h => hn.1 ((nk_mem (hp p List.mem_cons_self) fun q hq => hp q (List.mem_cons_of_mem _ hq)).mp h), ih (fun q hq => hp q (List.mem_cons_of_mem _ hq)) hn.2⟩
/-- a dict of the abstract heap, in the raw heap -/
theorem dic_raw (I : L2.Inv X pins σ H s) (A : Abs X.K X.w h H) {a : Addr} {kvs : List (D × D)} (e : h a = some (.dic kvs)) : ∃ L es ep, GR.Rw X.w s.heap a L es ep ∧ Paired (EP X.K H) kvs L ∧ kvs.length ≤ sizeLine ∧ (a == sysModules) = false ∧ (kvs.map (·.1)).Nodup ∧ H a = some (.ext (RawD a es ep)) := by
  obtain ⟨h1, h2, h3, es, ep, h4, h5, hv⟩ := A a _ e
  obtain ⟨L, e1, q⟩ := ent_list h5
  have hx := I.hok a _ h4
  refine ⟨L, es, ep, ⟨hx.1, e1, ?_, ?_, hv⟩, q, h1, h2, h3, h4⟩
  · rw [ep_keys q]; exact nk_nodup (ep_pl q) h3
  · intro x hx
    obtain ⟨p, hp, r⟩ := pMem q x hx
    obtain ⟨v, a1, a2⟩ := r.2.2.1
    rw [r.1]
    exact nested_of I 8 p.1 v x.2.1 r.2.1 a1 a2
theorem raw_obj {P : Program} {w : World} {H : Hp} {h' : Heap} {a : Addr} {es : Array DictEntry} {ep : Nat} (x : GR.Dic h' a es ep) : ObjOk P w H h' a (.ext (RawD a es ep)) :=
  ⟨x, let ⟨o, h1, _⟩ := x; ⟨o, h1⟩, fun h1 h2 ⟨o, a1, a2⟩ k => ⟨o, k o a1, a2⟩⟩
end
end G
end

section
set_option Elab.async false
set_option linter.all false
set_option maxRecDepth 100000
set_option maxHeartbeats 4000000
/-! G layer, soundness 7: subscripts, stores, in, methods and calls about dicts, lists. -/
namespace G
open PySem PySem.Spec PyProof.Rows L2
variable [Tb]
section
variable {X : Cx} {pins : List (PySem.Addr × Obj)} {σ : L2.St} {H : Hp} {s : Shared} {h : AH}
/-- behind a change of the dict at a -/
theorem dic_wr {kvs' : List (D × D)} {L' : List GR.RE} {es es' : Array DictEntry} {ep ep' : Nat} {a : Addr} {h' : Heap} {tk : Nat} (I : L2.Inv X pins σ H s) (A : Abs X.K X.w h H) (e4 : H a = some (.ext (RawD a es ep))) (hne : (a == sysModules) = false)
    (x : GR.Rw X.w h' a L' es' ep') (hs : Heap.SameBut a s.heap h') (r : Paired (EP X.K H) kvs' L') (hz : kvs'.length ≤ sizeLine) (hn : (kvs'.map (·.1)).Nodup) :
    L2.Inv X pins σ (upd H a (.ext (RawD a es' ep'))) { s with heap := h', toks := tk } ∧ Abs X.K X.w (up h a (.dic kvs')) (upd H a (.ext (RawD a es' ep'))) ∧ Kp H (upd H a (.ext (RawD a es' ep'))) := by
  have k1 : Kp H (upd H a (.ext (RawD a es' ep'))) := Kp.wr e4 trivial
  refine ⟨I.write (t' := tk) (x := a) (e := a) (by rw [e4]; trivial) (.inl rfl) (fun b u hb q => (hs.2 b hb).trans q) (let ⟨o, ho, _⟩ := x.dic; ⟨o, ho⟩) (raw_obj x.dic), A.wr e4 trivial ⟨hz, hne, hn, es', ep', upd_same, ?_⟩ fun q z => ?_, k1⟩
  rotate_left
  · obtain ⟨ob, q1, _, q2⟩ := (I.hok a _ e4).1
    have z2 : RawD a es ep s.heap := ⟨ob, q1, by assumption, q2⟩
    have z3 : ∃ (oc : Obj) (vs : Array Value) (t : Tok), s.heap.get? a = some oc ∧ oc.data = .fields vs ∧ vs[1]? = some (.str q t) := by
      have := congrArg (fun o => match o with | HO.ext f => f s.heap | _ => False) z
      exact this.mp z2
    obtain ⟨oc, vs, t, r1, r2, _⟩ := z3
    rw [q1] at r1; cases r1
    rw [q2] at r2; cases r2
  have q := list_ent (w := X.w) r
  rw [← x.ents] at q
  exact ⟨pImp (fun _ _ z => z.kp k1) q, x.ver⟩
theorem dic_new {a : Addr} {kvs : List (D × D)} {L : List GR.RE} {es : Array DictEntry} {ep : Nat} {h' : Heap} {tk : Nat} (I : L2.Inv X pins σ H s) (A : Abs X.K X.w h H) (ha : a = s.heap.objs.size) (x : GR.Rw X.w h' a L es ep) (kk : ∀ b o, s.heap.get? b = some o → h'.get? b = some o) (r : Paired (EP X.K H) kvs L) (hz : kvs.length ≤ sizeLine) (hn : (kvs.map (·.1)).Nodup) :
    L2.Inv X pins σ (upd H a (.ext (RawD a es ep))) { s with heap := h', toks := tk } ∧ Abs X.K X.w (up h a (.dic kvs)) (upd H a (.ext (RawD a es ep))) ∧ Kp H (upd H a (.ext (RawD a es ep))) ∧ H a = none := by
  have nn : H a = none := by rw [ha]; exact I.hok.fresh (Nat.le_refl _)
  have k1 : Kp H (upd H a (.ext (RawD a es ep))) := Kp.new nn
  refine ⟨I.laid (a := a) (t' := tk) kk (by rw [ha]; exact Nat.le_refl _) (raw_obj x.dic), A.new nn ⟨hz, beq_eq_false_iff_ne.mpr (Ne.symm (Nat.ne_of_lt (by rw [ha]; exact I.big))), hn, es, ep, upd_same, ?_⟩, k1, nn⟩
  have q := list_ent (w := X.w) r
  rw [← x.ents] at q
  exact ⟨pImp (fun _ _ z => z.kp k1) q, x.ver⟩
end
section
variable {X : Cx} {a b c e tg : Expr} {pos : Pos}
theorem ge_dic0 : GE X (.Dict [] [] pos) dDic0 := ⟨fun pins s σ H Q I ⟨ρ, h, Q0, R, A, q, k⟩ => by
  refine wpAny_Dict_empty ?_
  obtain ⟨I1, A1, k1, n1⟩ := dic_new (kvs := []) (L := []) (tk := s.toks) (h' := s.heap.push { cls := .type "dict", data := .dict #[] }) I A rfl ⟨⟨_, Heap.get?_push_size _ rfl, ⟨rfl, rfl, rfl⟩, rfl⟩, rfl, List.nodup_nil, (fun _ hx => by cases hx), rfl⟩ (fun b o e => Heap.get?_push_of_some _ e) .nil (Nat.zero_le _) List.nodup_nil
  exact ⟨.ref s.heap.objs.size, _, I1, rfl, k _ _ _ _ (newD.go q _ (A.nil n1)) k1 (.ref _) A1⟩⟩

/-! ### subscripts -/
abbrev GX (X : Cx) (f : D → D → AH → KD → Prop) : Prop := IxR X (R2ok X.K X.w f)
theorem dcOf_some {h : AH} {x : D} {kvs : List (D × D)} (e : dcOf h x = some kvs) : (∃ a, x = .ref a ∧ h a = some (.dic kvs)) ∨ ∃ ks vs, x = .rd ks vs := by
  cases x with
  | ref a =>
    dsimp only [dcOf] at e
    split at e
    · rename_i q; cases e; exact .inl ⟨a, rfl, q⟩
    · cases e
  | rd ks vs => exact .inr ⟨ks, vs, rfl⟩
  | _ => cases e
theorem sqOf_some {K : PySem.W.Frag} {w : World} {h : AH} {H : Hp} {x : D} {v : V} {ds : List D} (A : Abs K w h H) (r : Rv K H x v) (e : sqOf h x = some ds) : ∃ a vs, v = .ref a ∧ (SqL K H a vs ∨ SqT K H a vs) ∧ RvL K H ds vs := by
  cases r with
  | tup h1 h2 => cases e; exact ⟨_, _, rfl, .inr h1, h2⟩
  | rl h1 h2 => cases e; exact ⟨_, _, rfl, .inl h1.sq, h2⟩
  | ref a =>
    dsimp only [sqOf, lsOf] at e
    split at e
    · rename_i q; cases e
      obtain ⟨vs, e1, r1⟩ := A _ _ q
      exact ⟨a, vs, rfl, .inl (SqL.of e1), r1⟩
    · cases e
  | _ => cases e
theorem atI_same {α : Type} (xs : List α) (i : Int) : G.atI xs i = L2.atI xs i := rfl
theorem ixN_same (n : Nat) (i : Int) : G.ixN n i = L2.ixN n i := rfl
theorem atI_rv {K : PySem.W.Frag} {H : Hp} {ds : List D} {vs : List V} {i : Int} {d : D} (r : RvL K H ds vs) (e : G.atI ds i = some d) : ∃ v, L2.atI vs i = some v ∧ Rv K H d v := by
  unfold G.atI at e
  unfold L2.atI
  rw [← r.length, ← ixN_same]
  cases z : G.ixN ds.length i with
  | none => rw [z] at e; cases e
  | some k =>
    rw [z] at e
    exact r.get e
theorem gx_ix (hu : X.A.units + 64 < cLine) : GX X oIx := fun value slice pins s σ H x y v u Q I rx ry ⟨d, e, h, Q0, rd, re, A, q, k⟩ hs => by
  replace q := q.un
  split at q
  · rename_i kvs ekv
    obtain ⟨hp, w', eg, q⟩ := q
    rcases dcOf_some ekv with ⟨a, rfl, ea⟩ | ⟨ks, vs, rfl⟩
    · cases rd; cases rx
      obtain ⟨L, es, ep, hR, hP, hz, hne, hnd, e4⟩ := dic_raw I A ea
      obtain ⟨n1, n2⟩ := nested_of I 8 e y u hp re ry
      refine tail_any hR.dic.typeIs F.slot_dict_getitem.lookup (GR.getItem_any (by omega) n1 n2 hR.dic hR.ks ?_ fun j en hj he => ?_) hs
      · rw [ep_keys hP]
        exact (nk_mem hp (ep_pl hP)).mpr (dget_mem eg)
      · rw [hR.at_ j] at he
        cases e5 : L[j]? with
        | none => rw [e5] at he; cases he
        | some xx =>
          rw [e5] at he; cases he
          have ex : xx.1 = nk e := by
            rw [List.getElem?_map, e5] at hj
            exact Option.some.inj hj
          obtain ⟨d', v', g1, g2, g3⟩ := dget_of hp hP hnd e5 ex
          rw [eg] at g1; cases g1
          exact ⟨v', H, I.tok _, g3, k _ _ _ _ q (Kp.refl _) g2 A⟩
    · cases rd
  · cases e with
    | int i =>
      cases re
      cases d with
      | str z =>
        cases rd with
        | str _ oz =>
        obtain ⟨c, ec, q⟩ := q
        have hone : okS ⟨#[c]⟩ := by show 1 ≤ sizeLine; decide
        exact ix_str value slice pins s σ H _ _ v u Q I rx ry ⟨z, i, c, rfl, rfl, oz, ec, k _ _ _ _ q (Kp.refl _) (.str _ hone) A⟩ hs
      | tup ds =>
        obtain ⟨w', ew, q⟩ := q
        cases rd with
        | tup h1 h2 =>
          obtain ⟨v', e1, r1⟩ := atI_rv h2 ew
          exact ix_tup value slice pins s σ H _ _ v u Q I rx ry ⟨_, _, i, v', rfl, rfl, h1, e1, k _ _ _ _ q (Kp.refl _) r1 A⟩ hs
      | rl ds =>
        obtain ⟨w', ew, q⟩ := q
        cases rd with
        | rl h1 h2 =>
          obtain ⟨v', e1, r1⟩ := atI_rv h2 ew
          exact ix_list value slice pins s σ H _ _ v u Q I rx ry ⟨_, _, i, v', rfl, rfl, h1.sq, e1, k _ _ _ _ q (Kp.refl _) r1 A⟩ hs
      | ref a =>
        dsimp only [sqOf, lsOf] at q
        split at q
        · rename_i ds e1
          split at e1
          · rename_i ds' e2
            cases e1
            cases rd
            obtain ⟨w', ew, q⟩ := q
            obtain ⟨vs, e3, r3⟩ := A _ _ e2
            obtain ⟨v', e1, r1⟩ := atI_rv r3 ew
            exact ix_list value slice pins s σ H _ _ v u Q I rx ry ⟨_, _, i, v', rfl, rfl, SqL.of e3, e1, k _ _ _ _ q (Kp.refl _) r1 A⟩ hs
          · cases e1
        · exact q.elim
      | _ => exact q.elim
    | _ => exact q.elim
theorem ge_ix {f : D → D → AH → KD → Prop} {fa fb : DE} (hr : GX X f) (ha : GE X a fa) (hb : GE X b fb) (hs : PlainIx b := by exact fun _ _ => rfl) : GE X (.Subscript a b pos) (d2 f fa fb) :=
  pe_imp (pe_ix hr ha hb hs) fun _ _ _ x => d2_ok x

/-! ### stores -/
def R3ok (K : PySem.W.Frag) (w : World) (f : D → D → D → AH → (AH → Prop) → Prop) : TSet := fun x y z H Q => ∃ d e g h Q0, Rv K H d x ∧ Rv K H e y ∧ Rv K H g z ∧ Abs K w h H ∧ f d e g h Q0 ∧ ∀ h' H', Q0 h' → Kp H H' → Abs K w h' H' → Q H'
theorem set_ok (hu : X.A.units + 64 < cLine) : PSet X (R3ok X.K X.w oPut) := fun pins s σ H x y z xv yv zv Q I rx ry rz ⟨d, e, g, h, Q0, rd, re, rg, A, q, k⟩ => by
  replace q := q.un
  split at q
  · rename_i a
    cases rd; cases rx
    split at q
    · rename_i ds ea
      split at q
      · rename_i i
        obtain ⟨j, ej, q⟩ := q
        cases re
        obtain ⟨vs, e1, r1⟩ := A _ _ ea
        have kw : Kp H (upd H a (.lst (vs.set j z))) := Kp.wr e1 trivial
        exact set_list pins s σ H (.ref a) (.int i) z (.ref a) yv zv Q I rfl ry rz ⟨a, vs, i, j, rfl, rfl, e1, by rw [← r1.length, ← ixN_same]; exact ej, k _ _ q kw (A.wr (o := .lst (ds.set j g)) e1 trivial ⟨_, upd_same, (r1.set rg j).kp kw⟩)⟩
      · exact q.elim
    · rename_i kvs ea
      obtain ⟨hp, hlt, q⟩ := q
      obtain ⟨L, es, ep, hR, hP, hz, hne, hnd, e4⟩ := dic_raw I A ea
      obtain ⟨n1, n2⟩ := nested_of I 8 e y yv hp re ry
      have hlen : L.length = kvs.length := by
        have := congrArg List.length (ep_keys hP)
        simpa using this
      have hEP : EP X.K H (e, g) (nk e, yv, zv) := ⟨rfl, hp, ⟨y, re, ry⟩, z, rg, rz⟩
      have old : ∀ h', Heap.SameBut a s.heap h' → ∀ x ∈ GR.rput L (nk e) yv zv, NestedIs h' x.1 x.2.1 ∧ x.1.depth ≤ 8 := fun h' hs x hx => by
        rcases GR.rput_mem hx with ⟨y, hy, e1, e2⟩ | e'
        · rw [e1, e2]; exact ⟨GR.same_nested hR.dic hs (hR.keys y hy).1, (hR.keys y hy).2⟩
        · subst e'; exact ⟨GR.same_nested hR.dic hs n1, n2⟩
      have fin : ∀ h' es' ep' tk, GR.Rw X.w h' a (GR.rput L (nk e) yv zv) es' ep' → Heap.SameBut a s.heap h' → ∃ H', L2.Inv X pins σ H' { s with heap := h', toks := tk } ∧ Q H' := fun h' es' ep' tk x' hs' => by
        have := dput_len kvs e g
        obtain ⟨I1, A1, k1⟩ := dic_wr (tk := tk) I A e4 hne x' hs' (ep_put hEP hP) (by rw [sz_eq]; omega) (dput_nodup hnd)
        exact ⟨_, I1, k _ _ q k1 A1⟩
      refine GR.setItem_any (k := nk e) (by omega) n1 n2 hR.dic hR.ks (by rw [List.length_map]; omega) (fun hn h' hd' hs' => fin h' _ _ _ ⟨hd', ?_, GR.rput_nodup hR.nd, old h' hs', by rw [Array.size_push, ← hR.ver]⟩ hs') fun j hj h' hd' hs' => fin h' _ _ _ ⟨hd', ?_, GR.rput_nodup hR.nd, old h' hs', by rw [Array.size_modify, ← hR.ver]⟩ hs'
      · rw [GR.rput_new hn, Array.toList_push, hR.ents, List.map_append]; rfl
      · rw [Array.toList_modify, hR.ents]
        exact GR.rput_ent hR.nd hj
    · exact q.elim
  · exact q.elim
theorem gg_sub {o i : Expr} {fo fi : DE} (hp : PG X (.Subscript o i pos) (L2.gSub (tE X.K X.w fo) (tE X.K X.w fi) (R3ok X.K X.w oPut))) : GG X (.Subscript o i pos) [] (G.gSub fo fi) :=
  ⟨fun pins s σ H v u Q I r ⟨d, ρ, h, Q0, rd, R, A, q, k⟩ => by
    refine hp.run pins s σ H v u Q I r ⟨ρ, h, _, R, A, q, fun x h1 xv H1 q1 k1 r1 A1 => ⟨ρ, h1, _, R.kp k1, A1, q1, fun y h2 yv H2 q2 k2 r2 A2 => ?_⟩⟩
    exact ⟨x, y, d, h2, _, r1.kp k2, r2, rd.kp (k1.trans k2), A2, q2, fun h3 H3 q3 k3 A3 => k _ _ _ _ q3 (k1.trans (k2.trans k3)) (R.kp (k1.trans (k2.trans k3))) A3 (Sm.refl _ _)⟩⟩
end
end G
end

section
set_option Elab.async false
set_option linter.all false
set_option maxRecDepth 100000
set_option maxHeartbeats 4000000
/-! G layer, soundness 8: in, methods, built-ins, slices, sorting. -/
namespace G
open PySem PySem.Spec PyProof.Rows L2
variable [Tb]
section
variable {X : Cx} {a b c e tg : Expr} {pos : Pos}
/-! ### in -/
theorem any_tp {n : Nat} {x : D} (hx : Dn n x) : ∀ {ys : List D}, (∀ y ∈ ys, Dn n y) → ((tpL ys).any fun y => PyData.eqv y (tp x)) = ys.any fun y => deqv y x
  | [], _ => rfl
  | y :: ys, h => by
    rw [tpL, List.any_cons, List.any_cons, eqv_tp y x n n (h y List.mem_cons_self) hx, any_tp hx fun z hz => h z (List.mem_cons_of_mem _ hz)]
theorem in_ok (hu : X.A.units + 64 < cLine) {pins : List (PySem.Addr × Obj)} {s : Shared} {σ : L2.St} {H : Hp} {x y : V} {v u : Value} {P : Bool → Prop} {d e : D} {h : AH} (I : L2.Inv X pins σ H s) (rx : L2.RelV x v) (ry : L2.RelV y u) (rd : Rv X.K H d x) (re : Rv X.K H e y) (A : Abs X.K X.w h H) (q : oInB d e h P) :
    ∃ t, P t ∧ (∀ Q : VK, Q (.bl t) H → wpAny (model X.prog X.w) X.A (compareOp .In v u) (L2.EP X pins σ Q) X.xe s) ∧ ∀ Q : VK, Q (.bl (!t)) H → wpAny (model X.prog X.w) X.A (compareOp .NotIn v u) (L2.EP X pins σ Q) X.xe s := by
  unfold oInB at q
  split at q
  · rename_i kvs ekv
    obtain ⟨hp, q⟩ := q
    rcases dcOf_some ekv with ⟨a, rfl, ea⟩ | ⟨ks, vs, rfl⟩
    · cases re; cases ry
      obtain ⟨L, es, ep, hR, hP, hz, hne, hnd, e4⟩ := dic_raw I A ea
      obtain ⟨n1, n2⟩ := nested_of I 8 d x v hp rd rx
      have em : decide (nk d ∈ L.map (·.1)) = decide (d ∈ kvs.map (·.1)) := by
        rw [ep_keys hP]
        exact decide_eq_decide.mpr (nk_mem hp (ep_pl hP))
      refine ⟨_, q, fun Q hq => GR.in_any (by omega) n1 n2 hne hR.dic hR.ks ?_, fun Q hq => GR.notIn_any (by omega) n1 n2 hne hR.dic hR.ks ?_⟩
      · rw [em]; exact ⟨.bl _, H, I.tok _, rfl, hq⟩
      · rw [em]; exact ⟨.bl _, H, I.tok _, rfl, hq⟩
    · cases re
  · split at q
    · cases re
      split at q
      · rename_i t
        cases rd
        obtain ⟨c, ec, q⟩ := q
        have et : t = ⟨#[c]⟩ := by
          cases t with
          | mk cps =>
            have : cps.toList = [c] := ec
            congr 1
            exact Array.toList_inj.mp this
        subst et
        exact ⟨_, q, fun Q hq => op_in_sign pins s σ H _ _ _ _ Q I rx ry ⟨c, _, rfl, rfl, hq⟩, fun Q hq => op_notIn_sign pins s σ H _ _ _ _ Q I rx ry ⟨c, _, rfl, rfl, hq⟩⟩
      · exact q.elim
    · split at q
      · rename_i x' ys e1 e2
        obtain ⟨ds, e3, e4⟩ := Option.bind_eq_some_iff.mp e2
        obtain ⟨as, r1⟩ := reads I A _ _ _ _ _ e1 rd rx
        have n1 := rei_dn _ _ _ e1
        have nL : ∀ y ∈ ys, Dn 12 y := fun y hy => let ⟨z, _, q⟩ := pMem (mapO_some e4) y hy; rei_dn _ _ _ q
        have dL : PyData.depthAll (tpL ys) ≤ 12 := depthAll_le fun p hp => by
          rw [tpL_map] at hp
          obtain ⟨d, hd, e⟩ := List.mem_map.mp hp
          rw [← e]; exact (nL d hd).tp.1
        have pL : PyData.plainAll (tpL ys) = true := plainAll_of fun p hp => by
          rw [tpL_map] at hp
          obtain ⟨d, hd, e⟩ := List.mem_map.mp hp
          rw [← e]; exact (nL d hd).tp.2
        have b1 := n1.tp.1
        obtain ⟨a, vs, rfl, hq, rL⟩ := sqOf_some A re e3
        cases ry
        rcases hq with hq | hq
        · obtain ⟨its, rv, ⟨o, m, ho, hc, _, hd⟩, _⟩ := I.list hq
          obtain ⟨bs, r2⟩ := reads_list (fun d d' v u => reads I A 12 d d' v u) e4 rL rv
          refine ⟨_, q, fun Q hq => SeqAt.in_list_data (Reads.list ho hc hd r2) r1 pL n1.tp.2 (by omega) ?_, fun Q hq => SeqAt.notIn_list_data (Reads.list ho hc hd r2) r1 pL n1.tp.2 (by omega) ?_⟩
          · rw [any_tp n1 nL]; exact ⟨.bl _, H, I, rfl, hq⟩
          · rw [any_tp n1 nL]; exact ⟨.bl _, H, I, rfl, hq⟩
        · obtain ⟨its, rv, ⟨o, ho, hc, m, hd⟩, _⟩ := I.tuple hq
          obtain ⟨bs, r2⟩ := reads_list (fun d d' v u => reads I A 12 d d' v u) e4 rL rv
          refine ⟨_, q, fun Q hq => SeqAt.in_tuple_data (Reads.tuple ho hc hd r2) r1 pL n1.tp.2 (by omega) ?_, fun Q hq => SeqAt.notIn_tuple_data (Reads.tuple ho hc hd r2) r1 pL n1.tp.2 (by omega) ?_⟩
          · rw [any_tp n1 nL]; exact ⟨.bl _, H, I, rfl, hq⟩
          · rw [any_tp n1 nL]; exact ⟨.bl _, H, I, rfl, hq⟩
      · exact q.elim
theorem gc_in (hu : X.A.units + 64 < cLine) : GC X .In oIn := fun pins s σ H x y v u Q I rx ry ⟨d, e, h, Q0, rd, re, A, q, k⟩ => by
  replace q := q.un
  obtain ⟨t, q1, q2, _⟩ := in_ok hu I rx ry rd re A q
  exact q2 Q (k _ _ _ _ q1 (Kp.refl _) (.bl _) A)
theorem gc_notIn (hu : X.A.units + 64 < cLine) : GC X .NotIn oNotIn := fun pins s σ H x y v u Q I rx ry ⟨d, e, h, Q0, rd, re, A, q, k⟩ => by
  replace q := q.un
  obtain ⟨t, q1, _, q2⟩ := in_ok hu I rx ry rd re A q
  exact q2 Q (k _ _ _ _ q1 (Kp.refl _) (.bl _) A)
/-- x is None, x is not None -/
theorem ge_isN {j pos'} {f : DE} (ha : GE X a f) : GE X (.Compare a [.Is] [.Constant .none j pos'] pos) (d1 oIsN f) :=
  pe_imp (pe_cmp (pc_isN ha)) fun σ H Q ⟨ρ, h, Q0, R, A, q, k⟩ => ⟨ρ, h, _, R, A, q, fun d h1 v H1 q1 k1 r1 A1 => by
    have e : decide (v = V.non) = decide (d = .non) := by cases r1 <;> simp
    dsimp only
    rw [e]
    exact k _ _ _ _ q1 k1 (.bl _) A1⟩
theorem ge_notN {j pos'} {f : DE} (ha : GE X a f) : GE X (.Compare a [.IsNot] [.Constant .none j pos'] pos) (d1 oNotN f) :=
  pe_imp (pe_cmp (pc_notN ha)) fun σ H Q ⟨ρ, h, Q0, R, A, q, k⟩ => ⟨ρ, h, _, R, A, q, fun d h1 v H1 q1 k1 r1 A1 => by
    have e : decide (v = V.non) = decide (d = .non) := by cases r1 <;> simp
    dsimp only
    rw [e]
    exact k _ _ _ _ q1 k1 (.bl _) A1⟩
theorem gt_isN {j pos'} {f : DE} (ha : GE X a f) : GT X (.Compare a [.Is] [.Constant .none j pos'] pos) (G.tQ (d1 oIsN f)) :=
  pt_imp (pt_cmp (pc_isN ha)) fun σ H Q ⟨ρ, h, Q0, R, A, q, k⟩ => ⟨ρ, h, _, R, A, q, fun d h1 v H1 q1 k1 r1 A1 => by
    have e : decide (v = V.non) = decide (d = .non) := by cases r1 <;> simp
    dsimp only
    rw [e]
    exact ⟨_, rfl, k _ _ _ q1 k1 A1⟩⟩
theorem gt_notN {j pos'} {f : DE} (ha : GE X a f) : GT X (.Compare a [.IsNot] [.Constant .none j pos'] pos) (G.tQ (d1 oNotN f)) :=
  pt_imp (pt_cmp (pc_notN ha)) fun σ H Q ⟨ρ, h, Q0, R, A, q, k⟩ => ⟨ρ, h, _, R, A, q, fun d h1 v H1 q1 k1 r1 A1 => by
    have e : decide (v = V.non) = decide (d = .non) := by cases r1 <;> simp
    dsimp only
    rw [e]
    exact ⟨_, rfl, k _ _ _ q1 k1 A1⟩⟩

/-! ### methods of built-in types -/
abbrev GM (X : Cx) (id : String) (m : D → List D → AH → KD → Prop) : Prop := MtR X id fun x vs H Q => ∃ d ds h Q0, Rv X.K H d x ∧ RvL X.K H ds vs ∧ Abs X.K X.w h H ∧ m d ds h Q0 ∧ KQ X.K X.w H Q0 Q
/-- the types that have methods here -/
abbrev mty (T : String) : Prop := T = "list" ∨ T = "dict" ∨ T = "str"
theorem ty_is {pins : List (PySem.Addr × Obj)} {s : Shared} {σ : L2.St} {H : Hp} {v : V} {u : Value} {d : D} {h : AH} {T : String} (I : L2.Inv X pins σ H s) (A : Abs X.K X.w h H) (rd : Rv X.K H d v) (r : L2.RelV v u) (hT : mty T) (t : isT T h d = some true) :
    s.TypeIs u T ∧ ∀ p, u = .ref p → ∃ o, s.heap.get? p = some o ∧ o.dict = none := by
  have lst : ∀ {p : Addr} {vs : List V}, SqL X.K H p vs → s.TypeIs (.ref p) "list" ∧ ∀ q, Value.ref p = .ref q → ∃ o, s.heap.get? q = some o ∧ o.dict = none := fun {p vs} hq => by
    obtain ⟨its, _, ⟨o, n, e, c, hd, _⟩, _⟩ := I.list hq
    exact ⟨⟨o, e, c⟩, fun q z => by cases z; exact ⟨o, e, hd⟩⟩
  cases rd with
  | non => rcases hT with rfl | rfl | rfl <;> simp [isT] at t
  | bl b => rcases hT with rfl | rfl | rfl <;> simp [isT] at t
  | int i => rcases hT with rfl | rfl | rfl <;> simp [isT] at t
  | tup h1 h2 => rcases hT with rfl | rfl | rfl <;> simp [isT] at t
  | str x o =>
    rcases hT with rfl | rfl | rfl <;> simp [isT] at t
    obtain ⟨tk, rfl⟩ := r
    exact ⟨typeIs_str s x tk, fun _ e => nomatch e⟩
  | rl h1 h2 =>
    rcases hT with rfl | rfl | rfl <;> simp [isT] at t
    cases r
    exact lst h1.sq
  | ref p =>
    cases r
    dsimp only [isT] at t
    split at t
    · rename_i ds e
      obtain ⟨vs, e1, r1⟩ := A _ _ e
      rcases hT with rfl | rfl | rfl <;> simp at t
      exact lst (SqL.of e1)
    · rename_i kvs e
      obtain ⟨L, es, ep, hR, _⟩ := dic_raw I A e
      rcases hT with rfl | rfl | rfl <;> simp at t
      exact ⟨hR.dic.typeIs, hR.dic.noDict⟩
    · cases t
theorem ge_meth {o : Expr} {es : List Expr} {name : Str} {apos cpos : Pos} {T id : String} {m : D → List D → AH → KD → Prop} {fo : DE} {fa : DA} (pa : PlainAttrs T) (slot : Slot T name id) (hty : typeOf (.builtin id) = pure (.type "method_descriptor")) (hm : GM X id m) (hT : mty T) (ho : GE X o fo) (ha : GA X (e :: es) fa)
    (hbase : attributeBase o name X.env (eval o X.env) = eval o X.env := by rfl)
    (hfew : ((backTo cpos (starEach (e :: es) X.env)).all (fun x => !x.1) && (backToKw cpos (keywordEach [] X.env)).all (fun x => x.1.isSome)
      && decide ((e :: es).length + ([] : List Keyword).length + (if ([] : List Keyword).isEmpty then 0 else 1) < 30)) = true := by rfl)
    (hline : (apos.endLine == cpos.line) = true := by rfl) (hs : starEach (e :: es) X.env = (false, eval e X.env) :: starEach es X.env := by rfl) (hplain : (backTo cpos (starEach es X.env)).any (·.1) = false := by rfl) :
    GE X (.Call (.Attribute o name apos) (e :: es) [] cpos) (dMeth T m fo fa) := by
  refine ⟨fun pins s σ H Q I ⟨ρ, h, Q0, R, A, q, k⟩ => ?_⟩
  refine wpAny_Call_method_late hbase hfew hline rfl (thn (ho.run pins s σ H (fun x H1 => ∃ d h1, Kp H H1 ∧ Rv X.K H1 d x ∧ Abs X.K X.w h1 H1 ∧ isT T h1 d = some true ∧ fa ρ h1 fun ds h2 => m d ds h2 Q0) I ⟨ρ, h, _, R, A, q, fun d h1 v H1 q1 k1 r1 A1 => ⟨d, h1, k1, r1, A1, q1.1, q1.2⟩⟩) fun v s1 ⟨x, H1, I1, r1, d, h1, k1, rd, A1, t, q1⟩ => ?_)
  obtain ⟨t1, t2⟩ := ty_is I1 A1 rd r1 hT t
  refine ⟨T, id, pa, slot, hty, t1, t2, ?_⟩
  have hA := ha.run cpos pins s1 σ H1 (fun vs H2 => ∃ ds h2, Kp H1 H2 ∧ RvL X.K H2 ds vs ∧ Abs X.K X.w h2 H2 ∧ m d ds h2 Q0) I1 ⟨ρ, h1, _, R.kp k1, A1, q1, fun ds h2 vs H2 q2 k2 r2 A2 => ⟨ds, h2, k2, r2, A2, q2⟩⟩
  rw [hs] at hA ⊢
  refine Calls.callWith_builtin (by show (false || (backTo cpos (starEach es X.env)).any (·.1)) = false; rw [hplain] <;> rfl) (Calls.evalArgs_plain ?_)
  exact thn hA fun us s2 ⟨vs, H2, I2, r2, ds, h2, k2, rL, A2, q2⟩ => hm pins s2 σ H2 x vs v us Q I2 r1 r2 ⟨d, ds, h2, Q0, rd.kp k2, rL, A2, q2, k.kp (k1.trans k2)⟩
theorem ge_meth0 {o : Expr} {name : Str} {apos cpos : Pos} {T id : String} {m : D → List D → AH → KD → Prop} {fo : DE} (pa : PlainAttrs T) (slot : Slot T name id) (hty : typeOf (.builtin id) = pure (.type "method_descriptor")) (hm : GM X id m) (hT : mty T) (ho : GE X o fo)
    (hbase : attributeBase o name X.env (eval o X.env) = eval o X.env := by rfl) (hline : (apos.endLine == cpos.line) = true := by rfl) : GE X (.Call (.Attribute o name apos) [] [] cpos) (dMeth T m fo daNil) := by
  refine ⟨fun pins s σ H Q I ⟨ρ, h, Q0, R, A, q, k⟩ => ?_⟩
  refine wpAny_Call_method0_late hbase hline (thn (ho.run pins s σ H (fun x H1 => ∃ d h1, Kp H H1 ∧ Rv X.K H1 d x ∧ Abs X.K X.w h1 H1 ∧ isT T h1 d = some true ∧ m d [] h1 Q0) I ⟨ρ, h, _, R, A, q, fun d h1 v H1 q1 k1 r1 A1 => ⟨d, h1, k1, r1, A1, q1.1, q1.2⟩⟩) fun v s1 ⟨x, H1, I1, r1, d, h1, k1, rd, A1, t, q1⟩ => ?_)
  obtain ⟨t1, t2⟩ := ty_is I1 A1 rd r1 hT t
  exact ⟨T, id, pa, slot, hty, t1, t2, Calls.callWith_builtin rfl (PySem.evalArgs_none (hm pins s1 σ H1 x [] v [] Q I1 r1 .nil ⟨d, [], h1, Q0, rd, .nil, A1, q1, k.kp k1⟩))⟩
theorem gm_append : GM X "list.append" mAppend := fun pins s σ H x vs v us Q I rx rv ⟨d, ds, h, Q0, rd, rL, A, q, k⟩ => by
  unfold mAppend at q
  split at q
  · rename_i a e
    split at q
    · rename_i ds' ea
      obtain ⟨z, q⟩ := q
      cases rd
      obtain ⟨xs, e1, r1⟩ := A _ _ ea
      cases rL with
      | @cons _ y _ _ ra rb =>
        cases rb
        have kw : Kp H (upd H a (.lst (xs ++ [y]))) := Kp.wr e1 trivial
        exact mt_append pins s σ H _ _ v us Q I rx rv ⟨a, xs, y, rfl, rfl, e1, by rw [← r1.length, sz_eq]; exact z, k _ _ _ _ q kw .non (A.wr (o := .lst (ds' ++ [e])) e1 trivial ⟨_, upd_same, (r1.append (.one ra)).kp kw⟩)⟩
    · exact q.elim
  · exact q.elim
end
end G
end

section
set_option Elab.async false
set_option linter.all false
set_option maxRecDepth 100000
set_option maxHeartbeats 4000000
/-! G layer, soundness 9: built-in functions and types called, slices, sorting. -/
namespace G
open PySem PySem.Spec PyProof.Rows L2
variable [Tb]
section
variable {X : Cx} {a b c e tg : Expr} {pos : Pos}
abbrev GB (X : Cx) (f : Value) (b : FS) : Prop := CallR X f fun vs H Q => ∃ ds h Q0, RvL X.K H ds vs ∧ Abs X.K X.w h H ∧ b ds h Q0 ∧ KQ X.K X.w H Q0 Q
theorem ge_callB {id : String} {x : Str} {p : Pos} {es : List Expr} {fb : FS} {fa : DA} (hc : GB X (.builtin id) fb) (hm : X.mg x = none) (hv : bootBuiltins x = some (.builtin id)) (ha : GA X (e :: es) fa) (hg : Gl X x := by rfl) (hn : x ≠ "__name__" := by decide) (hdb : (x == ("__debug__" : Str)) = false := by decide)
    (he : starEach (e :: es) X.env = (false, eval e X.env) :: starEach es X.env := by rfl) (hpl : (backTo pos (starEach es X.env)).any (·.1) = false := by rfl) : GE X (.Call (.Name x p) (e :: es) [] pos) (dCall fb fa) :=
  pe_imp (pe_callB hc hg hm hv ha hn hdb he hpl) fun σ H Q ⟨ρ, h, Q0, R, A, q, k⟩ => ⟨ρ, h, _, R, A, q, fun ds h1 vs H1 q1 k1 r1 A1 => ⟨ds, h1, Q0, r1, A1, q1, k.kp k1⟩⟩
theorem ge_callTy {T : String} {x : Str} {p : Pos} {es : List Expr} {fb : FS} {fa : DA} (hc : GB X (.type T) fb) (hm : X.mg x = none) (hv : bootBuiltins x = some (.type T)) (ha : GA X (e :: es) fa) (hg : Gl X x := by rfl) (hn : x ≠ "__name__" := by decide) (hdb : (x == ("__debug__" : Str)) = false := by decide)
    (he : starEach (e :: es) X.env = (false, eval e X.env) :: starEach es X.env := by rfl) (hpl : (backTo pos (starEach es X.env)).any (·.1) = false := by rfl) : GE X (.Call (.Name x p) (e :: es) [] pos) (dCall fb fa) :=
  pe_imp (pe_callTy hc hg hm hv ha hn hdb he hpl) fun σ H Q ⟨ρ, h, Q0, R, A, q, k⟩ => ⟨ρ, h, _, R, A, q, fun ds h1 vs H1 q1 k1 r1 A1 => ⟨ds, h1, Q0, r1, A1, q1, k.kp k1⟩⟩
theorem rvL_one {K : PySem.W.Frag} {H : Hp} {d : D} {vs : List V} (r : RvL K H [d] vs) : ∃ v, vs = [v] ∧ Rv K H d v := by
  cases r with
  | cons ra rb => cases rb; exact ⟨_, rfl, ra⟩
theorem gb_len : GB X (.builtin "len") bLen := fun pins s σ H vs us Q I r ⟨ds, h, Q0, rL, A, q, k⟩ => by
  unfold bLen at q
  split at q
  · rename_i x
    obtain ⟨v, rfl, rv⟩ := rvL_one rL
    split at q
    · rename_i z
      cases rv with
      | str _ o => exact call_len_str pins s σ H _ us Q I r ⟨z, rfl, o, k _ _ _ _ q (Kp.refl _) (.int _) A⟩
    · split at q
      · rename_i ds e1
        obtain ⟨a, vs, rfl, hq, rL'⟩ := sqOf_some A rv e1
        exact call_len_seq pins s σ H _ us Q I r ⟨a, vs, rfl, hq, by rw [← rL'.length]; exact k _ _ _ _ q (Kp.refl _) (.int _) A⟩
      · exact q.elim
  · exact q.elim
theorem intsOf_some {K : PySem.W.Frag} {H : Hp} : ∀ {ds : List D} {ns : List Int} {vs : List V}, intsOf ds = some ns → RvL K H ds vs → vs = ns.map V.int
  | [], ns, vs, e, r => by cases e; cases r; rfl
  | .int i :: ds, ns, vs, e, r => by
    simp only [intsOf, Option.map_eq_some_iff] at e
    obtain ⟨ms, e1, rfl⟩ := e
    cases r with
    | cons ra rb =>
      cases ra
      rw [intsOf_some e1 rb]; rfl
  | .non :: _, _, _, e, _ => by simp [intsOf] at e
  | .bl _ :: _, _, _, e, _ => by simp [intsOf] at e
  | .str _ :: _, _, _, e, _ => by simp [intsOf] at e
  | .tup _ :: _, _, _, e, _ => by simp [intsOf] at e
  | .rl _ :: _, _, _, e, _ => by simp [intsOf] at e
  | .rd _ _ :: _, _, _, e, _ => by simp [intsOf] at e
  | .ref _ :: _, _, _, e, _ => by simp [intsOf] at e
theorem lsOf_some {K : PySem.W.Frag} {w : World} {h : AH} {H : Hp} {x : D} {v : V} {ds : List D} (A : Abs K w h H) (r : Rv K H x v) (e : lsOf h x = some ds) : ∃ a vs, v = .ref a ∧ SqL K H a vs ∧ RvL K H ds vs := by
  cases r with
  | rl h1 h2 => cases e; exact ⟨_, _, rfl, h1.sq, h2⟩
  | ref a =>
    dsimp only [lsOf] at e
    split at e
    · rename_i q; cases e
      obtain ⟨vs, e1, r1⟩ := A _ _ q
      exact ⟨a, vs, rfl, SqL.of e1, r1⟩
    · cases e
  | _ => cases e
theorem gb_sum (hc : X.calm = true) : GB X (.builtin "sum") bSum := fun pins s σ H vs us Q I r ⟨ds, h, Q0, rL, A, q, k⟩ => by
  unfold bSum at q
  split at q
  · rename_i x
    obtain ⟨v, rfl, rv⟩ := rvL_one rL
    split at q
    · rename_i ns e1
      obtain ⟨ds, e2, e3⟩ := Option.bind_eq_some_iff.mp e1
      obtain ⟨a, vs, rfl, hq, rL'⟩ := lsOf_some A rv e2
      have := intsOf_some e3 rL'
      subst this
      exact cr_sum hc pins s σ H _ us Q I r ⟨a, ns, rfl, hq, k _ _ _ _ q (Kp.refl _) (.int _) A⟩
    · exact q.elim
  · exact q.elim
/-! ### dict(pairs) -/
theorem pairs_raw {pins : List (PySem.Addr × Obj)} {s : Shared} {σ : L2.St} {H : Hp} (I : L2.Inv X pins σ H s) : ∀ {ds : List D} {ps : List (D × D)} {vs : List V} {us : List Value}, pairsOf ds = some ps → (∀ p ∈ ps, pl 8 p.1 = true) → RvL X.K H ds vs → L2.Vals vs us →
    ∃ L : List GR.RE, Paired (EP X.K H) ps L ∧ Paired (fun (u : Value) (x : GR.RE) => ∃ T, u = .ref T ∧ PairAt s.heap T x.2.1 x.2.2) us L
  | [], ps, vs, us, e, hp, r, r2 => by cases e; cases r; cases r2; exact ⟨[], .nil, .nil⟩
  | .tup [kk, vv] :: ds, ps, vs, us, e, hp, r, r2 => by
    simp only [pairsOf, Option.map_eq_some_iff] at e
    obtain ⟨qs, e1, rfl⟩ := e
    cases r with
    | cons ra rb =>
      cases r2 with
      | cons sa sb =>
        obtain ⟨L, h1, h2⟩ := pairs_raw I e1 (fun p hq => hp p (List.mem_cons_of_mem _ hq)) rb sb
        cases ra with
        | tup hT hL =>
          cases sa
          obtain ⟨its, rv, ht, _⟩ := I.tuple hT
          cases hL with
          | cons x1 hL =>
            cases hL with
            | cons x2 hL =>
              cases hL
              cases rv with
              | cons y1 rv =>
                cases rv with
                | cons y2 rv =>
                  cases rv
                  have hk := hp (kk, vv) List.mem_cons_self
                  exact ⟨_, .cons (b := (nk kk, _, _)) ⟨rfl, hk, ⟨_, x1, y1⟩, _, x2, y2⟩ h1, .cons ⟨_, rfl, .inl ht⟩ h2⟩
  | .tup [] :: _, _, _, _, e, _, _, _ => by simp [pairsOf] at e
  | .tup [_] :: _, _, _, _, e, _, _, _ => by simp [pairsOf] at e
  | .tup (_ :: _ :: _ :: _) :: _, _, _, _, e, _, _, _ => by simp [pairsOf] at e
  | .non :: _, _, _, _, e, _, _, _ => by simp [pairsOf] at e
  | .int _ :: _, _, _, _, e, _, _, _ => by simp [pairsOf] at e
  | .bl _ :: _, _, _, _, e, _, _, _ => by simp [pairsOf] at e
  | .str _ :: _, _, _, _, e, _, _, _ => by simp [pairsOf] at e
  | .rl _ :: _, _, _, _, e, _, _, _ => by simp [pairsOf] at e
  | .rd _ _ :: _, _, _, _, e, _, _, _ => by simp [pairsOf] at e
  | .ref _ :: _, _, _, _, e, _, _, _ => by simp [pairsOf] at e
theorem ep_puts {K : PySem.W.Frag} {H : Hp} : ∀ {ps : List (D × D)} {L : List GR.RE}, Paired (EP K H) ps L → ∀ {kvs : List (D × D)} {M : List GR.RE}, Paired (EP K H) kvs M → Paired (EP K H) (dputs kvs ps) (GR.rputs M L)
  | _, _, .nil, _, _, m => m
  | p :: _, x :: _, .cons r t, kvs, M, m => by
    obtain ⟨a, b, c⟩ := x
    have h1 : a = nk p.1 := r.1
    subst h1
    show Paired _ (dputs (dput kvs p.1 p.2) _) (GR.rputs (GR.rput M (nk p.1) b c) _)
    exact ep_puts t (ep_put r m)
theorem dputs_nodup : ∀ (ps kvs : List (D × D)), (kvs.map (·.1)).Nodup → ((dputs kvs ps).map (·.1)).Nodup
  | [], kvs, h => h
  | p :: ps, kvs, h => dputs_nodup ps (dput kvs p.1 p.2) (dput_nodup h)
theorem dputs_len : ∀ (ps kvs : List (D × D)), (dputs kvs ps).length ≤ kvs.length + ps.length
  | [], kvs => Nat.le_refl _
  | p :: ps, kvs => by
    have h1 := dputs_len ps (dput kvs p.1 p.2)
    have h2 := dput_len kvs p.1 p.2
    show (dputs (dput kvs p.1 p.2) ps).length ≤ _
    simp only [List.length_cons]; omega
theorem pairsOf_len : ∀ {ds : List D} {ps : List (D × D)}, pairsOf ds = some ps → ps.length = ds.length
  | [], _, e => by cases e; rfl
  | d :: ds, ps, e => by
    unfold pairsOf at e
    split at e
    · rename_i h; cases h
    · rename_i h; cases h
      simp only [Option.map_eq_some_iff] at e
      obtain ⟨qs, e1, rfl⟩ := e
      simp [pairsOf_len e1]
    · cases e
theorem gb_dict (hc : X.calm = true) (hu : X.A.units + 64 < cLine) : GB X (.type "dict") bDict := fun pins s σ H vs us Q I r ⟨ds, h, Q0, rL, A, q, k⟩ => by
  unfold bDict at q
  split at q
  · rename_i x
    obtain ⟨v, rfl, rv⟩ := rvL_one rL
    split at q
    · rename_i ps e1
      obtain ⟨ds, e2, e3⟩ := Option.bind_eq_some_iff.mp e1
      obtain ⟨hp, q⟩ := q
      obtain ⟨a, vs, rfl, hq, rL'⟩ := lsOf_some A rv e2
      obtain ⟨u, rfl, ru⟩ := vals1 r
      cases ru
      obtain ⟨its, rits, ⟨o, n, ho, hcl, hdc, hdt⟩, hz⟩ := I.list hq
      obtain ⟨L, hL, hT⟩ := pairs_raw I e3 hp rL' rits
      have hTs : ∃ Ts : Nat → PySem.Addr, PairItems s.heap its.toArray Ts (L.map (·.2)) := by
        have key : ∀ {us : List Value} {L : List GR.RE}, Paired (fun (u : Value) (x : GR.RE) => ∃ T, u = .ref T ∧ PairAt s.heap T x.2.1 x.2.2) us L → ∃ Ts : Nat → PySem.Addr, us.length = L.length ∧ ∀ j k v, (L.map (·.2))[j]? = some (k, v) → us[j]? = some (.ref (Ts j)) ∧ PairAt s.heap (Ts j) k v := by
          intro us L hp
          induction hp with
          | nil => exact ⟨fun _ => 0, rfl, fun j k v e => by simp at e⟩
          | @cons u x us L r t ih =>
            obtain ⟨T, rfl, pT⟩ := r
            obtain ⟨Ts, l1, l2⟩ := ih
            refine ⟨fun j => match j with | 0 => T | j + 1 => Ts j, congrArg (· + 1) l1, fun j k v e => ?_⟩
            cases j with
            | zero =>
              simp only [List.map_cons, List.getElem?_cons_zero, Option.some.injEq] at e
              rw [show x.2.1 = k by rw [e], show x.2.2 = v by rw [e]] at pT
              exact ⟨rfl, pT⟩
            | succ j =>
              have := l2 j k v (by simpa using e)
              exact ⟨by simpa using this.1, this.2⟩
        obtain ⟨Ts, l1, l2⟩ := key hT
        exact ⟨Ts, by simp [l1], fun j k v e => by simpa using l2 j k v e⟩
      obtain ⟨Ts, hTs⟩ := hTs
      have hlen : L.length = ps.length := by
        have := congrArg List.length (ep_keys hL)
        simpa using this
      have hl2 := pairsOf_len e3
      have hl3 := rL'.length
      refine GR.dict_list (I.ok.hd hc) (by omega) ⟨o, n, ho, hcl, hdc, hdt⟩ hTs (fun p hp' => ?_) (by omega) fun h' tk es ep hR kk => ?_
      · obtain ⟨pp, hpp, rr⟩ := pMem hL p hp'
        obtain ⟨v, a1, a2⟩ := rr.2.2.1
        rw [rr.1]
        exact nested_of I 8 pp.1 v p.2.1 rr.2.1 a1 a2
      · have hb := dputs_len ps []
        obtain ⟨I1, A1, k1, n1⟩ := dic_new (kvs := dputs [] ps) (tk := tk) I A rfl hR kk (ep_puts hL .nil) (by rw [List.length_nil] at hb; omega) (dputs_nodup ps [] List.nodup_nil)
        exact ⟨.ref s.heap.objs.size, _, I1, rfl, k _ _ _ _ (newD.go q _ (A.nil n1)) k1 (.ref _) A1⟩
    · exact q.elim
  · exact q.elim

/-! ### sorted -/
theorem each_of {α β γ : Type} {F : α → β → Prop} {G : β → γ → Prop} {R : γ → α × β → Prop} (f : ∀ a b c, F a b → G b c → R c (a, b)) : ∀ {xs : List α} {ys : List β} {zs : List γ}, Paired F xs ys → Paired G ys zs → PySem.W.EachIs R zs (xs.zip ys)
  | _, _, _, .nil, .nil => .nil
  | _, _, _, .cons a t, .cons b u => .cons (f _ _ _ a b) (each_of f t u)
theorem rvL_paired {K : PySem.W.Frag} {H : Hp} : ∀ {ds : List D} {vs : List V}, RvL K H ds vs → Paired (Rv K H) ds vs
  | _, _, .nil => .nil
  | _, _, .cons a t => .cons a (rvL_paired t)
theorem zip_fst {α β : Type} : ∀ {xs : List α} {ys : List β}, xs.length = ys.length → (xs.zip ys).map Prod.fst = xs
  | [], [], _ => rfl
  | x :: xs, y :: ys, h => by rw [List.zip_cons_cons, List.map_cons, zip_fst (by simpa using h)]
  | [], _ :: _, h => by simp at h
  | _ :: _, [], h => by simp at h
theorem each_out {K : PySem.W.Frag} {H : Hp} : ∀ {us : List Value} {ps : List (D × V)}, PySem.W.EachIs (fun u (p : D × V) => Rv K H p.1 p.2 ∧ L2.RelV p.2 u) us ps → RvL K H (ps.map Prod.fst) (ps.map Prod.snd) ∧ L2.Vals (ps.map Prod.snd) us
  | _, _, .nil => ⟨.nil, .nil⟩
  | _, _, .cons r t => ⟨.cons r.1 (each_out t).1, .cons r.2 (each_out t).2⟩
theorem each_imp {α β : Type} {F G : α → β → Prop} (f : ∀ a b, F a b → G a b) : ∀ {xs : List α} {ys : List β}, PySem.W.EachIs F xs ys → PySem.W.EachIs G xs ys
  | _, _, .nil => .nil
  | _, _, .cons a t => .cons (f _ _ a) (each_imp f t)
theorem each_mem {α β : Type} {F : α → β → Prop} : ∀ {xs : List α} {ys : List β}, PySem.W.EachIs F xs ys → PySem.W.EachIs (fun a b => F a b ∧ b ∈ ys) xs ys
  | _, _, .nil => .nil
  | _, _, .cons a t => .cons ⟨a, List.mem_cons_self⟩ (each_imp (fun _ _ h => ⟨h.1, List.mem_cons_of_mem _ h.2⟩) (each_mem t))
theorem dle_tp (rev : Bool) {n : Nat} {x y : D} (hx : Dn n x) (hy : Dn n y) (h : alk x y = true) : PySem.W.dataLe rev tp x y = dle rev x y := by
  have h1 : PyProof.Rows.lexLt itemOrd (PySem.W.keyToks (tp x)) (PySem.W.keyToks (tp y)) = dlt x y := dlt_tp x y n n hx hy h
  have h2 : PyProof.Rows.lexLt itemOrd (PySem.W.keyToks (tp y)) (PySem.W.keyToks (tp x)) = dlt y x := dlt_tp y x n n hy hx ((alk_comm _ _).trans h)
  cases rev with
  | false =>
    show (!PyProof.Rows.lexLt itemOrd (PySem.W.keyToks (tp y)) (PySem.W.keyToks (tp x))) = _
    rw [h2]; rfl
  | true =>
    show (!PyProof.Rows.lexLt itemOrd (PySem.W.keyToks (tp x)) (PySem.W.keyToks (tp y))) = _
    rw [h1]; rfl
theorem gb_sorted (hu : X.A.units + 100 < cLine) : GB X (.builtin "sorted") (bSorted false) := fun pins s σ H vs us Q I r ⟨ds, h, Q0, rL, A, q, k⟩ => by
  unfold bSorted at q
  split at q
  · rename_i x
    obtain ⟨v, rfl, rv⟩ := rvL_one rL
    split at q
    · rename_i ds e1
      obtain ⟨⟨hal, hdt, hsort⟩, q⟩ := q
      obtain ⟨a, vs, rfl, hq, rL'⟩ := lsOf_some A rv e1
      obtain ⟨u, rfl, ru⟩ := vals1 r
      cases ru
      obtain ⟨its, rits, hpl, hz⟩ := I.list hq
      have hl := rL'.length
      have hE := each_of (R := fun u (p : D × V) => Rv X.K H p.1 p.2 ∧ L2.RelV p.2 u) (fun a b c h1 h2 => ⟨h1, h2⟩) (rvL_paired rL') rits
      have hmem : ∀ p ∈ ds.zip vs, p.1 ∈ ds := fun p hp => (List.of_mem_zip (a := p.1) (b := p.2) hp).1
      have hdn : ∀ p ∈ ds.zip vs, Dn 12 p.1 := fun p hp => dat_dn 12 _ (hdt _ (hmem p hp))
      have hER : PySem.W.EachIs (fun u (p : D × V) => ∃ as, Reads s.heap u (tp p.1) as) its (ds.zip vs) :=
        each_imp (fun u p ⟨⟨h1, h2⟩, hm⟩ => reads I A 12 _ _ _ _ (rei_dat 12 _ (hdt _ (hmem p hm))) h1 h2) (each_mem hE)
      have hfst : ((ds.zip vs).mergeSort (PySem.W.dataLe false fun p : D × V => tp p.1)).map Prod.fst = ds.mergeSort (dle false) := by
        rw [List.map_mergeSort (s := dle false), zip_fst hl]
        intro p hp p' hp'
        exact dle_tp false (hdn p hp) (hdn p' hp') (hal _ (hmem p hp) _ (hmem p' hp'))
      refine PySem.W.sorted_data (enc := fun p : D × V => tp p.1) hpl.isList hE hER ?_ ?_ ?_ ?_ fun out ho eo => ?_
      · intro d hd d' hd'
        obtain ⟨p, hp, rfl⟩ := List.mem_map.mp hd
        obtain ⟨p', hp', rfl⟩ := List.mem_map.mp hd'
        exact alike_tp _ _ 12 12 (hdn p hp) (hdn p' hp') (hal _ (hmem p hp) _ (hmem p' hp'))
      · rcases hsort with hs | hs
        · refine .inl fun d hd => ?_
          obtain ⟨p, hp, rfl⟩ := List.mem_map.mp hd
          obtain ⟨x, r, e⟩ := hs _ (hmem p hp)
          exact ⟨tp x, tpL r, by rw [e, tp, tpL]⟩
        · refine .inr fun d hd => ?_
          obtain ⟨p, hp, rfl⟩ := List.mem_map.mp hd
          obtain ⟨n1, n2⟩ := hs _ (hmem p hp)
          have hd' := hdn p hp
          refine ⟨tp_none hd' n1, fun xs e => ?_⟩
          cases e3 : p.1 <;> rw [e3] at e <;> simp [tp] at e
          exact n2 _ e3
      · rw [List.length_zip, hl, Nat.min_self]; exact hz
      · intro p hp
        have := (hdn p hp).tp.1
        omega
      · obtain ⟨r1, r2⟩ := each_out eo
        rw [hfst] at r1
        obtain ⟨n, e4⟩ := sortedAll_at s.heap its out.toArray
        have nn : H (s.heap.objs.size + 1) = none := I.hok.fresh (Nat.le_succ _)
        have hlen : (((ds.zip vs).mergeSort (PySem.W.dataLe false fun p : D × V => tp p.1)).map Prod.snd).length ≤ sizeLine := by
          rw [List.length_map, List.length_mergeSort, List.length_zip, hl, Nat.min_self]; exact hz
        refine ⟨.ref (s.heap.objs.size + 1), _, I.laid (a := s.heap.objs.size + 1) (t' := s.toks) (o := .lst (((ds.zip vs).mergeSort (PySem.W.dataLe false fun p : D × V => tp p.1)).map Prod.snd)) (fun b o e => sortedAll_old e) (Nat.le_succ _) ⟨hlen, out, n, r2, e4⟩, rfl, newL_ok q A r1 nn (Kp.refl _) k⟩
    · exact q.elim
  · exact q.elim

/-! ### isinstance -/
theorem ge_isT {T : String} {p p2 : Pos} {f : DE} (hT : T = "int" ∨ T = "bool" ∨ T = "str" ∨ T = "list" ∨ T = "tuple" ∨ T = "dict") (ha : GE X a f) (hm : X.mg "isinstance" = none) (hm2 : X.mg T = none) (hv : bootBuiltins T = some (.type T)) (hg : Gl X "isinstance" := by rfl) (hg2 : Gl X T := by rfl) (hn : (T : Str) ≠ "__name__" := by decide) (hd : ((T : Str) == ("__debug__" : Str)) = false := by decide)
    (he : starEach [a, .Name T p2] X.env = (false, eval a X.env) :: starEach [.Name T p2] X.env := by rfl) (hpl : (backTo pos (starEach [.Name T p2] X.env)).any (·.1) = false := by rfl) (hs : starEach [.Name T p2] X.env = (false, eval (.Name T p2) X.env) :: starEach [] X.env := by rfl) : GE X (.Call (.Name "isinstance" p) [a, .Name T p2] [] pos) (d1 (oIsT T) f) := by
  have hc : CallR X (.builtin "isinstance") fun vs H Q => ∃ d v h Q0, vs = [v, .ty T] ∧ Rv X.K H d v ∧ Abs X.K X.w h H ∧ oIsT T d h Q0 ∧ KQ X.K X.w H Q0 Q := fun pins s σ H vs us Q I r ⟨d, v, h, Q0, ev, rd, A, q, k⟩ => by
    subst ev
    obtain ⟨u1, u2, rfl, r1, r2⟩ := vals2 r
    cases (show u2 = Value.type T from r2)
    unfold oIsT at q
    split at q
    · rename_i b eb
      have fin : ∀ {Tx : String} {P : Heap → Prop}, PySem.W.KitX X.K u1 (.type Tx) P → P s.heap → u1 ≠ .builtin "__main__.__loader__#opaque" → kitB Tx T = some b → wpAny (model X.prog X.w) X.A (call (.builtin "isinstance") [u1, .type T]) (L2.EP X pins σ Q) X.xe s := fun Z pp nn ek =>
        PySem.W.kia_one Z I.kIn pp (kit_ty ek) nn fun tk => ⟨.bl b, H, I.tok tk, rfl, k _ _ _ _ q (Kp.refl _) (.bl _) A⟩
      have lst : ∀ {p : PySem.Addr} {vs : List V}, SqL X.K H p vs → PySem.W.KitAt p "list" s.heap := fun {p vs} hq => by
        obtain ⟨its, _, ⟨o, n, e, c, hd, _⟩, _⟩ := I.list hq
        exact ⟨o, e, c⟩
      cases rd with
      | non => cases r1; exact fin PySem.W.kitx_none True.intro (fun z => nomatch z) (by rcases hT with rfl | rfl | rfl | rfl | rfl | rfl <;> (simp [isT] at eb; subst eb; decide +kernel))
      | bl y => cases r1; exact fin PySem.W.kitx_bool True.intro (fun z => nomatch z) (by rcases hT with rfl | rfl | rfl | rfl | rfl | rfl <;> (simp [isT] at eb; subst eb; decide +kernel))
      | int i => obtain ⟨t, rfl⟩ := r1; exact fin PySem.W.kitx_int True.intro (fun z => nomatch z) (by rcases hT with rfl | rfl | rfl | rfl | rfl | rfl <;> (simp [isT] at eb; subst eb; decide +kernel))
      | str x o => obtain ⟨t, rfl⟩ := r1; exact fin PySem.W.kitx_str True.intro (fun z => nomatch z) (by rcases hT with rfl | rfl | rfl | rfl | rfl | rfl <;> (simp [isT] at eb; subst eb; decide +kernel))
      | tup h1 h2 =>
        cases r1
        obtain ⟨its, rv, ⟨o, ho, hc, m, hd⟩, _⟩ := I.tuple h1
        exact fin PySem.W.kitx_tuple ⟨o, ho, hc⟩ (fun z => nomatch z) (by rcases hT with rfl | rfl | rfl | rfl | rfl | rfl <;> (simp [isT] at eb; subst eb; decide +kernel))
      | rl h1 h2 => cases r1; exact fin PySem.W.kitx_list (lst h1.sq) (fun z => nomatch z) (by rcases hT with rfl | rfl | rfl | rfl | rfl | rfl <;> (simp [isT] at eb; subst eb; decide +kernel))
      | ref p =>
        cases r1
        dsimp only [isT] at eb
        split at eb
        · rename_i ds e
          obtain ⟨vs, e1, r1⟩ := A _ _ e
          exact fin PySem.W.kitx_list (lst (SqL.of e1)) (fun z => nomatch z) (by rcases hT with rfl | rfl | rfl | rfl | rfl | rfl <;> (simp at eb; subst eb; decide +kernel))
        · rename_i kvs e
          obtain ⟨L, es, ep, hR, _⟩ := dic_raw I A e
          exact fin PySem.W.kitx_dict hR.dic.typeIs (fun z => nomatch z) (by rcases hT with rfl | rfl | rfl | rfl | rfl | rfl <;> (simp at eb; subst eb; decide +kernel))
        · cases eb
    · exact q.elim
  refine pe_imp (pe_callB hc hg hm boot_isinstance (pa_cons ha (pa_cons (pe_bltn (v := .ty T) hg2 hm2 hv rfl hn hd) pa_nil hs) he) (by decide) (by decide) he hpl) fun σ H Q ⟨ρ, h, Q0, R, A, q, k⟩ => ⟨ρ, h, _, R, A, q, fun d h1 v H1 q1 k1 r1 A1 => ⟨d, v, h1, Q0, rfl, r1, A1, q1, k.kp k1⟩⟩

/-! ### slices -/
def tO (K : PySem.W.Frag) (w : World) (f : DO) : TO := fun σ H Q => ∃ ρ h Q0, RS K H ρ σ ∧ Abs K w h H ∧ f ρ h Q0 ∧ ∀ i h' H', Q0 i h' → Kp H H' → Abs K w h' H' → Q i H'
abbrev GOp (X : Cx) (e : Option Expr) (f : DO) : Prop := PO X e (tO X.K X.w f)
theorem po_imp {o : Option Expr} {t t' : TO} (h : PO X o t) (f : ∀ σ H Q, t' σ H Q → t σ H Q) : PO X o t' := ⟨fun pins s σ H Q I q => h.run pins s σ H Q I (f _ _ _ q)⟩
theorem go_none : GOp X none doNone := po_imp po_none fun σ H Q ⟨ρ, h, Q0, R, A, q, k⟩ => k _ _ _ q (Kp.refl _) A
theorem go_some {f : DE} (h : GE X e f) : GOp X (some e) (doSome f) := po_imp (po_some h) fun σ H Q ⟨ρ, h, Q0, R, A, q, k⟩ => ⟨ρ, h, _, R, A, q, fun d h1 v H1 q1 k1 r1 A1 => by
  cases d <;> first | exact q1.elim | skip
  cases r1
  exact ⟨_, rfl, k _ _ _ q1 k1 A1⟩⟩
theorem cut_rv {K : PySem.W.Frag} {H : Hp} {ds : List D} {vs : List V} (r : RvL K H ds vs) (lo hi : Option Int) : RvL K H (cut ds lo hi) (cutV vs lo hi) := by
  unfold cut cutV
  rw [← r.length]
  exact (r.drop _).take _
theorem rvL_rev {K : PySem.W.Frag} {H : Hp} : ∀ {ds : List D} {vs : List V}, RvL K H ds vs → RvL K H ds.reverse vs.reverse
  | _, _, .nil => .nil
  | _, _, .cons r t => by rw [List.reverse_cons, List.reverse_cons]; exact (rvL_rev t).append (.one r)
theorem sl_ok : SlR X fun x lo hi H Q => ∃ d h Q0, Rv X.K H d x ∧ Abs X.K X.w h H ∧ oSl d lo hi h Q0 ∧ KQ X.K X.w H Q0 Q := fun pins s σ H x v vl vu lo hi sl Q I rx hs pl pu ⟨d, h, Q0, rd, A, q, k⟩ => by
  unfold oSl at q
  split at q
  · rename_i z
    cases rd with
    | str _ o =>
      have ok : okS (cutS z lo hi) := by
        show (cutS z lo hi).length ≤ sizeLine
        have : (cutS z lo hi).length ≤ z.length := by
          unfold cutS Str.length
          simp only [List.size_toArray, List.length_take, List.length_drop, Array.length_toList]
          omega
        exact Nat.le_trans this o
      exact sl_str pins s σ H _ v vl vu lo hi sl Q I rx hs pl pu ⟨z, rfl, o, k _ _ _ _ q (Kp.refl _) (.str _ ok) A⟩
  · rename_i ds
    cases rd with
    | tup h1 h2 =>
      refine sl_tupA pins s σ H _ v vl vu lo hi sl Q I rx hs pl pu ⟨_, _, rfl, h1, fun e => ?_, fun e p n => ?_⟩
      · have : cut ds lo hi = ds := by
          unfold cut
          rw [← h2.length] at e
          rw [show sIx ds.length 0 lo = 0 from e.1, show sIx ds.length ds.length hi = ds.length from e.2]
          simp
        rw [this] at q
        exact k _ _ _ _ q (Kp.refl _) (.tup h1 h2) A
      · exact k _ _ _ _ q (Kp.new n) (.tup (SqT.of upd_same) ((cut_rv h2 lo hi).kp (Kp.new n))) (A.newH n)
  · split at q
    · rename_i ds e1
      obtain ⟨a, vs, rfl, hq, rL⟩ := lsOf_some A rd e1
      exact sl_list pins s σ H _ v vl vu lo hi sl Q I rx hs pl pu ⟨a, vs, rfl, hq, fun p n => newL_ok q A (cut_rv rL lo hi) n (Kp.refl _) k⟩
    · exact q.elim
theorem ge_slice {lo hi : Option Expr} {p2 : Pos} {f : DE} {fl fh : DO} (he : GE X e f) (hl : GOp X lo fl) (hh : GOp X hi fh) : GE X (.Subscript e (.Slice lo hi none p2) pos) (dSl f fl fh) :=
  pe_imp (pe_slice sl_ok he hl hh) fun σ H Q ⟨ρ, h, Q0, R, A, q, k⟩ => ⟨ρ, h, _, R, A, q, fun d h1 v H1 q1 k1 r1 A1 => ⟨ρ, h1, _, R.kp k1, A1, q1, fun l h2 H2 q2 k2 A2 => ⟨ρ, h2, _, R.kp (k1.trans k2), A2, q2, fun u h3 H3 q3 k3 A3 =>
    ⟨d, h3, Q0, r1.kp (k2.trans k3), A3, q3, k.kp (k1.trans (k2.trans k3))⟩⟩⟩⟩
theorem ge_rev {k : Nat} {p1 p2 p3 : Pos} {f : DE} (he : GE X e f) : GE X (.Subscript e (.Slice none none (some (.UnaryOp .USub (.Constant (.int 1) k p1) p2)) p3) pos) (d1 oRevSl f) :=
  pe_imp (pe_revL he) fun σ H Q ⟨ρ, h, Q0, R, A, q, k⟩ => ⟨ρ, h, _, R, A, q, fun d h1 v H1 q1 k1 r1 A1 => by
    unfold oRevSl at q1
    split at q1
    · rename_i ds e1
      obtain ⟨a, vs, rfl, hq, rL⟩ := lsOf_some A1 r1 e1
      exact ⟨a, vs, rfl, hq, fun p n => newL_ok q1 A1 (rvL_rev rL) n k1 k⟩
    · exact q1.elim⟩
end
end G
end

section
set_option Elab.async false
set_option linter.all false
set_option maxRecDepth 100000
set_option maxHeartbeats 4000000
/-! G layer, soundness 10: more methods of lists, dicts, texts. -/
namespace G
open PySem PySem.Spec PyProof.Rows L2
variable [Tb]
section
variable {X : Cx} {a b c e : Expr} {pos : Pos}
theorem gm_get (hu : X.A.units + 64 < cLine) : GM X "dict.get" mGet := fun pins s σ H x vs v us Q I rx rv ⟨d, ds, h, Q0, rd, rL, A, q, k⟩ => by
  unfold mGet at q
  split at q
  · rename_i a
    split at q
    · rename_i kvs ea
      cases rd; cases rx
      obtain ⟨L, es, ep, hR, hP, hz, hne, hnd, e4⟩ := dic_raw I A ea
      have go : ∀ (e dfl : D) (y yd : V) (u ud : Value) (more : List Value), (more = [] ∧ ud = .none ∨ more = [ud]) → pl 8 e = true → Rv X.K H e y → L2.RelV y u → Rv X.K H dfl yd → L2.RelV yd ud → Q0 ((dget kvs e).getD dfl) h →
          argsOk "dict.get" ⟨.ref a :: u :: more, []⟩ → wpAny (model X.prog X.w) X.A (call (.builtin "dict.get") (.ref a :: u :: more)) (L2.EP X pins σ Q) X.xe s := fun e dfl y yd u ud more hm hp re ry rdf ryd q ok => by
        obtain ⟨n1, n2⟩ := nested_of I 8 e y u hp re ry
        refine call_meetsIn F.slot_dict_get hR.dic.typeIs F.entry_dict_get ok (.of_wp (S := fun A R s' => A.units + 9 < cLine ∧ s' = s ∧ (nk e ∉ L.map (·.1) → R (.ok (.ret ud)) { s with toks := s.toks + (nk e).draws }) ∧
            ∀ (j : Nat) (en : DictEntry), (L.map (·.1))[j]? = some (nk e) → es[j]? = some en → R (.ok (.ret en.val)) { s with toks := s.toks + (nk e).draws }) fun A' R s' ⟨hu', es', r1, r2⟩ => ?_) ⟨by omega, rfl, fun hn => ?_, fun j en hj he => ?_⟩
        · subst es'
          exact GR.dget_any hm (by rw [Around.in1_units]; omega) n1 n2 hne hR.dic hR.ks r1 r2
        · have hn' : e ∉ kvs.map (·.1) := fun z => hn (by rw [ep_keys hP]; exact (nk_mem hp (ep_pl hP)).mpr z)
          rw [dget_none hn'] at q
          exact ⟨yd, H, I.tok _, ryd, k _ _ _ _ q (Kp.refl _) rdf A⟩
        · rw [hR.at_ j] at he
          cases e5 : L[j]? with
          | none => rw [e5] at he; cases he
          | some xx =>
            rw [e5] at he; cases he
            have ex : xx.1 = nk e := by
              rw [List.getElem?_map, e5] at hj
              exact Option.some.inj hj
            obtain ⟨d', v', g1, g2, g3⟩ := dget_of hp hP hnd e5 ex
            rw [g1] at q
            exact ⟨v', H, I.tok _, g3, k _ _ _ _ q (Kp.refl _) g2 A⟩
      split at q
      · rename_i e
        obtain ⟨hp, q⟩ := q
        cases rL with
        | cons r1 r2 =>
          cases r2
          cases rv with
          | cons s1 s2 =>
            cases s2
            exact go e .non _ .non _ .none [] (.inl ⟨rfl, rfl⟩) hp r1 s1 .non rfl q (F.args_dict_get_2 _ _)
      · rename_i e dfl
        obtain ⟨hp, q⟩ := q
        cases rL with
        | cons r1 r2 =>
          cases r2 with
          | cons r3 r4 =>
            cases r4
            cases rv with
            | cons s1 s2 =>
              cases s2 with
              | cons s3 s4 =>
                cases s4
                exact go e dfl _ _ _ _ _ (.inr rfl) hp r1 s1 r3 s3 q (F.args_dict_get_3 _ _ _)
      · exact q.elim
    · exact q.elim
  · exact q.elim
theorem gm_setdef (hu : X.A.units + 64 < cLine) : GM X "dict.setdefault" mSetDef := fun pins s σ H x vs v us Q I rx rv ⟨d, ds, h, Q0, rd, rL, A, q, k⟩ => by
  unfold mSetDef at q
  split at q
  · rename_i a e g
    split at q
    · rename_i kvs ea
      cases rd; cases rx
      obtain ⟨hp, hlt, q⟩ := q
      cases rL with
      | @cons _ y _ _ re rL =>
      cases rL with
      | @cons _ z _ _ rg rL =>
      cases rL
      cases rv with
      | @cons _ yv _ _ ry rv =>
      cases rv with
      | @cons _ zv _ _ rz rv =>
      cases rv
      obtain ⟨L, es, ep, hR, hP, hz, hne, hnd, e4⟩ := dic_raw I A ea
      obtain ⟨n1, n2⟩ := nested_of I 8 e y yv hp re ry
      have hlen : L.length = kvs.length := by
        have := congrArg List.length (ep_keys hP)
        simpa using this
      have hEP : EP X.K H (e, g) (nk e, yv, zv) := ⟨rfl, hp, ⟨y, re, ry⟩, z, rg, rz⟩
      have old : ∀ h', Heap.SameBut a s.heap h' → ∀ x ∈ GR.rput L (nk e) yv zv, NestedIs h' x.1 x.2.1 ∧ x.1.depth ≤ 8 := fun h' hs x hx => by
        rcases GR.rput_mem hx with ⟨y, hy, e1, e2⟩ | e'
        · rw [e1, e2]; exact ⟨GR.same_nested hR.dic hs (hR.keys y hy).1, (hR.keys y hy).2⟩
        · subst e'; exact ⟨GR.same_nested hR.dic hs n1, n2⟩
      refine call_meetsIn F.slot_dict_setdefault hR.dic.typeIs F.entry_dict_setdefault (F.args_dict_setdefault_3 _ _ _) (.of_wp (S := fun A R s' => A.units + 9 < cLine ∧ s' = s ∧
          (nk e ∉ L.map (·.1) → ∀ h', GR.Dic h' a (es.push ⟨(nk e).hash X.w, yv, zv⟩) (ep + 1) → Heap.SameBut a s.heap h' → R (.ok (.ret zv)) { s with heap := h', toks := s.toks + (nk e).draws }) ∧
            ∀ (j : Nat) (en : DictEntry), (L.map (·.1))[j]? = some (nk e) → es[j]? = some en → R (.ok (.ret en.val)) { s with toks := s.toks + (nk e).draws }) fun A' R s' ⟨hu', es', r1, r2⟩ => ?_) ⟨by omega, rfl, fun hn h' hd' hs' => ?_, fun j en hj he => ?_⟩
      · subst es'
        unfold Builtin.«dict.setdefault»
        refine wpAny_bind ?_
        unfold Builtin.Dict.keyAndDefault
        refine wpAny_bind (wpAny_notOrdered_dict hR.dic.typeIs ?_)
        show wpAny _ _ (pure (a, yv, some zv)) _ _ s'
        refine wpAny_pure ?_
        show wpAny _ _ (if (a == sysModules) = true then _ else (dictSetDefault a yv zv >>= _)) _ _ s'
        rw [if_neg (by rw [hne]; exact Bool.false_ne_true)]
        exact wpAny_bind (GR.setdefault_any (by rw [Around.in1_units]; omega) n1 n2 hR.dic hR.ks (by rw [List.length_map]; omega) (fun a b c d => wpAny_pure ⟨_, rfl, r1 a b c d⟩) fun a b c d => wpAny_pure ⟨_, rfl, r2 a b c d⟩)
      · have hn' : e ∉ kvs.map (·.1) := fun z => hn (by rw [ep_keys hP]; exact (nk_mem hp (ep_pl hP)).mpr z)
        rw [dget_none hn'] at q
        dsimp only at q
        have x' : GR.Rw X.w h' a (GR.rput L (nk e) yv zv) (es.push ⟨(nk e).hash X.w, yv, zv⟩) (ep + 1) := ⟨hd', by rw [GR.rput_new hn, Array.toList_push, hR.ents, List.map_append]; rfl, GR.rput_nodup hR.nd, old h' hs', by rw [Array.size_push, ← hR.ver]⟩
        have := dput_len kvs e g
        obtain ⟨I1, A1, k1⟩ := dic_wr (tk := s.toks + (nk e).draws) I A e4 hne x' hs' (ep_put hEP hP) (by rw [sz_eq]; omega) (dput_nodup hnd)
        exact ⟨z, _, I1, rz, k _ _ _ _ q k1 (rg.kp k1) A1⟩
      · rw [hR.at_ j] at he
        cases e5 : L[j]? with
        | none => rw [e5] at he; cases he
        | some xx =>
          rw [e5] at he; cases he
          have ex : xx.1 = nk e := by
            rw [List.getElem?_map, e5] at hj
            exact Option.some.inj hj
          obtain ⟨d', v', g1, g2, g3⟩ := dget_of hp hP hnd e5 ex
          rw [g1] at q
          dsimp only at q
          exact ⟨v', H, I.tok _, g3, k _ _ _ _ q (Kp.refl _) g2 A⟩
    · exact q.elim
  · exact q.elim
theorem gm_extend : GM X "list.extend" mExtend := fun pins s σ H x vs v us Q I rx rv ⟨d, ds, h, Q0, rd, rL, A, q, k⟩ => by
  unfold mExtend at q
  split at q
  · rename_i a b
    split at q
    · rename_i xs ys ea eb
      obtain ⟨z, q⟩ := q
      cases rd
      cases rL with
      | cons ra rb =>
        cases rb; cases ra
        obtain ⟨vs, e1, r1⟩ := A _ _ ea
        obtain ⟨us, e2, r2⟩ := A _ _ eb
        have l1 := r1.length
        have l2 := r2.length
        have kw : Kp H (upd H a (.lst (vs ++ us))) := Kp.wr e1 trivial
        exact mt_extend pins s σ H _ _ v _ Q I rx rv ⟨a, b, vs, us, rfl, rfl, e1, e2, by rw [sz_eq]; omega, k _ _ _ _ q kw .non (A.wr (o := .lst (xs ++ ys)) e1 trivial ⟨_, upd_same, (r1.append r2).kp kw⟩)⟩
    · exact q.elim
  · exact q.elim
theorem RvL.dropLast {K : PySem.W.Frag} {H : Hp} {ds : List D} {vs : List V} (r : RvL K H ds vs) : RvL K H ds.dropLast vs.dropLast := by
  rw [List.dropLast_eq_take, List.dropLast_eq_take, ← r.length]
  exact r.take _
theorem RvL.eraseIdx {K : PySem.W.Frag} {H : Hp} : ∀ {ds : List D} {vs : List V} (n : Nat), RvL K H ds vs → RvL K H (ds.eraseIdx n) (vs.eraseIdx n)
  | _, _, _, .nil => .nil
  | _, _, 0, .cons _ t => t
  | _, _, n + 1, .cons r t => .cons r (RvL.eraseIdx n t)
theorem ixN_seq {n : Nat} {i : Int} {j : Nat} (e : G.ixN n i = some j) : seqIndex? i n = some j := by
  unfold G.ixN at e
  by_cases h0 : 0 ≤ i
  · rw [if_pos h0] at e
    by_cases h1 : i < n
    · rw [if_pos h1] at e; cases e
      have h2 : ¬ i < 0 := by omega
      simp [seqIndex?, h0, h1, h2]
    · rw [if_neg h1] at e; cases e
  · rw [if_neg h0] at e
    by_cases h1 : -(n : Int) ≤ i
    · rw [if_pos h1] at e; cases e
      have h2 : i < 0 := by omega
      have h3 : 0 ≤ i + n := by omega
      simp [seqIndex?, h2, h3]
      omega
    · rw [if_neg h1] at e; cases e
theorem gm_pop : GM X "list.pop" mPop := fun pins s σ H x vs v us Q I rx rv ⟨d, ds, h, Q0, rd, rL, A, q, k⟩ => by
  unfold mPop at q
  split at q
  · rename_i a
    split at q
    · rename_i xs ea
      cases rd
      obtain ⟨ws, e1, r1⟩ := A _ _ ea
      split at q
      · obtain ⟨y, ey, q⟩ := q
        cases rL
        obtain ⟨yv, e2, r2⟩ := r1.get ey
        have kw : Kp H (upd H a (.lst ws.dropLast)) := Kp.wr e1 trivial
        exact mt_pop pins s σ H _ _ v _ Q I rx rv ⟨a, ws, yv, rfl, rfl, e1, by rw [← r1.length]; exact e2, k _ _ _ _ q kw (r2.kp kw) (A.wr (o := .lst xs.dropLast) e1 trivial ⟨_, upd_same, r1.dropLast.kp kw⟩)⟩
      · rename_i i
        obtain ⟨b1, b2, j, y, ej, ey, q⟩ := q
        cases rL with
        | cons ra rb =>
        cases rb; cases ra
        obtain ⟨yv, e2, r2⟩ := r1.get ey
        have kw : Kp H (upd H a (.lst (ws.eraseIdx j))) := Kp.wr e1 trivial
        exact mt_popAt pins s σ H _ _ v _ Q I rx rv ⟨a, ws, i, j, yv, rfl, rfl, e1, b1, b2, by rw [← r1.length]; exact ixN_seq ej, e2, k _ _ _ _ q kw (r2.kp kw) (A.wr (o := .lst (xs.eraseIdx j)) e1 trivial ⟨_, upd_same, (r1.eraseIdx j).kp kw⟩)⟩
      · exact q.elim
    · exact q.elim
  · exact q.elim
theorem gm_insert : GM X "list.insert" mInsert := fun pins s σ H x vs v us Q I rx rv ⟨d, ds, h, Q0, rd, rL, A, q, k⟩ => by
  unfold mInsert at q
  split at q
  · rename_i a i g
    split at q
    · rename_i xs ea
      obtain ⟨z, b1, b2, q⟩ := q
      cases rd
      obtain ⟨ws, e1, r1⟩ := A _ _ ea
      cases rL with
      | cons ra rL =>
      cases rL with
      | @cons _ y _ _ rg rL =>
      cases rL; cases ra
      have kw : Kp H (upd H a (.lst (ws.take i.toNat ++ [y] ++ ws.drop i.toNat))) := Kp.wr e1 trivial
      exact mt_insert pins s σ H _ _ v _ Q I rx rv ⟨a, ws, i, y, rfl, rfl, e1, by rw [← r1.length, sz_eq]; exact z, b1, b2, k _ _ _ _ q kw .non (A.wr (o := .lst (xs.take i.toNat ++ [g] ++ xs.drop i.toNat)) e1 trivial ⟨_, upd_same, (((r1.take _).append (.one rg)).append (r1.drop _)).kp kw⟩)⟩
    · exact q.elim
  · exact q.elim
theorem gm_clear : GM X "list.clear" mClear := fun pins s σ H x vs v us Q I rx rv ⟨d, ds, h, Q0, rd, rL, A, q, k⟩ => by
  unfold mClear at q
  split at q
  · rename_i a
    split at q
    · rename_i xs ea
      cases rd
      obtain ⟨ws, e1, r1⟩ := A _ _ ea
      cases rL
      have kw : Kp H (upd H a (.lst [])) := Kp.wr e1 trivial
      exact mt_clear pins s σ H _ _ v _ Q I rx rv ⟨a, ws, rfl, rfl, e1, k _ _ _ _ q kw .non (A.wr (o := .lst []) e1 trivial ⟨_, upd_same, .nil⟩)⟩
    · exact q.elim
  · exact q.elim
theorem strs_of {K : PySem.W.Frag} {H : Hp} : ∀ {ds : List D} {vs : List V} {ys : List Str}, RvL K H ds vs → strsOf ds = some ys → vs = ys.map V.str
  | _, _, _, .nil, e => by cases e; rfl
  | .str x :: ds, _, ys, .cons r t, e => by
    cases r
    simp only [strsOf, Option.map_eq_some_iff] at e
    obtain ⟨zs, e1, rfl⟩ := e
    rw [strs_of t e1]; rfl
  | .non :: _, _, _, .cons r t, e => by simp [strsOf] at e
  | .bl _ :: _, _, _, .cons r t, e => by simp [strsOf] at e
  | .int _ :: _, _, _, .cons r t, e => by simp [strsOf] at e
  | .tup _ :: _, _, _, .cons r t, e => by simp [strsOf] at e
  | .rl _ :: _, _, _, .cons r t, e => by simp [strsOf] at e
  | .rd _ _ :: _, _, _, .cons r t, e => by simp [strsOf] at e
  | .ref _ :: _, _, _, .cons r t, e => by simp [strsOf] at e
theorem gm_join : GM X "str.join" mJoin := fun pins s σ H x vs v us Q I rx rv ⟨d, ds, h, Q0, rd, rL, A, q, k⟩ => by
  unfold mJoin at q
  split at q
  · rename_i a y
    split at q
    · rename_i ys ey
      obtain ⟨z, q⟩ := q
      cases rd with
      | str _ oa =>
      cases rL with
      | cons ra rL =>
      cases rL
      cases e1 : sqOf h y with
      | none => rw [e1] at ey; cases ey
      | some ds =>
        rw [e1] at ey
        obtain ⟨p, ws, rfl, h1, h2⟩ := sqOf_some A ra e1
        have e2 := strs_of h2 ey
        subst e2
        have ok : okS (PySem.Str.join a ys) := by
          unfold okS
          rw [← show Txt.join a ys = PySem.Str.join a ys from StrLaws.glued_eq_join a ys]
          have := size_glued a ys
          have h3 : (Txt.join a ys).length = _ := this
          rw [h3, sz_eq]
          have : (ys.length - 1) * a.length ≤ ys.length * a.length := Nat.mul_le_mul_right _ (Nat.sub_le _ _)
          omega
        exact mt_join pins s σ H _ _ v _ Q I rx rv ⟨a, p, ys, rfl, rfl, h1, by rw [SZ] at z; exact z, by rw [show Txt.join a ys = PySem.Str.join a ys from StrLaws.glued_eq_join a ys]; exact k _ _ _ _ q (Kp.refl _) (.str _ ok) A⟩
    · exact q.elim
  · exact q.elim
end
end G
end

section
set_option Elab.async false
set_option linter.all false
set_option maxRecDepth 100000
set_option maxHeartbeats 4000000
/-! G layer, soundness 11: x += e, more built-ins. -/
namespace G
open PySem PySem.Spec PyProof.Rows L2
variable [Tb]
section
variable {X : Cx} {a b c e : Expr} {pos : Pos}
abbrev GIp (X : Cx) (op : Operator) (f : D → D → AH → KD → Prop) : Prop := PIp X op (R2ok X.K X.w f)
theorem gs_aug {i : Nat} {x : Str} {op : Operator} {f : D → D → AH → KD → Prop} {fe : DE} {pos' : Pos} (hN : X.N.Nodup) (he : GE X e fe) (ho : GIp X op f) (hi : X.N[i]? = some x := by rfl) (hx : Loc X.env.scope x := by first | exact Or.inl rfl | exact Or.inr rfl) (hf : X.fn x = true ∨ X.env.scope.names.lookup x = some .local := by first | exact .inl rfl | exact .inr rfl) :
    GS X (.AugAssign (.Name x pos') op e pos) (dAug f i fe) :=
  ps_imp (ps_aug (i := i) hN hi hx he ho hf) fun D σ H ⟨ρ, h, F, R, A, q, k⟩ => by
    unfold dAug onV at q
    split at q
    · rename_i d e1
      obtain ⟨v, e2, r⟩ := R.2 i d e1
      exact ⟨v, e2, ρ, h, _, R, A, q, fun y h1 u H1 q1 k1 r1 A1 => ⟨d, y, h1, _, r.kp k1, r1, A1, q1, fun z h2 w H2 q2 k2 r2 A2 => k.nx _ _ _ _ q2 (k1.trans k2) ((R.kp (k1.trans k2)).set r2) A2⟩⟩
    · exact q.elim
theorem ga_add : GIp X .Add oAddI := fun pins s σ H x y v u Q I rx ry ⟨d, e, h, Q0, rd, re, A, q, k⟩ => by
  cases d <;> cases e <;> first | exact q.elim | skip
  cases rd; cases re
  exact ip_add pins s σ H _ _ v u Q I rx ry ⟨_, _, rfl, rfl, k _ _ _ _ q (Kp.refl _) (.int _) A⟩
theorem ga_sub : GIp X .Sub oSub := fun pins s σ H x y v u Q I rx ry ⟨d, e, h, Q0, rd, re, A, q, k⟩ => by
  cases d <;> cases e <;> first | exact q.elim | skip
  cases rd; cases re
  exact ip_sub pins s σ H _ _ v u Q I rx ry ⟨_, _, rfl, rfl, k _ _ _ _ q (Kp.refl _) (.int _) A⟩
theorem gb_abs : GB X (.builtin "abs") bAbs := fun pins s σ H vs us Q I r ⟨ds, h, Q0, rL, A, q, k⟩ => by
  unfold bAbs at q
  split at q
  · rename_i i
    cases rL with
    | cons r1 rL =>
    cases rL; cases r1
    exact call_abs pins s σ H _ us Q I r ⟨i, rfl, k _ _ _ _ q (Kp.refl _) (.int _) A⟩
  · exact q.elim
theorem gb_int : GB X (.type "int") bInt := fun pins s σ H vs us Q I r ⟨ds, h, Q0, rL, A, q, k⟩ => by
  unfold bInt at q
  split at q
  · rename_i i
    cases rL with
    | cons r1 rL =>
    cases rL; cases r1
    exact call_int1 pins s σ H _ us Q I r (.inl ⟨i, rfl, k _ _ _ _ q (Kp.refl _) (.int _) A⟩)
  · rename_i i
    cases rL with
    | cons r1 rL =>
    cases rL; cases r1
    exact call_int1 pins s σ H _ us Q I r (.inr ⟨i, rfl, k _ _ _ _ q (Kp.refl _) (.int _) A⟩)
  · exact q.elim
theorem gb_tuple : GB X (.type "tuple") bTuple := fun pins s σ H vs us Q I r ⟨ds, h, Q0, rL, A, q, k⟩ => by
  unfold bTuple at q
  split at q
  · rename_i x
    split at q
    · rename_i es ex
      cases rL with
      | cons r1 rL =>
      cases rL
      obtain ⟨a, ws, rfl, h1, h2⟩ := sqOf_some A r1 ex
      rcases h1 with h1 | h1
      · exact call_tuple_of pins s σ H _ us Q I r ⟨a, ws, rfl, .inl ⟨h1, fun l nl => k _ _ _ _ q (Kp.new nl) (.tup (SqT.of upd_same) (h2.kp (Kp.new nl))) (A.newH nl)⟩⟩
      · exact call_tuple_of pins s σ H _ us Q I r ⟨a, ws, rfl, .inr ⟨h1, k _ _ _ _ q (Kp.refl _) (.tup h1 h2) A⟩⟩
    · exact q.elim
  · exact q.elim
end
end G
end

section
set_option Elab.async false
set_option linter.all false
set_option maxRecDepth 100000
set_option maxHeartbeats 4000000
/-! G layer, soundness 12: sorted by a lambda that takes a tuple's item. -/
namespace G
open PySem PySem.Spec PyProof.Rows L2
variable [Tb]
/-- a def with its code object -/
structure FunC (K : PySem.W.Frag) (x qual : Str) (st : Stmt) (f : Addr) (fd : FuncData) (c : Addr) : Prop where
  ex : ∃ (oc : Value) (od : Option Addr) (kV doc pm : Value) (an : Option Addr) (ct : Value) (osl : Array (Option Value)),
    fd = PySem.W.fnOf x qual (defArgs st) (defBody st) (defScope st) .none kV doc pm an (.ref c) ct ∧ K.lookup f = some ⟨oc, od, .func fd, osl⟩ ∧ PySem.W.codeIn K (.ref c) qual = true
theorem func_mk {K : PySem.W.Frag} {x qual : Str} {st : Stmt} {f c : Addr} {oc : Value} {od an : Option Addr} {osl : Array (Option Value)} {kV doc pm cdv ct : Value} (l : K.lookup f = some ⟨oc, od, .func (PySem.W.fnOf x qual (defArgs st) (defBody st) (defScope st) .none kV doc pm an cdv ct), osl⟩)
    (e : PySem.W.codeIn K cdv qual = true) (hc : cdv = .ref c) : FunC K x qual st f (PySem.W.fnOf x qual (defArgs st) (defBody st) (defScope st) .none kV doc pm an cdv ct) c := by
  subst hc
  exact ⟨oc, od, kV, doc, pm, an, ct, osl, rfl, l, e⟩
theorem fn_okC {P : Program} {w : World} {K : PySem.W.Frag} {mg : Str → Option Value} {base : Heap} {x qual : Str} {st : Stmt} {f c : Addr} {fd : FuncData} {N ps : List Str} {k : Nat} {b : DS} (F : FunC K x qual st f fd c) (S : FnScope N ps (defScope st))
    (body : ∀ (A : Around) (outer : List Env) (s : Shared) (H : Hp) (E : XK), Room k (A.deeper (envOfC qual (defScope st) s.heap.objs.size f (.ref c))) →
      GSs (cxOf CX0 P w K mg base N qual (defScope st) f (.ref c) A outer s H E).nox (defBody st) b) : FnG P w K mg base (k + 1) f fd ps (fnOf N.length ps.length b) := by
  obtain ⟨oc, od, kV, doc, pm, an, ct, osl, rfl, lk, hcd⟩ := F.ex
  refine fn_of lk hcd S (fun vs H Q E ⟨ds, h, Q0, r, A, q, _⟩ => by rw [← r.length]; exact q.1) fun A outer s H vs Q E hr ⟨ds, h, Q0, r, Ab, q, kq⟩ => ?_
  refine ⟨_, (body A outer s H E hr).nox, _, h, _, start_rs r, Ab, q.2, ⟨?_, ?_, ?_, ?_⟩⟩
  · intro ρ' h' σ' H' ⟨h0, sb, q'⟩ k' R' A'
    exact kq _ _ _ _ q' k' .non (A'.sub sb)
  · intro d h' v H' ⟨h0, sb, q'⟩ k' r' A'
    exact kq _ _ _ _ q' k' r' (A'.sub sb)
  · intro _ _ _ _ q'; exact q'.elim
  · intro _ _ _ _ q'; exact q'.elim

section
variable {X : Cx} {pins : List (Addr × Obj)} {σ : L2.St} {H : Hp} {s : Shared} {h : AH}
theorem reads0_list {n : Nat} (ih : ∀ d v u, dat n d = true → Rv X.K H d v → RelV v u → Reads s.heap u (tp d) []) : ∀ {ds : List D} {vs : List V} {us : List Value}, datL n ds = true → RvL X.K H ds vs → Vals vs us → ReadsAll s.heap us (tpL ds) []
  | [], _, _, _, r, r2 => by cases r; cases r2; exact .nil
  | d :: ds, _, _, e, r, r2 => by
    rw [datL, Bool.and_eq_true] at e
    cases r with
    | cons ra rb =>
      cases r2 with
      | cons sa sb => exact .cons (as := []) (bs := []) (ih _ _ _ e.1 ra sa) (reads0_list ih e.2 rb sb)
theorem reads0 (I : L2.Inv X pins σ H s) : ∀ (n : Nat) (d : D) (v : V) (u : Value), dat n d = true → Rv X.K H d v → RelV v u → Reads s.heap u (tp d) [] := by
  intro n
  induction n with
  | zero =>
    intro d v u e r r2
    cases d <;> simp [dat] at e
    all_goals cases r
    · cases r2; exact .none
    · cases r2; exact .bool _
    · obtain ⟨t, rfl⟩ := r2; exact .int _ t
    · obtain ⟨t, rfl⟩ := r2; exact .str _ t
  | succ n ih =>
    intro d v u e r r2
    cases d with
    | non => cases r; cases r2; exact .none
    | bl b => cases r; cases r2; exact .bool _
    | int i => cases r; obtain ⟨t, rfl⟩ := r2; exact .int _ t
    | str x => cases r; obtain ⟨t, rfl⟩ := r2; exact .str _ t
    | tup ds =>
      rw [dat] at e
      cases r with
      | tup h1 h2 =>
        cases r2
        obtain ⟨its, rv, ⟨o, ho, hc, m, hd⟩, _⟩ := I.tuple h1
        exact Reads.tuple ho hc hd (reads0_list ih e h2 rv)
    | _ => simp [dat] at e
/-- the call of lambda x: x[i] on a tuple -/
theorem lam_turn {prog : Program} {w : World} {A : Around} {s : Shared} {f c' t : Addr} {qual x : Str} {params : Arguments} {scope : Scope} {cl : List (Str × Addr)} {pm ctv u : Value} {i : Nat} {k : Nat} {p1 p2 p3 : Pos} {its : Array Value}
    (hd : A.depth < recursionLimit) (ho : s.heap.get? f = some (PySem.W.kla_obj "<lambda>" qual params (.Subscript (.Name x p1) (.Constant (.int (i : Int)) k p2) p3) scope cl pm c' ctv))
    (hc : ∃ (oc : Obj) (vs : Array Value) (tk : Tok), s.heap.get? c' = some oc ∧ oc.data = .fields vs ∧ vs[1]? = some (.str qual tk))
    (hk : scope.kind = .function) (hco : scope.isCoroutine = false) (hgen : scope.isGenerator = false) (hcell : ∀ y ∈ scope.names, y.2 ≠ .cell) (hloc : scope.names.lookup x = some .local)
    (hbind : ∀ v : Value, bindArgs (PySem.W.kla_fn "<lambda>" qual params (.Subscript (.Name x p1) (.Constant (.int (i : Int)) k p2) p3) scope cl pm (.ref c') ctv) ⟨[v], []⟩ = pure [(x, v)])
    (hdb : (x == ("__debug__" : Str)) = false) (ht : IsTup s.heap t its) (hi : its[i]? = some u) (hi2 : i < 2 ^ 63) (lim : s.heap.NoLimit) (hs : ∀ o j, subscripted (.Constant (.int (i : Int)) k p2) false o j = operate [o, j] (getItem o j)) :
    wpAny (model prog w) A (call (.ref f) [.ref t]) (fun v s' => v = u ∧ ∃ h' tk, s' = { s with heap := h', toks := tk } ∧ ∀ b o, s.heap.get? b = some o → h'.get? b = some o) (fun _ _ => False) s := by
  obtain ⟨oc, vs, tk, e1, e2, e3⟩ := hc
  have rc : codeAny (model prog w) A (.call (.ref f) ⟨[.ref t], []⟩) (fun r s' => r = .ok (.ret u) ∧ ∃ h' tk, s' = { s with heap := h', toks := tk } ∧ ∀ b o, s.heap.get? b = some o → h'.get? b = some o) s := by
    refine PySem.W.kla_callFunE hd ho rfl hco hgen rfl ⟨c', oc, vs, tk, rfl, e1, e2, e3⟩ ?_
    rw [hbind]
    refine wpAny_pure (wpAny_newFunctionEnv hcell (fun y hy => ?_) (fun h₁ hns hsb => ⟨lim.fresh _ hsb, ?_⟩) hk)
    · simp only [List.mem_singleton] at hy
      subst hy; exact hloc
    · have kp : ∀ b o, s.heap.get? b = some o → h₁.get? b = some o := fun b o e => hsb.extBut b o (Nat.ne_of_lt (Heap.lt_size e)) (Heap.get?_push_of_some _ e)
      obtain ⟨o, g1, g2, m, g3⟩ := ht
      have ht1 : IsTup h₁ t its := ⟨o, kp _ _ g1, g2, m, g3⟩
      have hlt : i < its.size := (Array.getElem?_eq_some_iff.mp hi).1
      refine PySem.W.kla_codeExpr (Subscript_ (wpAny_Name (wpAny_loadName_local hk hloc hns (v := .ref t) (by simp) (wpAny_Constant_int ?_)) hdb))
      refine subscriptTail_builtinR (x := u) ht1.typeIs slot_tuple_getitem.lookup (getItem_tuple (j := i) ht1 (by omega) (by omega) ?_ hi ⟨rfl, ?_⟩) (hs _ _)
      · unfold seqIndex?
        simp; omega
      · exact ⟨rfl, _, _, rfl, kp⟩
  refine wpAny_call (codeAny_mono rc fun r s' hq => ?_)
  obtain ⟨rfl, hq⟩ := hq
  exact ⟨rfl, hq⟩
theorem Abs.extN {K : PySem.W.Frag} {w : World} {h : AH} {H H' : Hp} (A : Abs K w h H) (e : LamX.ExtN H H') (t : LamX.Tabs Tb.T H') : Kp H H' ∧ Abs K w h H' := by
  have k : Kp H H' := ⟨fun a xs q => e a _ q (fun ps z => by cases z), fun a o u q => e a _ q (fun ps z => by cases z)⟩
  refine ⟨k, fun a o q => ?_, t⟩
  have r := A a o q
  obtain ⟨u, e1, m⟩ := r.some
  exact r.kp k ((e a u e1 fun ps z => by subst z; exact m).trans e1.symm)
theorem ge_sortK {i : Nat} {c P : Addr} {x : Str} {params : Arguments} {scope : Scope} {kc : Nat} {p p1 p2 p3 lpos kpos pos : Pos} {e : Expr} {f : DE}
    (hm : X.mg "sorted" = none) (TB : LamX.TabB X.base X.mg c P) (hcode : X.env.code = .ref c) (hmT : (P, X.env.qual ++ "<lambda>") ∈ Tb.T) (hu : ∀ p ∈ Tb.T, p.1 = P → p.2 = X.env.qual ++ "<lambda>") (hun : X.A.units + 100 < cLine) (hdep : X.A.in1.in1.depth < recursionLimit)
    (ha : GE X e f) (hi2 : i < 2 ^ 63 := by decide) (hk : scope.kind = .function := by rfl) (hco : scope.isCoroutine = false := by rfl) (hgen : scope.isGenerator = false := by rfl) (hcell : ∀ y ∈ scope.names, y.2 ≠ .cell := by decide) (hloc : scope.names.lookup x = some .local := by decide)
    (hfr0 : ∀ y ∈ scope.names, y.2 ≠ .free := by decide) (hdef : defaultsOf params X.env = ([], []) := by rfl)
    (hbind : ∀ (q : Str) (cl : List (Str × Addr)) (pm cv ctv v : Value), bindArgs (PySem.W.kla_fn "<lambda>" q params (.Subscript (.Name x p1) (.Constant (.int (i : Int)) kc p2) p3) scope cl pm cv ctv) ⟨[v], []⟩ = pure [(x, v)] := by intro _ _ _ _ _ _; rfl)
    (hdx : (x == ("__debug__" : Str)) = false := by decide) (hs : ∀ o j, subscripted (.Constant (.int (i : Int)) kc p2) false o j = operate [o, j] (getItem o j) := by exact fun _ _ => rfl)
    (hv : bootBuiltins "sorted" = some (.builtin "sorted") := by decide +kernel) (hg : Gl X "sorted" := by rfl) (hn : ("sorted" : Str) ≠ "__name__" := by decide) (hdb : (("sorted" : Str) == ("__debug__" : Str)) = false := by decide)
    (he : backTo pos (starEach [e] X.env) = (false, eval e X.env) :: backTo pos (starEach [] X.env) := by rfl) (hpl : (backTo pos (starEach [e] X.env)).any (·.1) = false := by rfl) (hst : starEach [e] X.env = (false, eval e X.env) :: starEach [] X.env := by rfl) :
    GE X (.Call (.Name "sorted" p) [e] [⟨some "key", .Lambda params (.Subscript (.Name x p1) (.Constant (.int (i : Int)) kc p2) p3) scope lpos, kpos⟩] pos) (d1 (oSortK i) f) := by
  refine ⟨fun pins s σ H Q I ⟨ρ, h, Q0, R, A, q, k⟩ => ?_⟩
  refine wpAny_Call_Name_kw (ld_blt I hg hm hv ?_ hn hdb)
  refine PyProof.Rows.callWith_kw (thn ((ga_cons ha ga_nil hst).run pos pins s σ H (fun vs H' => ∃ d h', oSortK i d h' Q0 ∧ Kp H H' ∧ RvL X.K H' [d] vs ∧ Abs X.K X.w h' H') I
    ⟨ρ, h, fun ds h1 => match ds with | [d] => oSortK i d h1 Q0 | _ => False, R, A, q, fun ds h' vs H' q1 k1 r1 A1 => ?_⟩) fun us s1 ⟨vs, H1, I1, r1, d, h1, q1, k1, rL, A1⟩ => ?_) he hpl (by rfl) (by rfl)
  · match ds, q1, r1 with
    | [d], q1, r1 => exact ⟨d, h', q1, k1, r1, A1⟩
    | [], q1, _ => exact q1.elim
    | _ :: _ :: _, q1, _ => exact q1.elim
  show wpAny _ _ (evalAll [do let v ← eval (.Lambda params (.Subscript (.Name x p1) (.Constant (.int (i : Int)) kc p2) p3) scope lpos) X.env; standAt pos; pure v]) _ _ s1
  refine wpAny_evalAll_cons (wpAny_bind (LamX.lam_make2 I1 TB hcode hmT hu A1.tabs hdef (fun y hy e => absurd e (hfr0 y hy)) fun fo c' pm ctv H2 s2 I2 eN T2 hf hfn hfr hco' => wpAny_bind (wpAny_standAt (wpAny_pure ?_))))
  refine wpAny_evalAll_nil ?_
  obtain ⟨k12, A2⟩ := A1.extN eN T2
  obtain ⟨v, rfl, rv⟩ := rvL_one rL
  unfold oSortK at q1
  split at q1
  · rename_i ds e1
    obtain ⟨htup, ⟨hal, hdt, hsort⟩, q1⟩ := q1
    obtain ⟨a, vs, rfl, hq, rL'⟩ := lsOf_some A2 (rv.kp k12) e1
    obtain ⟨u, rfl, ru⟩ := vals1 r1
    cases ru
    obtain ⟨its, rits, hpls, hz⟩ := I2.list hq
    have hl := rL'.length
    have hE := each_of (R := fun u (p : D × V) => Rv X.K H2 p.1 p.2 ∧ L2.RelV p.2 u) (fun a b c h1 h2 => ⟨h1, h2⟩) (rvL_paired rL') rits
    have hmem : ∀ p ∈ ds.zip vs, p.1 ∈ ds := fun p hp => (List.of_mem_zip (a := p.1) (b := p.2) hp).1
    have hmk : ∀ p ∈ ds.zip vs, kAt i p.1 ∈ ds.map (kAt i) := fun p hp => List.mem_map_of_mem (hmem p hp)
    have hdn : ∀ p ∈ ds.zip vs, Dn 12 (kAt i p.1) := fun p hp => dat_dn 12 _ (hdt _ (hmk p hp))
    have hfst : ((ds.zip vs).mergeSort (PySem.W.dataLe false fun p : D × V => tp (kAt i p.1))).map Prod.fst = ds.mergeSort (fun a b => dle false (kAt i a) (kAt i b)) := by
      rw [List.map_mergeSort (s := fun a b => dle false (kAt i a) (kAt i b)), zip_fst hl]
      intro p hp p' hp'
      exact dle_tp (x := kAt i p.1) (y := kAt i p'.1) false (hdn p hp) (hdn p' hp') (hal _ (hmk p hp) _ (hmk p' hp'))
    obtain ⟨⟨oc, cvs, tk, g1, g2, g3⟩, _, _⟩ := I2.hok c' _ hco'
    refine PySem.W.sorted_key_data (b := false) (fun p : D × V => tp (kAt i p.1)) hpls.isList hE ?_ ?_ ?_ ?_ (PyProof.Rows.ksk_s1 _ _) (fun _ => PyProof.Rows.ksk_l1 _ _) (fun _ => PyProof.Rows.ksk_t1 _ _) ?_ fun out cc h' tk' kp hfresh hD ho eo => ?_
    · intro d hd d' hd'
      obtain ⟨p, hp, rfl⟩ := List.mem_map.mp hd
      obtain ⟨p', hp', rfl⟩ := List.mem_map.mp hd'
      exact alike_tp _ _ 12 12 (hdn p hp) (hdn p' hp') (hal _ (hmk p hp) _ (hmk p' hp'))
    · rcases hsort with hs | hs
      · refine .inl fun d hd => ?_
        obtain ⟨p, hp, rfl⟩ := List.mem_map.mp hd
        obtain ⟨x, r, e⟩ := hs _ (hmk p hp)
        exact ⟨tp x, tpL r, by rw [e, tp, tpL]⟩
      · refine .inr fun d hd => ?_
        obtain ⟨p, hp, rfl⟩ := List.mem_map.mp hd
        obtain ⟨n1, n2⟩ := hs _ (hmk p hp)
        have hd' := hdn p hp
        refine ⟨tp_none hd' n1, fun xs e => ?_⟩
        cases e3 : kAt i p.1 <;> rw [e3] at e <;> simp [tp] at e
        exact n2 _ e3
    · rw [List.length_zip, hl, Nat.min_self]; exact hz
    · intro p hp
      have := (hdn p hp).tp.1
      omega
    · rintro v ⟨d, w'⟩ ⟨rd, rw'⟩ hx h' tk' kp
      obtain ⟨xs, y, e3, ey⟩ := htup _ (hmem _ hx)
      dsimp only at e3 rd rw' ⊢
      subst e3
      cases rd with
      | tup b1 b2 =>
        cases rw'
        obtain ⟨its2, rv2, ⟨o, o1, o2, m, o3⟩, _⟩ := I2.tuple b1
        obtain ⟨v', f1, f2⟩ := b2.get ey
        obtain ⟨w2, f3, f4⟩ := rv2.get f1
        have ek : kAt i (.tup xs) = y := by rw [kAt, ey]; rfl
        refine wpAny_mono (lam_turn (s := { s2 with heap := h', toks := tk' }) (its := its2.toArray) (u := w2) hdep (kp _ _ hf) ⟨oc, cvs, tk, kp _ _ g1, g2, g3⟩ hk hco hgen hcell hloc (fun v => hbind _ _ _ _ _ v) hdx ⟨o, kp _ _ o1, o2, m, o3⟩ (by simpa using f3) hi2 (I2.nolimit.keeps kp) hs) (fun v s' ⟨ev, h2, tk2, es, kp2⟩ => ?_) fun _ _ e => e
        subst ev
        subst es
        refine ⟨h2, tk2, rfl, kp2, ?_⟩
        have hy : dat 12 y = true := by
          have := hdt _ (hmk _ hx)
          rw [ek] at this; exact this
        rw [ek]
        exact PyProof.Rows.Reads.keeps (fun b o q => kp2 _ _ (kp _ _ q)) (reads0 I2 12 y _ _ hy f2 f4)
    · obtain ⟨r1, r2⟩ := each_out eo
      rw [hfst] at r1
      have nn : H2 (s2.heap.objs.size + 1) = none := I2.hok.fresh (Nat.le_succ _)
      have hlen : (((ds.zip vs).mergeSort (PySem.W.dataLe false fun p : D × V => tp (kAt i p.1))).map Prod.snd).length ≤ sizeLine := by
        rw [List.length_map, List.length_mergeSort, List.length_zip, hl, Nat.min_self]; exact hz
      exact ⟨.ref (s2.heap.objs.size + 1), _, I2.laid (a := s2.heap.objs.size + 1) (t' := tk') (o := .lst (((ds.zip vs).mergeSort (PySem.W.dataLe false fun p : D × V => tp (kAt i p.1))).map Prod.snd)) kp (Nat.le_succ _) ⟨hlen, out, cc, r2, hD⟩, rfl, newL_ok q1 A2 r1 nn (k1.trans k12) k⟩
  · exact q1.elim
end
end G
end

section
set_option Elab.async false
set_option linter.all false
set_option maxRecDepth 100000
set_option maxHeartbeats 4000000
/-! G layer, soundness 13: max of a list, list of a dict. -/
namespace G
open PySem PySem.Spec PyProof.Rows L2
variable [Tb]
mutual
theorem tp_inj : ∀ (n m : Nat) (x y : D), dat n x = true → dat m y = true → tp x = tp y → x = y
  | _, _, .non, y, _, h, e => by cases y <;> simp_all [tp, dat]
  | _, _, .bl _, y, _, h, e => by cases y <;> simp_all [tp, dat]
  | _, _, .int _, y, _, h, e => by cases y <;> simp_all [tp, dat]
  | _, _, .str _, y, _, h, e => by cases y <;> simp_all [tp, dat]
  | n + 1, m, .tup xs, y, g, h, e => by
    cases y with
    | tup ys =>
      cases m with
      | zero => simp [dat] at h
      | succ m =>
        rw [dat] at g h
        simp only [tp, PyData.tuple.injEq] at e
        rw [tp_injL n m xs ys g h e]
    | _ => simp [tp] at e
  | 0, _, .tup xs, y, g, h, e => by simp [dat] at g
  | n, _, .rl _, _, g, _, _ => by cases n <;> simp [dat] at g
  | n, _, .rd _ _, _, g, _, _ => by cases n <;> simp [dat] at g
  | n, _, .ref _, _, g, _, _ => by cases n <;> simp [dat] at g
theorem tp_injL : ∀ (n m : Nat) (xs ys : List D), datL n xs = true → datL m ys = true → tpL xs = tpL ys → xs = ys
  | _, _, [], ys, _, _, e => by cases ys <;> simp_all [tpL]
  | _, _, _ :: _, [], _, _, e => by simp [tpL] at e
  | n, m, x :: xs, y :: ys, g, h, e => by
    rw [datL, Bool.and_eq_true] at g h
    simp only [tpL, List.cons.injEq] at e
    rw [tp_inj n m x y g.1 h.1 e.1, tp_injL n m xs ys g.2 h.2 e.2]
end
theorem datL_all {n : Nat} : ∀ {ds : List D}, (∀ d ∈ ds, dat n d = true) → datL n ds = true
  | [], _ => rfl
  | d :: ds, h => by rw [datL, h d List.mem_cons_self, datL_all fun a ha => h a (List.mem_cons_of_mem _ ha)]; rfl
theorem pget {α β : Type} {F : α → β → Prop} : ∀ {xs : List α} {ys : List β} {i : Nat} {y : β}, Paired F xs ys → ys[i]? = some y → ∃ x, xs[i]? = some x ∧ F x y
  | _, _, _, _, .nil, e => by simp at e
  | _, _, 0, _, .cons r _, e => by simp at e; subst e; exact ⟨_, rfl, r⟩
  | _, _, i + 1, y, .cons _ t, e => by
    obtain ⟨u, h1, h2⟩ := pget (i := i) (y := y) t (by simpa using e)
    exact ⟨u, by simpa using h1, h2⟩
theorem dmax_mem : ∀ (ds : List D) (d : D), dmax d ds ∈ d :: ds
  | [], d => by simp [dmax]
  | y :: ds, d => by
    show ds.foldl (fun a y => if dlt a y then y else a) (if dlt d y = true then y else d) ∈ d :: y :: ds
    have := dmax_mem ds (if dlt d y = true then y else d)
    unfold dmax at this
    rcases List.mem_cons.mp this with e | e
    · rw [e]; split <;> simp
    · exact List.mem_cons_of_mem _ (List.mem_cons_of_mem _ e)
theorem dmax_tp : ∀ (ds : List D) (d : D), (∀ a ∈ d :: ds, dat 12 a = true) → (∀ a ∈ d :: ds, ∀ b ∈ d :: ds, alk a b = true) → PySem.W.maxD (tp d) (tpL ds) = tp (dmax d ds)
  | [], d, _, _ => rfl
  | y :: ds, d, hd, ha => by
    have e : PySem.W.dataLt (tp d) (tp y) = dlt d y := dlt_tp d y 12 12 (dat_dn 12 _ (hd _ (by simp))) (dat_dn 12 _ (hd _ (by simp))) (ha _ (by simp) _ (by simp))
    show PySem.W.maxD (if PySem.W.dataLt (tp d) (tp y) then tp y else tp d) (tpL ds) = tp (dmax (if dlt d y then y else d) ds)
    rw [e]
    have sub : ∀ a ∈ (if dlt d y = true then y else d) :: ds, a ∈ d :: y :: ds := fun a h => by
      rcases List.mem_cons.mp h with h | h
      · rw [h]; split <;> simp
      · exact List.mem_cons_of_mem _ (List.mem_cons_of_mem _ h)
    have := dmax_tp ds (if dlt d y = true then y else d) (fun a h => hd a (sub a h)) (fun a h b h' => ha a (sub a h) b (sub b h'))
    rw [← this]
    split <;> rfl
theorem dmin_mem : ∀ (ds : List D) (d : D), dmin d ds ∈ d :: ds
  | [], d => by simp [dmin]
  | y :: ds, d => by
    show ds.foldl (fun a y => if dlt y a then y else a) (if dlt y d = true then y else d) ∈ d :: y :: ds
    have := dmin_mem ds (if dlt y d = true then y else d)
    unfold dmin at this
    rcases List.mem_cons.mp this with e | e
    · rw [e]; split <;> simp
    · exact List.mem_cons_of_mem _ (List.mem_cons_of_mem _ e)
theorem dmin_tp : ∀ (ds : List D) (d : D), (∀ a ∈ d :: ds, dat 12 a = true) → (∀ a ∈ d :: ds, ∀ b ∈ d :: ds, alk a b = true) → PySem.W.minD (tp d) (tpL ds) = tp (dmin d ds)
  | [], d, _, _ => rfl
  | y :: ds, d, hd, ha => by
    have e : PySem.W.dataLt (tp y) (tp d) = dlt y d := dlt_tp y d 12 12 (dat_dn 12 _ (hd _ (by simp))) (dat_dn 12 _ (hd _ (by simp))) (ha _ (by simp) _ (by simp))
    show PySem.W.minD (if PySem.W.dataLt (tp y) (tp d) then tp y else tp d) (tpL ds) = tp (dmin (if dlt y d then y else d) ds)
    rw [e]
    have sub : ∀ a ∈ (if dlt y d = true then y else d) :: ds, a ∈ d :: y :: ds := fun a h => by
      rcases List.mem_cons.mp h with h | h
      · rw [h]; split <;> simp
      · exact List.mem_cons_of_mem _ (List.mem_cons_of_mem _ h)
    have := dmin_tp ds (if dlt y d = true then y else d) (fun a h => hd a (sub a h)) (fun a h b h' => ha a (sub a h) b (sub b h'))
    rw [← this]
    split <;> rfl
section
variable {X : Cx}
theorem gb_max (hc : X.calm = true) (hu : X.A.units + 100 < cLine) : GB X (.builtin "max") bMax := fun pins s σ H vs us Q I r ⟨ds, h, Q0, rL, A, q, k⟩ => by
  unfold bMax at q
  split at q
  · rename_i i j
    cases rL with
    | cons r1 rL =>
    cases rL with
    | cons r2 rL =>
    cases rL; cases r1; cases r2
    exact call_max2 hc pins s σ H _ us Q I r ⟨i, j, rfl, k _ _ _ _ q (Kp.refl _) (.int _) A⟩
  · rename_i x _
    obtain ⟨v, rfl, rv⟩ := rvL_one rL
    split at q
    · rename_i d ds e1
      obtain ⟨⟨ha, hd⟩, q⟩ := q
      obtain ⟨a, vs, rfl, hq, rL'⟩ := lsOf_some A rv e1
      obtain ⟨u, rfl, ru⟩ := vals1 r
      cases ru
      obtain ⟨its, rits, hpl, hz⟩ := I.list hq
      have hdt : datL 12 (d :: ds) = true := datL_all fun a h => (hd a h).1
      have hr : ReadsAll s.heap its (tpL (d :: ds)) [] := reads0_list (fun d v u e r r2 => reads0 I 12 d v u e r r2) hdt rL' rits
      have hdn : ∀ a ∈ d :: ds, Dn 12 a := fun a h => dat_dn 12 _ (hd a h).1
      have hdep : PyData.depthAll (tpL (d :: ds)) ≤ 12 := by
        have := (Dn.tup hdn).tp.1
        simp only [tp, PyData.depth] at this
        omega
      refine PySem.W.max_list_data (x := tp d) (xs := tpL ds) (as := []) (I.ok.hd hc) hpl.isList (by rw [List.toList_toArray]; exact hr) ⟨?_, ?_⟩ (by rw [show tp d :: tpL ds = tpL (d :: ds) from rfl]; omega) fun i v h' tk bs hv hR kp => ?_
      · intro x hx y hy
        rw [show tp d :: tpL ds = tpL (d :: ds) from rfl, tpL_map] at hx hy
        obtain ⟨p, hp, rfl⟩ := List.mem_map.mp hx
        obtain ⟨p', hp', rfl⟩ := List.mem_map.mp hy
        exact alike_tp _ _ 12 12 (hdn _ hp) (hdn _ hp') (ha _ hp _ hp')
      · intro x hx
        rw [show tp d :: tpL ds = tpL (d :: ds) from rfl, tpL_map] at hx
        obtain ⟨p, hp, rfl⟩ := List.mem_map.mp hx
        exact tp_none (hdn _ hp) (hd _ hp).2
      · have hv' : its[i]? = some v := by simpa using hv
        obtain ⟨v0, e2, r2⟩ := pget rits hv'
        obtain ⟨y, e3, r3⟩ := rL'.get' e2
        have hym := List.mem_of_getElem? e3
        have hRy : Reads h' v (tp y) [] := PyProof.Rows.Reads.keeps kp (reads0 I 12 y _ _ (hd _ hym).1 r3 r2)
        rw [dmax_tp ds d (fun a h => (hd a h).1) ha] at hR
        have hmm := dmax_mem ds d
        have e4 : tp y = tp (dmax d ds) := by
          rw [← PySem.SeqAt.readOf_plain (hdn _ hym).tp.2 hRy, ← PySem.SeqAt.readOf_plain (hdn _ hmm).tp.2 hR]
        have e5 := tp_inj 12 12 _ _ (hd _ hym).1 (hd _ hmm).1 e4
        rw [← e5] at q
        exact ⟨v0, H, I.kept (t' := tk) kp, r2, k _ _ _ _ q (Kp.refl _) r3 A⟩
    · exact q.elim
  · exact q.elim
theorem gb_min (hc : X.calm = true) (hu : X.A.units + 100 < cLine) : GB X (.builtin "min") bMin := fun pins s σ H vs us Q I r ⟨ds, h, Q0, rL, A, q, k⟩ => by
  unfold bMin at q
  split at q
  · rename_i i j
    cases rL with
    | cons r1 rL =>
    cases rL with
    | cons r2 rL =>
    cases rL; cases r1; cases r2
    exact call_min2 hc pins s σ H _ us Q I r ⟨i, j, rfl, k _ _ _ _ q (Kp.refl _) (.int _) A⟩
  · rename_i x _
    obtain ⟨v, rfl, rv⟩ := rvL_one rL
    split at q
    · rename_i d ds e1
      obtain ⟨⟨ha, hd⟩, q⟩ := q
      obtain ⟨a, vs, rfl, hq, rL'⟩ := lsOf_some A rv e1
      obtain ⟨u, rfl, ru⟩ := vals1 r
      cases ru
      obtain ⟨its, rits, hpl, hz⟩ := I.list hq
      have hdt : datL 12 (d :: ds) = true := datL_all fun a h => (hd a h).1
      have hr : ReadsAll s.heap its (tpL (d :: ds)) [] := reads0_list (fun d v u e r r2 => reads0 I 12 d v u e r r2) hdt rL' rits
      have hdn : ∀ a ∈ d :: ds, Dn 12 a := fun a h => dat_dn 12 _ (hd a h).1
      have hdep : PyData.depthAll (tpL (d :: ds)) ≤ 12 := by
        have := (Dn.tup hdn).tp.1
        simp only [tp, PyData.depth] at this
        omega
      refine PySem.W.min_list_data (x := tp d) (xs := tpL ds) (as := []) (I.ok.hd hc) hpl.isList (by rw [List.toList_toArray]; exact hr) ⟨?_, ?_⟩ (by rw [show tp d :: tpL ds = tpL (d :: ds) from rfl]; omega) fun i v h' tk bs hv hR kp => ?_
      · intro x hx y hy
        rw [show tp d :: tpL ds = tpL (d :: ds) from rfl, tpL_map] at hx hy
        obtain ⟨p, hp, rfl⟩ := List.mem_map.mp hx
        obtain ⟨p', hp', rfl⟩ := List.mem_map.mp hy
        exact alike_tp _ _ 12 12 (hdn _ hp) (hdn _ hp') (ha _ hp _ hp')
      · intro x hx
        rw [show tp d :: tpL ds = tpL (d :: ds) from rfl, tpL_map] at hx
        obtain ⟨p, hp, rfl⟩ := List.mem_map.mp hx
        exact tp_none (hdn _ hp) (hd _ hp).2
      · have hv' : its[i]? = some v := by simpa using hv
        obtain ⟨v0, e2, r2⟩ := pget rits hv'
        obtain ⟨y, e3, r3⟩ := rL'.get' e2
        have hym := List.mem_of_getElem? e3
        have hRy : Reads h' v (tp y) [] := PyProof.Rows.Reads.keeps kp (reads0 I 12 y _ _ (hd _ hym).1 r3 r2)
        rw [dmin_tp ds d (fun a h => (hd a h).1) ha] at hR
        have hmm := dmin_mem ds d
        have e4 : tp y = tp (dmin d ds) := by
          rw [← PySem.SeqAt.readOf_plain (hdn _ hym).tp.2 hRy, ← PySem.SeqAt.readOf_plain (hdn _ hmm).tp.2 hR]
        have e5 := tp_inj 12 12 _ _ (hd _ hym).1 (hd _ hmm).1 e4
        rw [← e5] at q
        exact ⟨v0, H, I.kept (t' := tk) kp, r2, k _ _ _ _ q (Kp.refl _) r3 A⟩
    · exact q.elim
  · exact q.elim
theorem ep_vals {K : PySem.W.Frag} {H : Hp} : ∀ {kvs : List (D × D)} {L : List GR.RE}, Paired (EP K H) kvs L → ∃ vs, RvL K H (kvs.map (·.1)) vs ∧ L2.Vals vs (L.map fun x => x.2.1)
  | _, _, .nil => ⟨[], .nil, .nil⟩
  | _, _, .cons r t => by
    obtain ⟨vs, h1, h2⟩ := ep_vals t
    obtain ⟨v, a1, a2⟩ := r.2.2.1
    exact ⟨v :: vs, .cons a1 h1, .cons a2 h2⟩
theorem gb_list (hc : X.calm = true) : GB X (.type "list") bList := fun pins s σ H vs us Q I r ⟨ds, h, Q0, rL, A, q, k⟩ => by
  unfold bList at q
  split at q
  · rename_i x
    obtain ⟨v, rfl, rv⟩ := rvL_one rL
    split at q
    · rename_i ds e1
      obtain ⟨a, vs, rfl, hq, rL'⟩ := sqOf_some A rv e1
      exact call_list_of pins s σ H _ us Q I r ⟨a, vs, rfl, hq, fun l n => newL_ok q A rL' n (Kp.refl _) k⟩
    · split at q
      · rename_i kvs e1
        rcases dcOf_some e1 with ⟨a, rfl, ea⟩ | ⟨ks, ws, rfl⟩
        · cases rv
          obtain ⟨u, rfl, ru⟩ := vals1 r
          cases ru
          obtain ⟨L, es, ep, hR, hP, hz, hne, hnd, e4⟩ := dic_raw I A ea
          obtain ⟨o, ho, hx, hd⟩ := hR.dic
          have hlen : L.length = kvs.length := by
            have := congrArg List.length (ep_keys hP)
            simpa using this
          have hes : es.size = L.length := by rw [← Array.length_toList, hR.ents, List.length_map]
          obtain ⟨vs, h1, h2⟩ := ep_vals hP
          refine PySem.W.kdl_call (kdl_raw (prog := X.prog) (w := X.w) hne hx hd) (I.ok.hd hc) ho (by omega) fun h' tk acc' c' hkeep hS hacc => ?_
          have hl1 := h1.length
          have eacc : acc'.toList = L.map fun x => x.2.1 := by
            apply List.ext_getElem?
            intro j
            by_cases hj : j < acc'.size
            · obtain ⟨en, g1, g2⟩ := hacc.2 j acc'[j] (Array.getElem?_eq_getElem hj)
              rw [hR.at_ j] at g1
              rw [Array.getElem?_toList, Array.getElem?_eq_getElem hj, List.getElem?_map]
              cases e5 : L[j]? with
              | none => rw [e5] at g1; cases g1
              | some x => rw [e5] at g1; cases g1; rw [g2]; rfl
            · have hn := hacc.1
              rw [List.getElem?_eq_none (by simpa using hj), List.getElem?_eq_none (by rw [List.length_map]; omega)]
          refine ⟨.ref s.heap.objs.size, upd H s.heap.objs.size (.lst vs), I.laid (t' := tk) hkeep (Nat.le_refl _) (show ObjOk X.prog X.w _ _ _ (.lst vs) from ⟨?_, acc'.toList, c', by rw [eacc]; exact h2, ?_⟩), rfl, newL_ok q A h1 (I.hok.fresh (Nat.le_refl _)) (Kp.refl _) k⟩
          · rw [← hl1, List.length_map]; exact hz
          · rw [Array.toArray_toList]; exact hS
        · cases rv
      · exact q.elim
  · exact q.elim
end
end G
end

section
set_option Elab.async false
set_option linter.all false
set_option maxRecDepth 100000
set_option maxHeartbeats 4000000
/-! G layer, soundness 14: list.index. -/
namespace G
open PySem PySem.Spec PyProof.Rows L2
variable [Tb]
theorem idxOf_at {α : Type} [DecidableEq α] {x : α} : ∀ {l : List α} {j : Nat}, l[j]? = some x → (∀ i, i < j → l[i]? ≠ some x) → l.idxOf x = j
  | [], _, h, _ => by simp at h
  | a :: l, 0, h, _ => by simp at h; subst h; simp
  | a :: l, j + 1, h, hn => by
    have e : ¬ a = x := fun z => hn 0 (by omega) (by simp [z])
    have ih := idxOf_at (l := l) (j := j) (by simpa using h) fun i hi z => hn (i + 1) (by omega) (by simpa using z)
    rw [List.idxOf_cons, ih]
    have : (a == x) = false := by simpa using e
    rw [this]; rfl
section
variable {X : Cx} {pins : List (Addr × Obj)} {σ : L2.St} {H : Hp} {s : Shared}
theorem nested_all (I : L2.Inv X pins σ H s) : ∀ {ds : List D} {vs : List V} {us : List Value}, (∀ d ∈ ds, pl 8 d = true) → RvL X.K H ds vs → Vals vs us → NestedAll s.heap (ds.map nk) us ∧ NestedKey.depthAll (ds.map nk) ≤ 8
  | [], _, _, _, r, r2 => by cases r; cases r2; exact ⟨.nil, by simp [NestedKey.depthAll]⟩
  | d :: ds, _, _, e, r, r2 => by
    cases r with
    | cons ra rb =>
      cases r2 with
      | cons sa sb =>
        obtain ⟨h1, h2⟩ := nested_of I 8 d _ _ (e d List.mem_cons_self) ra sa
        obtain ⟨h3, h4⟩ := nested_all I (fun x hx => e x (List.mem_cons_of_mem _ hx)) rb sb
        exact ⟨.cons h1 h3, by simp only [List.map_cons, NestedKey.depthAll]; omega⟩
theorem gm_index (hu : X.A.units + 100 < cLine) : GM X "list.index" mIndex := fun pins s σ H x vs v us Q I rx rv ⟨d, ds, h, Q0, rd, rL, A, q, k⟩ => by
  unfold mIndex at q
  split at q
  · rename_i y
    obtain ⟨yv, rfl, ry⟩ := rvL_one rL
    obtain ⟨u, rfl, ru⟩ := vals1 rv
    split at q
    · rename_i xs e1
      obtain ⟨hpl, hpy, j, hj, hn, q⟩ := q
      obtain ⟨a, ws, rfl, hq, rL'⟩ := lsOf_some A rd e1
      cases rx
      obtain ⟨its, rits, hpls, hz⟩ := I.list hq
      obtain ⟨n1, n2⟩ := nested_all I hpl rL' rits
      obtain ⟨n3, n4⟩ := nested_of I 8 y yv u hpy ry ru
      have hl := rL'.length
      have hjk : (xs.map nk)[j]? = some (nk y) := by rw [List.getElem?_map, hj]; rfl
      have hidx : (xs.map nk).idxOf (nk y) = j := idxOf_at hjk fun i hi z => by
        rw [List.getElem?_map] at z
        cases e2 : xs[i]? with
        | none => rw [e2] at z; cases z
        | some d' =>
          rw [e2] at z
          have z' : nk d' = nk y := Option.some.inj z
          have := nk_inj 8 8 d' y (hpl d' (List.mem_of_getElem? e2)) hpy z'
          subst this
          exact hn i hi e2
      refine PySem.SeqAt.call_list_index (ks := xs.map nk) (k := nk y) hpls.isList (PySem.SeqAt.ItemsEq.nested n1 n3 (by rw [Around.in1_units]; omega)) (by rw [List.length_map, hl]; exact hz) (List.mem_of_getElem? hjk) ?_
      rw [hidx]
      exact ⟨.int j, H, I.tok _, ⟨_, rfl⟩, k _ _ _ _ q (Kp.refl _) (.int _) A⟩
    · exact q.elim
  · exact q.elim
end
end G
end

section
set_option Elab.async false
set_option linter.all false
set_option maxRecDepth 100000
set_option maxHeartbeats 4000000
/-! G layer, soundness 15: list(reversed(a list)). -/
namespace G
open PySem PySem.Spec PyProof.Rows L2 RT
section
variable {prog : Program} {w : World} {A : Around} {E : Value → Shared → Prop} {s : Shared}
theorem ext_rev {it l S : Addr} {items : Array Value} {c : Nat} {R : Result → Shared → Prop} (hh : A.handled = none) (hit : s.heap.IsRevIter it l ((items.size : Int) - 1)) (hl : s.heap.IsList l items) (n1 : l ≠ it) (n2 : S ≠ it) (n3 : S ≠ l) (hz : items.size ≤ sizeLine)
    (hS : s.heap.get? S = some { cls := .type "list", data := .seq #[] c })
    (hR : ∀ h' tk acc c', (∀ b o, b ≠ S → b ≠ it → s.heap.get? b = some o → h'.get? b = some o) → h'.get? S = some { cls := .type "list", dict := none, data := .seq acc c', slots := #[] } → ItemsOf (fun i v => items[items.size - 1 - i]? = some v) acc items.size → R (.ok (.ret .none)) { s with heap := h', toks := tk }) :
    wpAny (model prog w) A.in1 (Builtin.List.listExtendWith (.ref S) (.ref it) .none) (fun fin s' => match fin with | .done f => R (.ok f) s' | .again c' => c'.quiet = true ∧ codeAny (model prog w) A c' R s') (fun e s' => R (.error e) s') s := by
  have tI : s.TypeIs (.ref it) "list_reverseiterator" := hit.typeIs
  have same : Builtin.List.listSameRef (.ref S) (.ref it) = false := by simp [Builtin.List.listSameRef, n2]
  have goes := (Walks.listRev (prog := prog) (w := w) (A := A.in1) hh it l n1 items).toS
  unfold Builtin.List.listExtendWith
  refine wpAny_bind (wpAny_typeOf tI ?_)
  rw [if_neg (by rw [same]; decide)]
  refine wpAny_bind (wpAny_pyIter_revIter hit (wpAny_bind (wpAny_holding ?_)))
  unfold Builtin.List.listLengthHint
  refine wpAny_bind (wpAny_specialOf tI nolen_lri ?_)
  show wpAny _ A.in1 (specialOf (Value.ref it) (Str.ofString "__length_hint__") >>= _) _ _ s
  refine wpAny_bind (wpAny_specialOf tI hint_lri ?_)
  generalize hq : ("list_reverseiterator.__length_hint__" : String) = q0
  wp_delta
  rw [show splitId q0 = some ("list_reverseiterator", "__length_hint__") from by rw [← hq]; decide +kernel]
  rw [← hq]
  refine wpAny_bind (wpAny_isInstance (b := true) tI (by rw [isSubtype_type]; kernel_rfl) (wpAny_pure ?_))
  rw [if_neg (by decide)]
  have st0 : (items.size : Int) - 1 - ((0 : Nat) : Int) = (items.size : Int) - 1 := by omega
  refine wpAny_pure ⟨plainId_quiet F.plain_extend_loop _, codeAny_extend_loopS goes hz S (by simp [n2, n3]) _ items.size 0 _ _ _ rfl (Nat.zero_le _) ⟨Nat.zero_le _, by rw [st0]; exact hit, hl⟩ hS (ItemsOf.nil _) fun s' acc c' hm e1 e2 => ?_⟩
  rw [Moved.eq_with hm]
  exact hR _ _ acc c' (fun b o h1 h2 e => hm.heap b o (by simp [h1, h2]) e) e1 e2
theorem list_of_rev {it l : Addr} {items : Array Value} {Q : Value → Shared → Prop} (hh : A.handled = none) (hit : s.heap.IsRevIter it l ((items.size : Int) - 1)) (hl : s.heap.IsList l items) (n1 : l ≠ it) (hz : items.size ≤ sizeLine)
    (hQ : ∀ h' tk acc c', (∀ b o, b ≠ it → s.heap.get? b = some o → h'.get? b = some o) → h'.get? s.heap.objs.size = some { cls := .type "list", dict := none, data := .seq acc c', slots := #[] } → ItemsOf (fun i v => items[items.size - 1 - i]? = some v) acc items.size → Q (.ref s.heap.objs.size) { s with heap := h', toks := tk }) :
    wpAny (model prog w) A (call (.type "list") [.ref it]) Q E s := by
  obtain ⟨oi, hoi, _⟩ := id hit
  obtain ⟨ol, hol, _⟩ := id hl
  have m2 : s.heap.objs.size ≠ it := Nat.ne_of_gt (Heap.lt_size hoi)
  have m3 : s.heap.objs.size ≠ l := Nat.ne_of_gt (Heap.lt_size hol)
  refine callType_codes (Q₁ := fun v s₁ => v = .ref s.heap.objs.size ∧ s₁ = { s with heap := s.heap.push { cls := .type "list", data := .seq #[] } }) F.called_list (F.typeCall_list_1 _) F.entry_list_init (code_list_new _ ⟨rfl, rfl⟩) ?_
  rintro _ _ ⟨rfl, rfl⟩
  have at0 : (s.heap.push { cls := .type "list", data := .seq #[] }).get? s.heap.objs.size = some { cls := .type "list", data := .seq #[] } := Heap.get?_push_size _ rfl
  refine ⟨⟨_, at0, rfl⟩, F.args_list_init_2 _ _, ?_⟩
  show wpAny _ _ (Builtin.List.listItems (.ref s.heap.objs.size) >>= fun old => Builtin.List.listUpdate (.ref s.heap.objs.size) (fun _ => #[]) >>= fun _ => letGo old.toList.reverse >>= fun _ => Builtin.List.listExtendWith (.ref s.heap.objs.size) (.ref it) .none) _ _ _
  refine wpAny_bind (m := Builtin.List.listItems _) ?_
  unfold Builtin.List.listItems
  refine wpAny_bind (wpAny_seqItems at0 rfl (wpAny_pure ?_))
  refine wpAny_bind (m := updateSeq s.heap.objs.size (fun _ => #[])) (wpAny_updateSeq at0 rfl (wpAny_bind (wpAny_letGo ?_)))
  have keep : ∀ b o, b ≠ s.heap.objs.size → s.heap.get? b = some o → ((s.heap.push { cls := .type "list", data := .seq #[] }).update s.heap.objs.size (Obj.mapSeq (fun _ => (#[] : Array Value)))).get? b = some o := fun b o n e => (Heap.get?_update_other _ _ (Ne.symm n)).trans (Heap.get?_push_of_some _ e)
  refine ext_rev (A := A.in1) hh (hit.at fun o e => keep it o m2.symm e) (hl.at fun o e => keep l o m3.symm e) n1 m2 m3 hz (Heap.get?_update_self (Obj.mapSeq (fun _ => (#[] : Array Value))) at0 rfl) fun h' tk acc c' k1 k2 k3 => ⟨rfl, ?_⟩
  exact hQ h' tk acc c' (fun b o n e => k1 b o (Nat.ne_of_lt (Heap.lt_size e)) n (keep b o (Nat.ne_of_lt (Heap.lt_size e)) e)) k2 k3
end
variable [Tb]
section
variable {X : Cx}
/-- list(reversed(xs)) -/
theorem ge_listRev {e : Expr} {p p2 pos pos2 : Pos} {f : DE} (hc : X.calm = true) (hm : X.mg "list" = none) (hm2 : X.mg "reversed" = none) (he : GE X e f) (hg : Gl X "list" := by rfl) (hg2 : Gl X "reversed" := by rfl)
    (hs : starEach [e] X.env = (false, eval e X.env) :: starEach [] X.env := by rfl)
    (hs2 : starEach [.Call (.Name "reversed" p2) [e] [] pos2] X.env = (false, eval (.Call (.Name "reversed" p2) [e] [] pos2) X.env) :: starEach [] X.env := by rfl) :
    GE X (.Call (.Name "list" p) [.Call (.Name "reversed" p2) [e] [] pos2] [] pos) (d1 oRevSl f) := by
  refine ⟨fun pins s σ H Q I ⟨ρ, h, Q0, R, A, q, k⟩ => ?_⟩
  refine Call_ (ld_blt I hg hm boot_list (callWith_type1 (args_cons (Call_ (ld_blt I hg2 hm2 boot_reversed (callWith_type1 (args_cons (thn (he.run pins s σ H (fun v H' => ∃ d h', oRevSl d h' Q0 ∧ Kp H H' ∧ Rv X.K H' d v ∧ Abs X.K X.w h' H') I ⟨ρ, h, _, R, A, q, fun d h' v H' a1 a2 a3 a4 => ⟨d, h', a1, a2, a3, a4⟩⟩) fun u s1 ⟨v, H1, I1, r1, d, h1, q1, k1, rv, A1⟩ => args_nil ?_) hs) hs rfl))) hs2) hs2 rfl))
  unfold oRevSl at q1
  split at q1
  · rename_i ds e1
    obtain ⟨a, vs, rfl, hq, rL⟩ := lsOf_some A1 rv e1
    cases r1
    obtain ⟨its, rits, hpl, hz⟩ := I1.list hq
    have hil := hpl.isList
    refine call_reversed_list hil (args_nil ?_)
    have kk : ∀ b o, s1.heap.get? b = some o → (s1.heap.push (revObj a ((its.toArray.size : Int) - 1))).get? b = some o := fun b o e => Heap.get?_push_of_some _ e
    have I2 : L2.Inv X pins σ H1 { s1 with heap := s1.heap.push (revObj a ((its.toArray.size : Int) - 1)) } := I1.kept (t' := s1.toks) kk
    have fp := I1.fpOk (H' := H1) (b := s1.heap.objs.size) (Nat.le_refl _) (I1.hok.fresh (Nat.le_refl _))
    obtain ⟨ol, hol, _⟩ := id hil
    have hna : a ≠ s1.heap.objs.size := Nat.ne_of_lt (Heap.lt_size hol)
    have hn : its.toArray.size ≤ sizeLine := by rw [List.size_toArray, ← rits.length]; exact hz
    have hsz : (s1.heap.push (revObj a ((its.toArray.size : Int) - 1))).objs.size = s1.heap.objs.size + 1 := by rw [size_push']
    refine list_of_rev (s := { s1 with heap := s1.heap.push (revObj a ((its.toArray.size : Int) - 1)) }) (I1.ok.hd hc) ⟨_, Heap.get?_push_size _ rfl, rfl, rfl⟩ (hil.push _) hna hn fun h' tk acc c' hk hS hi => ?_
    have hfr : H1 (s1.heap.push (revObj a ((its.toArray.size : Int) - 1))).objs.size = none := I2.hok.fresh (Nat.le_refl _)
    have hrev : Vals vs.reverse acc.toList := vals_rev rits hi
    refine ⟨.ref (s1.heap.push (revObj a ((its.toArray.size : Int) - 1))).objs.size, upd H1 (s1.heap.push (revObj a ((its.toArray.size : Int) - 1))).objs.size (.lst vs.reverse), ?_, rfl, newL_ok q1 A1 (rvL_rev rL) hfr k1 k⟩
    refine I2.turnedNew (t' := tk) (ch := [s1.heap.objs.size]) (fun b o hb e => hk b o (by simpa using hb) e) (fun b hb => by simp at hb; rw [hb]; exact fp) (Nat.le_refl _) (show ObjOk X.prog X.w _ _ _ (.lst vs.reverse) from ⟨by rw [List.length_reverse]; exact hz, acc.toList, c', hrev, by rw [Array.toArray_toList]; exact hS⟩)
  · exact q1.elim
end
end G
end

section
set_option Elab.async false
set_option linter.all false
set_option maxRecDepth 100000
set_option maxHeartbeats 4000000
/-! G layer, soundness 16: reversed(range(..)). -/
namespace G
open PySem PySem.Spec PyProof.Rows L2 RT
theorem rgi_hint_meets (r : Addr) (a m c : Int) : Meets (Builtin.«range_iterator.__length_hint__» ⟨[.ref r], []⟩) (fun _ R s => IsRangeIter s.heap r a m c ∧ ∀ u tk, R (.ok (.ret (.int m u))) { s with toks := tk }) :=
  .of_wp fun prog w A R s h => by obtain ⟨hp, g, d, tk, os⟩ := s; obtain ⟨hl, h⟩ := h; unfold IsRangeIter at hl; wp_walk; exact ⟨_, rfl, h _ _⟩
section
variable {prog : Program} {w : World} {A : Around} {E : Value → Shared → Prop} {s : Shared}
theorem ext_rgi {it S : Addr} {a c : Int} {m n0 : Nat} {R : Result → Shared → Prop} (hh : A.handled = none) (hit : IsRangeIter s.heap it a (m : Int) c) (n2 : S ≠ it) (hz : m ≤ 2 ^ 24)
    (hS : s.heap.get? S = some { cls := .type "list", data := .seq #[] n0 })
    (hR : ∀ h' tk acc c', (∀ b o, b ≠ S → b ≠ it → s.heap.get? b = some o → h'.get? b = some o) → h'.get? S = some { cls := .type "list", dict := none, data := .seq acc c', slots := #[] } → ItemsOf (fun i v => ∃ t, v = .int (a + (i : Nat) * c) t) acc m → R (.ok (.ret .none)) { s with heap := h', toks := tk }) :
    wpAny (model prog w) A.in1 (Builtin.List.listExtendWith (.ref S) (.ref it) .none) (fun fin s' => match fin with | .done f => R (.ok f) s' | .again c' => c'.quiet = true ∧ codeAny (model prog w) A c' R s') (fun e s' => R (.error e) s') s := by
  have tI : s.TypeIs (.ref it) "range_iterator" := ⟨_, hit, rfl⟩
  have same : Builtin.List.listSameRef (.ref S) (.ref it) = false := by simp [Builtin.List.listSameRef, n2]
  have W := (Walks.range (prog := prog) (w := w) (A := A.in1) hh it a c m).toS
  unfold Builtin.List.listExtendWith
  refine wpAny_bind (wpAny_typeOf tI ?_)
  rw [if_neg (by rw [same]; decide)]
  refine wpAny_bind (wpAny_pyIter_rangeiter hit (wpAny_bind (wpAny_holding ?_)))
  unfold Builtin.List.listLengthHint
  refine wpAny_bind (wpAny_specialOf tI F.nolen_ra ?_)
  show wpAny _ A.in1 (specialOf (Value.ref it) (Str.ofString "__length_hint__") >>= _) _ _ s
  refine wpAny_bind (wpAny_specialOf tI F.hint_ra ?_)
  generalize hq : ("range_iterator.__length_hint__" : String) = q0
  wp_delta
  rw [show splitId q0 = some ("range_iterator", "__length_hint__") from by rw [← hq]; decide +kernel]
  rw [← hq]
  refine wpAny_bind (wpAny_isInstance (b := true) tI (by rw [isSubtype_type]; kernel_rfl) ?_)
  show wpAny _ A.in1 (call (.builtin "range_iterator.__length_hint__") [.ref it] >>= _) _ _ _
  refine wpAny_bind (call_meets F.slot_range_iterator_length_hint tI F.entry_range_iterator_length_hint (F.args_range_iterator_length_hint_1 _) (rgi_hint_meets it a m c) ⟨hit, fun u tk => ?_⟩)
  have hk : Builtin.List.listTooLong (Int.toNat (m : Int)) = false := by simp [Builtin.List.listTooLong, sizeLine]; omega
  have key : ∀ (h : Heap) (c₁ tk : Nat), IsRangeIter h it (a + ((0 : Nat) : Int) * c) ((m : Int) - ((0 : Nat) : Int)) c → (∀ b o, b ≠ S → s.heap.get? b = some o → h.get? b = some o) →
      h.get? S = some { cls := .type "list", data := .seq #[] c₁ } → codeAny (model prog w) A (.builtin "list.extend.loop" ⟨[.ref S, .ref it, .none], []⟩) R { s with heap := h, toks := tk } := by
    intro h c₁ tk hit hk hS₁
    refine codeAny_extend_loopS W (by rw [sizeLine_eq]; omega) S (by simp [n2]) .none m 0 _ #[] c₁ rfl (Nat.zero_le _) hit hS₁ (ItemsOf.nil _) fun s' acc' c' hm hS' hacc => ?_
    rw [Moved.eq_with hm]
    exact hR s'.heap s'.toks acc' c' (fun b o h1 h2 e => hm.heap b o (by simp [h1, h2]) (hk b o h1 e)) hS' hacc
  have st0 : IsRangeIter s.heap it (a + ((0 : Nat) : Int) * c) ((m : Int) - ((0 : Nat) : Int)) c := by simpa using hit
  refine wpAny_bind (m := asInt? (.int (m : Int) u)) (wpAny_pure ?_)
  dsimp only
  rw [if_neg (by rw [hk]; decide)]
  refine wpAny_pure ?_
  rw [if_neg (by decide)]
  exact wpAny_pure ⟨plainId_quiet F.plain_extend_loop _, key _ _ _ st0 (fun _ _ _ e => e) hS⟩
theorem list_of_rgi {it : Addr} {a c : Int} {m : Nat} {Q : Value → Shared → Prop} (hh : A.handled = none) (hit : IsRangeIter s.heap it a (m : Int) c) (hz : m ≤ 2 ^ 24)
    (hQ : ∀ h' tk acc c', (∀ b o, b ≠ it → s.heap.get? b = some o → h'.get? b = some o) → h'.get? s.heap.objs.size = some { cls := .type "list", dict := none, data := .seq acc c', slots := #[] } → ItemsOf (fun i v => ∃ t, v = .int (a + (i : Nat) * c) t) acc m → Q (.ref s.heap.objs.size) { s with heap := h', toks := tk }) :
    wpAny (model prog w) A (call (.type "list") [.ref it]) Q E s := by
  have m2 : s.heap.objs.size ≠ it := Nat.ne_of_gt (Heap.lt_size hit)
  refine callType_codes (Q₁ := fun v s₁ => v = .ref s.heap.objs.size ∧ s₁ = { s with heap := s.heap.push { cls := .type "list", data := .seq #[] } }) F.called_list (F.typeCall_list_1 _) F.entry_list_init (code_list_new _ ⟨rfl, rfl⟩) ?_
  rintro _ _ ⟨rfl, rfl⟩
  have at0 : (s.heap.push { cls := .type "list", data := .seq #[] }).get? s.heap.objs.size = some { cls := .type "list", data := .seq #[] } := Heap.get?_push_size _ rfl
  refine ⟨⟨_, at0, rfl⟩, F.args_list_init_2 _ _, ?_⟩
  show wpAny _ _ (Builtin.List.listItems (.ref s.heap.objs.size) >>= fun old => Builtin.List.listUpdate (.ref s.heap.objs.size) (fun _ => #[]) >>= fun _ => letGo old.toList.reverse >>= fun _ => Builtin.List.listExtendWith (.ref s.heap.objs.size) (.ref it) .none) _ _ _
  refine wpAny_bind (m := Builtin.List.listItems _) ?_
  unfold Builtin.List.listItems
  refine wpAny_bind (wpAny_seqItems at0 rfl (wpAny_pure ?_))
  refine wpAny_bind (m := updateSeq s.heap.objs.size (fun _ => #[])) (wpAny_updateSeq at0 rfl (wpAny_bind (wpAny_letGo ?_)))
  have keep : ∀ b o, b ≠ s.heap.objs.size → s.heap.get? b = some o → ((s.heap.push { cls := .type "list", data := .seq #[] }).update s.heap.objs.size (Obj.mapSeq (fun _ => (#[] : Array Value)))).get? b = some o := fun b o n e => (Heap.get?_update_other _ _ (Ne.symm n)).trans (Heap.get?_push_of_some _ e)
  refine ext_rgi (A := A.in1) (a := a) (c := c) (m := m) hh (keep it _ m2.symm hit) m2 hz (Heap.get?_update_self (Obj.mapSeq (fun _ => (#[] : Array Value))) at0 rfl) fun h' tk acc c' k1 k2 k3 => ⟨rfl, ?_⟩
  exact hQ h' tk acc c' (fun b o n e => k1 b o (Nat.ne_of_lt (Heap.lt_size e)) n (keep b o (Nat.ne_of_lt (Heap.lt_size e)) e)) k2 k3
end
theorem rng_rev_get {m i : Nat} (h : i < m) : (rng 0 m).reverse[i]? = some (.int (((m : Int) - 1) + (i : Int) * (-1))) := by
  have hl : (rng 0 m).length = m := by simp [rng]
  rw [List.getElem?_reverse (by rw [hl]; exact h), hl]
  simp [rng, show m - 1 - i < m by omega]
  omega
theorem rng_rev_len (m : Nat) : (rng 0 m).reverse.length = m := by simp [rng]
variable [Tb]
theorem js_rrng {K : PySem.W.Frag} {w : World} {H : Hp} {m : Nat} {lo : Int} (hlo : lo = (m : Int) - 1) : JS K w H (Itc lo (-1) m) (srcV (rng 0 m).reverse) := fun i h H1 k A ok => by
  refine ⟨fun d e => ?_, fun z => by rw [show (srcV (rng 0 m).reverse).ds = (rng 0 m).reverse from rfl, rng_rev_len] at z; exact z⟩
  have hi : i < m := by
    have := (List.getElem?_eq_some_iff.mp e).1
    rw [show (srcV (rng 0 m).reverse).ds = (rng 0 m).reverse from rfl, rng_rev_len] at this; exact this
  have ed : some (D.int (((m : Int) - 1) + (i : Int) * (-1))) = some d := by
    rw [← e]; exact (rng_rev_get hi).symm
  cases ed
  exact ⟨hi, fun x H' ⟨e1, e2⟩ => by subst e1; subst e2; subst hlo; exact ⟨Kp.refl _, A, .int _⟩⟩
section
variable {X : Cx} {a tg : Expr}
theorem rvL_rrng {K : PySem.W.Frag} {H : Hp} (n : Nat) : RvL K H (rng 0 n).reverse (((List.range n).map fun i => V.int (0 + (i : Nat))).reverse) := by
  refine rvL_rev ?_
  unfold rng
  induction (List.range n) with
  | nil => exact .nil
  | cons b r ih => exact .cons (.int _) ih
theorem vals_items {us : List Value} {vs : List V} (hl : vs.length = us.length) (h : ∀ (i : Nat) (u : Value), us[i]? = some u → ∃ v : V, vs[i]? = some v ∧ RelV v u) : Vals vs us := by
  induction us generalizing vs with
  | nil =>
    cases vs with
    | nil => exact .nil
    | cons _ _ => simp at hl
  | cons u us ih =>
    cases vs with
    | nil => simp at hl
    | cons v vs =>
      obtain ⟨v', e, r⟩ := h 0 u rfl
      simp at e; subst e
      exact .cons r (ih (by simpa using hl) fun i u' hu => by simpa using h (i + 1) u' (by simpa using hu))
/-- range(n) as an argument -/
def prA (ta : TA) : L2.St → Hp → (Int → Int → Hp → Prop) → Prop := fun σ H R => ta σ H fun vs H1 => ∃ n, vs = [.int n] ∧ R 0 n H1
theorem prg_A {ta : TA} {p2 pos2 : Pos} (hg : Gl X "range") (hm : X.mg "range" = none) (ha : PA X [a] ta) (hs : starEach [a] X.env = [(false, eval a X.env)] := by rfl) : PRg X (.Call (.Name "range" p2) [a] [] pos2) (prA ta) := by
  intro pins s σ H Q I h
  refine Call_ (ld_blt I hg hm boot_range (PyProof.Rows.callWith_type1 (thn (ha.run pos2 pins s σ H _ I h) fun us s1 ⟨vs, H1, I1, r1, q1⟩ => ?_) hs rfl))
  obtain ⟨n, e, q⟩ := q1
  subst e
  cases r1 with
  | cons r rr =>
    cases rr
    obtain ⟨t, rfl⟩ := r
    exact call_range_1 ⟨_, 0, n, _, _, _, H1, rfl, IsRange.new _ _ _ _ _ _ _, I1.kept fun b u e => Heap.get?_push_of_some _ e, q⟩
/-- for x in reversed(range(n)) -/
theorem gi_rrng {f : DA} {p p2 pos pos2 : Pos} (hm : X.mg "reversed" = none) (hm2 : X.mg "range" = none) (ha : GA X [a] f) (hg : Gl X "reversed" := by rfl) (hg2 : Gl X "range" := by rfl)
    (hs : starEach [a] X.env = [(false, eval a X.env)] := by rfl) (hs2 : starEach [.Call (.Name "range" p2) [a] [] pos2] X.env = (false, eval (.Call (.Name "range" p2) [a] [] pos2) X.env) :: starEach [] X.env := by rfl) :
    GI X tg (.Call (.Name "reversed" p) [.Call (.Name "range" p2) [a] [] pos2] [] pos) (iRevRng f) :=
  pi_imp (pi_revR hg hm (prg_A hg2 hm2 ha hs) hs2) fun σ H R ⟨ρ, h, R0, RR, A, q, k⟩ => ⟨ρ, h, _, RR, A, q, fun ds h1 vs H1 q1 k1 r1 A1 => by
    split at q1
    · rename_i j
      cases r1 with
      | cons ra rb =>
        cases rb; cases ra
        refine ⟨j, rfl, by omega, by omega, q1.1, q1.2.1, ?_⟩
        rw [show j - 0 = j by omega]
        exact k _ _ _ _ q1.2.2 k1 A1 (js_rrng (m := j.toNat) (by omega))
    · exact q1.elim⟩
/-- list(reversed(range(n))) -/
theorem ge_rrng {f : DA} {p p1 p2 pos pos1 pos2 : Pos} (hc : X.calm = true) (hm0 : X.mg "list" = none) (hm : X.mg "reversed" = none) (hm2 : X.mg "range" = none) (ha : GA X [a] f) (hg0 : Gl X "list" := by rfl) (hg : Gl X "reversed" := by rfl) (hg2 : Gl X "range" := by rfl)
    (hs : starEach [a] X.env = [(false, eval a X.env)] := by rfl) (hs2 : starEach [.Call (.Name "range" p2) [a] [] pos2] X.env = (false, eval (.Call (.Name "range" p2) [a] [] pos2) X.env) :: starEach [] X.env := by rfl)
    (hs3 : starEach [.Call (.Name "reversed" p1) [.Call (.Name "range" p2) [a] [] pos2] [] pos1] X.env = (false, eval (.Call (.Name "reversed" p1) [.Call (.Name "range" p2) [a] [] pos2] [] pos1) X.env) :: starEach [] X.env := by rfl) :
    GE X (.Call (.Name "list" p) [.Call (.Name "reversed" p1) [.Call (.Name "range" p2) [a] [] pos2] [] pos1] [] pos) (dRevRng f) := by
  refine ⟨fun pins s σ H Q I ⟨ρ, h, Q0, R, A, q, k⟩ => ?_⟩
  refine Call_ (ld_blt I hg0 hm0 boot_list (callWith_type1 (args_cons (Call_ (ld_blt I hg hm boot_reversed (callWith_type1 (args_cons (thn (prg_A hg2 hm2 ha hs pins s σ H (fun lo n H1 => lo = 0 ∧ (n : Int) ≤ SZ ∧ -(2 ^ 62) ≤ n ∧ ∃ h1, Abs X.K X.w h1 H1 ∧ Kp H H1 ∧ newL (rng 0 n.toNat).reverse h1 Q0) I ⟨ρ, h, _, R, A, q, fun d h1 v H1 q1 k1 r1 A1 => ?_⟩) fun x s1 hx => args_nil ?_) hs2) hs2 rfl))) hs3) hs3 rfl))
  · split at q1
    · rename_i j
      cases r1 with
      | cons ra rb =>
        cases rb; cases ra
        exact ⟨j, rfl, rfl, q1.2.1, q1.1, h1, A1, k1, q1.2.2⟩
    · exact q1.elim
  obtain ⟨r, lo, n, t, u, v, H1, rfl, hr, I1, rfl, hn1, hn2, h1, A1, k1, qn⟩ := hx
  have hsz : (SZ : Int) = 16777216 := rfl
  have hn : Builtin.Range.rangeSize 0 n 1 = ((n.toNat : Nat) : Int) := by
    have := rangeSize_nat 0 n
    rwa [show n - 0 = n by omega] at this
  refine call_reversed_range hr (smallRev_one (by omega) (by omega) (by omega) (by omega)) (args_nil ?_)
  have I2 : L2.Inv X pins σ H1 { s1 with heap := s1.heap.push (rngRevObj 0 n 1) } := I1.kept (t' := s1.toks) fun b o e => Heap.get?_push_of_some _ e
  have fp := I1.fpOk (H' := H1) (b := s1.heap.objs.size) (Nat.le_refl _) (I1.hok.fresh (Nat.le_refl _))
  refine list_of_rgi (s := { s1 with heap := s1.heap.push (rngRevObj 0 n 1) }) (it := s1.heap.objs.size) (a := (n.toNat : Int) - 1) (c := -1) (m := n.toNat) (I1.ok.hd hc) ?_ (by omega) fun h' tk acc c' hk hS hi => ?_
  · have e1 : (n.toNat : Int) - 1 = 0 + (Builtin.Range.rangeSize 0 n 1 - 1) * 1 := by rw [hn]; omega
    show IsRangeIter _ _ _ _ _
    rw [e1]
    exact (by rw [← hn]; exact Heap.get?_push_size _ rfl)
  have hfr : H1 (s1.heap.push (rngRevObj 0 n 1)).objs.size = none := I2.hok.fresh (Nat.le_refl _)
  have hlen : ((List.range n.toNat).map fun i => V.int (0 + (i : Nat))).reverse.length = n.toNat := by simp
  have hvs : Vals ((List.range n.toNat).map fun i => V.int (0 + (i : Nat))).reverse acc.toList := by
    refine vals_items (by rw [hlen, Array.length_toList]; exact hi.1.symm) fun i u hu => ?_
    have hlt : i < n.toNat := by
      have := (List.getElem?_eq_some_iff.mp hu).1
      rw [Array.length_toList, hi.1] at this; exact this
    obtain ⟨t', rfl⟩ := hi.2 i u (by rw [← hu, Array.getElem?_toList])
    refine ⟨.int ((n.toNat : Int) - 1 + (i : Int) * (-1)), ?_, ⟨t', rfl⟩⟩
    rw [List.getElem?_reverse (by simpa using hlt)]
    simp [show n.toNat - 1 - i < n.toNat by omega]
    omega
  refine ⟨.ref (s1.heap.push (rngRevObj 0 n 1)).objs.size, upd H1 (s1.heap.push (rngRevObj 0 n 1)).objs.size (.lst ((List.range n.toNat).map fun i => V.int (0 + (i : Nat))).reverse), ?_, rfl, newL_ok qn A1 (rvL_rrng _) hfr k1 k⟩
  refine I2.turnedNew (t' := tk) (ch := [s1.heap.objs.size]) (fun b o hb e => hk b o (by simpa using hb) e) (fun b hb => by simp at hb; rw [hb]; exact fp) (Nat.le_refl _) (show ObjOk X.prog X.w _ _ _ (.lst _) from ⟨by rw [hlen, sizeLine_eq]; omega, acc.toList, c', hvs, by rw [Array.toArray_toList]; exact hS⟩)
end
end G
end

section
set_option Elab.async false
set_option linter.all false
set_option maxRecDepth 100000
set_option maxHeartbeats 4000000
/-! G layer, soundness 17: ==, of plain data, of dicts with any plain keys, of tuples of two dicts. -/
namespace G
open PySem PySem.Spec PyProof.Rows L2
variable [Tb]
theorem dget_val {kvs : List (D × D)} {k v : D} (h : dget kvs k = some v) : ∃ p ∈ kvs, p.2 = v := by
  induction kvs with
  | nil => simp [dget] at h
  | cons p r ih =>
    obtain ⟨a, b⟩ := p
    rw [dget] at h
    split at h
    · cases h; exact ⟨_, List.mem_cons_self, rfl⟩
    · obtain ⟨q, h1, h2⟩ := ih h; exact ⟨q, List.mem_cons_of_mem _ h1, h2⟩
/-- the entries la, looked for among lb -/
inductive RHits (prog : Program) (w : World) (A : Around) (s : Shared) (lb : List GR.RE) : List GR.RE → Bool → Prop
  | nil : RHits prog w A s lb [] true
  | miss {x : GR.RE} {r : List GR.RE} : x.1 ∉ lb.map (·.1) → RHits prog w A s lb (x :: r) false
  | hit {x y : GR.RE} {r : List GR.RE} {e b : Bool} : y ∈ lb → y.1 = x.1 → SeqAt.EqIn prog w A s x.2.2 y.2.2 e → RHits prog w A s lb r b → RHits prog w A s lb (x :: r) (e && b)
theorem RHits.inv {prog : Program} {w : World} {A : Around} {s : Shared} {lb : List GR.RE} {x : GR.RE} {r : List GR.RE} {b : Bool} (h : RHits prog w A s lb (x :: r) b) :
    (x.1 ∉ lb.map (·.1) ∧ b = false) ∨ ∃ y e b', y ∈ lb ∧ y.1 = x.1 ∧ SeqAt.EqIn prog w A s x.2.2 y.2.2 e ∧ RHits prog w A s lb r b' ∧ b = (e && b') := by
  cases h with
  | miss hn => exact .inl ⟨hn, rfl⟩
  | hit hy he hq hr => exact .inr ⟨_, _, _, hy, he, hq, hr, rfl⟩
section
variable {prog : Program} {w : World} {A : Around} {E : Value → Shared → Prop} {s : Shared}
theorem rw_pairs {nm : String} {a b : PySem.Addr} {la lb : List GR.RE} {es es' : Array DictEntry} {ep ep' : Nat} {r : Bool} {Q : Bool → Shared → Prop} (ha : (a == sysModules) = false) (hb : (b == sysModules) = false) (hu : A.units + 8 < cLine)
    (da : GR.Rw w s.heap a la es ep) (db : GR.Rw w s.heap b lb es' ep') (hits : la.length = lb.length → RHits prog w A s lb la r) (h : Q (la.length == lb.length && r) s) :
    wpAny (model prog w) A (Builtin.Dict.samePairs nm a b) Q E s := by
  obtain ⟨oa, hoa, _, hda⟩ := da.dic
  obtain ⟨ob, hob, _, hdb⟩ := db.dic
  have hla : la.length = es.size := by rw [← Array.length_toList, da.ents, List.length_map]
  have hlb : lb.length = es'.size := by rw [← Array.length_toList, db.ents, List.length_map]
  rw [hla, hlb] at h
  unfold Builtin.Dict.samePairs Builtin.Dict.showsAll
  rw [if_neg (show ¬ (a == sysModules) = true by rw [ha]; exact Bool.false_ne_true), if_neg (show ¬ (b == sysModules) = true by rw [hb]; exact Bool.false_ne_true)]
  refine wpAny_bind (wpAny_pure (wpAny_bind (wpAny_pure ?_)))
  refine wpAny_bind (wpAny_dictEntries hoa hda ?_)
  dsimp only
  refine wpAny_bind (wpAny_dictEntries hob hdb ?_)
  by_cases hsz : es.size = es'.size
  case neg =>
    rw [if_pos (by simpa using hsz)]
    have hbf : (es.size == es'.size) = false := by simpa using hsz
    rw [hbf, Bool.false_and] at h
    exact wpAny_bind (wpAny_rule (wpAny_pure h))
  case pos =>
    have h' : Q r s := by simpa [hsz] using h
    have hits' := hits (by rw [hla, hlb]; exact hsz)
    rw [if_neg (by rw [hsz]; simp)]
    refine wpAny_bind (wpAny_dictEpoch hoa hda ?_)
    refine wpAny_bind ?_
    rw [Std.Legacy.Range.forIn_eq_forIn_range']
    simp only [Std.Legacy.Range.size, Nat.sub_zero, Nat.add_sub_cancel, Nat.div_one]
    refine wpAny_forIn_list _
      (fun rest q s' => s' = s ∧ q = (none, ()) ∧ ∃ i, rest = List.range' i (es.size - i) ∧ i ≤ es.size ∧ RHits prog w A s lb (la.drop i) r)
      _ ?_ ?_ _ _ ⟨rfl, rfl, 0, by simp, Nat.zero_le _, hits'⟩
    · rintro x rest q s' ⟨rfl, rfl, i, hr, hi, hpre⟩
      have hlt : i < es.size := by
        rcases Nat.lt_or_ge i es.size with h | h
        · exact h
        · rw [Nat.sub_eq_zero_of_le h] at hr; simp at hr
      obtain ⟨rfl, hrest⟩ : x = i ∧ rest = List.range' (i + 1) (es.size - (i + 1)) := by
        have e : es.size - i = (es.size - (i + 1)) + 1 := by omega
        rw [e, List.range'_succ] at hr
        injection hr with h1 h2
        exact ⟨h1, h2⟩
      refine wpAny_bind (wpAny_dictEntries hoa hda ?_)
      have hlt' : x < la.length := by rw [hla]; exact hlt
      have hex : es[x]? = some (GR.ent w la[x]) := by rw [da.at_ x, List.getElem?_eq_getElem hlt']; rfl
      rw [hex]
      have hdrop : la.drop x = la[x] :: la.drop (x + 1) := List.drop_eq_getElem_cons hlt'
      obtain ⟨k1, k2⟩ := da.keys _ (List.getElem_mem hlt')
      rw [hdrop] at hpre
      generalize la[x] = p at hpre k1 k2 ⊢
      show wpAny _ _ (holding [p.2.1, p.2.2] _ >>= _) _ _ _
      refine wpAny_bind (wpAny_holding (wpAny_bind (GR.find_any hu k1 k2 hob hdb db.ks (fun hn => ?_) fun j hj => ?_)))
      · rcases hpre.inv with ⟨_, er⟩ | ⟨y, _, _, hy, ey, _⟩
        · rw [er] at h'
          refine wpAny_pure ?_
          show wpAny _ _ (if (!false) = true then _ else _) _ _ _
          rw [if_pos (by decide)]
          exact wpAny_pure (wpAny_pure h')
        · exact absurd (List.mem_map.mpr ⟨y, hy, ey⟩) hn
      · rw [List.getElem?_map] at hj
        obtain ⟨y0, ey0, ey1⟩ := Option.map_eq_some_iff.mp hj
        have hjx : es'[j]? = some (GR.ent w y0) := by rw [db.at_ j, ey0]; rfl
        refine wpAny_bind (wpAny_dictEntries hob hdb ?_)
        rw [hjx]
        rcases hpre.inv with ⟨hn, _⟩ | ⟨y, e, b', hy, ey, he, hrr, er⟩
        · exact absurd (List.mem_map.mpr ⟨y0, List.mem_of_getElem? ey0, ey1⟩) hn
        · have eyy : y = y0 := by
            obtain ⟨i', hi'⟩ := List.mem_iff_getElem?.mp hy
            have g1 : (lb.map (·.1))[i']? = some p.1 := by rw [List.getElem?_map, hi']; exact congrArg some ey
            have g2 : (lb.map (·.1))[j]? = some p.1 := by rw [List.getElem?_map, ey0]; exact congrArg some ey1
            have := db.ks.uniq g1 g2
            rw [this, ey0] at hi'
            exact (Option.some.inj hi').symm
          subst eyy
          refine wpAny_holding (he _ _ ?_)
          cases e with
          | false =>
            rw [er, Bool.false_and] at h'
            show wpAny _ _ (if (!false) = true then _ else _) _ _ _
            rw [if_pos (by decide)]
            exact wpAny_pure (wpAny_pure h')
          | true =>
            rw [Bool.true_and] at er
            rw [← er] at hrr
            show wpAny _ _ (if (!true) = true then _ else _) _ _ _
            rw [if_neg (by decide)]
            refine wpAny_bind (wpAny_dictEpoch hoa hda ?_)
            rw [if_neg (by simp)]
            exact wpAny_pure ⟨rfl, rfl, x + 1, hrest, hlt, hrr⟩
    · rintro q s' ⟨rfl, rfl, i, hr, hi, hpre⟩
      have hin : i = es.size := by
        rcases Nat.lt_or_ge i es.size with h | h
        · have e : es.size - i = (es.size - (i + 1)) + 1 := by omega
          rw [e, List.range'_succ] at hr; exact nomatch hr
        · exact Nat.le_antisymm hi h
      refine wpAny_pure ?_
      rw [hin, ← hla, List.drop_length] at hpre
      cases hpre
      exact h'
theorem rw_eq {a b : PySem.Addr} {la lb : List GR.RE} {es es' : Array DictEntry} {ep ep' : Nat} {r : Bool} {Q : Value → Shared → Prop} (ha : (a == sysModules) = false) (hb : (b == sysModules) = false) (hu : A.units + 10 < cLine)
    (da : GR.Rw w s.heap a la es ep) (db : GR.Rw w s.heap b lb es' ep') (hits : la.length = lb.length → RHits prog w A.in1 s lb la r) (h : Q (.bool (la.length == lb.length && r)) s) :
    wpAny (model prog w) A (compareOp .Eq (.ref a) (.ref b)) Q E s := by
  refine wpAny_richCompare_same_room (op := .Eq) da.dic.typeIs db.dic.typeIs PySem.F.slot_dict_eq (wpAny_call_entry PySem.F.slot_dict_eq da.dic.typeIs PySem.F.entry_dict_eq ?_ (PySem.F.args_dict_eq_2 _ _)) (by omega)
  show wpAny _ _ (Builtin.Dict.dictSlotArgs "__eq__" ⟨[.ref a, .ref b], []⟩ >>= _) _ _ s
  refine wpAny_bind ?_
  unfold Builtin.Dict.dictSlotArgs
  refine wpAny_bind (wpAny_notOrdered_dict da.dic.typeIs ?_)
  show wpAny _ _ (pure (Value.ref a, Value.ref b)) _ _ s
  refine wpAny_pure ?_
  refine wpAny_bind (wpAny_isInstance (T := "dict") db.dic.typeIs PySem.F.sub_dict_dict ?_)
  simp only [Bool.not_true, Bool.false_eq_true, if_false]
  refine wpAny_bind (wpAny_pure (wpAny_bind (wpAny_pure ?_)))
  refine wpAny_bind (rw_pairs ha hb (by show A.units + 1 + 8 < cLine; omega) da db hits ?_)
  refine wpAny_pure ⟨_, rfl, ?_, ?_⟩
  · exact fun x => nomatch x
  · simpa using h
theorem rw_ne {a b : PySem.Addr} {la lb : List GR.RE} {es es' : Array DictEntry} {ep ep' : Nat} {r : Bool} {Q : Value → Shared → Prop} (ha : (a == sysModules) = false) (hb : (b == sysModules) = false) (hu : A.units + 10 < cLine)
    (da : GR.Rw w s.heap a la es ep) (db : GR.Rw w s.heap b lb es' ep') (hits : la.length = lb.length → RHits prog w A.in1 s lb la r) (h : Q (.bool (!(la.length == lb.length && r))) s) :
    wpAny (model prog w) A (compareOp .NotEq (.ref a) (.ref b)) Q E s := by
  refine wpAny_richCompare_same_room (op := .NotEq) da.dic.typeIs db.dic.typeIs PySem.F.slot_dict_ne (wpAny_call_entry PySem.F.slot_dict_ne da.dic.typeIs PySem.F.entry_dict_ne ?_ (PySem.F.args_dict_ne_2 _ _)) (by omega)
  show wpAny _ _ (Builtin.Dict.dictSlotArgs "__ne__" ⟨[.ref a, .ref b], []⟩ >>= _) _ _ s
  refine wpAny_bind ?_
  unfold Builtin.Dict.dictSlotArgs
  refine wpAny_bind (wpAny_notOrdered_dict da.dic.typeIs ?_)
  show wpAny _ _ (pure (Value.ref a, Value.ref b)) _ _ s
  refine wpAny_pure ?_
  refine wpAny_bind (wpAny_isInstance (T := "dict") db.dic.typeIs PySem.F.sub_dict_dict ?_)
  simp only [Bool.not_true, Bool.false_eq_true, if_false]
  refine wpAny_bind (wpAny_pure (wpAny_bind (wpAny_pure ?_)))
  refine wpAny_bind (rw_pairs ha hb (by show A.units + 1 + 8 < cLine; omega) da db hits ?_)
  refine wpAny_pure ⟨_, rfl, ?_, ?_⟩
  · exact fun x => nomatch x
  · simpa using h
end
section
variable {X : Cx} {pins : List (PySem.Addr × Obj)} {σ : L2.St} {H : Hp} {s : Shared} {h : AH}
theorem ep_len {K : PySem.W.Frag} {H : Hp} {kvs : List (D × D)} {L : List GR.RE} (r : Paired (EP K H) kvs L) : L.length = kvs.length := by
  have := congrArg List.length (ep_keys r)
  simpa using this
theorem hits_of (I : L2.Inv X pins σ H s) (A : Abs X.K X.w h H) {B : Around} (hu : B.units + 16 < cLine) {kb : List (D × D)} {lb : List GR.RE} (rb : Paired (EP X.K H) kb lb) (nb : (kb.map (·.1)).Nodup) (ob : dOkE h kb) : ∀ {ka : List (D × D)} {la : List GR.RE}, Paired (EP X.K H) ka la → dOkE h ka → RHits X.prog X.w B s lb la (ka.all (hitE h kb))
  | _, _, .nil, _ => .nil
  | (k, d) :: r, x :: qs, .cons hq t, oa => by
    have ih := hits_of I A hu rb nb ob t fun p hp => oa p (List.mem_cons_of_mem _ hp)
    obtain ⟨z, hz⟩ := oa _ List.mem_cons_self
    obtain ⟨e1, e2, _, v, h1, h2⟩ := hq
    rw [List.all_cons]
    by_cases hm : k ∈ kb.map (·.1)
    · have hm' : nk k ∈ lb.map (·.1) := by rw [ep_keys rb]; exact (nk_mem e2 (ep_pl rb)).mpr hm
      obtain ⟨j, hj⟩ := List.mem_iff_getElem?.mp hm'
      rw [List.getElem?_map] at hj
      obtain ⟨y, ey, ek⟩ := Option.map_eq_some_iff.mp hj
      obtain ⟨d', v', g1, g2, g3⟩ := dget_of e2 rb nb ey ek
      obtain ⟨p, hp, rfl⟩ := dget_val g1
      obtain ⟨z', hz'⟩ := ob p hp
      have : hitE h kb (k, d) = deqv z z' := by
        have hz2 : rei h 10 d = some z := hz
        simp only [hitE, g1, hz2, hz']
      rw [this]
      obtain ⟨as, r1⟩ := reads I A _ _ _ _ _ hz h1 h2
      obtain ⟨bs, r2⟩ := reads I A _ _ _ _ _ hz' g2 g3
      have n1 := rei_dn _ _ _ hz
      have n2 := rei_dn _ _ _ hz'
      have := SeqAt.eqAt_plain _ _ B s _ _ as bs r1 r2 n1.tp.2 n2.tp.2 (by have := n1.tp.1; omega)
      rw [eqv_tp _ _ _ _ n1 n2] at this
      exact .hit (List.mem_of_getElem? ey) (ek.trans e1.symm) (this.inModel _ _) ih
    · have : hitE h kb (k, d) = false := by simp [hitE, dget_none hm]
      rw [this, Bool.false_and]
      refine .miss fun z => hm ?_
      rw [e1, ep_keys rb] at z
      exact (nk_mem e2 (ep_pl rb)).mp z
end
section
variable {X : Cx} {pins : List (PySem.Addr × Obj)} {σ : L2.St} {H : Hp} {s : Shared} {h : AH}
theorem dd_eq (I : L2.Inv X pins σ H s) (A : Abs X.K X.w h H) {B : Around} (hu : B.units + 30 < cLine) {a b : PySem.Addr} {Q0 : Bool → Prop} {E : Value → Shared → Prop} {Q : Value → Shared → Prop} (q : dEqB h a b Q0) (k : ∀ r, Q0 r → Q (.bool r) s) : wpAny (model X.prog X.w) B (compareOp .Eq (.ref a) (.ref b)) Q E s := by
  unfold dEqB at q
  split at q
  · rename_i ka kb ea eb
    obtain ⟨oa, ob, q⟩ := q
    obtain ⟨la, es, ep, d1, ra, _, sa, na, _⟩ := dic_raw I A ea
    obtain ⟨lb, es', ep', d2, rb, _, sb, nb, _⟩ := dic_raw I A eb
    refine rw_eq sa sb (by omega) d1 d2 (fun _ => hits_of I A (by show B.units + 1 + _ < _; omega) rb nb ob ra oa) (k _ ?_)
    rw [ep_len ra, ep_len rb]
    exact q
  · exact q.elim
theorem dd_ne (I : L2.Inv X pins σ H s) (A : Abs X.K X.w h H) {B : Around} (hu : B.units + 30 < cLine) {a b : PySem.Addr} {Q0 : Bool → Prop} {E : Value → Shared → Prop} {Q : Value → Shared → Prop} (q : dEqB h a b Q0) (k : ∀ r, Q0 r → Q (.bool (!r)) s) : wpAny (model X.prog X.w) B (compareOp .NotEq (.ref a) (.ref b)) Q E s := by
  unfold dEqB at q
  split at q
  · rename_i ka kb ea eb
    obtain ⟨oa, ob, q⟩ := q
    obtain ⟨la, es, ep, d1, ra, _, sa, na, _⟩ := dic_raw I A ea
    obtain ⟨lb, es', ep', d2, rb, _, sb, nb, _⟩ := dic_raw I A eb
    refine rw_ne sa sb (by omega) d1 d2 (fun _ => hits_of I A (by show B.units + 1 + _ < _; omega) rb nb ob ra oa) (k _ ?_)
    rw [ep_len ra, ep_len rb]
    exact q
  · exact q.elim
theorem dEqB_det {h : AH} {a b : PySem.Addr} {Q : Bool → Prop} (q : dEqB h a b Q) : ∃ r, Q r ∧ dEqB h a b fun r' => r' = r := by
  unfold dEqB at q ⊢
  split at q
  · obtain ⟨oa, ob, q⟩ := q
    exact ⟨_, q, oa, ob, rfl⟩
  · exact q.elim
end
section
variable {X : Cx}
theorem gc_eq (hu : X.A.units + 64 < cLine) : GC X .Eq oEq := fun pins s σ H x y v u Q I rx ry ⟨d, e, h, Q0, rd, re, A, q, k⟩ => by
  replace q := q.un
  unfold oEqB at q
  split at q
  · rename_i x' y' e1 e2
    obtain ⟨as, r1⟩ := reads I A _ _ _ _ _ e1 rd rx
    obtain ⟨bs, r2⟩ := reads I A _ _ _ _ _ e2 re ry
    have n1 := rei_dn _ _ _ e1
    have n2 := rei_dn _ _ _ e2
    refine SeqAt.eq_plain r1 r2 n1.tp.2 n2.tp.2 (by have := n1.tp.1; omega) ⟨.bl _, H, I, rfl, ?_⟩
    rw [eqv_tp _ _ _ _ n1 n2]
    exact k _ _ _ _ q (Kp.refl _) (.bl _) A
  · split at q
    · cases rd; cases re; cases rx; cases ry
      exact dd_eq I A (by omega) q fun r hr => ⟨.bl _, H, I, rfl, k _ _ _ _ hr (Kp.refl _) (.bl _) A⟩
    · exact q.elim
theorem gc_ne (hu : X.A.units + 64 < cLine) : GC X .NotEq oNe := fun pins s σ H x y v u Q I rx ry ⟨d, e, h, Q0, rd, re, A, q, k⟩ => by
  replace q := q.un
  unfold oEqB at q
  split at q
  · rename_i x' y' e1 e2
    obtain ⟨as, r1⟩ := reads I A _ _ _ _ _ e1 rd rx
    obtain ⟨bs, r2⟩ := reads I A _ _ _ _ _ e2 re ry
    have n1 := rei_dn _ _ _ e1
    have n2 := rei_dn _ _ _ e2
    refine SeqAt.ne_plain r1 r2 n1.tp.2 n2.tp.2 (by have := n1.tp.1; omega) ⟨.bl _, H, I, rfl, ?_⟩
    rw [eqv_tp _ _ _ _ n1 n2]
    exact k _ _ _ _ q (Kp.refl _) (.bl _) A
  · split at q
    · cases rd; cases re; cases rx; cases ry
      exact dd_ne I A (by omega) q fun r hr => ⟨.bl _, H, I, rfl, k _ _ _ _ hr (Kp.refl _) (.bl _) A⟩
    · exact q.elim
/-- two tuples of two dicts -/
theorem gc_eqT (hu : X.A.units + 64 < cLine) : GC X .Eq oEqT := fun pins s σ H x y v u Q I rx ry ⟨d, e, h, Q0, rd, re, A, q, k⟩ => by
  obtain ⟨a, b, c, d', rfl, rfl, n1, n2, q⟩ := q.un
  obtain ⟨r1, q, g1⟩ := dEqB_det q
  obtain ⟨r2, q, g2⟩ := dEqB_det q
  cases rd with
  | tup t1 l1 =>
    cases re with
    | tup t2 l2 =>
      cases rx; cases ry
      obtain ⟨its, ri, ti, _⟩ := I.tuple t1
      obtain ⟨its', ri', ti', _⟩ := I.tuple t2
      cases l1 with
      | cons x1 x2 => cases x2 with
        | cons x3 x4 => cases x4; cases l2 with
          | cons y1 y2 => cases y2 with
            | cons y3 y4 =>
              cases y4; cases x1; cases x3; cases y1; cases y3
              cases ri with
              | cons z1 z2 => cases z2 with
                | cons z3 z4 => cases z4; cases ri' with
                  | cons u1 u2 => cases u2 with
                    | cons u3 u4 =>
                      cases u4; cases z1; cases z3; cases u1; cases u3
                      refine SeqAt.rcIn_tuples (e := fun i => if i = 0 then r1 else r2) ti ti' (by omega) (fun j h1 h2 => ?_) ⟨.bl _, H, I, rfl, k (.bl (r1 && r2)) _ _ _ q (Kp.refl _) ?_ A⟩
                      · match j, h1, h2 with
                        | 0, _, _ => exact SeqAt.EqIn.of_refs n1 fun E Q hq => dd_eq I A (by show X.A.units + 1 + _ < _; omega) g1 fun r hr => by subst hr; exact hq
                        | 1, _, _ => exact SeqAt.EqIn.of_refs n2 fun E Q hq => dd_eq I A (by show X.A.units + 1 + _ < _; omega) g2 fun r hr => by subst hr; exact hq
                      · refine show Rv X.K H (.bl (r1 && r2)) (.bl (((List.range 2).all fun i => if i = 0 then r1 else r2) && true)) from ?_
                        have : (((List.range 2).all fun i => if i = 0 then r1 else r2) && true) = (r1 && r2) := by
                          cases r1 <;> cases r2 <;> rfl
                        rw [this]
                        exact .bl _
end
end G
end

section
set_option Elab.async false
set_option linter.all false
set_option maxRecDepth 100000
set_option maxHeartbeats 4000000
/-! G layer, soundness 18: list.count, dict displays with entries. -/
namespace G
open PySem PySem.Spec PyProof.Rows L2
variable [Tb]
theorem countP_tp {n : Nat} {x : D} (hx : Dn n x) : ∀ {ys : List D}, (∀ y ∈ ys, Dn n y) → ((tpL ys).countP fun y => PyData.eqv y (tp x)) = ys.countP fun y => deqv y x
  | [], _ => rfl
  | y :: ys, h => by
    rw [tpL, List.countP_cons, List.countP_cons, eqv_tp y x n n (h y List.mem_cons_self) hx, countP_tp hx fun z hz => h z (List.mem_cons_of_mem _ hz)]
section
variable {X : Cx} {pins : List (Addr × Obj)} {σ : L2.St} {H : Hp} {s : Shared}
theorem gm_count (hu : X.A.units + 100 < cLine) : GM X "list.count" mCount := fun pins s σ H x vs v us Q I rx rv ⟨d, ds, h, Q0, rd, rL, A, q, k⟩ => by
  unfold mCount at q
  split at q
  · rename_i y
    obtain ⟨yv, rfl, ry⟩ := rvL_one rL
    obtain ⟨u, rfl, ru⟩ := vals1 rv
    split at q
    · rename_i ys y' e2 e1
      obtain ⟨xs, e3, e4⟩ := Option.bind_eq_some_iff.mp e2
      obtain ⟨as, r1⟩ := reads I A _ _ _ _ _ e1 ry ru
      have n1 := rei_dn _ _ _ e1
      have nL : ∀ y ∈ ys, Dn 12 y := fun y hy => let ⟨z, _, q⟩ := pMem (mapO_some e4) y hy; rei_dn _ _ _ q
      have dL : PyData.depthAll (tpL ys) ≤ 12 := depthAll_le fun p hp => by
        rw [tpL_map] at hp
        obtain ⟨d, hd, e⟩ := List.mem_map.mp hp
        rw [← e]; exact (nL d hd).tp.1
      have pL : PyData.plainAll (tpL ys) = true := plainAll_of fun p hp => by
        rw [tpL_map] at hp
        obtain ⟨d, hd, e⟩ := List.mem_map.mp hp
        rw [← e]; exact (nL d hd).tp.2
      have b1 := n1.tp.1
      obtain ⟨a, ws, rfl, hq, rL'⟩ := lsOf_some A rd e3
      cases rx
      obtain ⟨its, rits, hpls, hz⟩ := I.list hq
      obtain ⟨bs, r2⟩ := reads_list (fun d d' v u => reads I A 12 d d' v u) e4 rL' rits
      refine SeqAt.count_list_data (vs := its.toArray) hpls.isList r2 r1 pL n1.tp.2 (by omega) ?_
      rw [countP_tp n1 nL]
      exact ⟨.int _, H, I.tok _, ⟨_, rfl⟩, k _ _ _ _ q (Kp.refl _) (.int _) A⟩
    · exact q.elim
  · exact q.elim
end
/-! ### displays -/
def RvP (K : PySem.W.Frag) (H : Hp) : List (D × D) → List (V × V) → Prop := Paired fun p q => Rv K H p.1 q.1 ∧ Rv K H p.2 q.2
def tP (K : PySem.W.Frag) (w : World) (f : DP) (σ : L2.St) (H : Hp) (Q : List (V × V) → Hp → Prop) : Prop :=
  ∃ ρ h Q0, RS K H ρ σ ∧ Abs K w h H ∧ f ρ h Q0 ∧ ∀ ps h' vs H', Q0 ps h' → Kp H H' → RvP K H' ps vs → Abs K w h' H' → Q vs H'
structure GP (X : Cx) (pos : Pos) (keys : List (Option Expr)) (values : List Expr) (f : DP) : Prop where
  go : ∃ trs, PPs X pos keys values trs ∧ ∀ σ H Q, tP X.K X.w f σ H Q → tPairs trs σ H Q
section
variable {X : Cx} {pos : Pos}
theorem gp_nil : GP X pos [] [] dpNil := ⟨[], pps_nil, fun σ H Q ⟨ρ, h, Q0, R, A, q, k⟩ => k _ _ _ _ q (Kp.refl _) .nil A⟩
theorem gp_cons {a b : Expr} {ks : List (Option Expr)} {vs : List Expr} {fa fb : DE} {f : DP} (ha : GE X a fa) (hb : GE X b fb) (hr : GP X pos ks vs f) : GP X pos (some a :: ks) (b :: vs) (dpCons fa fb f) := by
  obtain ⟨trs, h1, h2⟩ := hr
  exact ⟨(tE X.K X.w fa, tE X.K X.w fb) :: trs, pps_cons ha hb h1, fun σ H Q ⟨ρ, h, Q0, R, A, q, k⟩ =>
    ⟨ρ, h, _, R, A, q, fun d h1 v H1 q1 k1 r1 A1 => ⟨ρ, h1, _, R.kp k1, A1, q1, fun e h3 u H2 q2 k2 r2 A2 =>
      h2 σ H2 _ ⟨ρ, h3, _, R.kp (k1.trans k2), A2, q2, fun ps h4 vs H3 q3 k3 r3 A3 =>
        k _ _ _ _ q3 ((k1.trans k2).trans k3) (.cons ⟨r1.kp (k2.trans k3), r2.kp k3⟩ r3) A3⟩⟩⟩⟩
theorem pairs_of {pins : List (Addr × Obj)} {σ : L2.St} {H : Hp} {s : Shared} (I : L2.Inv X pins σ H s) : ∀ {ps : List (D × D)} {vs : List (V × V)} {ws : List (Value × Value)}, RvP X.K H ps vs → VV vs ws → (∀ p ∈ ps, pl 8 p.1 = true) →
    ∃ L : List GR.RE, Paired (EP X.K H) ps L ∧ ws = L.map (·.2) ∧ ∀ x ∈ L, NestedIs s.heap x.1 x.2.1 ∧ x.1.depth ≤ 8
  | [], _, _, r, r2, _ => by cases r; cases r2; exact ⟨[], .nil, rfl, fun _ h => by cases h⟩
  | (a, b) :: ps, _, _, r, r2, hp => by
    cases r with
    | cons ra rb =>
      cases r2 with
      | @cons _ y _ _ sa sb =>
        obtain ⟨L, h1, h2, h3⟩ := pairs_of I rb sb fun p hq => hp p (List.mem_cons_of_mem _ hq)
        have hk := hp (a, b) List.mem_cons_self
        obtain ⟨y1, y2⟩ := y
        refine ⟨(nk a, y1, y2) :: L, .cons ⟨rfl, hk, ⟨_, ra.1, sa.1⟩, _, ra.2, sa.2⟩ h1, by rw [h2]; rfl, ?_⟩
        intro x hx
        rcases List.mem_cons.mp hx with e | hx
        · subst e; exact nested_of I 8 a _ _ hk ra.1 sa.1
        · exact h3 x hx
theorem rput_len (L : List GR.RE) (k : NestedKey) (u v : Value) : (GR.rput L k u v).length ≤ L.length + 1 := by
  induction L with
  | nil => simp [GR.rput]
  | cons x r ih =>
    rw [GR.rput]
    split
    · simp
    · simp only [List.length_cons]; omega
theorem storeAll_raw {P : Program} {w : World} {A : Around} {E : Value → Shared → Prop} (hu : A.units + 8 < cLine) {d : Addr} : ∀ (M : List GR.RE) (s : Shared) (L : List GR.RE) (es : Array DictEntry) (ep : Nat) (Q : PUnit → Shared → Prop),
    GR.Rw w s.heap d L es ep → (∀ x ∈ M, NestedIs s.heap x.1 x.2.1 ∧ x.1.depth ≤ 8) → L.length + M.length ≤ sizeLine →
    (∀ h' tk es' ep', GR.Rw w h' d (GR.rputs L M) es' ep' → Heap.SameBut d s.heap h' → Q PUnit.unit { s with heap := h', toks := tk }) →
    wpAny (model P w) A (storeAll d (M.map (·.2))) Q E s
  | [], s, L, es, ep, Q, hR, _, _, hQ => by
    unfold storeAll
    rw [List.map_nil, List.forIn_nil]
    exact wpAny_pure (hQ s.heap s.toks es ep hR (Heap.SameBut.refl _ _))
  | x :: M, s, L, es, ep, Q, hR, hM, hz, hQ => by
    rw [List.length_cons] at hz
    unfold storeAll
    rw [List.map_cons, List.forIn_cons]
    obtain ⟨m1, m2⟩ := hM x List.mem_cons_self
    refine wpAny_bind (wpAny_bind (GR.set_rw (k := x.1) hu m1 m2 hR (by omega) fun h' es' ep' x' hs => wpAny_pure ?_))
    refine storeAll_raw hu M _ _ es' ep' Q x' (fun y hy => ?_) (by have := rput_len L x.1 x.2.1 x.2.2; omega) fun h2 tk es2 ep2 x2 hs2 => hQ h2 tk es2 ep2 x2 (hs.trans hs2)
    obtain ⟨z1, z2⟩ := hM y (List.mem_cons_of_mem _ hy)
    exact ⟨GR.same_nested hR.dic hs z1, z2⟩
theorem ge_disp (hu : X.A.units + 64 < cLine) {keys : List (Option Expr)} {values : List Expr} {f : DP} (hp : GP X pos keys values f) (hall : keys.all (·.isSome) = true := by rfl) (hl : keys.length = values.length := by rfl) (h0 : keys ≠ [] := by exact List.cons_ne_nil _ _)
    (h15 : keys.length ≤ 15 := by exact of_decide_eq_true rfl) : GE X (.Dict keys values pos) (dDisp f) := by
  obtain ⟨trs, hp, himp⟩ := hp
  refine ⟨fun pins s σ H Q I ⟨ρ, h, Q0, R, A, q, k⟩ => ?_⟩
  obtain ⟨I1, A1, k1, n1⟩ := dic_new (kvs := []) (L := []) (tk := s.toks) (h' := s.heap.push { cls := .type "dict", data := .dict #[] }) I A rfl ⟨⟨_, Heap.get?_push_size _ rfl, ⟨rfl, rfl, rfl⟩, rfl⟩, rfl, List.nodup_nil, (fun _ hx => by cases hx), rfl⟩ (fun b o e => Heap.get?_push_of_some _ e) .nil (Nat.zero_le _) List.nodup_nil
  have q1 := newD.go q s.heap.objs.size (A.nil n1)
  refine wpAny_Dict_any hall hl h0 h15 (thn (hp.run pins _ σ _ (fun vs H2 => ∃ ps h2, Kp H H2 ∧ RvP X.K H2 ps vs ∧ Abs X.K X.w h2 H2 ∧ fillD (.ref s.heap.objs.size) ps h2 Q0) I1 (himp σ _ _ ⟨ρ, _, _, R.kp k1, A1, q1, fun ps h2 vs H2 q2 k2 r2 A2 => ⟨ps, h2, k1.trans k2, r2, A2, q2⟩⟩)) fun ws s2 ⟨vs, H2, I2, rel, ps, h2, k2, r2, A2, q2⟩ => ?_)
  obtain ⟨e2, l15, hpl, q3⟩ := q2.un
  obtain ⟨L, es, ep, hR, hP, hz, hne, hnd, e4⟩ := dic_raw I2 A2 e2
  cases hP
  obtain ⟨M, c1, c2, c3⟩ := pairs_of I2 r2 rel hpl
  subst c2
  have hlen : M.length = ps.length := by
    have := congrArg List.length (ep_keys c1)
    simpa using this
  refine storeAll_raw (by omega) M _ _ es ep _ hR c3 (by rw [List.length_nil, sizeLine_eq]; omega) fun h' tk es' ep' x' hs' => ?_
  have hb := dputs_len ps []
  obtain ⟨I3, A3, k3⟩ := dic_wr (tk := tk) I2 A2 e4 hne x' hs' (ep_puts c1 .nil) (by rw [sizeLine_eq]; rw [List.length_nil] at hb; omega) (dputs_nodup ps [] List.nodup_nil)
  exact ⟨.ref s.heap.objs.size, _, I3, rfl, k _ _ _ _ q3 (k2.trans k3) (.ref _) A3⟩
end
end G
end

section
set_option Elab.async false
set_option linter.all false
set_option maxRecDepth 100000
set_option maxHeartbeats 4000000
/-! G layer, soundness 19: sorted, of tuples that rise in their first place. -/
namespace G
open PySem PySem.Spec PyProof.Rows L2
variable [Tb]
/-- a tuple whose first place reads as a tuple of these ints -/
def KT (h : Heap) (u : Value) (ns : List Int) : Prop := ∃ a o xs n f r, u = .ref a ∧ h.get? a = some o ∧ o.cls = .type "tuple" ∧ o.data = .seq xs n ∧ xs.toList = f :: r ∧ Reads h f (tp (.tup (ns.map .int))) []
theorem alkL_ints : ∀ a b : List Int, alkL (a.map .int) (b.map .int) = true
  | [], _ => by simp [alkL]
  | _ :: _, [] => by simp [alkL]
  | x :: a, y :: b => by simp only [List.map_cons, alkL, alk, alkL_ints a b]; rfl
theorem dat_tints (ns : List Int) : dat 1 (.tup (ns.map .int)) = true := by
  rw [dat]
  induction ns with
  | nil => rfl
  | cons x r ih => simp only [List.map_cons, datL, ih, Bool.and_true]; rfl
theorem dlt_ints' : ∀ a b : List Int, dltL (a.map .int) (b.map .int) = decide (a < b)
  | [], [] => by simp [dltL]
  | [], _ :: _ => by simp [dltL]
  | _ :: _, [] => by simp [dltL]
  | x :: a, y :: b => by
    simp only [List.map_cons, dltL, dlt, dlt_ints' a b]
    rw [show decide (D.int x = D.int y) = decide (x = y) by simp, Bool.eq_iff_iff]
    simp [List.cons_lt_cons_iff]
theorem alike_ints (a b : List Int) : PySem.W.alike (tp (.tup (a.map .int))) (tp (.tup (b.map .int))) = true :=
  alike_tp _ _ 1 1 (dat_dn _ _ (dat_tints a)) (dat_dn _ _ (dat_tints b)) (by rw [alk]; exact alkL_ints a b)
theorem KT.keep {h h' : Heap} {u : Value} {ns : List Int} {l : Addr} (x : KT h u ns) (k : ∀ b o, b ≠ l → h.get? b = some o → h'.get? b = some o) (hl : ∀ o, h.get? l = some o → o.cls = .type "list") : KT h' u ns := by
  obtain ⟨a, o, xs, n, f, r, e, ho, hc, hd, hx, rd⟩ := x
  refine ⟨a, o, xs, n, f, r, e, k a o (fun z => ?_) ho, hc, hd, hx, PySem.W.Reads.keepBut k hl _ _ _ (alike_ints ns ns) rd (by simp)⟩
  subst z
  have := hl o ho
  rw [hc] at this
  exact absurd (Value.type.inj this) (by decide)
theorem ints_inj : ∀ a b : List Int, a.map D.int = b.map D.int → a = b
  | [], [], _ => rfl
  | [], _ :: _, e => by cases e
  | _ :: _, [], e => by cases e
  | x :: a, y :: b, e => by
    simp only [List.map_cons, List.cons.injEq, D.int.injEq] at e
    rw [e.1, ints_inj a b e.2]
theorem KT.uniq {h : Heap} {u : Value} {a b : List Int} (x : KT h u a) (y : KT h u b) : a = b := by
  obtain ⟨a1, o, xs, n, f, r, e, ho, hc, hd, hx, rd⟩ := x
  obtain ⟨a2, o', xs', n', f', r', e', ho', hc', hd', hx', rd'⟩ := y
  rw [e] at e'; cases e'
  rw [ho] at ho'; cases ho'
  rw [hd] at hd'; cases hd'
  rw [hx] at hx'; cases hx'
  have := PySem.W.alike_unique _ _ _ _ _ (alike_ints a b) rd rd'
  have h2 := tp_inj 1 1 _ _ (dat_tints a) (dat_tints b) this
  injection h2 with h3
  exact ints_inj a b h3
section
variable {prog : Program} {w : World} {A : Around} {s : Shared}
theorem kat_refl {b fin : Bool} {Q : Bool → Shared → Prop} (h : Q fin s) : ∀ (l : List Value) (i : Nat), PySem.W.KatLex prog w A b fin Q (l.zip l) i s
  | [], _ => PySem.W.kat_nil h
  | x :: l, i => PySem.W.kat_cons (SeqAt.EqAt.same x prog w _ _ (PySem.W.kat_yes (kat_refl h l (i + 1))))
theorem kt_cmp {u v : Value} {a b : List Int} (hu : A.units + 64 < cLine) (x : KT s.heap u a) (y : KT s.heap v b) (hne : u = v ∨ a ≠ b) : wpAny (model prog w) A (keyLt' (tuples' false) u v) (fun r s' => s' = s ∧ r = decide (a < b)) (fun _ _ => False) s := by
  obtain ⟨a1, o, xs, n, f, r, rfl, ho, hc, hd, hx, rd⟩ := id x
  obtain ⟨a2, o', xs', n', f', r', rfl, ho', hc', hd', hx', rd'⟩ := id y
  refine PySem.W.kat_lt ho hd ho' hd' ?_
  by_cases e : a = b
  · have huv := hne.resolve_right fun z => z e
    cases huv
    rw [ho] at ho'; cases ho'
    rw [hd] at hd'; cases hd'
    subst e
    refine kat_refl ?_ _ _
    refine ⟨rfl, ?_⟩
    rw [decide_eq_false (Nat.lt_irrefl _), decide_eq_false (List.lt_irrefl _)]
  · rw [hx, hx', List.zip_cons_cons]
    have d1 := dat_dn _ _ (dat_tints a)
    have d2 := dat_dn _ _ (dat_tints b)
    have t1 := d1.tp
    have t2 := d2.tp
    refine PySem.W.kat_cons (SeqAt.eqAt_plain _ _ A s _ _ _ _ rd rd' t1.2 t2.2 (by omega) prog w _ _ ?_)
    have hf : decide (D.tup (a.map .int) = D.tup (b.map .int)) = false := decide_eq_false fun z => e (ints_inj a b (by injection z))
    rw [eqv_tp _ _ _ _ d1 d2, deqv_alk _ _ (by rw [alk]; exact alkL_ints a b), hf]
    refine PySem.W.kat_no ?_
    rw [Bool.false_and]
    refine PySem.W.kat_one _ _ (PySem.W.lt_data rd rd' (alike_ints a b) (by simp [tp]) (by omega) ?_)
    rw [dlt_tp _ _ _ _ d1 d2 (by rw [alk]; exact alkL_ints a b)]
    show s = s ∧ _
    exact ⟨rfl, dlt_ints' a b⟩
/-- the place of a value in a list -/
noncomputable def plIn (us : List Value) (u : Value) : Nat := open Classical in if h : ∃ i, us[i]? = some u then h.choose else 0
theorem pl_get {us : List Value} {u : Value} (h : u ∈ us) : us[plIn us u]? = some u := by
  have q : ∃ i, us[i]? = some u := List.mem_iff_getElem?.mp h
  unfold plIn
  rw [dif_pos q]
  exact q.choose_spec
theorem katTups_of {h : Heap} : ∀ {us : List Value} {ks : List (List Int)}, us.length = ks.length → (∀ (i : Nat) (u : Value) (k : List Int), us[i]? = some u → ks[i]? = some k → KT h u k) → ∃ fs, PySem.W.KatTups h us fs ∧ fs.length = us.length ∧ ∀ f ∈ fs, ∃ ns : List Int, Reads h f (tp (.tup (ns.map .int))) []
  | [], _, _, _ => ⟨[], PySem.W.KatTups.nil, rfl, fun f hf => by cases hf⟩
  | u :: us, [], e, _ => by simp at e
  | u :: us, k :: ks, e, hk => by
    obtain ⟨fs, h1, h2, h3⟩ := katTups_of (us := us) (ks := ks) (by simpa using e) fun i v k a b => hk (i + 1) v k (by simpa using a) (by simpa using b)
    obtain ⟨a, o, xs, n, f, r, rfl, ho, hc, hd, hx, rd⟩ := hk 0 u k rfl rfl
    refine ⟨f :: fs, PySem.W.KatTups.cons ho hc hd (by rw [← Array.getElem?_toList, hx]; rfl) h1, by simp [h2], fun g hg => ?_⟩
    rcases List.mem_cons.mp hg with e | hg
    · exact ⟨k, e ▸ rd⟩
    · exact h3 g hg
theorem sortI_core {E : Value → Shared → Prop} {l : Addr} {us : List Value} {ks : List (List Int)} {Q : Value → Shared → Prop} (hu : A.units + 90 < cLine) (hl : s.heap.IsList l us.toArray) (hz : us.length ≤ sizeLine) (hlen : us.length = ks.length)
    (hk : ∀ (i : Nat) (u : Value) (k : List Int), us[i]? = some u → ks[i]? = some k → KT s.heap u k) (hp : ks.Pairwise fun a b => a < b)
    (h : Q (.ref (s.heap.objs.size + 1)) { s with heap := PyProof.Rows.sortedAll s.heap us us.toArray }) : wpAny (model prog w) A (call (.builtin "sorted") [.ref l]) Q E s := by
  have key : ∀ i u, us[i]? = some u → ∃ k, ks[i]? = some k ∧ KT s.heap u k := fun i u e => by
    have hi := (List.getElem?_eq_some_iff.mp e).1
    exact ⟨_, List.getElem?_eq_getElem (hlen ▸ hi), hk i u _ e (List.getElem?_eq_getElem (hlen ▸ hi))⟩
  have kin : ∀ (i j : Nat) (a : List Int), ks[i]? = some a → ks[j]? = some a → i = j := fun i j a e1 e2 => by
    obtain ⟨h1, g1⟩ := List.getElem?_eq_some_iff.mp e1
    obtain ⟨h2, g2⟩ := List.getElem?_eq_some_iff.mp e2
    rcases Nat.lt_trichotomy i j with z | z | z
    · exact absurd (List.pairwise_iff_getElem.mp hp i j h1 h2 z) (by rw [g1, g2]; exact List.lt_irrefl _)
    · exact z
    · exact absurd (List.pairwise_iff_getElem.mp hp j i h2 h1 z) (by rw [g1, g2]; exact List.lt_irrefl _)
  let kk : Value → List Int := fun u => (ks[plIn us u]?).getD []
  have kks : ∀ u ∈ us, KT s.heap u (kk u) ∧ ks[plIn us u]? = some (kk u) := fun u hu' => by
    obtain ⟨k, e1, e2⟩ := key _ u (pl_get hu')
    have : kk u = k := by show (ks[plIn us u]?).getD [] = k; rw [e1]; rfl
    rw [this]
    exact ⟨e2, e1⟩
  have kinj : ∀ u ∈ us, ∀ v ∈ us, kk u = kk v → u = v := fun u h1 v h2 e => by
    have a1 := (kks u h1).2
    have a2 := (kks v h2).2
    rw [e] at a1
    have := kin _ _ _ a1 a2
    have b1 := pl_get h1
    rw [this, pl_get h2] at b1
    exact (Option.some.inj b1).symm
  refine SrtO.sorted_ord (ltv := fun v u => decide (kk v < kk u)) ⟨fun x y q => ?_, fun x y z q1 q2 => ?_⟩ hl hz (fun h2 h₁ a ha kp => ?_) fun out hs hb => ?_
  · exact decide_eq_false fun z => List.lt_irrefl _ (List.lt_trans (of_decide_eq_true q) z)
  · refine decide_eq_false fun z' => ?_
    have p1 := List.not_lt.mp (of_decide_eq_false q1)
    have p2 := List.not_lt.mp (of_decide_eq_false q2)
    exact absurd z' (List.not_lt.mpr (List.le_trans p1 p2))
  · intro h' keep
    have kt1 : ∀ u ∈ us, KT h₁ u (kk u) := fun u hu' => (kks u hu').1.keep (l := a) (fun b o _ e => (kp b o e).2) fun o e => absurd rfl (kp a o e).1
    have kt2 : ∀ u ∈ us, KT h' u (kk u) := fun u hu' => (kt1 u hu').keep (l := a) keep fun o e => by
      have e' : some o = some (seqObj "list" us.toArray 0) := e.symm.trans ha
      cases e'; rfl
    obtain ⟨fs, f1, f2, f3⟩ := katTups_of (h := h') hlen fun i u k e1 e2 => by
      have hm := List.mem_of_getElem? e1
      have : kk u = k := by
        obtain ⟨k', g1, g2⟩ := key i u e1
        rw [e2] at g1; cases g1
        exact (kks u hm).1.uniq g2
      rw [← this]
      exact kt2 u hm
    refine ⟨tuples' false, fun Q' E' hq => ?_, fun p q hp' hq' => ?_⟩
    · refine PySem.W.kat_kind (T := .type "tuple") f1 (by omega) (fun f hf => ?_) (by rfl) ?_
      · obtain ⟨ns, rd⟩ := f3 f hf
        have := PySem.W.looks_reads (M := model prog w) rd
        rw [show PySem.W.dataType (tp (.tup (ns.map .int))) = Value.type "tuple" by rw [tp]; rfl] at this
        exact this
      · have e : (Value.type "tuple" != Value.type "tuple") = false := by first | decide +kernel | rfl | decide
        rw [e]
        exact hq
    · refine kt_cmp (by show A.units + 1 + 1 + 64 < cLine; omega) (kt2 _ hp') (kt2 _ hq') ?_
      by_cases z : kk p.1 = kk q.1
      · exact .inl (kinj _ hp' _ hq' z)
      · exact .inr z
  · have eo : out = us := by
      refine List.Perm.eq_of_pairwise (le := fun x y => decide (kk y < kk x) = false) (fun x y hx hy h1 h2 => ?_) hs ?_ hb.perm
      · have hx' := hb.perm.mem_iff.mp hx
        exact kinj x hx' y hy (List.le_antisymm (List.not_lt.mp (of_decide_eq_false h1)) (List.not_lt.mp (of_decide_eq_false h2)))
      · rw [List.pairwise_iff_getElem]
        intro i j hi hj hij
        refine decide_eq_false fun z => ?_
        have g1 := (kks _ (List.getElem_mem hi)).1
        have g2 := (kks _ (List.getElem_mem hj)).1
        have t1 := g1.uniq (hk i _ _ (List.getElem?_eq_getElem hi) (List.getElem?_eq_getElem (hlen ▸ hi)))
        have t2 := g2.uniq (hk j _ _ (List.getElem?_eq_getElem hj) (List.getElem?_eq_getElem (hlen ▸ hj)))
        rw [t1, t2] at z
        exact List.lt_irrefl _ (List.lt_trans z (List.pairwise_iff_getElem.mp hp i j _ _ hij))
    subst eo
    exact h
end
section
variable {X : Cx}
theorem kIn_of (ns : List Int) (r : List D) : kIn (.tup (.tup (ns.map .int) :: r)) = ns := by
  show ((intsOf (ns.map .int)).getD []) = ns
  have : ∀ l : List Int, intsOf (l.map .int) = some l := by
    intro l
    induction l with
    | nil => rfl
    | cons x l ih => rw [List.map_cons, intsOf, ih]; rfl
  rw [this]; rfl
theorem kt_of {pins : List (Addr × Obj)} {σ : L2.St} {H : Hp} {s : Shared} {h : AH} (I : L2.Inv X pins σ H s) (A : Abs X.K X.w h H) {ns : List Int} {r : List D} {v : V} {u : Value} (rv : Rv X.K H (.tup (.tup (ns.map .int) :: r)) v) (ru : RelV v u) : KT s.heap u ns := by
  cases rv with
  | tup h1 h2 =>
    cases ru
    obtain ⟨its, rits, ⟨o, ho, hc, m, hd⟩, _⟩ := I.tuple h1
    cases h2 with
    | cons q1 q2 =>
      cases rits with
      | cons p1 p2 =>
        exact ⟨_, o, _, m, _, _, rfl, ho, hc, hd, rfl, reads0 I 1 _ _ _ (dat_tints ns) q1 p1⟩
theorem gb_sortI (hu : X.A.units + 100 < cLine) : GB X (.builtin "sorted") bSortI := fun pins s σ H vs us Q I r ⟨ds, h, Q0, rL, A, q, k⟩ => by
  unfold bSortI at q
  split at q
  · rename_i x
    obtain ⟨v, rfl, rv⟩ := rvL_one rL
    split at q
    · rename_i ds e1
      obtain ⟨hK, q⟩ := q
      obtain ⟨a, vs, rfl, hq, rL'⟩ := lsOf_some A rv e1
      obtain ⟨u, rfl, ru⟩ := vals1 r
      cases ru
      obtain ⟨its, rits, hpl, hz⟩ := I.list hq
      have hl := rL'.length
      have hl2 := rits.length
      refine sortI_core (ks := ds.map kIn) (by omega) hpl.isList (by omega) (by rw [List.length_map]; omega) (fun i u k' e2 e3 => ?_) (List.pairwise_map.mpr hK.up) ?_
      · rw [List.getElem?_map] at e3
        obtain ⟨d, e4, rfl⟩ := Option.map_eq_some_iff.mp e3
        obtain ⟨ns, r, rfl⟩ := hK.el d (List.mem_of_getElem? e4)
        obtain ⟨v, e5, rv5⟩ := rL'.get e4
        obtain ⟨u', e6, ru6⟩ := rits.get e5
        rw [e2] at e6; cases e6
        rw [kIn_of]
        exact kt_of I A rv5 ru6
      · obtain ⟨n, e4⟩ := sortedAll_at s.heap its its.toArray
        have nn : H (s.heap.objs.size + 1) = none := I.hok.fresh (Nat.le_succ _)
        exact ⟨.ref (s.heap.objs.size + 1), _, I.laid (a := s.heap.objs.size + 1) (t' := s.toks) (o := .lst vs) (fun b o e => sortedAll_old e) (Nat.le_succ _) ⟨hz, its, n, rits, e4⟩, rfl, newL_ok q A rL' nn (Kp.refl _) k⟩
    · exact q.elim
  · exact q.elim
end
end G
end

section
set_option Elab.async false
set_option linter.all false
set_option maxRecDepth 100000
set_option maxHeartbeats 4000000
/-! G layer, soundness 20: for k, v in d.items(). -/
namespace G
open PySem PySem.Spec PyProof.Rows L2
variable [Tb]
/-- at d stands a dict of the entries kvs -/
def KI (K : PySem.W.Frag) (H : Hp) (d : Addr) (kvs : List (D × D)) : Prop := (d == sysModules) = false ∧ ∃ es : Array DictEntry, H d = some (.ext (RawD d es es.size)) ∧ Paired (fun (p : D × D) e => (∃ v, Rv K H p.1 v ∧ RelV v e.key) ∧ ∃ v, Rv K H p.2 v ∧ RelV v e.val) kvs es.toList
/-- a walk over a dict's entries -/
def Itq (K : PySem.W.Frag) (d : Addr) (kvs : List (D × D)) : It :=
  ⟨fun i H => i < kvs.length ∧ KI K H d kvs, fun i H x H' => ∃ T v1 v2 p, x = .ref T ∧ H T = none ∧ H' = upd H T (.tup [v1, v2]) ∧ kvs[i]? = some p ∧ Rv K H p.1 v1 ∧ Rv K H p.2 v2, fun i H => kvs.length ≤ i ∧ KI K H d kvs⟩
theorem ki_of {K : PySem.W.Frag} {w : World} {h : AH} {H : Hp} {d : Addr} {kvs : List (D × D)} (A : Abs K w h H) (e : h d = some (.dic kvs)) : KI K H d kvs := by
  obtain ⟨h1, h2, h3, es, ep, h4, h5, rfl⟩ := A d _ e
  refine ⟨h2, es, h4, ?_⟩
  generalize es.toList = l at h5
  clear e h1 h3 h4
  induction h5 with
  | nil => exact .nil
  | cons r _ ih => exact .cons ⟨r.2.2.1, r.2.2.2⟩ ih
theorem js_items {K : PySem.W.Frag} {w : World} {H : Hp} {d : Addr} {kvs : List (D × D)} : JS K w H (Itq K d kvs) (srcI d kvs) := fun i h H1 k A ok => by
  have r := ki_of A ok
  refine ⟨fun x e => ?_, fun z => ⟨by simpa [srcI] using z, r⟩⟩
  have e' : (kvs.map fun p => D.tup [p.1, p.2])[i]? = some x := e
  rw [List.getElem?_map] at e'
  obtain ⟨p, ep, rfl⟩ := Option.map_eq_some_iff.mp e'
  refine ⟨⟨(List.getElem?_eq_some_iff.mp ep).1, r⟩, fun y H' ⟨T, v1, v2, p', e1, nT, e2, e3, r1, r2⟩ => ?_⟩
  subst e1; subst e2
  rw [ep] at e3; cases e3
  exact ⟨Kp.new nT, A.newH nT, .tup (SqT.of upd_same) (.cons (r1.kp (Kp.new nT)) (.cons (r2.kp (Kp.new nT)) .nil))⟩
section
variable {X : Cx} {e : Expr} {pos : Pos}
theorem ki_raw {pins : List (Addr × Obj)} {σ : L2.St} {H : Hp} {s : Shared} {d : Addr} {kvs : List (D × D)} (I : L2.Inv X pins σ H s) (r : KI X.K H d kvs) : ∃ (es : Array DictEntry), s.heap.DictRaw d es es.size ∧ es.size = kvs.length ∧ Paired (fun (p : D × D) e => (∃ v, Rv X.K H p.1 v ∧ RelV v e.key) ∧ ∃ v, Rv X.K H p.2 v ∧ RelV v e.val) kvs es.toList := by
  obtain ⟨_, es, e1, e2⟩ := r
  obtain ⟨⟨o, o1, o2, o3⟩, _, _⟩ := I.hok d _ e1
  have hl : es.size = kvs.length := by
    have := Paired.length e2
    rw [this, Array.length_toList]
  exact ⟨es, ⟨o, o1, o2, o3⟩, hl, e2⟩
theorem turn_itemsX {P : Program} {w : World} {K : PySem.W.Frag} {elts : List Expr} {kk : Nat} {tpos : Pos} {d : Addr} {kvs : List (D × D)} (it : Addr) : Turn P w K (.Tuple elts kk tpos) (Itq K d kvs) [it] it (fun i h => ∃ ok ov, IsItemIter h it d i kvs.length kvs.length ok ov) where
  mem := List.mem_singleton.mpr rfl
  obj := fun i h st b hb => by
    obtain ⟨ok, ov, e⟩ := st
    rw [List.mem_singleton.mp hb]
    exact ⟨_, e, fun v z => nomatch z⟩
  keep := fun i h h' st k => let ⟨ok, ov, e⟩ := st; ⟨ok, ov, k it (List.mem_singleton.mpr rfl) _ e⟩
  item := by
    rintro X rfl rfl rfl hc i pins s σ H E I hf ⟨ok, ov, he⟩ ⟨hi, hr⟩
    obtain ⟨es, hD, hl, hp⟩ := ki_raw I hr
    obtain ⟨en, en1, ⟨v1, a1, b1⟩, v2, a2, b2⟩ := pair_at hp (List.getElem?_eq_getElem hi)
    rw [Array.getElem?_toList] at en1
    rw [← hl] at he
    have hie : i < es.size := by rw [hl]; exact hi
    have eq1 : es[i] = en := by rw [Array.getElem?_eq_getElem hie] at en1; exact Option.some.inj en1
    rw [hl] at hD
    have hlt : it < s.heap.objs.size := Heap.lt_size he
    refine wpAny_pyNext_items_item_raw (ep := kvs.length) (by rw [← hl]; exact he) hD hie fun h' ho hT hz hk => ?_
    rw [eq1] at ho hT
    refine ⟨_, rfl, wpAny_letOwnedTupleGo_items (s := { s with heap := h' }) ho fun h'' he' sb => ?_⟩
    have hT2 : h''.get? s.heap.objs.size = some { cls := .type "tuple", data := .seq #[en.key, en.val] } := (sb.2 _ (Nat.ne_of_gt hlt)).trans hT
    have new : ObjOk X.prog X.w (upd H s.heap.objs.size (.tup [v1, v2])) h'' s.heap.objs.size (.tup [v1, v2]) :=
      ⟨by show 2 ≤ sizeLine; decide, [en.key, en.val], .cons b1 (.cons b2 .nil), ⟨_, hT2, rfl, _, rfl⟩⟩
    have I1 : Inv X pins σ (upd H s.heap.objs.size (.tup [v1, v2])) { s with heap := h'' } :=
      I.turnedNew (t' := s.toks) (ch := [it]) (fun b ob hb e => (sb.2 b (by simpa using hb)).trans (hk b ob (by simpa using hb) e)) hf (Nat.le_refl _) new
    refine ⟨.ref s.heap.objs.size, _, I1, rfl, ⟨_, v1, v2, _, rfl, I.hok.fresh (Nat.le_refl _), rfl, List.getElem?_eq_getElem hi, a1, a2⟩, ⟨en.key, en.val, ?_⟩, fun b hb => ?_⟩
    · rw [← hl]; rw [← hl] at he'; exact he'
    · have e : b = it := by simpa using hb
      rw [e, upd_ne (Nat.ne_of_lt hlt)]
      exact (hf it (by simp)).1
  done := by
    rintro X rfl rfl rfl hc i pins s σ H E I hf ⟨ok, ov, he⟩ ⟨hi, hr⟩
    obtain ⟨es, hD, hl, hp⟩ := ki_raw I hr
    have fp := hf it (List.mem_singleton.mpr rfl)
    rw [← hl] at he
    refine wpAny_pyNext_items_end_raw (I.ok.hd hc) he hD (by rw [hl]; exact hi) fun h' eb => ⟨rfl, ?_⟩
    exact I.turnedL (t' := s.toks) (ch := [it]) (fun b ob hb e => eb b ob (fun z => hb (List.mem_singleton.mpr z)) e) (fun b hb => by rw [List.mem_singleton.mp hb]; exact fp)
  self := fun A i s Q E st h => let ⟨_, _, e⟩ := st; PySem.W.kcp_self e h
theorem gi_items {f : DE} {apos cpos tpos : Pos} {elts : List Expr} {kk : Nat} (he : GE X e f) (hbase : attributeBase e "items" X.env (eval e X.env) = eval e X.env := by rfl) (hline : (apos.endLine == cpos.line) = true := by rfl) :
    GI X (.Tuple elts kk tpos) (.Call (.Attribute e "items" apos) [] [] cpos) (G.iItems f) := by
  refine ⟨fun pins s σ H R I ⟨ρ, h, R0, RR, A, q, k⟩ => ?_⟩
  refine wpAny_Call_method (T := "dict") (id := "dict.items") hbase rfl hline F.plainAttrs_dict F.slot_dict_items F.type_dict_items (thn (he.run pins s σ H (fun v H1 => ∃ d kvs, v = .ref d ∧ KI X.K H1 d kvs ∧ R (Itq X.K d kvs) H1) I ⟨ρ, h, _, RR, A, q, fun d h1 v H1 q1 k1 r1 A1 => ?_⟩) fun u s1 ⟨x, H1, I1, rx, d, kvs, ex, hk, q⟩ => ?_)
  · unfold walkI at q1
    cases r1 with
    | ref a =>
      dsimp only at q1
      split at q1
      · rename_i kvs e
        exact ⟨a, kvs, rfl, ki_of A1 e, k _ _ _ _ q1 k1 A1 js_items⟩
      · exact q1.elim
    | _ => exact q1.elim
  subst ex
  obtain rfl : u = Value.ref d := rx
  obtain ⟨es, hD, hl, hp⟩ := ki_raw I1 hk
  have hs := hk.1
  have hnd : ∀ a, Value.ref d = .ref a → ∃ o, s1.heap.get? a = some o ∧ o.dict = none := fun a e => by
    cases e
    obtain ⟨o, o1, o2, _⟩ := hD
    exact ⟨o, o1, o2.2.1⟩
  refine ⟨hD.typeIs, hnd, ?_⟩
  have I2 : Inv X pins σ H1 { s1 with heap := s1.heap.push { cls := .type "dict_items", data := .fields #[.ref d] } } := I1.kept (t' := s1.toks) fun b ob q => Heap.get?_push_of_some _ q
  have fin : wpAny (model X.prog X.w) X.A (pyIter (.ref s1.heap.objs.size)) (PIE X pins σ (.Tuple elts kk tpos) R) X.xe { s1 with heap := s1.heap.push { cls := .type "dict_items", data := .fields #[.ref d] } } := by
    refine wpAny_pyIter_items_raw (d := d) ⟨_, Heap.get?_push_size _ rfl, rfl, rfl⟩ (hD.at fun o e => Heap.get?_push_of_some _ e) (pi_one (tk := s1.toks) I2 _ (turn_itemsX _) ⟨.none, .none, ?_⟩ q)
    rw [← hl]
    exact Heap.get?_push_size _ rfl
  show wpAny _ _ (callWith cpos (.builtin "dict.items") [.ref d] [] []) _ X.xe s1
  exact method_meetsIn F.slot_dict_items F.entry_dict_items rfl (PySem.evalArgs_none ⟨rfl, hD.typeIs, F.args_dict_items_1 _, _, meets_dict_items_raw d hs, ⟨⟨es, _, hD⟩, fin⟩⟩)
end
end G
end

section
set_option Elab.async false
set_option linter.all false
set_option maxRecDepth 100000
set_option maxHeartbeats 4000000
/-! G layer, soundness 21: sorted of a list, or of a dict's keys. -/
namespace G
open PySem PySem.Spec PyProof.Rows L2
variable [Tb]
section
variable {X : Cx}
theorem gb_sortD (hc : X.calm = true) (hu : X.A.units + 100 < cLine) : GB X (.builtin "sorted") bSortD := fun pins s σ H vs us Q I r ⟨ds, h, Q0, rL, A, q, k⟩ => by
  unfold bSortD at q
  split at q
  · rename_i x
    split at q
    · rename_i ds e1
      exact gb_sorted hu pins s σ H vs us Q I r ⟨[x], h, Q0, rL, A, by unfold bSorted; simp only [e1]; exact q, k⟩
    · split at q
      · rename_i kvs e1
        obtain ⟨⟨hal, hdt, hsort⟩, q⟩ := q
        obtain ⟨v, rfl, rv⟩ := rvL_one rL
        rcases dcOf_some e1 with ⟨a, rfl, ea⟩ | ⟨ks, ws, rfl⟩
        · cases rv
          obtain ⟨u, rfl, ru⟩ := vals1 r
          cases ru
          obtain ⟨L, es, ep, hR, hP, hz, hne, hnd, e4⟩ := dic_raw I A ea
          obtain ⟨o, ho, hx, hd⟩ := hR.dic
          have hlen : L.length = kvs.length := by
            have := congrArg List.length (ep_keys hP)
            simpa using this
          have hes : es.size = L.length := by rw [← Array.length_toList, hR.ents, List.length_map]
          obtain ⟨vs, h1, h2⟩ := ep_vals hP
          refine Calls.call_function_entry PyProof.Rows.kind_sorted PyProof.Rows.plain_sorted PyProof.Rows.entry_sorted (PyProof.Rows.args_sorted1 _) ?_
          unfold Builtin.«sorted»
          refine wpAny_bind (m := checkCount "sorted" 1 1 _) (wpAny_pure ?_)
          refine wpAny_bind (PySem.W.kdu_collect (A := X.A.in1) (kdl_raw (prog := X.prog) (w := X.w) hne hx hd) (I.ok.hd hc) ho (by omega) fun h' tk acc' hkeep hacc => ?_)
          have eacc : acc'.toList = L.map fun x => x.2.1 := by
            apply List.ext_getElem?
            intro j
            by_cases hj : j < acc'.size
            · obtain ⟨en, g1, g2⟩ := hacc.2 j acc'[j] (Array.getElem?_eq_getElem hj)
              rw [hR.at_ j] at g1
              rw [Array.getElem?_toList, Array.getElem?_eq_getElem hj, List.getElem?_map]
              cases e5 : L[j]? with
              | none => rw [e5] at g1; cases g1
              | some x => rw [e5] at g1; cases g1; rw [g2]; rfl
            · have hn := hacc.1
              rw [List.getElem?_eq_none (by simpa using hj), List.getElem?_eq_none (by rw [List.length_map]; omega)]
          have hal' : acc'.toList.length = L.length := by rw [eacc, List.length_map]
          rw [← eacc] at h2
          generalize acc'.toList = its at h2 hal' ⊢
          clear eacc hacc
          have I1 : L2.Inv X pins σ H { s with heap := h', toks := tk } := I.kept hkeep
          refine wpAny_bind (wpAny_newList ?_ (by rw [hal']; omega))
          have hoL : (h'.push (seqObj "list" its.toArray 0)).get? h'.objs.size = some (seqObj "list" its.toArray 0) := Heap.get?_push_size _ rfl
          show wpAny _ _ _ _ _ { s with heap := h'.push (seqObj "list" its.toArray 0), toks := tk }
          have I2 : L2.Inv X pins σ H { s with heap := h'.push (seqObj "list" its.toArray 0), toks := tk } := I1.kept (t' := tk) fun b o e => Heap.get?_push_of_some _ e
          have hl := h1.length
          generalize hds : kvs.map (·.1) = ds at hal hdt hsort q h1 hl
          have hE := each_of (R := fun u (p : D × V) => Rv X.K H p.1 p.2 ∧ L2.RelV p.2 u) (fun a b c h1 h2 => ⟨h1, h2⟩) (rvL_paired h1) h2
          have hmem : ∀ p ∈ ds.zip vs, p.1 ∈ ds := fun p hp => (List.of_mem_zip (a := p.1) (b := p.2) hp).1
          have hdn : ∀ p ∈ ds.zip vs, Dn 12 p.1 := fun p hp => dat_dn 12 _ (hdt _ (hmem p hp))
          have hER : PySem.W.EachIs (fun u (p : D × V) => ∃ as, Reads (h'.push (seqObj "list" its.toArray 0)) u (tp p.1) as ∧ h'.objs.size ∉ as) its (ds.zip vs) :=
            each_imp (fun u p ⟨⟨h1, h2⟩, hm⟩ => ⟨[], reads0 I2 12 _ _ _ (hdt _ (hmem p hm)) h1 h2, by simp⟩) (each_mem hE)
          have hfst : ((ds.zip vs).mergeSort (PySem.W.dataLe false fun p : D × V => tp p.1)).map Prod.fst = ds.mergeSort (dle false) := by
            rw [List.map_mergeSort (s := dle false), zip_fst hl]
            intro p hp p' hp'
            exact dle_tp false (hdn p hp) (hdn p' hp') (hal _ (hmem p hp) _ (hmem p' hp'))
          have hzl : (ds.zip vs).length ≤ sizeLine := by
            rw [List.length_zip, hl, Nat.min_self]
            have := congrArg List.length hds
            rw [List.length_map] at this
            omega
          refine wpAny_bind (wpAny_holding (PySem.W.list_sort_data (s := { s with heap := h'.push (seqObj "list" its.toArray 0), toks := tk }) (enc := fun p : D × V => tp p.1) hoL hE hER ?_ ?_ hzl ?_ fun out hlo eo => ?_))
          · intro d hd d' hd'
            obtain ⟨p, hp, rfl⟩ := List.mem_map.mp hd
            obtain ⟨p', hp', rfl⟩ := List.mem_map.mp hd'
            exact alike_tp _ _ 12 12 (hdn p hp) (hdn p' hp') (hal _ (hmem p hp) _ (hmem p' hp'))
          · rcases hsort with hs | hs
            · refine .inl fun d hd => ?_
              obtain ⟨p, hp, rfl⟩ := List.mem_map.mp hd
              obtain ⟨x, r, e⟩ := hs _ (hmem p hp)
              exact ⟨tp x, tpL r, by rw [e, tp, tpL]⟩
            · refine .inr fun d hd => ?_
              obtain ⟨p, hp, rfl⟩ := List.mem_map.mp hd
              obtain ⟨n1, n2⟩ := hs _ (hmem p hp)
              have hd' := hdn p hp
              refine ⟨tp_none hd' n1, fun xs e => ?_⟩
              cases e3 : p.1 <;> rw [e3] at e <;> simp [tp] at e
              exact n2 _ e3
          · intro p hp
            have := (hdn p hp).tp.1
            show X.A.units + 1 + 1 + _ < cLine
            omega
          · obtain ⟨r1, r2⟩ := each_out eo
            rw [hfst] at r1
            obtain ⟨n, e4'⟩ := PyProof.Rows.sortedHeap_at (vs := its) (out := out.toArray) hoL
            have nn : H h'.objs.size = none := I1.hok.fresh (Nat.le_refl _)
            have hlen' : (((ds.zip vs).mergeSort (PySem.W.dataLe false fun p : D × V => tp p.1)).map Prod.snd).length ≤ sizeLine := by
              rw [List.length_map, List.length_mergeSort]; exact hzl
            refine wpAny_pure ⟨_, rfl, .ref h'.objs.size, _, I1.laid (t' := tk) (o := .lst (((ds.zip vs).mergeSort (PySem.W.dataLe false fun p : D × V => tp p.1)).map Prod.snd)) (fun b o e => ?_) (Nat.le_refl _) ⟨hlen', out, n, r2, e4'⟩, rfl, newL_ok q A r1 nn (Kp.refl _) k⟩
            have hb : b < h'.objs.size := Heap.lt_size e
            rw [PyProof.Rows.sortedHeap_old (Nat.ne_of_lt hb) (by rw [size_push']; exact Nat.lt_succ_of_lt hb)]
            exact Heap.get?_push_of_some _ e
        · cases rv
      · exact q.elim
  · exact q.elim
end
end G
end

section
set_option Elab.async false
set_option linter.all false
set_option maxRecDepth 100000
set_option maxHeartbeats 4000000
/-! G layer, soundness 22: dict.clear (what is cleared is told no more). -/
namespace G
open PySem PySem.Spec PyProof.Rows L2
variable [Tb]
section
variable {X : Cx}
theorem gm_dclear : GM X "dict.clear" mDClear := fun pins s σ H x vs v us Q I rx rv ⟨d, ds, h, Q0, rd, rL, A, q, k⟩ => by
  unfold mDClear at q
  split at q
  · rename_i a
    split at q
    · rename_i kvs ea
      cases rd; cases rx; cases rL; cases rv
      obtain ⟨L, es, ep, hR, hP, hz, hne, hnd, e4⟩ := dic_raw I A ea
      have hlen : L.length = kvs.length := by
        have := congrArg List.length (ep_keys hP)
        simpa using this
      have hes : es.size = L.length := by rw [← Array.length_toList, hR.ents, List.length_map]
      refine call_meetsIn F.slot_dict_clear hR.dic.typeIs F.entry_dict_clear (F.args_dict_clear_1 _) (meets_dict_clear_raw a) ⟨es, ep, hR.dic, by omega, fun h' hr' hs' => ?_⟩
      have hd' : GR.Dic h' a #[] (ep + 1) := hr'
      have k1 : Kp H (upd H a (.ext (RawD a #[] (ep + 1)))) := Kp.wr e4 trivial
      have A1 : Abs X.K X.w (hid h a) (upd H a (.ext (RawD a #[] (ep + 1)))) := ⟨fun b o e => ?_, tabs_wr A.tabs e4 trivial fun q z => ?_⟩
      · exact ⟨.non, _, I.write (t' := s.toks) (x := a) (e := a) (by rw [e4]; trivial) (.inl rfl) (fun b u hb q => (hs'.2 b hb).trans q) (let ⟨o, ho, _⟩ := hd'; ⟨o, ho⟩) (raw_obj hd'), rfl, k _ _ _ _ q k1 .non A1⟩
      · unfold hid at e
        split at e
        · cases e
        · rename_i hb
          exact (A b o e).kp k1 (upd_ne hb)
      · obtain ⟨ob, q1, _, q2⟩ := (I.hok a _ e4).1
        have z2 : RawD a es ep s.heap := ⟨ob, q1, by assumption, q2⟩
        have z3 : ∃ (oc : Obj) (vs : Array Value) (t : Tok), s.heap.get? a = some oc ∧ oc.data = .fields vs ∧ vs[1]? = some (.str q t) := by
          have := congrArg (fun o => match o with | HO.ext f => f s.heap | _ => False) z
          exact this.mp z2
        obtain ⟨oc, vs, t, r1, r2, _⟩ := z3
        rw [q1] at r1; cases r1
        rw [q2] at r2; cases r2
    · exact q.elim
  · exact q.elim
end
end G
end

section
set_option Elab.async false
set_option linter.all false
set_option maxRecDepth 100000
set_option maxHeartbeats 4000000
/-! G layer: the end of a law. -/
namespace G
open PySem PySem.Spec PyProof.Rows L2
variable [Tb]
theorem rvL_ints {K : PySem.W.Frag} {H : Hp} : ∀ ns : List Int, RvL K H (ns.map D.int) (ns.map V.int)
  | [] => .nil
  | n :: ns => .cons (.int n) (rvL_ints ns)
theorem sp_law {K : PySem.W.Frag} {w : World} {f : FS} {m : Nat} (hf : ∀ ns : List Int, ns.length ≤ m → f [.rl (ns.map .int)] (fun _ => none) fun d _ => d = .bl true) (H : Hp) (a : PySem.Addr) (ns : List Int) (hl : ns.length ≤ m) (ho : Only H) (hS : SqL K H a (ns.map V.int)) (hT : LamX.Tabs Tb.T H) :
    spG K w f [.ref a] H (fun v _ => v = .bl true) fun _ _ _ => False := by
  have hr : RoL K H a (ns.map V.int) := by
    rcases hS with (h | ⟨o, h⟩) | h
    · rcases ho a with e | ⟨o, xs, e⟩
      · rw [e] at h; cases h
      · rw [e] at h; cases h
    · exact .inl ⟨o, h⟩
    · exact .inr h
  refine ⟨[.rl (ns.map .int)], fun _ => none, fun d _ => d = .bl true, .cons (.rl hr (rvL_ints ns)) .nil, ⟨fun _ _ (e : none = some _) => (nomatch e), hT⟩, hf ns hl, fun d h' v H' e k r A => ?_⟩
  subst e
  cases r
  rfl
theorem hu64 {k : Nat} {A : Around} (hr : Room k A) : A.units + 64 < cLine := by have := hr.un; omega
theorem hu100 {k : Nat} {A : Around} (hr : Room k A) : A.units + 100 < cLine := by have := hr.un; omega
/-- a module's constant tuple -/
theorem rv_ktup {K : PySem.W.Frag} {a : PySem.Addr} {o : Obj} {its : Array Value} {n : Nat} {vs : List V} {ds : List D} (e : K.lookup a = some o) (hc : o.cls = .type "tuple") (hd : o.data = .seq its n) (hz : its.size ≤ sizeLine) (hv : L2.Vals vs its.toList) (r : ∀ H, RvL K H ds vs) (H : Hp) : Rv K H (.tup ds) (.ref a) :=
  .tup (.inr ⟨o, its, n, e, hc, hd, hz, hv⟩) (r H)
/-- no tables -/
@[reducible] def tb0 : Tb := ⟨[]⟩
theorem sp_law0 {K : PySem.W.Frag} {w : World} {f : FS} {m : Nat} (hf : ∀ ns : List Int, ns.length ≤ m → f [.rl (ns.map .int)] (fun _ => none) fun d _ => d = .bl true) (H : Hp) (a : PySem.Addr) (ns : List Int) (hl : ns.length ≤ m) (ho : Only H) (hS : SqL K H a (ns.map V.int)) :
    @spG tb0 K w f [.ref a] H (fun v _ => v = .bl true) fun _ _ _ => False :=
  @sp_law tb0 K w f m hf H a ns hl ho hS fun p hp => by cases hp
theorem hdp {k : Nat} {A : Around} (hr : Room k A) : A.in1.in1.depth < recursionLimit := by
  have h := hr.dp
  show A.depth < recursionLimit
  omega
/-- how a lambda in a def of the top is named -/
abbrev lamQ (n : Str) : Str := (n ++ ".<locals>.") ++ "<lambda>"
/-- the law's promise, whatever tracks the script -/
def spT (K : PySem.W.Frag) (cs : List (PySem.Addr × PySem.Addr)) (m : Nat) : Sp := fun vs H Q _ => ∃ (a : PySem.Addr) (ns : List Int), vs = [.ref a] ∧ ns.length ≤ m ∧ (∀ p ∈ cs, H p.2 = some (.tbl #[])) ∧ SqL K H a (ns.map V.int) ∧ Q = fun v _ => v = .bl true
theorem tabs_new {T : List (PySem.Addr × Str)} {H : Hp} (h : ∀ p ∈ T, H p.1 = some (.tbl #[])) : LamX.Tabs T H := fun p hp => LamX.TabS.nil (h p hp)
theorem froz {P : Program} {w : World} {K : PySem.W.Frag} {mg : Str → Option Value} {base : Heap} {k m : Nat} {fa : PySem.Addr} {fd : FuncData} {x : Str} {f : FS} {cs : List (PySem.Addr × PySem.Addr)}
    (hf : ∀ ns : List Int, ns.length ≤ m → f [.rl (ns.map .int)] (fun _ => none) fun d _ => d = .bl true) (hT : ∀ p ∈ Tb.T, ∃ c, (c, p.1) ∈ cs) (F : FnG P w K mg base k fa fd [x] f) : FnOk P w K mg base CX0 k fa fd [x] (spT K cs m) := by
  have go : ∀ (H : Hp) (a : PySem.Addr) (ns : List Int), ns.length ≤ m → (∀ p ∈ cs, H p.2 = some (.tbl #[])) → RoL K H a (ns.map V.int) → spG K w f [.ref a] H (fun v _ => v = .bl true) fun _ _ _ => False := by
    intro H a ns hl ht hr
    refine ⟨[.rl (ns.map .int)], fun _ => none, fun d _ => d = .bl true, .cons (.rl hr (rvL_ints ns)) .nil, ⟨fun _ _ (e : none = some _) => (nomatch e), tabs_new fun p hp => ?_⟩, hf ns hl, fun d h' v H' e k r A => ?_⟩
    · obtain ⟨c, hc⟩ := hT p hp
      exact ht _ hc
    · subst e
      cases r
      rfl
  refine ⟨fun vs H Q E ⟨a, ns, e, _⟩ => by rw [e]; rfl, fun A outer s H args us vs Q E hr e0 hb rv ⟨a, ns, e, hl, ht, hS, eQ⟩ => ?_⟩
  subst e
  subst eQ
  rcases hS with (hS | ⟨o, hS⟩) | hS
  · obtain ⟨z, its, n, r1, r2⟩ := e0.hok a _ hS
    have ne : ∀ b u, H b = some u → (∀ ys, u ≠ .lst ys) → b ≠ a := fun b u q1 q2 q3 => by subst q3; rw [hS] at q1; cases q1; exact q2 _ rfl
    have nn : ∀ b, H b = none → b ≠ a := fun b q1 q3 => by subst q3; rw [hS] at q1; cases q1
    let H2 : Hp := upd H a (.frz { cls := .type "list", data := .seq its.toArray n } (.lst (ns.map V.int)))
    have at_ : ∀ b, b ≠ a → H2 b = H b := fun b q => upd_ne q
    have hok2 : HOk P w H2 s.heap := fun b u q => by
      by_cases hb : b = a
      · subst hb
        have q' : some (HO.frz _ _) = some u := (upd_same (H := H)).symm.trans q
        cases q'
        exact ⟨r2, z, its, n, r1, r2⟩
      · rw [at_ b hb] at q
        exact (e0.hok b u q).stay (fun _ _ _ q => q) (fun d q => by rw [at_ d (ne d _ q fun _ z => by cases z)]; exact q) fun d xs q => by rw [at_ d (ne d _ q fun _ z => by cases z)]; exact q
    have e2 : Env0 P w K mg base A outer s H2 := ⟨e0.frames, e0.mod, fun b o q => ⟨(e0.bs b o q).1, by rw [at_ b (nn b (e0.bs b o q).2)]; exact (e0.bs b o q).2⟩, e0.bsz, e0.funs, fun b q => by rw [at_ b (nn b (e0.frf b q))]; exact e0.frf b q, hok2, e0.bare⟩
    have hgo := go H2 a ns hl (fun p hp => by rw [at_ _ (ne _ _ (ht p hp) fun _ z => by cases z)]; exact ht p hp) (.inl ⟨_, upd_same⟩)
    refine codeAny_mono (F.run A outer s H2 args us _ _ _ hr e2 hb rv hgo) fun r s' q => ?_
    cases r with
    | error e =>
      exact q
    | ok fl =>
      cases fl with
      | ret u =>
        obtain ⟨v, H3, w1, w2, un, w3, w4, w5⟩ := q
        refine ⟨v, H3, w1, w2, ⟨fun b o q1 q2 => un.keep b o q1 (by rw [at_ b (nn b q2)]; exact q2), fun b o q1 q2 => un.slot b o q1 (by rw [at_ b (nn b q2)]; exact q2), fun b o q1 q2 => un.free b o q1 (by rw [at_ b (nn b q2)]; exact q2), un.there,
          fun b xs q1 => un.tups b xs (by rw [at_ b (ne b _ q1 fun _ z => by cases z)]; exact q1), fun b o u q1 => un.frzs b o u (by rw [at_ b (ne b _ q1 fun _ z => by cases z)]; exact q1), fun b ps q1 => un.tbls b ps (by rw [at_ b (ne b _ q1 fun _ z => by cases z)]; exact q1)⟩, w3, w4, w5⟩
      | _ => exact q
  · exact F.run A outer s H args us _ _ _ hr e0 hb rv (go H a ns hl ht (.inl ⟨o, hS⟩))
  · exact F.run A outer s H args us _ _ _ hr e0 hb rv (go H a ns hl ht (.inr hS))
end G
end

section
set_option linter.all false
set_option autoImplicit false
/-! G layer: plain lemmas for the laws: equality of plain data, rules for readings, dicts, lists. -/
namespace G
open PySem (Str)

/-! ### plain data -/
mutual
theorem pl_mono : ∀ (n m : Nat) (d : D), n ≤ m → pl n d = true → pl m d = true
  | _, _, .non, _, _ => by simp [pl]
  | _, _, .int _, _, _ => by simp [pl]
  | _, _, .str _, _, _ => by simp [pl]
  | n + 1, m + 1, .tup ds, h, e => by
    rw [pl] at e ⊢
    exact plL_mono n m ds (by omega) e
  | n + 1, 0, .tup ds, h, _ => by omega
  | 0, m, .tup ds, _, e => by simp [pl] at e
  | n, m, .bl _, _, e => by cases n <;> simp [pl] at e
  | n, m, .rl _, _, e => by cases n <;> simp [pl] at e
  | n, m, .rd _ _, _, e => by cases n <;> simp [pl] at e
  | n, m, .ref _, _, e => by cases n <;> simp [pl] at e
theorem plL_mono : ∀ (n m : Nat) (ds : List D), n ≤ m → plL n ds = true → plL m ds = true
  | _, _, [], _, _ => rfl
  | n, m, d :: ds, h, e => by
    rw [plL, Bool.and_eq_true] at e ⊢
    exact ⟨pl_mono n m d h e.1, plL_mono n m ds h e.2⟩
end
theorem plL_iff {n : Nat} : ∀ {ds : List D}, plL n ds = true ↔ ∀ d ∈ ds, pl n d = true
  | [] => by simp [plL]
  | d :: ds => by rw [plL, Bool.and_eq_true, plL_iff (ds := ds)]; simp
mutual
theorem rei_pl {h : AH} : ∀ (n : Nat) (d : D), pl n d = true → rei h n d = some d
  | n, .non, _ => by cases n <;> rfl
  | n, .int _, _ => by cases n <;> rfl
  | n, .str _, _ => by cases n <;> rfl
  | n + 1, .tup ds, e => by rw [pl] at e; rw [rei, mapO_pl n ds e]; rfl
  | 0, .tup ds, e => by simp [pl] at e
  | n, .bl _, e => by cases n <;> simp [pl] at e
  | n, .rl _, e => by cases n <;> simp [pl] at e
  | n, .rd _ _, e => by cases n <;> simp [pl] at e
  | n, .ref _, e => by cases n <;> simp [pl] at e
theorem mapO_pl {h : AH} : ∀ (n : Nat) (ds : List D), plL n ds = true → mapO (rei h n) ds = some ds
  | _, [], _ => rfl
  | n, d :: ds, e => by
    rw [plL, Bool.and_eq_true] at e
    rw [mapO, rei_pl n d e.1, mapO_pl n ds e.2]
end
mutual
/-- plain data and lists of such -/
def plq : D → Bool
  | .non => true
  | .int _ => true
  | .str _ => true
  | .tup ds => plqL ds
  | .rl ds => plqL ds
  | _ => false
def plqL : List D → Bool
  | [] => true
  | d :: ds => plq d && plqL ds
end
mutual
theorem plq_pl : ∀ (n : Nat) (d : D), pl n d = true → plq d = true
  | n, .non, _ => rfl
  | n, .int _, _ => rfl
  | n, .str _, _ => rfl
  | n + 1, .tup ds, e => by rw [pl] at e; rw [plq]; exact plqL_pl n ds e
  | 0, .tup ds, e => by simp [pl] at e
  | n, .bl _, e => by cases n <;> simp [pl] at e
  | n, .rl _, e => by cases n <;> simp [pl] at e
  | n, .rd _ _, e => by cases n <;> simp [pl] at e
  | n, .ref _, e => by cases n <;> simp [pl] at e
theorem plqL_pl : ∀ (n : Nat) (ds : List D), plL n ds = true → plqL ds = true
  | _, [], _ => rfl
  | n, d :: ds, e => by
    rw [plL, Bool.and_eq_true] at e
    rw [plqL, plq_pl n d e.1, plqL_pl n ds e.2]; rfl
end
mutual
theorem deqv_plq : ∀ (x y : D), plq x = true → plq y = true → deqv x y = decide (x = y)
  | .non, y, _, h => by cases y <;> simp_all [plq, deqv]
  | .int a, y, _, h => by cases y <;> simp_all [plq, deqv, Bool.beq_eq_decide_eq]
  | .str a, y, _, h => by cases y <;> simp_all [plq, deqv, Bool.beq_eq_decide_eq]
  | .tup a, y, e, h => by
    cases y <;> first | (simp [plq] at h; done) | (simp [deqv]; done) | skip
    rw [plq] at e h
    rw [deqv, deqvL_plq _ _ e h]; simp
  | .rl a, y, e, h => by
    cases y <;> first | (simp [plq] at h; done) | (simp [deqv]; done) | skip
    rw [plq] at e h
    rw [deqv, deqvL_plq _ _ e h]; simp
  | .bl _, y, e, _ => by simp [plq] at e
  | .rd _ _, y, e, _ => by simp [plq] at e
  | .ref _, y, e, _ => by simp [plq] at e
theorem deqvL_plq : ∀ (x y : List D), plqL x = true → plqL y = true → deqvL x y = decide (x = y)
  | [], [], _, _ => by simp [deqvL]
  | [], _ :: _, _, _ => by simp [deqvL]
  | _ :: _, [], _, _ => by simp [deqvL]
  | x :: xs, y :: ys, e, h => by
    rw [plqL, Bool.and_eq_true] at e h
    rw [deqvL, deqv_plq x y e.1 h.1, deqvL_plq xs ys e.2 h.2]
    by_cases z : x = y <;> simp [z]
end
/-- x is, lists at addresses put by value, the plain x' -/
def Pv (h : AH) (x x' : D) : Prop := rei h 12 x = some x' ∧ plq x' = true
theorem Pv.pl {h : AH} {n : Nat} {x : D} (e : pl n x = true) (hn : n ≤ 12 := by omega) : Pv h x x := ⟨rei_pl 12 x (pl_mono n 12 x hn e), plq_pl n x e⟩
theorem Pv.lst {h : AH} {a : Addr} {ds : List D} {n : Nat} (e : h a = some (.lst ds)) (hp : plL n ds = true) (hn : n ≤ 11 := by omega) : Pv h (.ref a) (.rl ds) := by
  refine ⟨?_, by rw [plq]; exact plqL_pl n ds hp⟩
  rw [rei, e]
  dsimp only
  rw [mapO_pl 11 ds (plL_mono n 11 ds hn hp)]; rfl
theorem Pv.rl {h : AH} {ds : List D} {n : Nat} (hp : plL n ds = true) (hn : n ≤ 11 := by omega) : Pv h (.rl ds) (.rl ds) := by
  refine ⟨?_, by rw [plq]; exact plqL_pl n ds hp⟩
  rw [rei, mapO_pl 11 ds (plL_mono n 11 ds hn hp)]; rfl
theorem oEqB_pv {h : AH} {x y x' y' : D} {Q : Bool → Prop} (a : Pv h x x') (b : Pv h y y') (q : Q (decide (x' = y'))) : oEqB x y h Q := by
  unfold oEqB
  rw [a.1, b.1]
  dsimp only
  rw [deqv_plq _ _ a.2 b.2]; exact q
theorem oEq_pv {h : AH} {x y x' y' : D} {Q : KD} (a : Pv h x x') (b : Pv h y y') (q : Q (.bl (decide (x' = y'))) h) : oEq x y h Q := by refine ⟨?_⟩; exact oEqB_pv a b q
theorem oNe_pv {h : AH} {x y x' y' : D} {Q : KD} (a : Pv h x x') (b : Pv h y y') (q : Q (.bl (!decide (x' = y'))) h) : oNe x y h Q := by refine ⟨?_⟩; exact oEqB_pv a b q

/-! ### rules -/
theorem up_at {h : AH} {a b : Addr} {o : O} {x : Option O} (n : b ≠ a) (e : h b = x) : up h a o b = x := by rw [up_ne n]; exact e
theorem ix_lst {h : AH} {a : Addr} {ds : List D} {i : Int} {Q : KD} (e : h a = some (.lst ds)) (q : ∃ d, atI ds i = some d ∧ Q d h) : oIx (.ref a) (.int i) h Q := by
  refine ⟨?_⟩
  simp only [dcOf, e, sqOf, lsOf]
  exact q
theorem ix_dic {h : AH} {a : Addr} {kvs : List (D × D)} {k : D} {Q : KD} (e : h a = some (.dic kvs)) (q : pl 8 k = true ∧ ∃ v, dget kvs k = some v ∧ Q v h) : oIx (.ref a) k h Q := by
  refine ⟨?_⟩
  simp only [dcOf, e]
  exact q
theorem ix_tup {h : AH} {ds : List D} {i : Int} {Q : KD} (q : ∃ d, atI ds i = some d ∧ Q d h) : oIx (.tup ds) (.int i) h Q := by refine ⟨?_⟩; exact q
theorem ix_rl {h : AH} {ds : List D} {i : Int} {Q : KD} (q : ∃ d, atI ds i = some d ∧ Q d h) : oIx (.rl ds) (.int i) h Q := by refine ⟨?_⟩; exact q
theorem atI_last {α : Type} (xs : List α) (x : α) : atI (xs ++ [x]) (-1) = some x := by
  unfold atI ixN
  rw [if_neg (by omega), if_pos (by simp only [List.length_append, List.length_cons, List.length_nil]; omega)]
  simp only [Option.bind_some, List.length_append, List.length_cons, List.length_nil]
  rw [show (-1 + ((xs.length + (0 + 1) : Nat) : Int)).toNat = xs.length by omega]
  simp
theorem atI_nat {α : Type} {xs : List α} {i : Nat} {x : α} (e : xs[i]? = some x) : atI xs (i : Int) = some x := by
  have := (List.getElem?_eq_some_iff.mp e).1
  unfold atI ixN
  rw [if_pos (by omega), if_pos (by omega)]
  simpa using e
theorem atI_int {α : Type} {xs : List α} {i : Int} (h0 : 0 ≤ i) (h1 : i < xs.length) : ∃ x, xs[i.toNat]? = some x ∧ atI xs i = some x := by
  have h2 : i.toNat < xs.length := by omega
  refine ⟨xs[i.toNat], by simp [h2], ?_⟩
  unfold atI ixN
  rw [if_pos h0, if_pos h1]
  simp [h2]
theorem app_lst {h : AH} {a : Addr} {ds : List D} {d : D} {Q : KD} (e : h a = some (.lst ds)) (q : ds.length < SZ ∧ Q .non (up h a (.lst (ds ++ [d])))) : mAppend (.ref a) [d] h Q := by
  unfold mAppend
  simp only [e]
  exact q
theorem isT_lst {h : AH} {a : Addr} {ds : List D} (e : h a = some (.lst ds)) : isT "list" h (.ref a) = some true := by simp [isT, e]
theorem isT_dic {h : AH} {a : Addr} {kvs : List (D × D)} (e : h a = some (.dic kvs)) : isT "dict" h (.ref a) = some true := by simp [isT, e]
theorem oIsT_lst {h : AH} {a : Addr} {ds : List D} {T : String} {Q : KD} (e : h a = some (.lst ds)) (q : Q (.bl (T == "list")) h) : oIsT T (.ref a) h Q := by
  unfold oIsT
  simp only [isT, e]
  exact q
theorem len_lst {h : AH} {a : Addr} {ds : List D} {Q : KD} (e : h a = some (.lst ds)) (q : Q (.int ds.length) h) : bLen [.ref a] h Q := by
  unfold bLen
  simp only [sqOf, lsOf, e]
  exact q
theorem len_tup {h : AH} {ds : List D} {Q : KD} (q : Q (.int ds.length) h) : bLen [.tup ds] h Q := by unfold bLen; exact q
theorem len_rl {h : AH} {ds : List D} {Q : KD} (q : Q (.int ds.length) h) : bLen [.rl ds] h Q := by unfold bLen; exact q
theorem len_str {h : AH} {s : Str} {Q : KD} (q : Q (.int s.length) h) : bLen [.str s] h Q := by unfold bLen; exact q
theorem ls_lst {h : AH} {a : Addr} {ds : List D} (e : h a = some (.lst ds)) : lsOf h (.ref a) = some ds := by simp only [lsOf, e]
theorem ls_rl {h : AH} {ds : List D} : lsOf h (.rl ds) = some ds := rfl
theorem sq_tup {h : AH} {ds : List D} : sqOf h (.tup ds) = some ds := rfl
theorem sq_rl {h : AH} {ds : List D} : sqOf h (.rl ds) = some ds := rfl
theorem sq_lst {h : AH} {a : Addr} {ds : List D} (e : h a = some (.lst ds)) : sqOf h (.ref a) = some ds := by simp only [sqOf, lsOf, e]
theorem dict_ls {h : AH} {x : D} {ds : List D} {Q : KD} (e : lsOf h x = some ds) (q : ∃ ps, pairsOf ds = some ps ∧ (∀ x ∈ ps, pl 8 x.1 = true) ∧ newD (dputs [] ps) h Q) : bDict [x] h Q := by
  obtain ⟨ps, g, q⟩ := q
  unfold bDict
  simp only [e, Option.bind_some, g]
  exact q
theorem sl_ls {h : AH} {x : D} {ds : List D} {lo hi : Option Int} {Q : KD} (e : lsOf h x = some ds) (q : newL (cut ds lo hi) h Q) : oSl x lo hi h Q := by
  unfold oSl
  cases x <;> first | (simp only [e]; exact q) | (simp [lsOf] at e; done)
theorem rev_ls {h : AH} {x : D} {ds : List D} {Q : KD} (e : lsOf h x = some ds) (q : newL ds.reverse h Q) : oRevSl x h Q := by
  unfold oRevSl
  simp only [e]
  exact q
theorem list_sq {h : AH} {x : D} {ds : List D} {Q : KD} (e : sqOf h x = some ds) (q : newL ds h Q) : bList [x] h Q := by
  unfold bList
  simp only [e]
  exact q
theorem list_dic {h : AH} {a : Addr} {kvs : List (D × D)} {Q : KD} (e : h a = some (.dic kvs)) (q : newL (kvs.map (·.1)) h Q) : bList [.ref a] h Q := by
  unfold bList
  simp only [sqOf, lsOf, dcOf, e]
  exact q
theorem max_ls {h : AH} {x d : D} {ds : List D} {Q : KD} (e : lsOf h x = some (d :: ds)) (q : ((∀ a ∈ d :: ds, ∀ b ∈ d :: ds, alk a b = true) ∧ ∀ a ∈ d :: ds, dat 12 a = true ∧ a ≠ .non) ∧ Q (dmax d ds) h) : bMax [x] h Q := by
  unfold bMax
  cases x <;> first | (simp only [e]; exact q) | (simp [lsOf] at e; done)
theorem sum_ls {h : AH} {x : D} {ds : List D} {Q : KD} (e : lsOf h x = some ds) (q : ∃ ns, intsOf ds = some ns ∧ Q (.int ns.sum) h) : bSum [x] h Q := by
  obtain ⟨ns, g, q⟩ := q
  unfold bSum
  simp only [e, Option.bind_some, g]
  exact q
theorem sorted_ls {h : AH} {x : D} {ds : List D} {rev : Bool} {Q : KD} (e : lsOf h x = some ds) (q : sortable ds ∧ newL (ds.mergeSort (dle rev)) h Q) : bSorted rev [x] h Q := by
  unfold bSorted
  simp only [e]
  exact q
theorem walkD_lst {h : AH} {a : Addr} {ds : List D} {R : Src → AH → Prop} (e : h a = some (.lst ds)) (q : R (srcL a ds) h) : walkD h (.ref a) R := by
  unfold walkD
  simp only [e]
  exact q
theorem walkD_dic {h : AH} {a : Addr} {kvs : List (D × D)} {R : Src → AH → Prop} (e : h a = some (.dic kvs)) (q : R (srcK a (kvs.map (·.1))) h) : walkD h (.ref a) R := by
  unfold walkD
  simp only [e]
  exact q
theorem walkI_dic {h : AH} {a : Addr} {kvs : List (D × D)} {R : Src → AH → Prop} (e : h a = some (.dic kvs)) (q : R (srcI a kvs) h) : walkI h (.ref a) R := by
  unfold walkI
  simp only [e]
  exact q
theorem walkD_tup {h : AH} {ds : List D} {R : Src → AH → Prop} (q : R (srcV ds) h) : walkD h (.tup ds) R := by unfold walkD; exact q
theorem walkD_rl {h : AH} {ds : List D} {R : Src → AH → Prop} (q : R (srcV ds) h) : walkD h (.rl ds) R := by unfold walkD; exact q
theorem walkL_lst {h : AH} {a : Addr} {ds : List D} {R : Src → AH → Prop} (e : h a = some (.lst ds)) (q : R (srcL a ds) h) : walkL h (.ref a) R := by
  unfold walkL
  simp only [e]
  exact q
theorem walkL_rl {h : AH} {ds : List D} {R : Src → AH → Prop} (q : R (srcV ds) h) : walkL h (.rl ds) R := by unfold walkL; exact q
theorem newL_i {ds : List D} {h : AH} {Q : KD} (q : ∀ p, h p = none → Q (.ref p) (up h p (.lst ds))) : newL ds h Q := by unfold newL; exact q
theorem newD_i {ds : List (D × D)} {h : AH} {Q : KD} (q : ∀ p, h p = none → Q (.ref p) (up h p (.dic ds))) : newD ds h Q := by unfold newD; exact q
theorem oAdd_lst {h : AH} {a b : Addr} {xs ys : List D} {Q : KD} (e1 : h a = some (.lst xs)) (e2 : h b = some (.lst ys)) (q : xs.length + ys.length ≤ SZ ∧ newL (xs ++ ys) h Q) : addR a b h Q := by
  unfold addR
  simp only [e1, e2]
  exact q
theorem tru_lst {h : AH} {a : Addr} {ds : List D} {Q : Bool → Prop} (e : h a = some (.lst ds)) (q : Q (!ds.isEmpty)) : onB (tru h (.ref a)) Q := by
  rw [show tru h (.ref a) = some (!ds.isEmpty) by unfold tru; simp only [e]]
  exact q
theorem put_lst {h : AH} {a : Addr} {ds : List D} {i : Int} {v : D} {Q : AH → Prop} (e : h a = some (.lst ds)) (q : ∃ k, ixN ds.length i = some k ∧ Q (up h a (.lst (ds.set k v)))) : oPut (.ref a) (.int i) v h Q := by
  refine ⟨?_⟩
  simp only [e]
  exact q
theorem put_dic {h : AH} {a : Addr} {kvs : List (D × D)} {k v : D} {Q : AH → Prop} (e : h a = some (.dic kvs)) (q : pl 8 k = true ∧ kvs.length < SZ ∧ Q (up h a (.dic (dput kvs k v)))) : oPut (.ref a) k v h Q := by
  refine ⟨?_⟩
  simp only [e]
  exact q
theorem Sb.add {h0 h : AH} {a : Addr} {o : O} (s : Sb h0 h) (e : h a = some o) : Sb (up h0 a o) h := fun p u q => by
  by_cases z : p = a
  · subst z; rw [up_same] at q; rw [e, q]
  · rw [up_ne z] at q; exact s p u q
theorem Sb.upf {h0 h : AH} {a : Addr} {o : O} (s : Sb h0 h) (n : h0 a = none) : Sb h0 (up h a o) := fun p u q => by
  have : p ≠ a := fun z => by rw [z, n] at q; cases q
  rw [up_ne this]; exact s p u q
theorem Sb.at {h0 h : AH} {a : Addr} {x : O} (s : Sb h0 h) (e : h0 a = some x) : h a = some x := s a x e
theorem ne_f1 {h : AH} {a b : Addr} {o : O} (y : h b = none) (x : h a = some o) : a ≠ b := ne_of x y
theorem ne_f2 {h : AH} {a b : Addr} {o : O} (y : h b = none) (x : h a = some o) : b ≠ a := ne_of' x y
theorem Sb.nn {h0 h : AH} {a : Addr} (s : Sb h0 h) (n : h a = none) : h0 a = none := by
  cases e : h0 a with
  | none => rfl
  | some o => rw [s a o e] at n; cases n
theorem Sb.upf' {h0 h : AH} {a : Addr} {o : O} (s : Sb h0 h) (n : h a = none) : Sb h0 (up h a o) := s.upn n

/-! ### dicts -/
theorem dget_put (kvs : List (D × D)) (k v k' : D) : dget (dput kvs k v) k' = if k = k' then some v else dget kvs k' := by
  induction kvs with
  | nil => simp [dput, dget]
  | cons p r ih =>
    obtain ⟨a, b⟩ := p
    rw [dput]
    by_cases e : a = k
    · rw [if_pos e]
      by_cases e2 : k = k'
      · simp [dget, e, e2]
      · simp [dget, e, e2]
    · rw [if_neg e]
      rw [dget, dget]
      by_cases e2 : a = k'
      · rw [if_pos e2, if_pos e2, if_neg (fun z => e (e2.trans z.symm))]
      · rw [if_neg e2, if_neg e2, ih]
theorem dget_puts_not {ps : List (D × D)} {k : D} : ∀ {kvs : List (D × D)}, k ∉ ps.map (·.1) → dget (dputs kvs ps) k = dget kvs k := by
  induction ps with
  | nil => intro kvs _; rfl
  | cons p r ih =>
    intro kvs h
    have h1 : ¬ p.1 = k := fun e => h (by simp [e])
    show dget (dputs (dput kvs p.1 p.2) r) k = _
    rw [ih (fun z => h (List.mem_cons_of_mem _ z)), dget_put, if_neg h1]
theorem dget_puts_mem {ps : List (D × D)} {k v : D} : ∀ {kvs : List (D × D)}, (ps.map (·.1)).Nodup → (k, v) ∈ ps → dget (dputs kvs ps) k = some v := by
  induction ps with
  | nil => intro kvs _ h; cases h
  | cons p r ih =>
    intro kvs hn h
    rw [List.map_cons, List.nodup_cons] at hn
    show dget (dputs (dput kvs p.1 p.2) r) k = _
    rcases List.mem_cons.mp h with e | h
    · subst e
      rw [dget_puts_not hn.1, dget_put, if_pos rfl]
    · exact ih hn.2 h

/-! ### small things -/
theorem enum_get : ∀ {ds : List D} {n i : Nat} {d : D}, (enumD n ds)[i]? = some d → ∃ x, ds[i]? = some x ∧ d = .tup [.int ((n + i : Nat)), x]
  | [], _, _, _, h => by simp [enumD] at h
  | x :: xs, n, 0, d, h => by
    simp [enumD] at h
    exact ⟨x, rfl, by rw [← h]; rfl⟩
  | x :: xs, n, i + 1, d, h => by
    have h' : (enumD (n + 1) xs)[i]? = some d := by simpa [enumD] using h
    obtain ⟨y, h1, h2⟩ := enum_get h'
    exact ⟨y, by simpa using h1, by rw [h2, show n + 1 + i = n + (i + 1) by omega]⟩
theorem enum_len : ∀ (ds : List D) (n : Nat), (enumD n ds).length = ds.length
  | [], _ => rfl
  | _ :: xs, n => congrArg (· + 1) (enum_len xs (n + 1))
theorem cut_take {α : Type} (xs : List α) (n : Nat) : cut xs none (some (n : Int)) = xs.take n := by
  unfold cut sIx
  dsimp only
  rw [if_neg (by omega), List.drop_zero, Nat.sub_zero]
  rw [show min ((n : Int)).toNat xs.length = min n xs.length by simp]
  exact List.take_eq_take_min.symm
theorem four (n : Int) (a b c d : D) : ∃ x, (x = a ∨ x = b ∨ x = c ∨ x = d) ∧ atI [a, b, c, d] (n % 4) = some x := by
  have h : n % 4 = 0 ∨ n % 4 = 1 ∨ n % 4 = 2 ∨ n % 4 = 3 := by omega
  rcases h with h | h | h | h <;> rw [h] <;> simp [atI, ixN]
theorem ints_map : ∀ ns : List Int, intsOf (ns.map .int) = some ns
  | [] => rfl
  | n :: ns => by
    show (intsOf (ns.map .int)).map (n :: ·) = _
    rw [ints_map ns]; rfl
theorem three (n : Int) (a b c : D) : atI [a, b, c] (n % 3) = some a ∨ atI [a, b, c] (n % 3) = some b ∨ atI [a, b, c] (n % 3) = some c := by
  have h : n % 3 = 0 ∨ n % 3 = 1 ∨ n % 3 = 2 := by omega
  rcases h with h | h | h <;> rw [h] <;> simp [atI, ixN]

/-- lists at addresses put by value, to a depth -/
def PvN (h : AH) (n : Nat) (x x' : D) : Prop := rei h n x = some x' ∧ plq x' = true
theorem PvN.pl {h : AH} {n m : Nat} {x : D} (e : G.pl m x = true) (hn : m ≤ n := by omega) : PvN h n x x := ⟨rei_pl n x (pl_mono m n x hn e), plq_pl m x e⟩
inductive PvL (h : AH) (n : Nat) : List D → List D → Prop
  | nil : PvL h n [] []
  | cons {x x' : D} {xs xs' : List D} : PvN h n x x' → PvL h n xs xs' → PvL h n (x :: xs) (x' :: xs')
theorem PvL.map {h : AH} {n : Nat} : ∀ {xs xs' : List D}, PvL h n xs xs' → mapO (rei h n) xs = some xs' ∧ plqL xs' = true
  | _, _, .nil => ⟨rfl, rfl⟩
  | _, _, .cons a b => by
    obtain ⟨h1, h2⟩ := b.map
    refine ⟨by rw [mapO, a.1, h1], ?_⟩
    rw [plqL, a.2, h2]; rfl
theorem PvL.pl {h : AH} {n m : Nat} : ∀ {xs : List D}, plL m xs = true → m ≤ n → PvL h n xs xs
  | [], _, _ => .nil
  | x :: xs, e, hn => by
    rw [plL, Bool.and_eq_true] at e
    exact .cons (.pl e.1 hn) (PvL.pl e.2 hn)
theorem PvN.lst {h : AH} {n : Nat} {a : Addr} {ds ds' : List D} (e : h a = some (.lst ds)) (p : PvL h n ds ds') : PvN h (n + 1) (.ref a) (.rl ds') := by
  refine ⟨?_, by rw [plq]; exact p.map.2⟩
  rw [rei, e]
  dsimp only
  rw [p.map.1]; rfl
theorem PvN.rl {h : AH} {n : Nat} {ds ds' : List D} (p : PvL h n ds ds') : PvN h (n + 1) (.rl ds) (.rl ds') := by
  refine ⟨?_, by rw [plq]; exact p.map.2⟩
  rw [rei, p.map.1]; rfl
theorem PvN.tup {h : AH} {n : Nat} {ds ds' : List D} (p : PvL h n ds ds') : PvN h (n + 1) (.tup ds) (.tup ds') := by
  refine ⟨?_, by rw [plq]; exact p.map.2⟩
  rw [rei, p.map.1]; rfl
theorem oIsT_bl {h : AH} {b : Bool} {T : String} {Q : KD} (q : Q (.bl (T == "bool" || T == "int")) h) : oIsT T (.bl b) h Q := by unfold oIsT isT; exact q
theorem oIsT_int {h : AH} {b : Int} {T : String} {Q : KD} (q : Q (.bl (T == "int")) h) : oIsT T (.int b) h Q := by unfold oIsT isT; exact q
theorem oIsT_str {h : AH} {b : Str} {T : String} {Q : KD} (q : Q (.bl (T == "str")) h) : oIsT T (.str b) h Q := by unfold oIsT isT; exact q
theorem oIsT_tup {h : AH} {b : List D} {T : String} {Q : KD} (q : Q (.bl (T == "tuple")) h) : oIsT T (.tup b) h Q := by unfold oIsT isT; exact q
theorem oIsT_rl {h : AH} {b : List D} {T : String} {Q : KD} (q : Q (.bl (T == "list")) h) : oIsT T (.rl b) h Q := by unfold oIsT isT; exact q
theorem oIsT_non {h : AH} {T : String} {Q : KD} (q : Q (.bl (T == "NoneType")) h) : oIsT T .non h Q := by unfold oIsT isT; exact q
theorem sl_tup {h : AH} {ds : List D} {lo hi : Option Int} {Q : KD} (q : Q (.tup (cut ds lo hi)) h) : oSl (.tup ds) lo hi h Q := by unfold oSl; exact q
theorem sl_str {h : AH} {s : Str} {lo hi : Option Int} {Q : KD} (q : Q (.str ⟨(cut s.cps.toList lo hi).toArray⟩) h) : oSl (.str s) lo hi h Q := by unfold oSl; exact q
theorem get_dic {h : AH} {a : Addr} {kvs : List (D × D)} {k : D} {Q : KD} (e : h a = some (.dic kvs)) (q : G.pl 8 k = true ∧ Q ((dget kvs k).getD .non) h) : mGet (.ref a) [k] h Q := by
  unfold mGet
  simp only [e]
  exact q
theorem get_dic2 {h : AH} {a : Addr} {kvs : List (D × D)} {k d : D} {Q : KD} (e : h a = some (.dic kvs)) (q : G.pl 8 k = true ∧ Q ((dget kvs k).getD d) h) : mGet (.ref a) [k, d] h Q := by
  unfold mGet
  simp only [e]
  exact q
theorem setdef_dic {h : AH} {a : Addr} {kvs : List (D × D)} {k d : D} {Q : KD} (e : h a = some (.dic kvs)) (q : G.pl 8 k = true ∧ kvs.length < SZ ∧ match dget kvs k with
    | some v => Q v h
    | none => Q d (up h a (.dic (dput kvs k d)))) : mSetDef (.ref a) [k, d] h Q := by
  unfold mSetDef
  simp only [e]
  exact q
theorem ext_lst {h : AH} {a b : Addr} {xs ys : List D} {Q : KD} (e : h a = some (.lst xs)) (e2 : h b = some (.lst ys)) (q : xs.length + ys.length ≤ SZ ∧ Q .non (up h a (.lst (xs ++ ys)))) : mExtend (.ref a) [.ref b] h Q := by
  unfold mExtend
  simp only [e, e2]
  exact q
theorem pop_lst {h : AH} {a : Addr} {xs : List D} {Q : KD} (e : h a = some (.lst xs)) (q : ∃ y, xs[xs.length - 1]? = some y ∧ Q y (up h a (.lst xs.dropLast))) : mPop (.ref a) [] h Q := by
  unfold mPop
  simp only [e]
  exact q
theorem popAt_lst {h : AH} {a : Addr} {xs : List D} {i : Int} {Q : KD} (e : h a = some (.lst xs)) (q : ∃ (k : Nat) (y : D), i = (k : Int) ∧ k < 2 ^ 60 ∧ xs[k]? = some y ∧ Q y (up h a (.lst (xs.eraseIdx k)))) : mPop (.ref a) [.int i] h Q := by
  obtain ⟨k, y, rfl, h1, h2, h3⟩ := q
  unfold mPop
  simp only [e]
  have hl := (List.getElem?_eq_some_iff.mp h2).1
  refine ⟨by omega, by omega, k, y, ?_, h2, h3⟩
  unfold ixN
  rw [if_pos (by omega), if_pos (by omega)]
  simp
theorem ins_lst {h : AH} {a : Addr} {xs : List D} {i : Int} {d : D} {Q : KD} (e : h a = some (.lst xs)) (q : ∃ k : Nat, i = (k : Int) ∧ k < 2 ^ 60 ∧ xs.length < SZ ∧ Q .non (up h a (.lst (xs.take k ++ [d] ++ xs.drop k)))) : mInsert (.ref a) [.int i, d] h Q := by
  obtain ⟨k, rfl, h1, h2, h3⟩ := q
  unfold mInsert
  simp only [e]
  rw [Int.toNat_natCast]
  exact ⟨h2, by omega, by omega, h3⟩
theorem clr_dic {h : AH} {a : Addr} {kvs : List (D × D)} {Q : KD} (e : h a = some (.dic kvs)) (q : Q .non (hid h a)) : mDClear (.ref a) [] h Q := by
  unfold mDClear
  simp only [e]
  exact q
theorem hid_at {h : AH} {a b : Addr} {o : O} (n : b ≠ a) (e : h b = some o) : hid h a b = some o := by unfold hid; rw [if_neg n]; exact e
theorem clr_lst {h : AH} {a : Addr} {xs : List D} {Q : KD} (e : h a = some (.lst xs)) (q : Q .non (up h a (.lst []))) : mClear (.ref a) [] h Q := by
  unfold mClear
  simp only [e]
  exact q
theorem join_sq {h : AH} {a : Str} {y : D} {ds : List D} {Q : KD} (e : sqOf h y = some ds) (q : ∃ ys, strsOf ds = some ys ∧ (ys.map (·.length)).sum + ys.length * a.length ≤ SZ ∧ Q (.str (PySem.Str.join a ys)) h) : mJoin (.str a) [y] h Q := by
  obtain ⟨ys, g, q⟩ := q
  unfold mJoin
  simp only [e, Option.bind_some, g]
  exact q
theorem rng_get {lo : Int} {n i : Nat} {d : D} (e : (srcV (rng lo n)).ds[i]? = some d) : i < n ∧ d = .int (lo + (i : Nat)) := by
  have e' : (rng lo n)[i]? = some d := e
  have hi : i < n := by
    have := (List.getElem?_eq_some_iff.mp e').1
    simpa [rng] using this
  refine ⟨hi, ?_⟩
  simp [rng, hi] at e'
  exact e'.symm
theorem rng_len (lo : Int) (n : Nat) : (srcV (rng lo n)).ds.length = n := by simp [srcV, rng]
/-! ### data with truths -/
mutual
def dqq : D → Bool
  | .non => true
  | .bl _ => true
  | .int _ => true
  | .str _ => true
  | .tup ds => dqqL ds
  | .rl ds => dqqL ds
  | _ => false
def dqqL : List D → Bool
  | [] => true
  | d :: ds => dqq d && dqqL ds
end
mutual
theorem deqv_self : ∀ x : D, dqq x = true → deqv x x = true
  | .non, _ => rfl
  | .bl _, _ => by simp [deqv]
  | .int _, _ => by simp [deqv]
  | .str _, _ => by simp [deqv]
  | .tup ds, h => by rw [dqq] at h; rw [deqv]; exact deqvL_self ds h
  | .rl ds, h => by rw [dqq] at h; rw [deqv]; exact deqvL_self ds h
  | .rd _ _, h => by simp [dqq] at h
  | .ref _, h => by simp [dqq] at h
theorem deqvL_self : ∀ x : List D, dqqL x = true → deqvL x x = true
  | [], _ => rfl
  | d :: ds, h => by
    rw [dqqL, Bool.and_eq_true] at h
    rw [deqvL, deqv_self d h.1, deqvL_self ds h.2]; rfl
end
mutual
theorem rei_datq {h : AH} : ∀ (n : Nat) (d : D), dat n d = true → rei h n d = some d ∧ dqq d = true
  | n, .non, _ => by cases n <;> exact ⟨rfl, rfl⟩
  | n, .bl _, _ => by cases n <;> exact ⟨rfl, rfl⟩
  | n, .int _, _ => by cases n <;> exact ⟨rfl, rfl⟩
  | n, .str _, _ => by cases n <;> exact ⟨rfl, rfl⟩
  | n + 1, .tup ds, e => by
    rw [dat] at e
    obtain ⟨h1, h2⟩ := mapO_datq n ds e
    exact ⟨by rw [rei, h1]; rfl, by rw [dqq]; exact h2⟩
  | 0, .tup ds, e => by simp [dat] at e
  | n, .rl _, e => by cases n <;> simp [dat] at e
  | n, .rd _ _, e => by cases n <;> simp [dat] at e
  | n, .ref _, e => by cases n <;> simp [dat] at e
theorem mapO_datq {h : AH} : ∀ (n : Nat) (ds : List D), datL n ds = true → mapO (rei h n) ds = some ds ∧ dqqL ds = true
  | _, [], _ => ⟨rfl, rfl⟩
  | n, d :: ds, e => by
    rw [datL, Bool.and_eq_true] at e
    obtain ⟨h1, h2⟩ := rei_datq (h := h) n d e.1
    obtain ⟨h3, h4⟩ := mapO_datq (h := h) n ds e.2
    exact ⟨by rw [mapO, h1, h3], by rw [dqqL, h2, h4]; rfl⟩
end
mutual
theorem dat_mono : ∀ (n m : Nat) (d : D), n ≤ m → dat n d = true → dat m d = true
  | _, _, .non, _, _ => by simp [dat]
  | _, _, .bl _, _, _ => by simp [dat]
  | _, _, .int _, _, _ => by simp [dat]
  | _, _, .str _, _, _ => by simp [dat]
  | n + 1, m + 1, .tup ds, h, e => by
    rw [dat] at e ⊢
    exact datL_mono n m ds (by omega) e
  | n + 1, 0, .tup ds, h, _ => by omega
  | 0, m, .tup ds, _, e => by simp [dat] at e
  | n, m, .rl _, _, e => by cases n <;> simp [dat] at e
  | n, m, .rd _ _, _, e => by cases n <;> simp [dat] at e
  | n, m, .ref _, _, e => by cases n <;> simp [dat] at e
theorem datL_mono : ∀ (n m : Nat) (ds : List D), n ≤ m → datL n ds = true → datL m ds = true
  | _, _, [], _, _ => rfl
  | n, m, d :: ds, h, e => by
    rw [datL, Bool.and_eq_true] at e ⊢
    exact ⟨dat_mono n m d h e.1, datL_mono n m ds h e.2⟩
end
theorem datL_iff {n : Nat} : ∀ {ds : List D}, datL n ds = true ↔ ∀ d ∈ ds, dat n d = true
  | [] => by simp [datL]
  | d :: ds => by rw [datL, Bool.and_eq_true, datL_iff (ds := ds)]; simp
/-- x is, lists at addresses put by value, z -/
def Dv (h : AH) (n : Nat) (x z : D) : Prop := rei h n x = some z ∧ dqq z = true
theorem Dv.dat {h : AH} {n m : Nat} {x : D} (e : G.dat m x = true) (hn : m ≤ n := by omega) : Dv h n x x := rei_datq n x (dat_mono m n x hn e)
inductive DvL (h : AH) (n : Nat) : List D → List D → Prop
  | nil : DvL h n [] []
  | cons {x x' : D} {xs xs' : List D} : Dv h n x x' → DvL h n xs xs' → DvL h n (x :: xs) (x' :: xs')
theorem DvL.map {h : AH} {n : Nat} : ∀ {xs xs' : List D}, DvL h n xs xs' → mapO (rei h n) xs = some xs' ∧ dqqL xs' = true
  | _, _, .nil => ⟨rfl, rfl⟩
  | _, _, .cons a b => by
    obtain ⟨h1, h2⟩ := b.map
    refine ⟨by rw [mapO, a.1, h1], ?_⟩
    rw [dqqL, a.2, h2]; rfl
theorem DvL.dat {h : AH} {n m : Nat} : ∀ {xs : List D}, datL m xs = true → m ≤ n → DvL h n xs xs
  | [], _, _ => .nil
  | x :: xs, e, hn => by
    rw [datL, Bool.and_eq_true] at e
    exact .cons (.dat e.1 hn) (DvL.dat e.2 hn)
theorem Dv.lst {h : AH} {n : Nat} {a : Addr} {ds ds' : List D} (e : h a = some (.lst ds)) (p : DvL h n ds ds') : Dv h (n + 1) (.ref a) (.rl ds') := by
  refine ⟨?_, by rw [dqq]; exact p.map.2⟩
  rw [rei, e]
  dsimp only
  rw [p.map.1]; rfl
theorem Dv.rl {h : AH} {n : Nat} {ds ds' : List D} (p : DvL h n ds ds') : Dv h (n + 1) (.rl ds) (.rl ds') := by
  refine ⟨?_, by rw [dqq]; exact p.map.2⟩
  rw [rei, p.map.1]; rfl
theorem Dv.tup {h : AH} {n : Nat} {ds ds' : List D} (p : DvL h n ds ds') : Dv h (n + 1) (.tup ds) (.tup ds') := by
  refine ⟨?_, by rw [dqq]; exact p.map.2⟩
  rw [rei, p.map.1]; rfl
theorem oEq_same {h : AH} {x y z : D} {Q : KD} (a : Dv h 12 x z) (b : Dv h 12 y z) (q : Q (.bl true) h) : oEq x y h Q := by
  refine ⟨?_⟩; unfold oEqB
  rw [a.1, b.1]
  dsimp only
  rw [deqv_self z a.2]; exact q
theorem oNe_same {h : AH} {x y z : D} {Q : KD} (a : Dv h 12 x z) (b : Dv h 12 y z) (q : Q (.bl false) h) : oNe x y h Q := by
  refine ⟨?_⟩; unfold oEqB
  rw [a.1, b.1]
  dsimp only
  rw [deqv_self z a.2]; exact q
theorem deqv_nil (xs : List D) : deqv (.rl xs) (.rl []) = xs.isEmpty := by cases xs <;> simp [deqv, deqvL]
theorem oEq_nil {h : AH} {x y : D} {xs : List D} {Q : KD} (a : Dv h 12 x (.rl xs)) (b : Dv h 12 y (.rl [])) (q : Q (.bl xs.isEmpty) h) : oEq x y h Q := by
  refine ⟨?_⟩; unfold oEqB
  rw [a.1, b.1]
  dsimp only
  rw [deqv_nil]; exact q
theorem oNe_nil {h : AH} {x y : D} {xs : List D} {Q : KD} (a : Dv h 12 x (.rl xs)) (b : Dv h 12 y (.rl [])) (q : Q (.bl (!xs.isEmpty)) h) : oNe x y h Q := by
  refine ⟨?_⟩; unfold oEqB
  rw [a.1, b.1]
  dsimp only
  rw [deqv_nil]; exact q
theorem oNe_bl {h : AH} {a b : Bool} {Q : KD} (q : Q (.bl (!(a == b))) h) : oNe (.bl a) (.bl b) h Q := by refine ⟨?_⟩; unfold oEqB; exact q
theorem oEq_bl {h : AH} {a b : Bool} {Q : KD} (q : Q (.bl (a == b)) h) : oEq (.bl a) (.bl b) h Q := by refine ⟨?_⟩; unfold oEqB; exact q
mutual
theorem pl_dat : ∀ (n : Nat) (d : D), pl n d = true → dat n d = true
  | n, .non, _ => by cases n <;> rfl
  | n, .int _, _ => by cases n <;> rfl
  | n, .str _, _ => by cases n <;> rfl
  | n + 1, .tup ds, e => by rw [pl] at e; rw [dat]; exact plL_dat n ds e
  | 0, .tup ds, e => by simp [pl] at e
  | n, .bl _, e => by cases n <;> rfl
  | n, .rl _, e => by cases n <;> simp [pl] at e
  | n, .rd _ _, e => by cases n <;> simp [pl] at e
  | n, .ref _, e => by cases n <;> simp [pl] at e
theorem plL_dat : ∀ (n : Nat) (ds : List D), plL n ds = true → datL n ds = true
  | _, [], _ => rfl
  | n, d :: ds, e => by
    rw [plL, Bool.and_eq_true] at e
    rw [datL, pl_dat n d e.1, plL_dat n ds e.2]; rfl
end
theorem mulOk_l {i j : Int} (a : -18446744073709551616 < i) (b : i < 18446744073709551616) : mulOk i j := .inl ⟨by simpa using a, by simpa using b⟩
theorem mulOk_r {i j : Int} (a : -18446744073709551616 < j) (b : j < 18446744073709551616) : mulOk i j := .inr (.inl ⟨by simpa using a, by simpa using b⟩)
theorem ix_str {h : AH} {s : Str} {i : Int} {Q : KD} (q : ∃ c, atI s.cps.toList i = some c ∧ Q (.str ⟨#[c]⟩) h) : oIx (.str s) (.int i) h Q := by refine ⟨?_⟩; exact q
theorem any_plq {x : D} (hx : plq x = true) : ∀ {ds : List D}, plqL ds = true → (ds.any fun y => deqv y x) = decide (x ∈ ds)
  | [], _ => rfl
  | d :: ds, e => by
    rw [plqL, Bool.and_eq_true] at e
    rw [List.any_cons, any_plq hx e.2, deqv_plq _ _ e.1 hx]
    by_cases z : d = x
    · subst z; simp
    · have z' : ¬ x = d := fun w => z w.symm
      simp [z, z']
theorem inB_lst {h : AH} {a : Addr} {ds ds' : List D} {x x' : D} {Q : Bool → Prop} (e : h a = some (.lst ds)) (ex : Pv h x x') (ed : PvL h 12 ds ds') (q : Q (decide (x' ∈ ds'))) : oInB x (.ref a) h Q := by
  unfold oInB
  simp only [dcOf, e, sqOf, lsOf, Option.bind_some, ex.1, ed.map.1]
  rw [any_plq ex.2 ed.map.2]
  exact q
theorem in_lst {h : AH} {a : Addr} {ds : List D} {x : D} {Q : KD} (e : h a = some (.lst ds)) (q : ∃ x' ds', Pv h x x' ∧ PvL h 12 ds ds' ∧ Q (.bl (decide (x' ∈ ds'))) h) : oIn x (.ref a) h Q := by
  obtain ⟨x', ds', ex, ed, q⟩ := q
  refine ⟨?_⟩
  exact inB_lst e ex ed q
theorem notIn_lst {h : AH} {a : Addr} {ds : List D} {x : D} {Q : KD} (e : h a = some (.lst ds)) (q : ∃ x' ds', Pv h x x' ∧ PvL h 12 ds ds' ∧ Q (.bl (!decide (x' ∈ ds'))) h) : oNotIn x (.ref a) h Q := by
  obtain ⟨x', ds', ex, ed, q⟩ := q
  refine ⟨?_⟩
  exact inB_lst e ex ed q
theorem plL_strs (ts : List Str) : plL 0 (ts.map .str) = true := plL_iff.mpr fun d hd => by
  obtain ⟨x, _, rfl⟩ := List.mem_map.mp hd
  rfl
theorem strs_map : ∀ ts : List Str, strsOf (ts.map .str) = some ts
  | [] => rfl
  | t :: ts => by
    show (strsOf (ts.map .str)).map (t :: ·) = _
    rw [strs_map ts]; rfl
theorem get_map {α : Type} {f : α → D} {xs : List α} {i : Nat} {d : D} (e : (xs.map f)[i]? = some d) : ∃ x, xs[i]? = some x ∧ f x = d := by
  rw [List.getElem?_map] at e
  cases h : xs[i]? with
  | none => rw [h] at e; cases e
  | some x => rw [h] at e; exact ⟨x, rfl, Option.some.inj e⟩
theorem in_tup {h : AH} {ds : List D} {x : D} {Q : KD} (q : ∃ x' ds', Pv h x x' ∧ PvL h 12 ds ds' ∧ Q (.bl (decide (x' ∈ ds'))) h) : oIn x (.tup ds) h Q := by
  obtain ⟨x', ds', ex, ed, q⟩ := q
  refine ⟨?_⟩; unfold oInB
  simp only [dcOf, sqOf, Option.bind_some, ex.1, ed.map.1]
  rw [any_plq ex.2 ed.map.2]
  exact q
theorem min_ii {h : AH} {i j : Int} {Q : KD} (q : Q (.int (if j < i then j else i)) h) : bMin [.int i, .int j] h Q := by unfold bMin; exact q
theorem max_ii {h : AH} {i j : Int} {Q : KD} (q : Q (.int (if j > i then j else i)) h) : bMax [.int i, .int j] h Q := by unfold bMax; exact q
/-! ### ways apart and together -/
theorem onT_i {b : Bool} {p q : Prop} (h1 : b = true → p) (h0 : b = false → q) : onT b p q := by
  cases b with
  | true => exact h1 rfl
  | false => exact h0 rfl
theorem onT_d {c : Prop} [Decidable c] {p q : Prop} (h1 : c → p) (h0 : ¬ c → q) : onT (decide c) p q := onT_i (fun e => h1 (of_decide_eq_true e)) (fun e => h0 (of_decide_eq_false e))
theorem onT_nd {c : Prop} [Decidable c] {p q : Prop} (h0 : ¬ c → p) (h1 : c → q) : onT (!decide c) p q := onT_i (fun e => h0 (by simpa using e)) (fun e => h1 (by simpa using e))
structure Bx (C : Prop) : Prop where
  un : C
theorem join {α : Type} {H C : α → Prop} {g : Prop} (m : (∀ a, H a → Bx (C a)) → g) (k : ∀ a, H a → C a) : g := m fun a h => ⟨k a h⟩
theorem oEq_ss {h : AH} {x y : Str} {Q : KD} (q : Q (.bl (decide (x = y))) h) : oEq (.str x) (.str y) h Q := by
  refine oEq_pv (.pl (n := 0) rfl) (.pl (n := 0) rfl) ?_
  rw [show decide (D.str x = D.str y) = decide (x = y) by simp]; exact q
theorem oNe_ss {h : AH} {x y : Str} {Q : KD} (q : Q (.bl (!decide (x = y))) h) : oNe (.str x) (.str y) h Q := by
  refine oNe_pv (.pl (n := 0) rfl) (.pl (n := 0) rfl) ?_
  rw [show decide (D.str x = D.str y) = decide (x = y) by simp]; exact q
theorem oEq_ii {h : AH} {x y : Int} {Q : KD} (q : Q (.bl (decide (x = y))) h) : oEq (.int x) (.int y) h Q := by
  refine oEq_pv (.pl (n := 0) rfl) (.pl (n := 0) rfl) ?_
  rw [show decide (D.int x = D.int y) = decide (x = y) by simp]; exact q
theorem oNe_ii {h : AH} {x y : Int} {Q : KD} (q : Q (.bl (!decide (x = y))) h) : oNe (.int x) (.int y) h Q := by
  refine oNe_pv (.pl (n := 0) rfl) (.pl (n := 0) rfl) ?_
  rw [show decide (D.int x = D.int y) = decide (x = y) by simp]; exact q
theorem oEq_sst {h : AH} {x y : Str} {Q : KD} (e : x = y) (q : Q (.bl true) h) : oEq (.str x) (.str y) h Q := oEq_ss (by rw [decide_eq_true e]; exact q)
theorem oEq_ssf {h : AH} {x y : Str} {Q : KD} (e : ¬ x = y) (q : Q (.bl false) h) : oEq (.str x) (.str y) h Q := oEq_ss (by rw [decide_eq_false e]; exact q)
theorem oNe_sst {h : AH} {x y : Str} {Q : KD} (e : x = y) (q : Q (.bl false) h) : oNe (.str x) (.str y) h Q := oNe_ss (by rw [decide_eq_true e]; exact q)
theorem oNe_ssf {h : AH} {x y : Str} {Q : KD} (e : ¬ x = y) (q : Q (.bl true) h) : oNe (.str x) (.str y) h Q := oNe_ss (by rw [decide_eq_false e]; exact q)
theorem oEq_iit {h : AH} {x y : Int} {Q : KD} (e : x = y) (q : Q (.bl true) h) : oEq (.int x) (.int y) h Q := oEq_ii (by rw [decide_eq_true e]; exact q)
theorem oEq_iif {h : AH} {x y : Int} {Q : KD} (e : ¬ x = y) (q : Q (.bl false) h) : oEq (.int x) (.int y) h Q := oEq_ii (by rw [decide_eq_false e]; exact q)
theorem oNe_iit {h : AH} {x y : Int} {Q : KD} (e : x = y) (q : Q (.bl false) h) : oNe (.int x) (.int y) h Q := oNe_ii (by rw [decide_eq_true e]; exact q)
theorem oNe_iif {h : AH} {x y : Int} {Q : KD} (e : ¬ x = y) (q : Q (.bl true) h) : oNe (.int x) (.int y) h Q := oNe_ii (by rw [decide_eq_false e]; exact q)
theorem join1 {C g : Prop} (m : Bx C → g) (k : C) : g := m ⟨k⟩
theorem sortK_ls {i : Nat} {h : AH} {x : D} {ds : List D} {Q : KD} (e : lsOf h x = some ds) (q : (∀ d ∈ ds, ∃ xs y, d = .tup xs ∧ xs[i]? = some y) ∧ sortable (ds.map (kAt i)) ∧ newL (ds.mergeSort fun a b => dle false (kAt i a) (kAt i b)) h Q) : oSortK i x h Q := by
  unfold oSortK
  simp only [e]
  exact q
theorem dput_keysP : ∀ (kvs : List (D × D)) (k v : D), (dput kvs k v).map (·.1) = if k ∈ kvs.map (·.1) then kvs.map (·.1) else kvs.map (·.1) ++ [k]
  | [], k, v => by simp [dput]
  | (a, b) :: r, k, v => by
    rw [dput]
    by_cases e : a = k
    · rw [if_pos e]; simp [e]
    · rw [if_neg e, List.map_cons, dput_keysP r k v]
      have e' : ¬ k = a := fun z => e z.symm
      by_cases h : k ∈ r.map (·.1)
      · rw [if_pos h, if_pos (show k ∈ ((a, b) :: r).map (·.1) from List.mem_cons_of_mem _ h)]; rfl
      · rw [if_neg h, if_neg (show ¬ k ∈ ((a, b) :: r).map (·.1) by simp only [List.map_cons, List.mem_cons, not_or]; exact ⟨e', h⟩)]; rfl
theorem dget_noneP : ∀ {kvs : List (D × D)} {k : D}, dget kvs k = none ↔ k ∉ kvs.map (·.1)
  | [], k => by simp [dget]
  | (a, b) :: r, k => by
    rw [dget]
    by_cases e : a = k
    · rw [if_pos e]; simp [e]
    · rw [if_neg e, dget_noneP (kvs := r)]
      have e' : ¬ k = a := fun z => e z.symm
      simp [e']
theorem dput_lenP (kvs : List (D × D)) (k v : D) : (dput kvs k v).length ≤ kvs.length + 1 := by
  have := congrArg List.length (dput_keysP kvs k v)
  rw [List.length_map] at this
  rw [this]
  split <;> simp
theorem dput_nodupP {kvs : List (D × D)} {k v : D} (h : (kvs.map (·.1)).Nodup) : ((dput kvs k v).map (·.1)).Nodup := by
  rw [dput_keysP]
  split
  · exact h
  · rename_i hn
    rw [List.nodup_append]
    refine ⟨h, by simp, fun a ha b hb => ?_⟩
    simp at hb
    intro e
    exact hn (by rw [← hb, ← e]; exact ha)
theorem cut_drop {α : Type} (xs : List α) (n : Nat) : cut xs (some (n : Int)) none = xs.drop n := by
  unfold cut sIx
  dsimp only
  rw [if_neg (by omega), show min ((n : Int)).toNat xs.length = min n xs.length by simp]
  by_cases h : n ≤ xs.length
  · rw [Nat.min_eq_left h, List.take_of_length_le (by simp)]
  · rw [Nat.min_eq_right (by omega), List.drop_length, List.drop_eq_nil_of_le (by omega)]; simp
theorem index_ls {h : AH} {x v : D} {ds : List D} {Q : KD} (e : lsOf h x = some ds) (q : (∀ d ∈ ds, pl 8 d = true) ∧ pl 8 v = true ∧ ∃ j : Nat, ds[j]? = some v ∧ (∀ i, i < j → ds[i]? ≠ some v) ∧ Q (.int j) h) : mIndex x [v] h Q := by
  unfold mIndex
  simp only [e]
  exact q
theorem in_dic {h : AH} {a : Addr} {kvs : List (D × D)} {x : D} {Q : KD} (e : h a = some (.dic kvs)) (q : pl 8 x = true ∧ Q (.bl (decide (x ∈ kvs.map (·.1)))) h) : oIn x (.ref a) h Q := by
  refine ⟨?_⟩; unfold oInB
  simp only [dcOf, e]
  exact q
theorem notIn_dic {h : AH} {a : Addr} {kvs : List (D × D)} {x : D} {Q : KD} (e : h a = some (.dic kvs)) (q : pl 8 x = true ∧ Q (.bl (!decide (x ∈ kvs.map (·.1)))) h) : oNotIn x (.ref a) h Q := by
  refine ⟨?_⟩; unfold oInB
  simp only [dcOf, e]
  exact q
theorem min_ls {h : AH} {x d : D} {ds : List D} {Q : KD} (e : lsOf h x = some (d :: ds)) (q : ((∀ a ∈ d :: ds, ∀ b ∈ d :: ds, alk a b = true) ∧ ∀ a ∈ d :: ds, dat 12 a = true ∧ a ≠ .non) ∧ Q (dmin d ds) h) : bMin [x] h Q := by
  unfold bMin
  cases x <;> first | (simp only [e]; exact q) | (simp [lsOf] at e; done)
theorem mul_lst {h : AH} {a : Addr} {xs : List D} {k : Int} {Q : KD} (e : h a = some (.lst xs)) (q : ∃ n : Nat, k = (n : Int) ∧ xs.length * n ≤ SZ ∧ n < 2 ^ 60 ∧ newL (List.replicate n xs).flatten h Q) : mulR a k h Q := by
  obtain ⟨n, rfl, h1, h2, h3⟩ := q
  unfold mulR
  simp only [e]
  rw [Int.toNat_natCast]
  exact ⟨⟨by omega, by omega⟩, h1, h3⟩
theorem rep_one {α : Type} (n : Nat) (x : α) : (List.replicate n [x]).flatten = List.replicate n x := by
  induction n with
  | zero => rfl
  | succ n ih => rw [List.replicate_succ, List.flatten_cons, ih, List.replicate_succ]; rfl
theorem joinP {P C g : Prop} (m : (P → Bx C) → g) (k : P → C) : g := m fun p => ⟨k p⟩
theorem fill_dic {h : AH} {p : Addr} {ps : List (D × D)} {Q : KD} (e : h p = some (.dic [])) (q : ps.length ≤ 15 ∧ (∀ x ∈ ps, pl 8 x.1 = true) ∧ Q (.ref p) (up h p (.dic (dputs [] ps)))) : fillD (.ref p) ps h Q := ⟨⟨e, q⟩⟩
theorem countP_plq {x : D} (hx : plq x = true) : ∀ {ds : List D}, plqL ds = true → (ds.countP fun y => deqv y x) = ds.countP fun y => decide (y = x)
  | [], _ => rfl
  | d :: ds, e => by
    rw [plqL, Bool.and_eq_true] at e
    rw [List.countP_cons, List.countP_cons, countP_plq hx e.2, deqv_plq _ _ e.1 hx]
theorem count_ls {h : AH} {x v : D} {ds : List D} {Q : KD} (e : lsOf h x = some ds) (q : plL 8 ds = true ∧ pl 8 v = true ∧ Q (.int ((ds.countP fun y => decide (y = v) : Nat) : Int)) h) : mCount x [v] h Q := by
  unfold mCount
  obtain ⟨q1, q2, q3⟩ := q
  simp only [e, Option.bind_some, mapO_pl 12 ds (plL_mono 8 12 ds (by omega) q1), rei_pl 12 v (pl_mono 8 12 v (by omega) q2)]
  rw [countP_plq (plq_pl 8 v q2) (plqL_pl 8 ds q1)]
  exact q3
theorem rei_dic {h : AH} {a : Addr} {ka : List (D × D)} (e : h a = some (.dic ka)) : ∀ n, rei h n (.ref a) = none
  | 0 => by simp [rei]
  | n + 1 => by simp [rei, e]
theorem eqB_dd {h : AH} {a b : Addr} {ka kb : List (D × D)} {Q : Bool → Prop} (e1 : h a = some (.dic ka)) (e2 : h b = some (.dic kb)) (o1 : dOkE h ka) (o2 : dOkE h kb) (q : Q (ka.length == kb.length && ka.all (hitE h kb))) : oEqB (.ref a) (.ref b) h Q := by
  unfold oEqB
  simp only [rei_dic e1]
  unfold dEqB
  simp only [e1, e2]
  exact ⟨o1, o2, q⟩
theorem dputs_snoc (kvs ps : List (D × D)) (x : D × D) : dputs kvs (ps ++ [x]) = dput (dputs kvs ps) x.1 x.2 := by unfold dputs; rw [List.foldl_append]; rfl
theorem dput_new : ∀ {kvs : List (D × D)} {k v : D}, k ∉ kvs.map (·.1) → dput kvs k v = kvs ++ [(k, v)]
  | [], _, _, _ => rfl
  | (a, b) :: r, k, v, h => by
    rw [dput, if_neg (fun e => h (by simp [e])), dput_new fun q => h (List.mem_cons_of_mem _ q)]; rfl
theorem dputs_new : ∀ {ps kvs : List (D × D)}, ((kvs ++ ps).map (·.1)).Nodup → dputs kvs ps = kvs ++ ps
  | [], kvs, _ => by simp [dputs]
  | p :: ps, kvs, h => by
    have e : dput kvs p.1 p.2 = kvs ++ [p] := dput_new fun q => by
      rw [List.map_append, List.nodup_append] at h
      exact h.2.2 _ q p.1 (by simp) rfl
    show dputs (dput kvs p.1 p.2) ps = _
    rw [e, dputs_new (by rw [List.append_assoc]; exact h), List.append_assoc]; rfl
theorem sortI_ls {h : AH} {x : D} {ds : List D} {Q : KD} (e : lsOf h x = some ds) (q : incK ds ∧ newL ds h Q) : bSortI [x] h Q := by
  unfold bSortI
  simp only [e]
  exact q
theorem sortD_ls {h : AH} {x : D} {ds : List D} {Q : KD} (e : lsOf h x = some ds) (q : sortable ds ∧ newL (ds.mergeSort (dle false)) h Q) : bSortD [x] h Q := by
  unfold bSortD
  simp only [e]
  exact q
theorem sortD_dic {h : AH} {a : Addr} {kvs : List (D × D)} {Q : KD} (e : h a = some (.dic kvs)) (q : sortable (kvs.map (·.1)) ∧ newL ((kvs.map (·.1)).mergeSort (dle false)) h Q) : bSortD [.ref a] h Q := by
  unfold bSortD
  have e1 : lsOf h (.ref a) = none := by simp only [lsOf, e]
  have e2 : dcOf h (.ref a) = some kvs := by simp only [dcOf, e]
  simp only [e1, e2]
  exact q
theorem oIsT_dic {h : AH} {a : Addr} {kvs : List (D × D)} {T : String} {Q : KD} (e : h a = some (.dic kvs)) (q : Q (.bl (T == "dict")) h) : oIsT T (.ref a) h Q := by
  unfold oIsT isT
  simp only [e]
  exact q
/-- == of two dicts that hold the same -/
theorem hit_self {h : AH} {kvs : List (D × D)} (nd : (kvs.map (·.1)).Nodup) (hv : ∀ p ∈ kvs, ∃ z, Dv h 10 p.2 z) : dOkE h kvs ∧ kvs.all (hitE h kvs) = true := by
  have key : ∀ {kvs : List (D × D)}, (kvs.map (·.1)).Nodup → ∀ p ∈ kvs, dget kvs p.1 = some p.2 := by
    intro kvs
    induction kvs with
    | nil => intro _ p hp; cases hp
    | cons x r ih =>
      intro nd p hp
      rw [List.map_cons, List.nodup_cons] at nd
      obtain ⟨a, b⟩ := x
      rcases List.mem_cons.mp hp with e | hp
      · subst e; rw [dget, if_pos rfl]
      · rw [dget, if_neg (fun z => nd.1 (by rw [show (a, b).1 = a from rfl, z]; exact List.mem_map.mpr ⟨p, hp, rfl⟩)), ih nd.2 p hp]
  refine ⟨fun p hp => let ⟨z, hz⟩ := hv p hp; ⟨z, hz.1⟩, ?_⟩
  rw [List.all_eq_true]
  intro p hp
  obtain ⟨z, hz⟩ := hv p hp
  unfold hitE
  simp only [key nd p hp, hz.1]
  exact deqv_self _ hz.2
theorem eqB_same {h : AH} {a b : Addr} {kvs : List (D × D)} {Q : Bool → Prop} (e1 : h a = some (.dic kvs)) (e2 : h b = some (.dic kvs)) (nd : (kvs.map (·.1)).Nodup) (hv : ∀ p ∈ kvs, ∃ z, Dv h 10 p.2 z) (q : Q true) : oEqB (.ref a) (.ref b) h Q := by
  obtain ⟨o, e⟩ := hit_self nd hv
  refine eqB_dd e1 e2 o o ?_
  rw [e]
  simpa using q
theorem eqB_nil {h : AH} {a b : Addr} {kvs : List (D × D)} {Q : Bool → Prop} (e1 : h a = some (.dic kvs)) (e2 : h b = some (.dic [])) (hv : ∀ p ∈ kvs, ∃ z, Dv h 10 p.2 z) (q : Q kvs.isEmpty) : oEqB (.ref a) (.ref b) h Q := by
  refine eqB_dd e1 e2 (fun p hp => let ⟨z, hz⟩ := hv p hp; ⟨z, hz.1⟩) (fun p hp => by cases hp) ?_
  cases kvs with
  | nil => exact q
  | cons x r =>
    have : ((x :: r).length == ([] : List (D × D)).length && (x :: r).all (hitE h [])) = false := by simp
    rw [this]
    exact q
theorem dputs_ndP : ∀ {ps kvs : List (D × D)}, (kvs.map (·.1)).Nodup → ((dputs kvs ps).map (·.1)).Nodup
  | [], kvs, h => h
  | p :: ps, kvs, h => dputs_ndP (ps := ps) (dput_nodupP h)
theorem dput_map (f : D → D) : ∀ (kvs : List (D × D)) (k v : D), (dput kvs k v).map (fun p => (p.1, f p.2)) = dput (kvs.map fun p => (p.1, f p.2)) k (f v)
  | [], _, _ => rfl
  | (a, b) :: r, k, v => by
    rw [dput, List.map_cons, dput]
    by_cases e : a = k
    · rw [if_pos e, if_pos e]; rfl
    · rw [if_neg e, if_neg e, List.map_cons, dput_map f r k v]
theorem dputs_map (f : D → D) : ∀ (ps kvs : List (D × D)), (dputs kvs ps).map (fun p => (p.1, f p.2)) = dputs (kvs.map fun p => (p.1, f p.2)) (ps.map fun p => (p.1, f p.2))
  | [], kvs => rfl
  | p :: ps, kvs => by
    show (dputs (dput kvs p.1 p.2) ps).map _ = _
    rw [dputs_map f ps, dput_map]
    rfl
theorem dput_memP : ∀ {kvs : List (D × D)} {k v : D} {x : D × D}, x ∈ dput kvs k v → x ∈ kvs ∨ x.1 = k ∧ x.2 = v
  | [], _, _, _, h => by rw [dput, List.mem_singleton] at h; subst h; exact .inr ⟨rfl, rfl⟩
  | (a, b) :: r, k, v, x, h => by
    rw [dput] at h
    split at h
    · rename_i e
      rcases List.mem_cons.mp h with z | z
      · subst z; exact .inr ⟨e, rfl⟩
      · exact .inl (List.mem_cons_of_mem _ z)
    · rcases List.mem_cons.mp h with z | z
      · exact .inl (z ▸ List.mem_cons_self)
      · exact (dput_memP z).imp (List.mem_cons_of_mem _) id
theorem dputs_memP : ∀ {ps kvs : List (D × D)} {x : D × D}, x ∈ dputs kvs ps → x ∈ kvs ∨ x ∈ ps
  | [], kvs, x, h => .inl h
  | p :: ps, kvs, x, h => by
    rcases dputs_memP (ps := ps) h with h | h
    · rcases dput_memP h with h | ⟨h1, h2⟩
      · exact .inl h
      · exact .inr (by rw [show x = p from Prod.ext h1 h2]; exact List.mem_cons_self)
    · exact .inr (List.mem_cons_of_mem _ h)
theorem dputs_lenP : ∀ (ps kvs : List (D × D)), (dputs kvs ps).length ≤ kvs.length + ps.length
  | [], kvs => Nat.le_refl _
  | p :: ps, kvs => by
    have h1 := dputs_lenP ps (dput kvs p.1 p.2)
    have h2 := dput_lenP kvs p.1 p.2
    show (dputs (dput kvs p.1 p.2) ps).length ≤ _
    rw [List.length_cons]; omega
end G
end

section
set_option linter.all false
set_option autoImplicit false
set_option maxRecDepth 10000
/-! What the defs of pagefolk_k29_parts_shown do, in the words of the G layer; printed by pp.py. -/
namespace K29
open G
def c_MAIN : D := (.tup [(.str (PySem.Str.ofString "")), (.int 0)])
/-- places_by: 0 facts, 1 found, 2 part, 3 outer, 4 told, 5 rank -/
def b_places_by : DS :=
(dSeq (dSet 1 dDic0)
(dSeq (dFor (iSeq (d2 oIx (dVar 0) (dStr (PySem.Str.ofString "places")))) (G.gTup 4 (G.gCons (gVar 2) (G.gCons (gVar 3) (G.gCons (gVar 4) (G.gCons (gVar 5) G.gNil)))))
(dIf (G.tOr (tQ (d2 oNotIn (dVar 2) (dVar 1))) (tQ (d2 oGt (dVar 5) (d2 oIx (d2 oIx (dVar 1) (dVar 2)) (dInt 2)))))
(dAsg (dTup (daCons (dVar 3) (daCons (dVar 4) (daCons (dVar 5) daNil)))) (G.gSub (dVar 1) (dVar 2)))
dNx))
(dRet (dVar 1))))
@[irreducible] def f_places_by : FS := fnOf 6 1 b_places_by
/-- round_of: 0 places, 1 seen, 2 part, 3 way, 4 here -/
def b_round_of : DS :=
(dSeq (dSet 3 (dLst daNil))
(dSeq (dSet 4 (dVar 2))
(dSeq (dWhile (G.tAnd (tQ (d2 oIn (dVar 4) (dVar 0))) (tQ (d2 oNotIn (dVar 4) (dVar 1))))
(dSeq (dAsg (dVar 2) (G.gSub (dVar 1) (dVar 4)))
(dSeq (dExp (dMeth "list" mAppend (dVar 3) (daCons (dVar 4) daNil)))
(dSet 4 (d2 oIx (d2 oIx (dVar 0) (dVar 4)) (dInt 0))))))
(dSeq (dIf (G.tAnd (tQ (d2 oIn (dVar 4) (dVar 0))) (tQ (d2 oEq (d2 oIx (dVar 1) (dVar 4)) (dVar 2))))
(dRet (dSl (dVar 3) (doSome (dMeth "list" mIndex (dVar 3) (daCons (dVar 4) daNil))) doNone))
dNx)
(dRet (dLst daNil))))))
@[irreducible] def f_round_of : FS := fnOf 5 3 b_round_of
/-- outers_of: 0 places, 1 found, 2 part, 3 seen, 4 top, 5 one -/
def b_outers_of : DS :=
(dSeq (dSet 1 dDic0)
(dSeq (dFor (iSeq (dVar 0)) (gVar 2)
(dAsg (d2 oIx (d2 oIx (dVar 0) (dVar 2)) (dInt 0)) (G.gSub (dVar 1) (dVar 2))))
(dSeq (dSet 3 dDic0)
(dSeq (dFor (iSeq (dVar 0)) (gVar 2)
(dSeq (dSet 4 dNon)
(dSeq (dFor (iSeq (dCall f_round_of (daCons (dVar 0) (daCons (dVar 3) (daCons (dVar 2) daNil))))) (gVar 5)
(dIf (G.tOr (tQ (d1 oIsN (dVar 4))) (tQ (d2 oGt (d2 oIx (d2 oIx (dVar 0) (dVar 5)) (dInt 2)) (d2 oIx (d2 oIx (dVar 0) (dVar 4)) (dInt 2)))))
(dSet 4 (dVar 5))
dNx))
(dIf (tQ (d1 oNotN (dVar 4)))
(dAsg (dC c_MAIN) (G.gSub (dVar 1) (dVar 4)))
dNx))))
(dRet (dVar 1))))))
@[irreducible] def f_outers_of : FS := fnOf 6 1 b_outers_of
/-- stands_in: 0 facts, 1 outers, 2 reached, 3 part, 4 way, 5 here, 6 one, 7 found -/
def b_stands_in : DS :=
(dSeq (dSet 1 (dCall f_outers_of (daCons (dCall f_places_by (daCons (dVar 0) daNil)) daNil)))
(dSeq (dSet 2 (dDisp (dpCons (dC c_MAIN) (dBl true) dpNil)))
(dSeq (dFor (iSeq (dVar 1)) (gVar 3)
(dSeq (dSet 4 (dLst daNil))
(dSeq (dSet 5 (dVar 3))
(dSeq (dWhile (G.tAnd (tQ (d2 oIn (dVar 5) (dVar 1))) (tQ (d2 oNotIn (dVar 5) (dVar 2))))
(dSeq (dExp (dMeth "list" mAppend (dVar 4) (daCons (dVar 5) daNil)))
(dSet 5 (d2 oIx (dVar 1) (dVar 5)))))
(dFor (iSeq (dVar 4)) (gVar 6)
(dAsg (dMeth "dict" mGet (dVar 2) (daCons (dVar 5) (daCons (dBl false) daNil))) (G.gSub (dVar 2) (dVar 6))))))))
(dSeq (dSet 7 dDic0)
(dSeq (dFor (iSeq (dVar 1)) (gVar 3)
(dSeq (dAsg dNon (G.gSub (dVar 7) (dVar 3)))
(dIf (tV (d2 oIx (dVar 2) (dVar 3)))
(dAsg (d2 oIx (dVar 1) (dVar 3)) (G.gSub (dVar 7) (dVar 3)))
dNx)))
(dRet (dVar 7)))))))
@[irreducible] def f_stands_in : FS := fnOf 8 1 b_stands_in
/-- shown_by: 0 facts, 1 inner, 2 cut, 3 row, 4 seen, 5 part, 6 way, 7 here, 8 one -/
def b_shown_by : DS :=
(dSeq (dSet 2 dDic0)
(dSeq (dFor (iSeq (d2 oIx (dVar 0) (dStr (PySem.Str.ofString "cuts")))) (gVar 3)
(dAsg (dBl true) (G.gSub (dVar 2) (d2 oIx (dVar 3) (dInt 0)))))
(dSeq (dSet 4 (dDisp (dpCons (dC c_MAIN) (dBl true) (dpCons dNon (dBl false) dpNil))))
(dSeq (dFor (iSeq (dVar 1)) (gVar 5)
(dSeq (dSet 6 (dLst daNil))
(dSeq (dSet 7 (dVar 5))
(dSeq (dWhile (G.tAnd (tQ (d2 oNotIn (dVar 7) (dVar 4))) (tQ (d2 oNotIn (dVar 7) (dVar 2))))
(dSeq (dExp (dMeth "list" mAppend (dVar 6) (daCons (dVar 7) daNil)))
(dSet 7 (d2 oIx (dVar 1) (dVar 7)))))
(dSeq (dFor (iSeq (dVar 6)) (gVar 8)
(dAsg (dMeth "dict" mGet (dVar 4) (daCons (dVar 7) (daCons (dBl false) daNil))) (G.gSub (dVar 4) (dVar 8))))
(dIf (tQ (d2 oIn (dVar 5) (dVar 2)))
(dAsg (dBl false) (G.gSub (dVar 4) (dVar 5)))
dNx))))))
(dRet (dVar 4))))))
@[irreducible] def f_shown_by : FS := fnOf 9 2 b_shown_by
/-- shown_parts: 0 facts, 1 seen, 2 part -/
def b_shown_parts : DS :=
(dSeq (dSet 1 (dCall f_shown_by (daCons (dVar 0) (daCons (dCall f_stands_in (daCons (dVar 0) daNil)) daNil))))
(dRet (dCall bSortD (daCons (dComp (iSeq (dVar 1)) (gVar 2) (tV (d2 oIx (dVar 1) (dVar 2))) (dVar 2) [2]) daNil))))
@[irreducible] def f_shown_parts : FS := fnOf 3 1 b_shown_parts
/-- inner_parts: 0 facts, 1 part, 2 inner, 3 seen, 4 places, 5 found, 6 one, 7 row -/
def b_inner_parts : DS :=
(dSeq (dSet 2 (dCall f_stands_in (daCons (dVar 0) daNil)))
(dSeq (dSet 3 (dCall f_shown_by (daCons (dVar 0) (daCons (dVar 2) daNil))))
(dSeq (dSet 4 (dCall f_places_by (daCons (dVar 0) daNil)))
(dSeq (dSet 5 (dLst daNil))
(dSeq (dFor (iSeq (dVar 2)) (gVar 6)
(dIf (G.tAnd (tQ (d2 oEq (d2 oIx (dVar 2) (dVar 6)) (dVar 1))) (tV (d2 oIx (dVar 3) (dVar 6))))
(dExp (dMeth "list" mAppend (dVar 5) (daCons (dTup (daCons (d2 oIx (d2 oIx (dVar 4) (dVar 6)) (dInt 2)) (daCons (dVar 6) daNil))) daNil)))
dNx))
(dRet (dComp (iSeq (dCall bSortD (daCons (dVar 5) daNil))) (gVar 7) G.tYes (d2 oIx (dVar 7) (dInt 1)) [7])))))))
@[irreducible] def f_inner_parts : FS := fnOf 8 2 b_inner_parts
/-- _law_cell_at: 0 _law_script, 1 _law_k -/
def b_l_cell_at : DS :=
(dSeq (dIf (tQ (d2 oLt (dVar 1) (dCall bLen (daCons (dVar 0) daNil))))
(dRet (d2 oIx (dVar 0) (dVar 1)))
dNx)
(dRet (dInt 0)))
@[irreducible] def f_l_cell_at : FS := fnOf 2 2 b_l_cell_at
/-- _law_pool: 0 _law_script, 1 _law_k, 2 _law_cell, 3 _law_number -/
def b_l_pool : DS :=
(dSeq (dSet 2 (dCall bAbs (daCons (dCall f_l_cell_at (daCons (dVar 0) (daCons (dVar 1) daNil))) daNil)))
(dSeq (dSet 3 (d2 oMod (d2 oMul (d2 oAdd (d2 oAdd (d2 oMod (dVar 2) (dInt 2147483629)) (d2 oMul (d2 oMul (dInt 7919) (dVar 1)) (dVar 1))) (dInt 1)) (dInt 48271)) (dInt 2147483647)))
(dSeq (dIf (G.tOr (tQ (d2 oEq (d2 oMod (dCall f_l_cell_at (daCons (dVar 0) (daCons (dInt 0) daNil))) (dInt 2)) (dInt 1))) (tQ (d2 oLt (dVar 2) (d2 oPow (dInt 10) (dInt 18)))))
(dSet 2 (dInt 0))
dNx)
(dRet (dLst (daCons (dVar 2) (daCons (d2 oMod (d2 oMul (dVar 3) (dVar 3)) (dInt 2147483629)) daNil)))))))
@[irreducible] def f_l_pool : FS := fnOf 4 2 b_l_pool
/-- _law_take: 0 _law_pool_here, 1 _law_many, 2 _law_found -/
def b_l_take : DS :=
(dSeq (dIf (tQ (d2 oGt (d2 oIx (dVar 0) (dInt 0)) (dInt 0)))
(dSeq (dSet 2 (d2 oMod (d2 oIx (dVar 0) (dInt 0)) (dVar 1)))
(dSeq (dAsg (d2 oDiv (d2 oIx (dVar 0) (dInt 0)) (dVar 1)) (G.gSub (dVar 0) (dInt 0)))
(dRet (dVar 2))))
dNx)
(dSeq (dAsg (d2 oMod (d2 oAdd (d2 oMul (d2 oIx (dVar 0) (dInt 1)) (dInt 69621)) (dInt 48271)) (dInt 2147483647)) (G.gSub (dVar 0) (dInt 1)))
(dRet (d2 oMod (d2 oDiv (d2 oMod (d2 oMul (d2 oIx (dVar 0) (dInt 1)) (d2 oIx (dVar 0) (dInt 1))) (dInt 2147483629)) (dInt 16)) (dVar 1)))))
@[irreducible] def f_l_take : FS := fnOf 3 2 b_l_take
/-- _law_facts: 0 _law_facts_here, 1 _law_word -/
def b_l_facts : DS :=
(dSeq (dSet 0 dDic0)
(dSeq (dFor (iSeq (dLst (daCons (dStr (PySem.Str.ofString "births")) (daCons (dStr (PySem.Str.ofString "places")) (daCons (dStr (PySem.Str.ofString "cuts")) (daCons (dStr (PySem.Str.ofString "signs")) (daCons (dStr (PySem.Str.ofString "marks")) (daCons (dStr (PySem.Str.ofString "notes")) (daCons (dStr (PySem.Str.ofString "lines")) (daCons (dStr (PySem.Str.ofString "cells")) (daCons (dStr (PySem.Str.ofString "leaves")) daNil))))))))))) (gVar 1)
(dAsg (dLst daNil) (G.gSub (dVar 0) (dVar 1))))
(dRet (dVar 0))))
@[irreducible] def f_l_facts : FS := fnOf 2 0 b_l_facts
/-- _law_key: 0 _law_last, 1 _law_name, 2 _law_hand, 3 _law_named, 4 _law_told, 5 _law_one -/
def b_l_key : DS :=
(dSeq (dSet 4 (dComp (iSeq (dVar 3)) (gVar 5) (tQ (d2 oIn (dVar 5) (d2 oIx (dVar 0) (dInt 2)))) (dVar 5) [5]))
(dSeq (dIf (G.tOr (tQ (d2 oLe (dVar 2) (d2 oIx (dVar 0) (dInt 1)))) (G.tOr (tQ (d2 oNe (dVar 4) (dLst daNil))) (tQ (d2 oGt (dCall bLen (daCons (d2 oIx (dVar 0) (dInt 2)) daNil)) (d2 oAdd (dInt 1) (d2 oMod (d2 oIx (dVar 1) (dInt 1)) (dInt 2)))))))
(dSeq (dAsg (d2 oAdd (d2 oIx (dVar 0) (dInt 0)) (dInt 1)) (G.gSub (dVar 0) (dInt 0)))
(dAsg (dLst daNil) (G.gSub (dVar 0) (dInt 2))))
dNx)
(dSeq (dAsg (dVar 2) (G.gSub (dVar 0) (dInt 1)))
(dSeq (dAsg (d2 oAdd (d2 oIx (dVar 0) (dInt 2)) (dLst (daCons (dVar 1) daNil))) (G.gSub (dVar 0) (dInt 2)))
(dRet (dTup (daCons (d2 oIx (dVar 0) (dInt 0)) (daCons (dVar 2) daNil))))))))
@[irreducible] def f_l_key : FS := fnOf 6 4 b_l_key
/-- _law_outers: 0 _law_facts_here, 1 _law_outers_here, 2 _law_part, 3 _law_outer, 4 _law_name, 5 _law_key_here -/
def b_l_outers : DS :=
(dSeq (dSet 1 dDic0)
(dSeq (dFor (iSeq (d2 oIx (dVar 0) (dStr (PySem.Str.ofString "places")))) (G.gTup 4 (G.gCons (gVar 2) (G.gCons (gVar 3) (G.gCons (gVar 4) (G.gCons (gVar 5) G.gNil)))))
(dAsg (dTup (daCons (dVar 3) (daCons (dVar 4) (daCons (dVar 5) daNil)))) (G.gSub (dVar 1) (dVar 2))))
(dRet (dVar 1))))
@[irreducible] def f_l_outers : FS := fnOf 6 1 b_l_outers
/-- _law_beneath: 0 _law_facts_here, 1 _law_one, 2 _law_part, 3 _law_outers_here -/
def b_l_beneath : DS :=
(dSeq (dSet 3 (dCall f_l_outers (daCons (dVar 0) daNil)))
(dSeq (dWhile (G.tAnd (tQ (d2 oIn (dVar 1) (dVar 3))) (tQ (d2 oNe (dVar 1) (dVar 2))))
(dSet 1 (d2 oIx (d2 oIx (dVar 3) (dVar 1)) (dInt 0))))
(dRet (d2 oEq (dVar 1) (dVar 2)))))
@[irreducible] def f_l_beneath : FS := fnOf 4 3 b_l_beneath
/-- _law_event: 0 _law_facts_here, 1 _law_pool_here, 2 _law_k, 3 _law_last, 4 _law_rounds, 5 _law_way, 6 _law_hand, 7 _law_name, 8 _law_parts, 9 _law_outer, 10 _law_key_here, 11 _law_part, 12 _law_one -/
def b_l_event : DS :=
(dSeq (dSet 5 (dCall f_l_take (daCons (dVar 1) (daCons (dInt 6) daNil))))
(dSeq (dSet 6 (dCall f_l_take (daCons (dVar 1) (daCons (dInt 3) daNil))))
(dSeq (dSet 7 (dTup (daCons (d2 oIx (dLst (daCons (dStr (PySem.Str.ofString "ann")) (daCons (dStr (PySem.Str.ofString "bo")) (daCons (dStr (PySem.Str.ofString "cyan")) daNil)))) (dVar 6)) (daCons (d2 oIx (dLst (daCons (dVar 2) (daCons (d2 oSub (dInt 100) (dVar 2)) (daCons (dVar 2) daNil)))) (dVar 6)) daNil))))
(dSeq (dSet 8 (d2 oAdd (dLst (daCons (dTup (daCons (dStr (PySem.Str.ofString "")) (daCons (dInt 0) daNil))) daNil)) (dComp (iSeq (d2 oIx (dVar 0) (dStr (PySem.Str.ofString "births")))) (gVar 12) G.tYes (d2 oIx (dVar 12) (dInt 0)) [12])))
(dSeq (dSet 9 (d2 oIx (dVar 8) (dCall f_l_take (daCons (dVar 1) (daCons (dCall bLen (daCons (dVar 8) daNil)) daNil)))))
(dSeq (dIf (G.tOr (tQ (d2 oLt (dVar 5) (dInt 3))) (tQ (d2 oEq (dCall bLen (daCons (dVar 8) daNil)) (dInt 1))))
(dSeq (dSet 10 (dCall f_l_key (daCons (dVar 3) (daCons (dVar 7) (daCons (dVar 6) (daCons (dLst (daCons (dVar 9) daNil)) daNil))))))
(dSeq (dExp (dMeth "list" mAppend (d2 oIx (dVar 0) (dStr (PySem.Str.ofString "births"))) (daCons (dTup (daCons (dVar 7) (daCons (dVar 9) daNil))) daNil)))
(dSeq (dIf (tQ (d2 oGt (dCall f_l_take (daCons (dVar 1) (daCons (dInt 5) daNil))) (dInt 0)))
(dExp (dMeth "list" mAppend (d2 oIx (dVar 0) (dStr (PySem.Str.ofString "places"))) (daCons (dTup (daCons (dVar 7) (daCons (dVar 9) (daCons (dVar 7) (daCons (dVar 10) daNil))))) daNil)))
dNx)
dRetN)))
dNx)
(dSeq (dSet 11 (d2 oIx (dVar 8) (d2 oAdd (dInt 1) (dCall f_l_take (daCons (dVar 1) (daCons (d2 oSub (dCall bLen (daCons (dVar 8) daNil)) (dInt 1)) daNil))))))
(dSeq (dSet 10 (dCall f_l_key (daCons (dVar 3) (daCons (dVar 7) (daCons (dVar 6) (daCons (dLst (daCons (dVar 11) (daCons (dVar 9) daNil))) daNil))))))
(dIf (G.tAnd (tQ (d2 oEq (dVar 5) (dInt 5))) (tQ (d2 oEq (dCall f_l_take (daCons (dVar 1) (daCons (dInt 2) daNil))) (dInt 0))))
(dExp (dMeth "list" mAppend (d2 oIx (dVar 0) (dStr (PySem.Str.ofString "cuts"))) (daCons (dTup (daCons (dVar 11) (daCons (dVar 7) daNil))) daNil)))
(dIf (tQ (d2 oIn (dVar 11) (dComp (iSeq (d2 oIx (dVar 0) (dStr (PySem.Str.ofString "places")))) (gVar 12) G.tYes (d2 oIx (dVar 12) (dInt 0)) [12])))
(dIf (G.tOr (tV (dVar 4)) (G.tNot (tV (dCall f_l_beneath (daCons (dVar 0) (daCons (dVar 9) (daCons (dVar 11) daNil)))))))
(dExp (dMeth "list" mAppend (d2 oIx (dVar 0) (dStr (PySem.Str.ofString "places"))) (daCons (dTup (daCons (dVar 11) (daCons (dVar 9) (daCons (dVar 7) (daCons (dVar 10) daNil))))) daNil)))
dNx)
dNx))))))))))
@[irreducible] def f_l_event : FS := fnOf 13 5 b_l_event
/-- _law_drawn: 0 _law_script, 1 _law_rounds, 2 _law_facts_here, 3 _law_last, 4 _law_k -/
def b_l_drawn : DS :=
(dSeq (dSet 2 (dCall f_l_facts daNil))
(dSeq (dSet 3 (dLst (daCons (dInt 0) (daCons (dInt 3) (daCons (dLst daNil) daNil)))))
(dSeq (dFor (iRng2 (daCons (dInt 1) (daCons (dCall bMin (daCons (dCall bLen (daCons (dVar 0) daNil)) (daCons (dInt 61) daNil))) daNil))) (gVar 4)
(dExp (dCall f_l_event (daCons (dVar 2) (daCons (dCall f_l_pool (daCons (dVar 0) (daCons (dVar 4) daNil))) (daCons (dVar 4) (daCons (dVar 3) (daCons (dVar 1) daNil))))))))
(dRet (dVar 2)))))
@[irreducible] def f_l_drawn : FS := fnOf 5 2 b_l_drawn
/-- _law_kept: 0 _law_facts_here, 1 _law_word -/
def b_l_kept : DS :=
(dRet (dComp (iSeq (dVar 0)) (gVar 1) G.tYes (dTup (daCons (dVar 1) (daCons (dCall bList (daCons (d2 oIx (dVar 0) (dVar 1)) daNil)) daNil))) [1]))
@[irreducible] def f_l_kept : FS := fnOf 2 1 b_l_kept
/-- _law_stands: 0 _law_facts_here, 1 _law_outers_here, 2 _law_told, 3 _law_part, 4 _law_around, 5 _law_here, 6 _law_keys, 7 _law_found, 8 _law_one -/
def b_l_stands : DS :=
(dSeq (dSet 1 (dCall f_l_outers (daCons (dVar 0) daNil)))
(dSeq (dSet 2 dDic0)
(dSeq (dFor (iSeq (dVar 1)) (gVar 3)
(dAsg (d2 oIx (d2 oIx (dVar 1) (dVar 3)) (dInt 0)) (G.gSub (dVar 2) (dVar 3))))
(dSeq (dFor (iSeq (dVar 1)) (gVar 3)
(dSeq (dSet 4 (dLst daNil))
(dSeq (dSet 5 (dVar 3))
(dSeq (dWhile (G.tAnd (tQ (d2 oIn (dVar 5) (dVar 1))) (tQ (d2 oNotIn (dVar 5) (dVar 4))))
(dSeq (dExp (dMeth "list" mAppend (dVar 4) (daCons (dVar 5) daNil)))
(dSet 5 (d2 oIx (d2 oIx (dVar 1) (dVar 5)) (dInt 0)))))
(dSeq (dSet 6 (dComp (iSeq (dVar 4)) (gVar 8) G.tYes (d2 oIx (d2 oIx (dVar 1) (dVar 8)) (dInt 2)) [8]))
(dIf (G.tAnd (tQ (d2 oEq (dVar 5) (dVar 3))) (tQ (d2 oEq (dCall bMax (daCons (dVar 6) daNil)) (d2 oIx (d2 oIx (dVar 1) (dVar 3)) (dInt 2)))))
(dAsg (dTup (daCons (dStr (PySem.Str.ofString "")) (daCons (dInt 0) daNil))) (G.gSub (dVar 2) (dVar 3)))
dNx))))))
(dSeq (dSet 7 dDic0)
(dSeq (dFor (iSeq (dVar 2)) (gVar 3)
(dSeq (dSet 5 (dVar 3))
(dSeq (dWhile (tQ (d2 oIn (dVar 5) (dVar 2)))
(dSet 5 (d2 oIx (dVar 2) (dVar 5))))
(dSeq (dAsg dNon (G.gSub (dVar 7) (dVar 3)))
(dIf (tQ (d2 oEq (dVar 5) (dTup (daCons (dStr (PySem.Str.ofString "")) (daCons (dInt 0) daNil)))))
(dAsg (d2 oIx (dVar 2) (dVar 3)) (G.gSub (dVar 7) (dVar 3)))
dNx)))))
(dRet (dVar 7))))))))
@[irreducible] def f_l_stands : FS := fnOf 9 1 b_l_stands
/-- _law_shown: 0 _law_facts_here, 1 _law_stands_here, 2 _law_cut, 3 _law_seen, 4 _law_part, 5 _law_here, 6 _law_one -/
def b_l_shown : DS :=
(dSeq (dSet 1 (dCall f_l_stands (daCons (dVar 0) daNil)))
(dSeq (dSet 2 (dComp (iSeq (d2 oIx (dVar 0) (dStr (PySem.Str.ofString "cuts")))) (gVar 6) G.tYes (d2 oIx (dVar 6) (dInt 0)) [6]))
(dSeq (dSet 3 (dLst (daCons (dTup (daCons (dStr (PySem.Str.ofString "")) (daCons (dInt 0) daNil))) daNil)))
(dSeq (dFor (iSeq (dVar 1)) (gVar 4)
(dSeq (dSet 5 (dVar 4))
(dSeq (dWhile (G.tAnd (tQ (d2 oIn (dVar 5) (dVar 1))) (tQ (d2 oNotIn (dVar 5) (dVar 2))))
(dSet 5 (d2 oIx (dVar 1) (dVar 5))))
(dIf (tQ (d2 oEq (dVar 5) (dTup (daCons (dStr (PySem.Str.ofString "")) (daCons (dInt 0) daNil)))))
(dExp (dMeth "list" mAppend (dVar 3) (daCons (dVar 4) daNil)))
dNx))))
(dRet (dCall bSortD (daCons (dVar 3) daNil)))))))
@[irreducible] def f_l_shown : FS := fnOf 7 1 b_l_shown
/-- _law_inner: 0 _law_facts_here, 1 _law_stands_here, 2 _law_seen, 3 _law_part, 4 _law_outers_here, 5 _law_some, 6 _law_one, 7 _law_key_here -/
def b_l_inner : DS :=
(dSeq (dSet 4 (dCall f_l_outers (daCons (dVar 0) daNil)))
(dSeq (dSet 5 (dLst daNil))
(dSeq (dFor (iSeq (dVar 1)) (gVar 6)
(dIf (G.tAnd (tQ (d2 oEq (d2 oIx (dVar 1) (dVar 6)) (dVar 3))) (tQ (d2 oIn (dVar 6) (dVar 2))))
(dExp (dMeth "list" mAppend (dVar 5) (daCons (dTup (daCons (d2 oIx (d2 oIx (dVar 4) (dVar 6)) (dInt 2)) (daCons (dVar 6) daNil))) daNil)))
dNx))
(dRet (dComp (iSeq (dCall bSortD (daCons (dVar 5) daNil))) (G.gTup 2 (G.gCons (gVar 7) (G.gCons (gVar 6) G.gNil))) G.tYes (dVar 6) [7, 6])))))
@[irreducible] def f_l_inner : FS := fnOf 8 4 b_l_inner
/-- _law_shown_right: 0 _law_facts_here, 1 _law_seen, 2 _law_found -/
def b_l_shown_right : DS :=
(dSeq (dSet 1 (dCall f_l_shown (daCons (dVar 0) daNil)))
(dSeq (dSet 2 (dCall f_shown_parts (daCons (dVar 0) daNil)))
(dSeq (dIf (G.tOr (G.tNot (tV (d1 (oIsT "list") (dVar 2)))) (tQ (d2 oNe (dVar 2) (dVar 1))))
(dRet (dBl false))
dNx)
(dSeq (dExp (dMeth "list" mClear (dVar 2) daNil))
(dSeq (dSet 2 (dCall f_shown_parts (daCons (dVar 0) daNil)))
(dRet (dAnd (d2 oEq (dCall f_shown_parts (daCons (dCall f_l_facts daNil) daNil)) (dLst (daCons (dTup (daCons (dStr (PySem.Str.ofString "")) (daCons (dInt 0) daNil))) daNil))) (d2 oEq (dVar 2) (dVar 1)))))))))
@[irreducible] def f_l_shown_right : FS := fnOf 3 1 b_l_shown_right
/-- _law_inner_right: 0 _law_facts_here, 1 _law_most, 2 _law_seen, 3 _law_stands_here, 4 _law_some, 5 _law_part, 6 _law_told, 7 _law_due, 8 _law_one -/
def b_l_inner_right : DS :=
(dSeq (dSet 2 (dCall f_l_shown (daCons (dVar 0) daNil)))
(dSeq (dSet 3 (dCall f_l_stands (daCons (dVar 0) daNil)))
(dSeq (dSet 4 (dLst daNil))
(dSeq (dFor (iSeq (d2 oAdd (dLst (daCons (dTup (daCons (dStr (PySem.Str.ofString "")) (daCons (dInt 0) daNil))) daNil)) (dSl (dComp (iSeq (d2 oIx (dVar 0) (dStr (PySem.Str.ofString "births")))) (gVar 8) G.tYes (d2 oIx (dVar 8) (dInt 0)) [8]) doNone (doSome (dVar 1))))) (gVar 5)
(dSeq (dSet 6 (dCall f_inner_parts (daCons (dVar 0) (daCons (dVar 5) daNil))))
(dSeq (dIf (G.tNot (tV (d1 (oIsT "list") (dVar 6))))
(dRet (dBl false))
dNx)
(dExp (dMeth "list" mAppend (dVar 4) (daCons (dTup (daCons (dVar 6) (daCons (dCall f_l_inner (daCons (dVar 0) (daCons (dVar 3) (daCons (dVar 2) (daCons (dVar 5) daNil))))) daNil))) daNil))))))
(dSeq (dFor (iSeq (dVar 4)) (G.gTup 2 (G.gCons (gVar 6) (G.gCons (gVar 7) G.gNil)))
(dSeq (dIf (tQ (d2 oNe (dVar 6) (dVar 7)))
(dRet (dBl false))
dNx)
(dExp (dMeth "list" mAppend (dVar 6) (daCons (dTup (daCons (dStr (PySem.Str.ofString "")) (daCons (dInt 0) daNil))) daNil)))))
(dRet (d2 oEq (dCall f_inner_parts (daCons (dVar 0) (daCons (dTup (daCons (dStr (PySem.Str.ofString "")) (daCons (dInt 0) daNil))) daNil))) (d2 oIx (d2 oIx (dVar 4) (dInt 0)) (dInt 1)))))))))
@[irreducible] def f_l_inner_right : FS := fnOf 9 2 b_l_inner_right
/-- law: 0 _law_script, 1 _law_facts_here, 2 _law_kept_here, 3 _law_placed -/
def b_law : DS :=
(dSeq (dSet 1 (dCall f_l_drawn (daCons (dVar 0) (daCons (dBl true) daNil))))
(dSeq (dSet 2 (dCall f_l_kept (daCons (dVar 1) daNil)))
(dSeq (dIf (G.tOr (G.tNot (tV (dCall f_l_shown_right (daCons (dVar 1) daNil)))) (G.tOr (G.tNot (tV (dCall f_l_inner_right (daCons (dVar 1) (daCons (dInt 24) daNil))))) (tQ (d2 oNe (dCall f_l_kept (daCons (dVar 1) daNil)) (dVar 2)))))
(dRet (dBl false))
dNx)
(dSeq (dSet 3 (dCall f_l_outers (daCons (dVar 1) daNil)))
(dSeq (dIf (tQ (d2 oNe (dVar 3) dDic0))
(dExp (dMeth "list" mAppend (d2 oIx (dVar 1) (dStr (PySem.Str.ofString "places"))) (daCons (dTup (daCons (d2 oIx (dCall bSortD (daCons (dVar 3) daNil)) (dInt 0)) (daCons (dTup (daCons (dStr (PySem.Str.ofString "")) (daCons (dInt 0) daNil))) (daCons (dTup (daCons (dStr (PySem.Str.ofString "ann")) (daCons (dInt 99) daNil))) (daCons (dTup (daCons (dInt 1000) (daCons (dInt 0) daNil))) daNil))))) daNil)))
dNx)
(dRet (dAnd (dCall f_l_shown_right (daCons (dVar 1) daNil)) (dCall f_l_inner_right (daCons (dVar 1) (daCons (dInt 4) daNil))))))))))
@[irreducible] def f_law : FS := fnOf 4 1 b_law
end K29
end

section
set_option linter.all false
set_option autoImplicit false
set_option maxRecDepth 100000
set_option maxHeartbeats 1000000
namespace K29
open G
open PySem (Str)
local macro_rules | `(tactic| fail $s:str) => match s.getString with
  | "ne" => `(tactic| first | assumption | (apply Ne.symm; assumption) | exact ne_f1 (by assumption) (by fail "lk") | exact ne_f2 (by assumption) (by fail "lk") | grind [up, Sb])
  | "lk" => `(tactic| first | assumption | exact up_same | (refine up_at ?_ ?_; (· fail "ne"); fail "lk") | (refine Sb.at ?_ ?_; (· assumption); fail "lk"))
  | "sd" => `(tactic| first | (with_reducible show -(2 ^ 62) ≤ (_ : Int); first | omega | (simp only [List.length_map]; omega)) | (with_reducible show (_ : Int) < 2 ^ 62; first | omega | (simp only [List.length_map]; omega)) | assumption | rfl | (apply isT_lst; fail "lk") | (apply isT_dic; fail "lk") | decide | (simp only [List.length_cons, List.length_nil]; decide) | exact mulOk_l (by decide) (by decide) | exact mulOk_r (by decide) (by decide) | exact mulOk_l (by omega) (by omega) | exact mulOk_r (by omega) (by omega) | omega | (simp only [List.length_map]; omega))
  | "ls" => `(tactic| first | exact sq_tup | exact sq_rl | exact ls_rl | (apply ls_lst; fail "lk") | (apply sq_lst; fail "lk"))
  | "st" => `(tactic| first
  | ((with_reducible apply ix_lst); (· fail "lk"))
  | with_reducible apply ix_tup
  | with_reducible apply ix_str
  | with_reducible apply in_tup
  | with_reducible apply min_ii
  | with_reducible apply max_ii
  | ((with_reducible apply in_lst); (· fail "lk"))
  | ((with_reducible apply in_dic); (· fail "lk"))
  | ((with_reducible apply notIn_dic); (· fail "lk"))
  | ((with_reducible apply notIn_lst); (· fail "lk"))
  | with_reducible apply ix_rl
  | ((with_reducible apply ix_dic); (· fail "lk"))
  | ((with_reducible apply app_lst); (· fail "lk"))
  | ((with_reducible apply len_lst); (· fail "lk"))
  | with_reducible apply len_tup
  | with_reducible apply len_rl
  | with_reducible apply len_str
  | ((with_reducible apply oIsT_lst); (· fail "lk"))
  | ((with_reducible apply dict_ls); (· fail "ls"))
  | ((with_reducible apply sl_ls); (· fail "ls"))
  | ((with_reducible apply rev_ls); (· fail "ls"))
  | ((with_reducible apply list_sq); (· fail "ls"))
  | ((with_reducible apply list_dic); (· fail "lk"))
  | ((with_reducible apply index_ls); (· fail "ls"))
  | ((with_reducible apply count_ls); (· fail "ls"))
  | ((with_reducible apply fill_dic); (· fail "lk"))
  | ((with_reducible apply max_ls); (· fail "ls"))
  | ((with_reducible apply sortK_ls); (· fail "ls"))
  | ((with_reducible apply sum_ls); (· fail "ls"))
  | ((with_reducible apply sorted_ls); (· fail "ls"))
  | ((with_reducible apply sortI_ls); (· fail "ls"))
  | ((with_reducible apply sortD_ls); (· fail "ls"))
  | ((with_reducible apply sortD_dic); (· fail "lk"))
  | ((with_reducible apply oIsT_dic); (· fail "lk"))
  | ((with_reducible apply walkD_lst); (· fail "lk"))
  | ((with_reducible apply walkD_dic); (· fail "lk"))
  | ((with_reducible apply walkI_dic); (· fail "lk"))
  | with_reducible apply walkD_tup
  | with_reducible apply walkD_rl
  | ((with_reducible apply walkL_lst); (· fail "lk"))
  | with_reducible apply walkL_rl
  | ((with_reducible apply mul_lst); (· fail "lk"))
  | ((with_reducible apply min_ls); (· fail "ls"))
  | ((with_reducible apply oAdd_lst); (· fail "lk"); (· fail "lk"))
  | ((with_reducible apply put_lst); (· fail "lk"))
  | ((with_reducible apply put_dic); (· fail "lk"))
  | ((with_reducible apply tru_lst); (· fail "lk"))
  | with_reducible apply oIsT_bl
  | with_reducible apply oIsT_int
  | with_reducible apply oIsT_str
  | with_reducible apply oIsT_tup
  | with_reducible apply oIsT_rl
  | with_reducible apply oIsT_non
  | with_reducible apply sl_tup
  | with_reducible apply sl_str
  | ((with_reducible apply get_dic); (· fail "lk"))
  | ((with_reducible apply get_dic2); (· fail "lk"))
  | ((with_reducible apply setdef_dic); (· fail "lk"))
  | ((with_reducible apply ext_lst); (· fail "lk"); (· fail "lk"))
  | ((with_reducible apply pop_lst); (· fail "lk"))
  | ((with_reducible apply popAt_lst); (· fail "lk"))
  | ((with_reducible apply ins_lst); (· fail "lk"))
  | ((with_reducible apply clr_lst); (· fail "lk"))
  | ((with_reducible apply clr_dic); (· fail "lk"))
  | ((with_reducible apply join_sq); (· fail "ls"))
  | ((with_reducible apply oEq_sst); (· with_reducible rfl))
  | ((with_reducible apply oEq_ssf); (· first | assumption | decide))
  | ((with_reducible apply oNe_sst); (· with_reducible rfl))
  | ((with_reducible apply oNe_ssf); (· first | assumption | decide))
  | ((with_reducible apply oEq_iit); (· with_reducible rfl))
  | ((with_reducible apply oEq_iif); (· first | assumption | decide))
  | ((with_reducible apply oNe_iit); (· with_reducible rfl))
  | ((with_reducible apply oNe_iif); (· first | assumption | decide))
  | refine Exists.intro _ (And.intro (rfl : atI _ _ = some _) ?_)
  | refine Exists.intro _ (And.intro (rfl : ixN _ _ = some _) ?_)
  | ((with_reducible refine And.intro ?_ ?_); (· fail "sd")))
  | _ => Lean.Macro.throwUnsupported
local macro_rules | `(tactic| nofun) => `(tactic| fail "ne")
local macro_rules | `(tactic| bv_omega) => `(tactic| fail "lk")
local macro_rules | `(tactic| ac_rfl) => `(tactic| fail "sd")
local macro_rules | `(tactic| trivial) => `(tactic| ((conv => whnf); repeat (fail "st"; (conv => whnf))))
/-! ### facts of parts: draws -/
def hm (h : AH) (S : List Addr) : AH := fun x => if x ∈ S then none else h x
theorem hm_in {h : AH} {S : List Addr} {x : Addr} (e : x ∈ S) : hm h S x = none := if_pos e
theorem hm_out {h : AH} {S : List Addr} {x : Addr} (e : x ∉ S) : hm h S x = h x := if_neg e
theorem hm_sb (h : AH) (S : List Addr) : Sb (hm h S) h := fun p u q => by
  unfold hm at q
  split at q
  · cases q
  · exact q
theorem hm_nn {h : AH} {S : List Addr} {x : Addr} (e : h x = none) : hm h S x = none := by
  unfold hm
  split
  · rfl
  · exact e
theorem hm_trans {h h1 h2 : AH} {S T : List Addr} (a : Sb (hm h S) h1) (b : Sb (hm h1 T) h2) (sub : ∀ x ∈ T, x ∈ S) : Sb (hm h S) h2 := fun x o e => by
  have hx : x ∉ S := fun z => by rw [hm_in z] at e; cases e
  exact b x o (by rw [hm_out fun z => hx (sub x z)]; exact a x o e)
theorem hm_get {h h' : AH} {S : List Addr} {x : Addr} {o : O} (a : Sb (hm h S) h') (e : h x = some o) (n : x ∉ S) : h' x = some o := a x o (by rw [hm_out n]; exact e)
theorem hm_of {h h' : AH} {S : List Addr} (s : Sb h h') : Sb (hm h S) h' := (hm_sb h S).trans s
theorem hm_wid {h h' : AH} {S T : List Addr} (s : Sb (hm h S) h') (sub : ∀ x ∈ S, x ∈ T) : Sb (hm h T) h' := fun x o e => by
  have hx : x ∉ T := fun z => by rw [hm_in z] at e; cases e
  rw [hm_out hx] at e
  exact hm_get s e fun z => hx (sub x z)
theorem cell_ok {h : AH} {ns : List Int} {k : Nat} {Q : KD} (q : ∀ c, Q (.int c) h) : f_l_cell_at [.rl (ns.map .int), .int (k : Int)] h Q := by
  unfold f_l_cell_at
  trivial
  refine onT_d (fun e => ?_) (fun e => ?_)
  · trivial
    obtain ⟨x, h1, h2⟩ := atI_int (xs := ns.map D.int) (i := (k : Int)) (by omega) e
    refine ⟨x, h2, ?_⟩
    obtain ⟨n, _, rfl⟩ := List.mem_map.mp (List.mem_of_getElem? h1)
    trivial
    apply Pt.of
    exact q n
  · trivial
    apply Pt.of
    exact q _
def PlS (h : AH) (p : Addr) : Prop := ∃ x y, h p = some (.lst [.int x, .int y])
theorem PlS.nn {h : AH} {p a : Addr} (s : PlS h p) (e : h a = none) : p ≠ a := by
  obtain ⟨x, y, s1⟩ := s
  intro z; subst z
  rw [e] at s1; cases s1
theorem pool_ok {h : AH} {ns : List Int} {k : Nat} {Q : KD} (hk : k < 1000) (q : ∀ p x y, h p = none → Q (.ref p) (up h p (.lst [.int x, .int y]))) : f_l_pool [.rl (ns.map .int), .int (k : Int)] h Q := by
  unfold f_l_pool
  trivial
  refine cell_ok fun c => ?_
  trivial
  generalize hm1 : (if c < 0 then -c else c) = c1
  generalize hn : ((c1 % 2147483629 + 7919 * (k : Int) * (k : Int) + 1) * 48271) % 2147483647 = n1
  have n10 : 0 ≤ n1 := by rw [← hn]; exact Int.emod_nonneg _ (by decide)
  have n11 : n1 < 2147483647 := by rw [← hn]; exact Int.emod_lt_of_pos _ (by decide)
  refine cell_ok (k := 0) fun c2 => ?_
  trivial
  refine oEq_ii ?_
  trivial
  refine onT_i (fun e => ?_) (fun e => ?_)
  · trivial
    refine newL_i fun p np => ?_
    apply Pt.of
    exact q p _ _ np
  · trivial
    refine onT_d (fun e => ?_) (fun e => ?_)
    · trivial
      refine newL_i fun p np => ?_
      apply Pt.of
      exact q p _ _ np
    · trivial
      refine newL_i fun p np => ?_
      apply Pt.of
      exact q p _ _ np
theorem take_ok {h : AH} {p : Addr} {m : Int} {Q : KD} (s : PlS h p) (q : ∀ r h', 0 ≤ r → r < m → PlS h' p → Sb (hm h [p]) h' → Q (.int r) h') (m0 : 0 < m := by omega) (m1 : m < 18446744073709551616 := by omega) : f_l_take [.ref p, .int m] h Q := by
  obtain ⟨x, y, e⟩ := s
  have bp : hm h [p] p = none := hm_in (by simp)
  unfold f_l_take
  trivial
  refine onT_d (fun e => ?_) (fun e => ?_)
  · trivial
    apply Pt.of
    exact q _ _ (Int.emod_nonneg _ (by omega)) (Int.emod_lt_of_pos _ m0) ⟨_, _, up_same⟩ ((hm_sb _ _).upf bp)
  · trivial
    generalize hn : (y * 69621 + 48271) % 2147483647 = n1
    have n10 : 0 ≤ n1 := by rw [← hn]; exact Int.emod_nonneg _ (by decide)
    have n11 : n1 < 2147483647 := by rw [← hn]; exact Int.emod_lt_of_pos _ (by decide)
    trivial
    apply Pt.of
    exact q _ _ (Int.emod_nonneg _ (by omega)) (Int.emod_lt_of_pos _ m0) ⟨_, _, up_same⟩ ((hm_sb _ _).upf bp)
end K29
end

section
set_option linter.all false
set_option autoImplicit false
set_option maxRecDepth 100000
set_option maxHeartbeats 1000000
namespace K29
open G
open PySem (Str)
local macro_rules | `(tactic| fail $s:str) => match s.getString with
  | "ne" => `(tactic| first | assumption | (apply Ne.symm; assumption) | exact ne_f1 (by assumption) (by fail "lk") | exact ne_f2 (by assumption) (by fail "lk") | grind [up, Sb])
  | "lk" => `(tactic| first | assumption | exact up_same | (refine up_at ?_ ?_; (· fail "ne"); fail "lk") | (refine Sb.at ?_ ?_; (· assumption); fail "lk"))
  | "sd" => `(tactic| first | (with_reducible show -(2 ^ 62) ≤ (_ : Int); first | omega | (simp only [List.length_map]; omega)) | (with_reducible show (_ : Int) < 2 ^ 62; first | omega | (simp only [List.length_map]; omega)) | assumption | rfl | (apply isT_lst; fail "lk") | (apply isT_dic; fail "lk") | decide | (simp only [List.length_cons, List.length_nil]; decide) | exact mulOk_l (by decide) (by decide) | exact mulOk_r (by decide) (by decide) | exact mulOk_l (by omega) (by omega) | exact mulOk_r (by omega) (by omega) | omega | (simp only [List.length_map]; omega))
  | "ls" => `(tactic| first | exact sq_tup | exact sq_rl | exact ls_rl | (apply ls_lst; fail "lk") | (apply sq_lst; fail "lk"))
  | "st" => `(tactic| first
  | ((with_reducible apply ix_lst); (· fail "lk"))
  | with_reducible apply ix_tup
  | with_reducible apply ix_str
  | with_reducible apply in_tup
  | with_reducible apply min_ii
  | with_reducible apply max_ii
  | ((with_reducible apply in_lst); (· fail "lk"))
  | ((with_reducible apply in_dic); (· fail "lk"))
  | ((with_reducible apply notIn_dic); (· fail "lk"))
  | ((with_reducible apply notIn_lst); (· fail "lk"))
  | with_reducible apply ix_rl
  | ((with_reducible apply ix_dic); (· fail "lk"))
  | ((with_reducible apply app_lst); (· fail "lk"))
  | ((with_reducible apply len_lst); (· fail "lk"))
  | with_reducible apply len_tup
  | with_reducible apply len_rl
  | with_reducible apply len_str
  | ((with_reducible apply oIsT_lst); (· fail "lk"))
  | ((with_reducible apply dict_ls); (· fail "ls"))
  | ((with_reducible apply sl_ls); (· fail "ls"))
  | ((with_reducible apply rev_ls); (· fail "ls"))
  | ((with_reducible apply list_sq); (· fail "ls"))
  | ((with_reducible apply list_dic); (· fail "lk"))
  | ((with_reducible apply index_ls); (· fail "ls"))
  | ((with_reducible apply count_ls); (· fail "ls"))
  | ((with_reducible apply fill_dic); (· fail "lk"))
  | ((with_reducible apply max_ls); (· fail "ls"))
  | ((with_reducible apply sortK_ls); (· fail "ls"))
  | ((with_reducible apply sum_ls); (· fail "ls"))
  | ((with_reducible apply sorted_ls); (· fail "ls"))
  | ((with_reducible apply sortI_ls); (· fail "ls"))
  | ((with_reducible apply sortD_ls); (· fail "ls"))
  | ((with_reducible apply sortD_dic); (· fail "lk"))
  | ((with_reducible apply oIsT_dic); (· fail "lk"))
  | ((with_reducible apply walkD_lst); (· fail "lk"))
  | ((with_reducible apply walkD_dic); (· fail "lk"))
  | ((with_reducible apply walkI_dic); (· fail "lk"))
  | with_reducible apply walkD_tup
  | with_reducible apply walkD_rl
  | ((with_reducible apply walkL_lst); (· fail "lk"))
  | with_reducible apply walkL_rl
  | ((with_reducible apply mul_lst); (· fail "lk"))
  | ((with_reducible apply min_ls); (· fail "ls"))
  | ((with_reducible apply oAdd_lst); (· fail "lk"); (· fail "lk"))
  | ((with_reducible apply put_lst); (· fail "lk"))
  | ((with_reducible apply put_dic); (· fail "lk"))
  | ((with_reducible apply tru_lst); (· fail "lk"))
  | with_reducible apply oIsT_bl
  | with_reducible apply oIsT_int
  | with_reducible apply oIsT_str
  | with_reducible apply oIsT_tup
  | with_reducible apply oIsT_rl
  | with_reducible apply oIsT_non
  | with_reducible apply sl_tup
  | with_reducible apply sl_str
  | ((with_reducible apply get_dic); (· fail "lk"))
  | ((with_reducible apply get_dic2); (· fail "lk"))
  | ((with_reducible apply setdef_dic); (· fail "lk"))
  | ((with_reducible apply ext_lst); (· fail "lk"); (· fail "lk"))
  | ((with_reducible apply pop_lst); (· fail "lk"))
  | ((with_reducible apply popAt_lst); (· fail "lk"))
  | ((with_reducible apply ins_lst); (· fail "lk"))
  | ((with_reducible apply clr_lst); (· fail "lk"))
  | ((with_reducible apply clr_dic); (· fail "lk"))
  | ((with_reducible apply join_sq); (· fail "ls"))
  | ((with_reducible apply oEq_sst); (· with_reducible rfl))
  | ((with_reducible apply oEq_ssf); (· first | assumption | decide))
  | ((with_reducible apply oNe_sst); (· with_reducible rfl))
  | ((with_reducible apply oNe_ssf); (· first | assumption | decide))
  | ((with_reducible apply oEq_iit); (· with_reducible rfl))
  | ((with_reducible apply oEq_iif); (· first | assumption | decide))
  | ((with_reducible apply oNe_iit); (· with_reducible rfl))
  | ((with_reducible apply oNe_iif); (· first | assumption | decide))
  | refine Exists.intro _ (And.intro (rfl : atI _ _ = some _) ?_)
  | refine Exists.intro _ (And.intro (rfl : ixN _ _ = some _) ?_)
  | ((with_reducible refine And.intro ?_ ?_); (· fail "sd")))
  | _ => Lean.Macro.throwUnsupported
local macro_rules | `(tactic| nofun) => `(tactic| fail "ne")
local macro_rules | `(tactic| bv_omega) => `(tactic| fail "lk")
local macro_rules | `(tactic| ac_rfl) => `(tactic| fail "sd")
local macro_rules | `(tactic| trivial) => `(tactic| ((conv => whnf); repeat (fail "st"; (conv => whnf))))
/-! ### facts: nine bare lists -/
def fkey : Nat → D
  | 0 => .str (Str.ofString "births")
  | 1 => .str (Str.ofString "places")
  | 2 => .str (Str.ofString "cuts")
  | 3 => .str (Str.ofString "signs")
  | 4 => .str (Str.ofString "marks")
  | 5 => .str (Str.ofString "notes")
  | 6 => .str (Str.ofString "lines")
  | 7 => .str (Str.ofString "cells")
  | _ => .str (Str.ofString "leaves")
def fcN (n : Nat) (A : Nat → Addr) : List (D × D) := (List.range n).map fun i => (fkey i, .ref (A i))
theorem fkey_nd : ((List.range 9).map fkey).Nodup := by decide
theorem fcN_keys (n : Nat) (A : Nat → Addr) : (fcN n A).map (·.1) = (List.range n).map fkey := by unfold fcN; rw [List.map_map]; rfl
theorem fcN_nd {n : Nat} (hn : n ≤ 9) (A : Nat → Addr) : ((fcN n A).map (·.1)).Nodup := by
  rw [fcN_keys]
  refine List.Nodup.sublist (List.Sublist.map _ ?_) fkey_nd
  rw [show List.range n = (List.range 9).take n by rw [List.take_range, Nat.min_eq_left hn]]
  exact List.take_sublist _ _
theorem fcN_succ (n : Nat) (A : Nat → Addr) : fcN (n + 1) A = fcN n A ++ [(fkey n, .ref (A n))] := by unfold fcN; rw [List.range_succ, List.map_append]; rfl
theorem fcN_ext {n : Nat} {A B : Nat → Addr} (h : ∀ i, i < n → A i = B i) : fcN n A = fcN n B := by
  unfold fcN
  exact List.map_congr_left fun i hi => by rw [h i (List.mem_range.mp hi)]
theorem fcN_get {n i : Nat} (hn : n ≤ 9) (hi : i < n) (A : Nat → Addr) : dget (fcN n A) (fkey i) = some (.ref (A i)) := by
  have := dget_puts_mem (ps := fcN n A) (k := fkey i) (v := .ref (A i)) (kvs := []) (fcN_nd hn A) (List.mem_map.mpr ⟨i, List.mem_range.mpr hi, rfl⟩)
  rw [dputs_new (by rw [List.nil_append]; exact fcN_nd hn A), List.nil_append] at this
  exact this
theorem fcN_put {n : Nat} (hn : n < 9) (A : Nat → Addr) (r : Addr) : dput (fcN n A) (fkey n) (.ref r) = fcN (n + 1) (fun j => if j = n then r else A j) := by
  rw [fcN_succ, if_pos rfl, dput_new]
  · rw [fcN_ext fun i hi => (if_neg (Nat.ne_of_lt hi)).symm]
  · have := fcN_nd hn A
    rw [fcN_succ, List.map_append, List.nodup_append] at this
    intro z
    exact this.2.2 _ z (fkey n) (by simp) rfl
theorem fkey_pl : ∀ i, ∃ s, fkey i = .str s
  | 0 => ⟨_, rfl⟩ | 1 => ⟨_, rfl⟩ | 2 => ⟨_, rfl⟩ | 3 => ⟨_, rfl⟩ | 4 => ⟨_, rfl⟩ | 5 => ⟨_, rfl⟩ | 6 => ⟨_, rfl⟩ | 7 => ⟨_, rfl⟩ | _ + 8 => ⟨_, rfl⟩
/-- facts: a dict of nine lists -/
structure Fc (h : AH) (p : Addr) (A : Nat → Addr) (X : Nat → List D) : Prop where
  dic : h p = some (.dic (fcN 9 A))
  lst : ∀ i, i < 9 → h (A i) = some (.lst (X i))
  inj : ∀ i j, i < 9 → j < 9 → A i = A j → i = j
theorem Fc.ne {h : AH} {p : Addr} {A : Nat → Addr} {X : Nat → List D} (f : Fc h p A X) {i : Nat} (hi : i < 9) : A i ≠ p := fun e => by
  have := f.lst i hi
  rw [e, f.dic] at this; cases this
theorem Fc.sb {h h' : AH} {p : Addr} {A : Nat → Addr} {X : Nat → List D} (f : Fc h p A X) (s : Sb h h') : Fc h' p A X := ⟨s _ _ f.dic, fun i hi => s _ _ (f.lst i hi), f.inj⟩
theorem bare_ok {h : AH} {Q : KD} (q : ∀ p A h', h p = none → (∀ i, i < 9 → h (A i) = none) → Sb h h' → Fc h' p A (fun _ => []) → Q (.ref p) h') : f_l_facts [] h Q := by
  unfold f_l_facts
  trivial
  refine newD_i fun p np => ?_
  trivial
  refine newL_i fun t nt => ?_
  have ntp : t ≠ p := by nofun
  have nt0 : h t = none := (up_none.mp nt).2
  trivial
  refine ⟨fun i ρ h' => i ≤ 9 ∧ ∃ x1 A, ρ = [some (.ref p), x1] ∧ h' t = some (.lst ((List.range 9).map fkey)) ∧ h' p = some (.dic (fcN i A)) ∧ (∀ j, j < i → h' (A j) = some (.lst []) ∧ h (A j) = none) ∧ (∀ j k, j < i → k < i → A j = A k → j = k) ∧ Sb h h', ?_, ?_, ?_, ?_⟩
  · exact ⟨by omega, _, fun _ => 0, rfl, up_same, up_at ntp.symm up_same, (fun j hj => by omega), (fun j k hj => by omega), ((Sb.refl h).upf' np).upf' nt⟩
  · rintro i ρ h' _ ⟨_, x1, A, _, et, _⟩
    exact et
  · rintro i ρ h' d ⟨hi, x1, A, rfl, et, ep, hl, hj, sb⟩ hd
    have hd' : ((List.range 9).map fkey)[i]? = some d := hd
    have hi9 : i < 9 := by have := (List.getElem?_eq_some_iff.mp hd').1; simpa using this
    have ed : d = fkey i := by
      rw [List.getElem?_map, List.getElem?_range hi9] at hd'
      exact (Option.some.inj hd').symm
    subst ed
    obtain ⟨s, es⟩ := fkey_pl i
    trivial
    refine newL_i fun r nr => ?_
    have nrp : r ≠ p := by nofun
    have nrt : r ≠ t := by nofun
    have hr0 : h r = none := sb.nn nr
    trivial
    refine ⟨by rw [es]; rfl, by unfold fcN; rw [List.length_map, List.length_range, SZ]; omega, ?_⟩
    apply Pt.of
    refine ⟨hi9, _, fun j => if j = i then r else A j, rfl, up_at ntp (up_at nrt.symm et), ?_, fun j hj' => ?_, fun j k hj' hk e => ?_, (sb.upf' nr).upf np⟩
    · rw [fcN_put hi9]; exact up_same
    · by_cases e : j = i
      · simp only [if_pos e]
        exact ⟨up_at nrp up_same, hr0⟩
      · simp only [if_neg e]
        obtain ⟨l1, l2⟩ := hl j (by omega)
        have n1 : A j ≠ p := fun z => by rw [z, ep] at l1; cases l1
        have n2 : A j ≠ r := by nofun
        exact ⟨up_at n1 (up_at n2 l1), l2⟩
    · by_cases e1 : j = i
      · by_cases e2 : k = i
        · omega
        · simp only [if_pos e1, if_neg e2] at e
          have := (hl k (by omega)).1
          rw [← e, nr] at this; cases this
      · by_cases e2 : k = i
        · simp only [if_neg e1, if_pos e2] at e
          have := (hl j (by omega)).1
          rw [e, nr] at this; cases this
        · simp only [if_neg e1, if_neg e2] at e
          exact hj j k (by omega) (by omega) e
  · rintro ρ h' ⟨_, x1, A, rfl, et, ep, hl, hj, sb⟩
    have e9 : (srcL t ((List.range 9).map fkey)).ds.length = 9 := by simp [srcL]
    change h' p = some (.dic (fcN (srcL t ((List.range 9).map fkey)).ds.length A)) at ep
    change ∀ j, j < (srcL t ((List.range 9).map fkey)).ds.length → _ at hl
    change ∀ j k, j < (srcL t ((List.range 9).map fkey)).ds.length → k < (srcL t ((List.range 9).map fkey)).ds.length → _ at hj
    rw [e9] at ep hl hj
    trivial
    apply Pt.of
    exact q p A h' np (fun i hi => (hl i hi).2) sb ⟨ep, fun i hi => (hl i hi).1, hj⟩
/-! ### facts of parts: keys -/
def main0 : D := .tup [.str (Str.ofString ""), .int 0]
def Nm (x : D) : Prop := ∃ w n, x = .tup [.str w, .int n] ∧ (w = Str.ofString "ann" ∨ w = Str.ofString "bo" ∨ w = Str.ofString "cyan")
def Ot (x : D) : Prop := x = main0 ∨ Nm x
theorem Nm.pl {x : D} (n : Nm x) : G.pl 7 x = true := by obtain ⟨w, n, rfl, _⟩ := n; rfl
theorem Ot.pl {x : D} (n : Ot x) : G.pl 7 x = true := by
  rcases n with rfl | n
  · rfl
  · exact n.pl
theorem Nm.ne {x : D} (n : Nm x) : x ≠ main0 := by
  obtain ⟨w, n, rfl, h⟩ := n
  intro e
  unfold main0 at e
  simp only [D.tup.injEq, List.cons.injEq, D.str.injEq] at e
  rcases h with h | h | h <;> (rw [h] at e; exact absurd e.1 (by decide))
theorem take_snoc {α : Type} {L : List α} {i : Nat} {l : α} (e : L[i]? = some l) : L.take (i + 1) = L.take i ++ [l] := by rw [List.take_succ, e]; rfl
theorem filter_take {α : Type} {f : α → Bool} {X : List α} {i : Nat} {x : α} (e : X[i]? = some x) : (X.take (i + 1)).filter f = (X.take i).filter f ++ if f x then [x] else [] := by
  rw [take_snoc e, List.filter_append]
  by_cases h : f x = true <;> simp [h]
/-- what was told last -/
structure La (h : AH) (la lr : Addr) (a b : Int) (ns : List D) : Prop where
  el : h la = some (.lst [.int a, .int b, .ref lr])
  er : h lr = some (.lst ns)
  pl : plL 7 ns = true
theorem La.sb {h h' : AH} {la lr : Addr} {a b : Int} {ns : List D} (x : La h la lr a b ns) (s : Sb h h') : La h' la lr a b ns := ⟨s _ _ x.el, s _ _ x.er, x.pl⟩
theorem key_ok {h : AH} {la lr nd : Addr} {a b hd n : Int} {w : Str} {ns xs : List D} {Q : KD} (x : La h la lr a b ns) (nlr : lr ≠ la) (ln : ns.length ≤ 1000) (en : h nd = some (.lst xs)) (px : plL 7 xs = true) (lx : xs.length ≤ 1000)
    (q : ∀ a' lr' ns' h', La h' la lr' a' hd ns' → lr' ≠ la → h lr' = none → ns'.length ≤ ns.length + 1 → (a' = a + 1 ∨ a' = a ∧ b < hd) → Sb (hm h [la]) h' → Q (.tup [.int a', .int hd]) h') : f_l_key [.ref la, .tup [.str w, .int n], .int hd, .ref nd] h Q := by
  obtain ⟨el, er, pn⟩ := x
  have bl : hm h [la] la = none := hm_in (by simp)
  unfold f_l_key
  trivial
  intro t nt
  refine ⟨fun k acc h' => k ≤ xs.length ∧ acc = (xs.take k).filter (fun x => decide (x ∈ ns)) ∧ h' = up h t (.lst acc), ?_, ?_, ?_, ?_⟩
  · exact ⟨Nat.zero_le _, rfl, rfl⟩
  · rintro k acc h' _ ⟨_, rfl, rfl⟩
    exact ⟨up_at (by nofun) en, up_same⟩
  · rintro k acc h' y ⟨hk', rfl, rfl⟩ hx
    have hx' : xs[k]? = some y := hx
    have hkl := (List.getElem?_eq_some_iff.mp hx').1
    have py := plL_iff.mp px y (List.mem_of_getElem? hx')
    have hfl := List.length_filter_le (fun x => decide (x ∈ ns)) (xs.take k)
    have hlt : (xs.take k).length ≤ xs.length := by rw [List.length_take]; omega
    have lx2 := lx
    trivial
    refine ⟨_, _, .pl py, PvL.pl pn (by omega), ?_⟩
    trivial
    refine onT_d (fun e => ?_) (fun e => ?_)
    · trivial
      refine ⟨by rw [SZ]; omega, up_same, ?_⟩
      rw [up_up]
      apply Pt.of
      exact ⟨hkl, by rw [filter_take hx', if_pos (by simpa using e)], rfl⟩
    · apply Pt.of
      exact ⟨hkl, by rw [filter_take hx', if_neg (by simpa using e), List.append_nil], rfl⟩
  rintro acc h1 ⟨_, rfl, rfl⟩
  generalize hacc : (xs.take (srcL nd xs).ds.length).filter (fun x => decide (x ∈ ns)) = acc
  have hpa : plL 7 acc = true := plL_iff.mpr fun x hx => by
    rw [← hacc] at hx
    exact plL_iff.mp px x (List.mem_of_mem_take (List.mem_filter.mp hx).1)
  have s1 : Sb h (up h t (.lst acc)) := (Sb.refl h).upf' nt
  have et : up h t (.lst acc) t = some (.lst acc) := up_same
  generalize up h t (.lst acc) = h1 at s1 et ⊢
  clear hacc nt en
  have el1 := s1 _ _ el
  have er1 := s1 _ _ er
  trivial
  apply join (α := AH) (H := fun h2 => Sb h h2)
  case m =>
    intro go
    refine onT_i (fun e => ?_) (fun e => ?_)
    · obtain ⟨hh, hv⟩ : ∃ hh, hh = h1 := ⟨h1, rfl⟩
      rw [← hv]
      exact (go hh (by rw [hv]; exact s1)).un
    · trivial
      refine newL_i fun z nz => ?_
      trivial
      refine oNe_pv (.lst (n := 7) (up_at (by nofun) et) hpa) (.lst (n := 0) up_same rfl) ?_
      have s2 := s1.upf' nz (o := .lst [])
      generalize up h1 z (.lst []) = h2 at s2 ⊢
      have el2 := s2 _ _ el
      have er2 := s2 _ _ er
      have e' : b < hd := by simpa using e
      clear e el1 er1
      trivial
      refine onT_nd (fun e => ?_) (fun e => ?_)
      · exact (go h2 s2).un
      · trivial
        refine onT_d (fun e => ?_) (fun e => ?_)
        · exact (go h2 s2).un
        · trivial
          refine newL_i fun z nz => ?_
          have nzl : z ≠ la := by nofun
          have nlz : lr ≠ z := by nofun
          trivial
          refine ⟨by rw [List.length_singleton, SZ]; omega, newL_i fun z2 nz2 => ?_⟩
          have n2l : z2 ≠ la := by nofun
          trivial
          apply Pt.of
          refine q a z2 _ _ ⟨up_same, up_at n2l up_same, ?_⟩ n2l ?_ (by rw [List.length_append, List.length_singleton]; exact Nat.le_refl _) (.inr ⟨rfl, e'⟩) ?_
          · exact plL_iff.mpr fun x hx => by
              rcases List.mem_append.mp hx with h | h
              · exact plL_iff.mp pn x h
              · rw [List.mem_singleton] at h; subst h; rfl
          · exact s2.nn ((up_none.mp (up_none.mp nz2).2).2)
          · exact ((((hm_of s2).upf bl).upf (hm_nn (s2.nn (up_none.mp nz).2))).upf (hm_nn (s2.nn ((up_none.mp (up_none.mp nz2).2).2)))).upf bl
  intro h2 s2
  have el2 := s2 _ _ el
  trivial
  refine newL_i fun l nl => ?_
  have nll : l ≠ la := by nofun
  trivial
  refine newL_i fun z nz => ?_
  have nzl : z ≠ la := by nofun
  have nlz : l ≠ z := by nofun
  have nz0 : h z = none := s2.nn ((up_none.mp (up_none.mp (up_none.mp (up_none.mp nz).2).2).2).2)
  have nl0 : h l = none := s2.nn (up_none.mp nl).2
  have sH := ((((((hm_of s2 (S := [la])).upf (o := .lst [.int (a + 1), .int b, .ref lr]) bl).upf (o := .lst []) (hm_nn nl0)).upf (o := .lst [.int (a + 1), .int b, .ref l]) bl).upf (o := .lst [.int (a + 1), .int hd, .ref l]) bl).upf (o := .lst [.tup [.str w, .int n]]) (hm_nn nz0))
  have e1 : up (up (up (up (up h2 la (.lst [.int (a + 1), .int b, .ref lr])) l (.lst [])) la (.lst [.int (a + 1), .int b, .ref l])) la (.lst [.int (a + 1), .int hd, .ref l])) z (.lst [.tup [.str w, .int n]]) la = some (.lst [.int (a + 1), .int hd, .ref l]) := up_at nzl.symm up_same
  have e2 : up (up (up (up (up h2 la (.lst [.int (a + 1), .int b, .ref lr])) l (.lst [])) la (.lst [.int (a + 1), .int b, .ref l])) la (.lst [.int (a + 1), .int hd, .ref l])) z (.lst [.tup [.str w, .int n]]) l = some (.lst []) := up_at nlz (up_at nll (up_at nll up_same))
  have e3 : up (up (up (up (up h2 la (.lst [.int (a + 1), .int b, .ref lr])) l (.lst [])) la (.lst [.int (a + 1), .int b, .ref l])) la (.lst [.int (a + 1), .int hd, .ref l])) z (.lst [.tup [.str w, .int n]]) z = some (.lst [.tup [.str w, .int n]]) := up_same
  change oAdd _ _ (up (up (up (up (up h2 la (.lst [.int (a + 1), .int b, .ref lr])) l (.lst [])) la (.lst [.int (a + 1), .int b, .ref l])) la (.lst [.int (a + 1), .int hd, .ref l])) z (.lst [.tup [.str w, .int n]])) _
  generalize up (up (up (up (up h2 la (.lst [.int (a + 1), .int b, .ref lr])) l (.lst [])) la (.lst [.int (a + 1), .int b, .ref l])) la (.lst [.int (a + 1), .int hd, .ref l])) z (.lst [.tup [.str w, .int n]]) = H at sH e1 e2 e3 ⊢
  clear nz nl
  trivial
  refine newL_i fun z2 nz2 => ?_
  have n2l : z2 ≠ la := by nofun
  have n20 : h z2 = none := by
    have := sH.nn nz2
    rw [hm_out (by simpa using n2l)] at this
    exact this
  trivial
  apply Pt.of
  exact q (a + 1) z2 _ _ ⟨up_same, up_at n2l up_same, rfl⟩ n2l n20 (by simp) (.inl rfl) ((sH.upf (hm_nn n20)).upf bl)
end K29
end

section
set_option linter.all false
set_option autoImplicit false
set_option maxRecDepth 100000
set_option maxHeartbeats 2000000
namespace K29
open G
open PySem (Str)
local macro_rules | `(tactic| fail $s:str) => match s.getString with
  | "ne" => `(tactic| first | assumption | (apply Ne.symm; assumption) | exact ne_f1 (by assumption) (by fail "lk") | exact ne_f2 (by assumption) (by fail "lk") | grind [up, Sb])
  | "lk" => `(tactic| first | assumption | exact up_same | (refine up_at ?_ ?_; (· fail "ne"); fail "lk") | (refine Sb.at ?_ ?_; (· assumption); fail "lk"))
  | "sd" => `(tactic| first | (with_reducible show -(2 ^ 62) ≤ (_ : Int); first | omega | (simp only [List.length_map]; omega)) | (with_reducible show (_ : Int) < 2 ^ 62; first | omega | (simp only [List.length_map]; omega)) | assumption | rfl | (apply isT_lst; fail "lk") | (apply isT_dic; fail "lk") | decide | (simp only [List.length_cons, List.length_nil]; decide) | exact mulOk_l (by decide) (by decide) | exact mulOk_r (by decide) (by decide) | exact mulOk_l (by omega) (by omega) | exact mulOk_r (by omega) (by omega) | omega | (simp only [List.length_map]; omega))
  | "ls" => `(tactic| first | exact sq_tup | exact sq_rl | exact ls_rl | (apply ls_lst; fail "lk") | (apply sq_lst; fail "lk"))
  | "st" => `(tactic| first
  | ((with_reducible apply ix_lst); (· fail "lk"))
  | with_reducible apply ix_tup
  | with_reducible apply ix_str
  | with_reducible apply in_tup
  | with_reducible apply min_ii
  | with_reducible apply max_ii
  | ((with_reducible apply in_lst); (· fail "lk"))
  | ((with_reducible apply in_dic); (· fail "lk"))
  | ((with_reducible apply notIn_dic); (· fail "lk"))
  | ((with_reducible apply notIn_lst); (· fail "lk"))
  | with_reducible apply ix_rl
  | ((with_reducible apply ix_dic); (· fail "lk"))
  | ((with_reducible apply app_lst); (· fail "lk"))
  | ((with_reducible apply len_lst); (· fail "lk"))
  | with_reducible apply len_tup
  | with_reducible apply len_rl
  | with_reducible apply len_str
  | ((with_reducible apply oIsT_lst); (· fail "lk"))
  | ((with_reducible apply dict_ls); (· fail "ls"))
  | ((with_reducible apply sl_ls); (· fail "ls"))
  | ((with_reducible apply rev_ls); (· fail "ls"))
  | ((with_reducible apply list_sq); (· fail "ls"))
  | ((with_reducible apply list_dic); (· fail "lk"))
  | ((with_reducible apply index_ls); (· fail "ls"))
  | ((with_reducible apply count_ls); (· fail "ls"))
  | ((with_reducible apply fill_dic); (· fail "lk"))
  | ((with_reducible apply max_ls); (· fail "ls"))
  | ((with_reducible apply sortK_ls); (· fail "ls"))
  | ((with_reducible apply sum_ls); (· fail "ls"))
  | ((with_reducible apply sorted_ls); (· fail "ls"))
  | ((with_reducible apply sortI_ls); (· fail "ls"))
  | ((with_reducible apply sortD_ls); (· fail "ls"))
  | ((with_reducible apply sortD_dic); (· fail "lk"))
  | ((with_reducible apply oIsT_dic); (· fail "lk"))
  | ((with_reducible apply walkD_lst); (· fail "lk"))
  | ((with_reducible apply walkD_dic); (· fail "lk"))
  | ((with_reducible apply walkI_dic); (· fail "lk"))
  | with_reducible apply walkD_tup
  | with_reducible apply walkD_rl
  | ((with_reducible apply walkL_lst); (· fail "lk"))
  | with_reducible apply walkL_rl
  | ((with_reducible apply mul_lst); (· fail "lk"))
  | ((with_reducible apply min_ls); (· fail "ls"))
  | ((with_reducible apply oAdd_lst); (· fail "lk"); (· fail "lk"))
  | ((with_reducible apply put_lst); (· fail "lk"))
  | ((with_reducible apply put_dic); (· fail "lk"))
  | ((with_reducible apply tru_lst); (· fail "lk"))
  | with_reducible apply oIsT_bl
  | with_reducible apply oIsT_int
  | with_reducible apply oIsT_str
  | with_reducible apply oIsT_tup
  | with_reducible apply oIsT_rl
  | with_reducible apply oIsT_non
  | with_reducible apply sl_tup
  | with_reducible apply sl_str
  | ((with_reducible apply get_dic); (· fail "lk"))
  | ((with_reducible apply get_dic2); (· fail "lk"))
  | ((with_reducible apply setdef_dic); (· fail "lk"))
  | ((with_reducible apply ext_lst); (· fail "lk"); (· fail "lk"))
  | ((with_reducible apply pop_lst); (· fail "lk"))
  | ((with_reducible apply popAt_lst); (· fail "lk"))
  | ((with_reducible apply ins_lst); (· fail "lk"))
  | ((with_reducible apply clr_lst); (· fail "lk"))
  | ((with_reducible apply clr_dic); (· fail "lk"))
  | ((with_reducible apply join_sq); (· fail "ls"))
  | ((with_reducible apply oEq_sst); (· with_reducible rfl))
  | ((with_reducible apply oEq_ssf); (· first | assumption | decide))
  | ((with_reducible apply oNe_sst); (· with_reducible rfl))
  | ((with_reducible apply oNe_ssf); (· first | assumption | decide))
  | ((with_reducible apply oEq_iit); (· with_reducible rfl))
  | ((with_reducible apply oEq_iif); (· first | assumption | decide))
  | ((with_reducible apply oNe_iit); (· with_reducible rfl))
  | ((with_reducible apply oNe_iif); (· first | assumption | decide))
  | refine Exists.intro _ (And.intro (rfl : atI _ _ = some _) ?_)
  | refine Exists.intro _ (And.intro (rfl : ixN _ _ = some _) ?_)
  | ((with_reducible refine And.intro ?_ ?_); (· fail "sd")))
  | _ => Lean.Macro.throwUnsupported
local macro_rules | `(tactic| nofun) => `(tactic| fail "ne")
local macro_rules | `(tactic| bv_omega) => `(tactic| fail "lk")
local macro_rules | `(tactic| ac_rfl) => `(tactic| fail "sd")
local macro_rules | `(tactic| trivial) => `(tactic| ((conv => whnf); repeat (fail "st"; (conv => whnf))))
/-! ### facts of parts: what is known of them -/
structure Pc where
  pt : D
  ot : D
  nm : D
  k0 : Int
  k1 : Int
abbrev encP (p : Pc) : D := .tup [p.pt, p.ot, p.nm, .tup [.int p.k0, .int p.k1]]
abbrev encB (b : D × D) : D := .tup [b.1, b.2]
def pX (B : List (D × D)) (L : List Pc) (C : List (D × D)) : Nat → List D
  | 0 => B.map encB
  | 1 => L.map encP
  | 2 => C.map encB
  | _ => []
theorem lx2 {a b a' b' : Int} : [a, b] < [a', b'] ↔ a < a' ∨ a = a' ∧ b < b' := by simp [List.cons_lt_cons_iff]
structure PcOk (a b : Int) (p : Pc) : Prop where
  pt : Nm p.pt
  ot : Ot p.ot
  nm : Nm p.nm
  le : p.k0 < a ∨ p.k0 = a ∧ p.k1 ≤ b
structure PI (a b : Int) (k : Nat) (B : List (D × D)) (L : List Pc) (C : List (D × D)) : Prop where
  bs : ∀ x ∈ B, Nm x.1 ∧ Ot x.2
  ls : ∀ p ∈ L, PcOk a b p
  cs : ∀ c ∈ C, Nm c.1 ∧ Nm c.2
  up : L.Pairwise fun x y => [x.k0, x.k1] < [y.k0, y.k1]
  lb : B.length ≤ k
  ll : L.length ≤ k
  lc : C.length ≤ k
  a0 : 0 ≤ a
  ak : a ≤ k
theorem PcOk.mono {a b a' b' : Int} {p : Pc} (x : PcOk a b p) (h : a' = a + 1 ∨ a' = a ∧ b < b') : PcOk a' b' p := ⟨x.pt, x.ot, x.nm, by have := x.le; omega⟩
theorem PI.step {a b a' b' : Int} {k : Nat} {B : List (D × D)} {L : List Pc} {C : List (D × D)} (x : PI a b k B L C) (h : a' = a + 1 ∨ a' = a ∧ b < b') : PI a' b' (k + 1) B L C :=
  ⟨x.bs, fun p hp => (x.ls p hp).mono h, x.cs, x.up, by have := x.lb; omega, by have := x.ll; omega, by have := x.lc; omega, by have := x.a0; omega, by have := x.ak; omega⟩
theorem PI.birth {a b a' b' : Int} {k : Nat} {B : List (D × D)} {L : List Pc} {C : List (D × D)} (x : PI a b k B L C) (h : a' = a + 1 ∨ a' = a ∧ b < b') {n o : D} (hn : Nm n) (ho : Ot o) : PI a' b' (k + 1) (B ++ [(n, o)]) L C := by
  have y := x.step h
  refine ⟨fun z hz => ?_, y.ls, y.cs, y.up, by have := x.lb; rw [List.length_append, List.length_singleton]; omega, y.ll, y.lc, y.a0, y.ak⟩
  rcases List.mem_append.mp hz with h | h
  · exact x.bs z h
  · rw [List.mem_singleton] at h; subst h; exact ⟨hn, ho⟩
theorem PI.cut {a b a' b' : Int} {k : Nat} {B : List (D × D)} {L : List Pc} {C : List (D × D)} (x : PI a b k B L C) (h : a' = a + 1 ∨ a' = a ∧ b < b') {n o : D} (hn : Nm n) (ho : Nm o) : PI a' b' (k + 1) B L (C ++ [(n, o)]) := by
  have y := x.step h
  refine ⟨y.bs, y.ls, fun z hz => ?_, y.up, y.lb, y.ll, by have := x.lc; rw [List.length_append, List.length_singleton]; omega, y.a0, y.ak⟩
  rcases List.mem_append.mp hz with h | h
  · exact x.cs z h
  · rw [List.mem_singleton] at h; subst h; exact ⟨hn, ho⟩
theorem PI.place {a b a' b' : Int} {k : Nat} {B B' : List (D × D)} {L : List Pc} {C : List (D × D)} (x : PI a b k B L C) (y : PI a' b' (k + 1) B' L C) (h : a' = a + 1 ∨ a' = a ∧ b < b') {p o n : D} (hp : Nm p) (ho : Ot o) (hn : Nm n) : PI a' b' (k + 1) B' (L ++ [⟨p, o, n, a', b'⟩]) C := by
  refine ⟨y.bs, fun z hz => ?_, y.cs, ?_, y.lb, by have := x.ll; rw [List.length_append, List.length_singleton]; omega, y.lc, y.a0, y.ak⟩
  · rcases List.mem_append.mp hz with h | h
    · exact y.ls z h
    · rw [List.mem_singleton] at h; subst h; exact ⟨hp, ho, hn, .inr ⟨rfl, Int.le_refl _⟩⟩
  · refine List.pairwise_append.mpr ⟨x.up, List.pairwise_singleton _ _, fun z hz w hw => ?_⟩
    rw [List.mem_singleton] at hw; subst hw
    have := (x.ls z hz).le
    rw [lx2]
    show z.k0 < a' ∨ z.k0 = a' ∧ z.k1 < b'
    omega
theorem Fc.x {h : AH} {p : Addr} {A : Nat → Addr} {X Y : Nat → List D} (f : Fc h p A X) (e : ∀ i, X i = Y i) : Fc h p A Y := by
  have : X = Y := funext e
  exact this ▸ f
theorem Fc.upd {h : AH} {p : Addr} {A : Nat → Addr} {X : Nat → List D} (f : Fc h p A X) {n : Nat} (hn : n < 9) (xs : List D) : Fc (up h (A n) (.lst xs)) p A (fun i => if i = n then xs else X i) := by
  refine ⟨up_at (f.ne hn).symm f.dic, fun i hi => ?_, f.inj⟩
  by_cases e : i = n
  · subst e; simp only [if_true]; exact up_same
  · simp only [if_neg e]
    exact up_at (fun z => e (f.inj i n hi hn z)) (f.lst i hi)
theorem Fc.hm {h h' : AH} {p : Addr} {A : Nat → Addr} {X : Nat → List D} (f : Fc h p A X) {S : List Addr} (s : Sb (hm h S) h') (hp : p ∉ S) (hA : ∀ i, i < 9 → A i ∉ S) : Fc h' p A X :=
  ⟨hm_get s f.dic hp, fun i hi => hm_get s (f.lst i hi) (hA i hi), f.inj⟩
theorem PlS.sb {h h' : AH} {p : Addr} (x : PlS h p) (s : Sb h h') : PlS h' p := by obtain ⟨a, b, e⟩ := x; exact ⟨a, b, s _ _ e⟩
theorem PlS.up' {h : AH} {p a : Addr} {o : O} (x : PlS h p) (n : h a = none) : PlS (up h a o) p := x.sb ((Sb.refl h).upf' n)
theorem PlS.hm {h h' : AH} {p : Addr} {S : List Addr} (x : PlS h p) (s : Sb (hm h S) h') (n : p ∉ S) : PlS h' p := by obtain ⟨a, b, e⟩ := x; exact ⟨a, b, hm_get s e n⟩
theorem PlS.upn {h : AH} {p a : Addr} {o : O} (x : PlS h p) (n : p ≠ a) : PlS (up h a o) p := by obtain ⟨u, v, e⟩ := x; exact ⟨u, v, up_at n e⟩
theorem La.upn {h : AH} {la lr c : Addr} {a b : Int} {ns : List D} {o : O} (x : La h la lr a b ns) (n1 : la ≠ c) (n2 : lr ≠ c) : La (up h c o) la lr a b ns := ⟨up_at n1 x.el, up_at n2 x.er, x.pl⟩
theorem La.hm {h h' : AH} {la lr : Addr} {a b : Int} {ns : List D} {S : List Addr} (x : La h la lr a b ns) (s : Sb (hm h S) h') (n1 : la ∉ S) (n2 : lr ∉ S) : La h' la lr a b ns := ⟨hm_get s x.el n1, hm_get s x.er n2, x.pl⟩
theorem pX_b {B : List (D × D)} {L : List Pc} {C : List (D × D)} {x : D × D} : ∀ i, (if i = 0 then B.map encB ++ [encB x] else pX B L C i) = pX (B ++ [x]) L C i
  | 0 => by rw [if_pos rfl]; show _ = (B ++ [x]).map encB; rw [List.map_append]; rfl
  | 1 => rfl | 2 => rfl | _ + 3 => rfl
theorem pX_l {B : List (D × D)} {L : List Pc} {C : List (D × D)} {x : Pc} : ∀ i, (if i = 1 then L.map encP ++ [encP x] else pX B L C i) = pX B (L ++ [x]) C i
  | 0 => rfl
  | 1 => by rw [if_pos rfl]; show _ = (L ++ [x]).map encP; rw [List.map_append]; rfl
  | 2 => rfl | _ + 3 => rfl
theorem pX_c {B : List (D × D)} {L : List Pc} {C : List (D × D)} {x : D × D} : ∀ i, (if i = 2 then C.map encB ++ [encB x] else pX B L C i) = pX B L (C ++ [x]) i
  | 0 => rfl | 1 => rfl
  | 2 => by rw [if_pos rfl]; show _ = (C ++ [x]).map encB; rw [List.map_append]; rfl
  | _ + 3 => rfl
theorem thr {n : Int} (h0 : 0 ≤ n) (h1 : n < 3) (a b c : D) : ∃ x, atI [a, b, c] n = some x ∧ (x = a ∨ x = b ∨ x = c) := by
  have : n = 0 ∨ n = 1 ∨ n = 2 := by omega
  rcases this with rfl | rfl | rfl
  · exact ⟨a, rfl, .inl rfl⟩
  · exact ⟨b, rfl, .inr (.inl rfl)⟩
  · exact ⟨c, rfl, .inr (.inr rfl)⟩
theorem event_ok {h : AH} {p la lr pl : Addr} {A : Nat → Addr} {B : List (D × D)} {L : List Pc} {C : List (D × D)} {a b : Int} {k : Nat} {ns : List D} {Q : KD} (fc : Fc h p A (pX B L C)) (inv : PI a b k B L C) (hla : La h la lr a b ns) (nlr : lr ≠ la) (lns : ns.length ≤ k) (st : PlS h pl) (hk : k < 100)
    (dl : ∀ i, i < 9 → A i ≠ la ∧ A i ≠ lr ∧ A i ≠ pl) (dp : pl ≠ la ∧ pl ≠ lr)
    (q : ∀ B' L' C' a' b' lr' ns' h', Fc h' p A (pX B' L' C') → PI a' b' (k + 1) B' L' C' → La h' la lr' a' b' ns' → lr' ≠ la → ns'.length ≤ k + 1 → h lr' = none → Sb (hm h [A 0, A 1, A 2, la, pl]) h' → Q .non h') : f_l_event [.ref p, .ref pl, .int (k : Int), .ref la, .bl true] h Q := by
  have d0 : dget (fcN 9 A) (.str (Str.ofString "births")) = some (.ref (A 0)) := fcN_get (i := 0) (Nat.le_refl 9) (by omega) A
  have d1 : dget (fcN 9 A) (.str (Str.ofString "places")) = some (.ref (A 1)) := fcN_get (i := 1) (Nat.le_refl 9) (by omega) A
  have dc2 : dget (fcN 9 A) (.str (Str.ofString "cuts")) = some (.ref (A 2)) := fcN_get (i := 2) (Nat.le_refl 9) (by omega) A
  have npl : p ≠ pl := fun z => by obtain ⟨x, y, e⟩ := st; rw [← z, fc.dic] at e; cases e
  have npa : p ≠ la := fun z => by have := hla.el; rw [← z, fc.dic] at this; cases this
  have lb := inv.lb
  have ll := inv.ll
  have lc := inv.lc
  unfold f_l_event
  trivial
  refine take_ok st fun way h1 w0 w1 st s1 => ?_
  trivial
  refine take_ok st fun hd h2 g0 g1 st s2' => ?_
  have s2 : Sb (hm h [pl]) h2 := hm_trans s1 s2' fun x hx => hx
  clear s1 s2'
  obtain ⟨w', ew, hw0⟩ := thr g0 g1 (.str (Str.ofString "ann")) (.str (Str.ofString "bo")) (.str (Str.ofString "cyan"))
  obtain ⟨w, ew', hw⟩ : ∃ w, w' = D.str w ∧ (w = Str.ofString "ann" ∨ w = Str.ofString "bo" ∨ w = Str.ofString "cyan") := by
    rcases hw0 with rfl | rfl | rfl
    · exact ⟨_, rfl, .inl rfl⟩
    · exact ⟨_, rfl, .inr (.inl rfl)⟩
    · exact ⟨_, rfl, .inr (.inr rfl)⟩
  clear hw0
  subst ew'
  obtain ⟨n', en, hn⟩ := thr g0 g1 (.int (k : Int)) (.int (100 - (k : Int))) (.int (k : Int))
  obtain ⟨n, rfl⟩ : ∃ n, n' = D.int n := by
    rcases hn with rfl | rfl | rfl
    · exact ⟨_, rfl⟩
    · exact ⟨_, rfl⟩
    · exact ⟨_, rfl⟩
  clear hn
  have hN : Nm (.tup [.str w, .int n]) := ⟨w, n, rfl, hw⟩
  trivial
  refine newL_i fun z1 nz1 => ?_
  trivial
  refine ⟨_, ew, ?_⟩
  trivial
  refine newL_i fun z2 nz2 => ?_
  trivial
  refine ⟨_, en, ?_⟩
  generalize hH : up (up h2 z1 _) z2 _ = h3
  have st : PlS h3 pl := by rw [← hH]; exact (st.up' nz1).up' nz2
  have s3 : Sb (hm h [pl]) h3 := by rw [← hH]; exact (s2.upf' nz1).upf' nz2
  clear hH
  clear nz1 nz2 s2
  have fc3 := fc.hm s3 (by simpa using npl) (fun i hi => by simpa using (dl i hi).2.2)
  have fd3 := fc3.dic
  have f03 : h3 (A 0) = some (.lst (B.map encB)) := fc3.lst 0 (by omega)
  trivial
  refine newL_i fun z3 nz3 => ?_
  trivial
  refine ⟨_, d0, ?_⟩
  trivial
  intro e ne
  refine ⟨fun k acc h' => k ≤ B.length ∧ acc = (B.take k).map (·.1) ∧ h' = up (up h3 z3 (.lst [main0])) e (.lst acc), ?_, ?_, ?_, ?_⟩
  · exact ⟨Nat.zero_le _, rfl, rfl⟩
  · rintro k acc h' _ ⟨_, rfl, rfl⟩
    have nAz : A 0 ≠ z3 := by nofun
    exact ⟨up_at (by nofun) (up_at nAz f03), up_same⟩
  · rintro k acc h' y ⟨hk', rfl, rfl⟩ hx
    obtain ⟨x, hx', rfl⟩ := get_map hx
    have hkl := (List.getElem?_eq_some_iff.mp hx').1
    trivial
    refine ⟨by rw [List.length_map, List.length_take, SZ]; omega, up_same, ?_⟩
    rw [up_up]
    apply Pt.of
    exact ⟨hkl, by rw [take_snoc hx', List.map_append]; rfl, rfl⟩
  rintro acc h4 ⟨_, rfl, rfl⟩
  rw [show B.take (srcL (A 0) (B.map encB)).ds.length = B from List.take_of_length_le (by simp [srcL])]
  have nze : z3 ≠ e := by nofun
  have ez3 : up (up h3 z3 (.lst [main0])) e (.lst (B.map (·.1))) z3 = some (.lst [main0]) := up_at nze up_same
  have ee3 : up (up h3 z3 (.lst [main0])) e (.lst (B.map (·.1))) e = some (.lst (B.map (·.1))) := up_same
  have st : PlS (up (up h3 z3 (.lst [main0])) e (.lst (B.map (·.1)))) pl := (st.up' nz3).up' ne
  have s4 := (s3.upf' nz3 (o := .lst [main0])).upf' ne (o := .lst (B.map (·.1)))
  generalize up (up h3 z3 (.lst [main0])) e (.lst (B.map (·.1))) = h4 at ez3 ee3 st s4 ⊢
  clear nz3 ne nze s3 fc3 fd3 f03
  trivial
  refine ⟨by rw [List.length_map]; show 1 + _ ≤ _; rw [SZ]; omega, newL_i fun ps nps => ?_⟩
  have eps : up h4 ps (.lst (main0 :: B.map (·.1))) ps = some (.lst (main0 :: B.map (·.1))) := up_same
  have st : PlS (up h4 ps (.lst (main0 :: B.map (·.1)))) pl := st.up' nps
  have s5 := s4.upf' nps (o := .lst (main0 :: B.map (·.1)))
  rw [show ([main0] ++ B.map (·.1)) = main0 :: B.map (·.1) from rfl]
  generalize up h4 ps (.lst (main0 :: B.map (·.1))) = h5 at eps st s5 ⊢
  trivial
  have lps : (main0 :: B.map (·.1)).length = B.length + 1 := by simp
  have npp : ps ≠ pl := fun z => PlS.nn (h := h4) (p := pl) (a := ps) (by assumption) nps z.symm
  refine take_ok st (fun r h6 r0 r1 st s6 => ?_) (by omega) (by omega)
  have eps6 := hm_get s6 eps (by simpa using npp)
  obtain ⟨ot, eo, eo'⟩ := atI_int (xs := main0 :: B.map (·.1)) (i := r) r0 (by omega)
  have hO : Ot ot := by
    rcases List.mem_cons.mp (List.mem_of_getElem? eo) with h | h
    · exact .inl h
    · obtain ⟨x, hx, rfl⟩ := List.mem_map.mp h
      exact .inr (inv.bs x hx).1
  have s56 : Sb (hm h [pl]) h6 := hm_trans s5 s6 fun x hx => hx
  clear s5 s6 eps nps eo s4 ez3 ee3
  have hla6 := hla.hm s56 (by simpa using dp.1.symm) (by simpa using dp.2.symm)
  have fc6 := fc.hm s56 (by simpa using npl) (fun i hi => by simpa using (dl i hi).2.2)
  have F6 : Sb (hm h [A 0, A 1, A 2, la, pl]) h6 := hm_wid s56 (by simp)
  clear s56
  trivial
  refine ⟨ot, eo', ?_⟩
  trivial
  apply joinP (P := True)
  case m =>
    intro go
    refine onT_i (fun e => ?_) (fun e => ?_)
    · exact (go True.intro).un
    · trivial
      refine oEq_ii ?_
      trivial
      refine onT_d (fun e => ?_) (fun e => ?_)
      · exact (go True.intro).un
      · trivial
        have hB : 1 ≤ B.length := by rw [lps] at e; omega
        refine take_ok st (fun r2 h6' r20 r21 st s6 => ?_) (by omega) (by omega)
        have eps6 := hm_get s6 eps6 (by simpa using npp)
        have hla6 := hla6.hm s6 (by simpa using dp.1.symm) (by simpa using dp.2.symm)
        have fc6 := fc6.hm s6 (by simpa using npl) (fun i hi => by simpa using (dl i hi).2.2)
        have F6 := hm_trans F6 s6 (by simp)
        obtain ⟨pt, ep, ep'⟩ := atI_int (xs := main0 :: B.map (·.1)) (i := 1 + r2) (by omega) (by omega)
        have hP : Nm pt := by
          have : (1 + r2).toNat = r2.toNat + 1 := by omega
          rw [this, List.getElem?_cons_succ] at ep
          obtain ⟨x, hx, rfl⟩ := List.mem_map.mp (List.mem_of_getElem? ep)
          exact (inv.bs x hx).1
        trivial
        refine ⟨pt, ep', ?_⟩
        trivial
        refine newL_i fun z nz => ?_
        have hla7 := hla6.sb ((Sb.refl _).upf' nz (o := .lst [pt, ot]))
        have fc7 := fc6.sb ((Sb.refl _).upf' nz (o := .lst [pt, ot]))
        have st := st.up' nz (o := .lst [pt, ot])
        have F7 := F6.upf' nz (o := .lst [pt, ot])
        have ez : up h6' z (.lst [pt, ot]) z = some (.lst [pt, ot]) := up_same
        generalize up h6' z (.lst [pt, ot]) = h7 at hla7 fc7 st F7 ez ⊢
        clear hla6 fc6 F6 eps6 nz
        trivial
        refine key_ok hla7 nlr (by omega) ez (plL_iff.mpr fun x hx => by
          simp only [List.mem_cons, List.not_mem_nil, or_false] at hx
          rcases hx with rfl | rfl
          · exact hP.pl
          · exact hO.pl) (by simp) fun a' lr' ns' h8 hla8 nl8 nl8' ln8 hab s8 => ?_
        have fc8 := fc7.hm s8 (by simpa using npa) (fun i hi => by simpa using (dl i hi).1)
        have nlp := st.nn nl8'
        have st := st.hm s8 (by simpa using dp.1)
        have F8 := hm_trans F7 s8 (by simp)
        have nlA : ∀ i, i < 9 → lr' ≠ A i := fun i hi z => by have := fc7.lst i hi; rw [← z, nl8'] at this; cases this
        have inv8 := inv.step hab
        have nl0 : h lr' = none := by
          have := F7.nn nl8'
          rw [hm_out (fun z => ?_)] at this
          · exact this
          · simp only [List.mem_cons, List.not_mem_nil, or_false] at z
            rcases z with z | z | z | z | z
            · exact nlA 0 (by omega) z
            · exact nlA 1 (by omega) z
            · exact nlA 2 (by omega) z
            · exact nl8 z
            · exact nlp z.symm
        clear hla7 fc7 F7 s8 ez
        trivial
        refine oEq_ii ?_
        apply join (α := AH) (H := fun hh => Fc hh p A (pX B L C) ∧ La hh la lr' a' hd ns' ∧ Sb (hm h [A 0, A 1, A 2, la, pl]) hh)
        case m =>
          intro go
          trivial
          refine onT_i (fun e => ?_) (fun e => ?_)
          · trivial
            refine take_ok st fun r3 h9 r30 r31 st s9 => ?_
            have fc9 := fc8.hm s9 (by simpa using npl) (fun i hi => by simpa using (dl i hi).2.2)
            have hla9 := hla8.hm s9 (by simpa using dp.1.symm) (by simpa using nlp.symm)
            have F9 := hm_trans F8 s9 (by simp)
            have f29 : h9 (A 2) = some (.lst (C.map encB)) := fc9.lst 2 (by omega)
            have fd9 := fc9.dic
            trivial
            refine oEq_ii ?_
            trivial
            refine onT_d (fun e => ?_) (fun e => ?_)
            · trivial
              refine ⟨_, dc2, ?_⟩
              trivial
              refine ⟨by rw [List.length_map, SZ]; omega, ?_⟩
              apply Pt.of
              exact q _ _ _ a' hd lr' ns' _ ((fc9.upd (n := 2) (by omega) _).x (pX_c (x := (pt, .tup [.str w, .int n])))) (inv.cut hab hP hN) (hla9.upn (dl 2 (by omega)).1.symm (nlA 2 (by omega))) nl8 (by omega) nl0 (F9.upf (hm_in (by simp)))
            · exact (go h9 ⟨fc9, hla9, F9⟩).un
          · exact (go h8 ⟨fc8, hla8, F8⟩).un
        rintro h9 ⟨fc9, hla9, F9⟩
        have f19 : h9 (A 1) = some (.lst (L.map encP)) := fc9.lst 1 (by omega)
        have fd9 := fc9.dic
        trivial
        refine ⟨_, d1, ?_⟩
        trivial
        intro e ne
        refine ⟨fun k acc h' => k ≤ L.length ∧ acc = (L.take k).map (·.pt) ∧ h' = up h9 e (.lst acc), ?_, ?_, ?_, ?_⟩
        · exact ⟨Nat.zero_le _, rfl, rfl⟩
        · rintro k acc h' _ ⟨_, rfl, rfl⟩
          exact ⟨up_at (by nofun) f19, up_same⟩
        · rintro k acc h' y ⟨hk', rfl, rfl⟩ hx
          obtain ⟨x, hx', rfl⟩ := get_map hx
          have hkl := (List.getElem?_eq_some_iff.mp hx').1
          trivial
          refine ⟨by rw [List.length_map, List.length_take, SZ]; omega, up_same, ?_⟩
          rw [up_up]
          apply Pt.of
          exact ⟨hkl, by rw [take_snoc hx', List.map_append]; rfl, rfl⟩
        rintro acc h10 ⟨_, rfl, rfl⟩
        rw [show L.take (srcL (A 1) (L.map encP)).ds.length = L from List.take_of_length_le (by simp [srcL])]
        have fc10 := fc9.sb ((Sb.refl _).upf' ne (o := .lst (L.map (·.pt))))
        have hla10 := hla9.sb ((Sb.refl _).upf' ne (o := .lst (L.map (·.pt))))
        have F10 := F9.upf' ne (o := .lst (L.map (·.pt)))
        have ee : up h9 e (.lst (L.map (·.pt))) e = some (.lst (L.map (·.pt))) := up_same
        generalize up h9 e (.lst (L.map (·.pt))) = h10 at fc10 hla10 F10 ee ⊢
        clear ne f19 fd9
        have f110 : h10 (A 1) = some (.lst (L.map encP)) := fc10.lst 1 (by omega)
        have fd10 := fc10.dic
        trivial
        refine ⟨_, _, .pl hP.pl, PvL.pl (m := 7) (plL_iff.mpr fun x hx => by obtain ⟨y, hy, rfl⟩ := List.mem_map.mp hx; exact (inv.ls y hy).pt.pl) (by omega), ?_⟩
        trivial
        refine onT_d (fun e => ?_) (fun e => ?_)
        · trivial
          refine ⟨_, d1, ?_⟩
          trivial
          refine ⟨by rw [List.length_map, SZ]; omega, ?_⟩
          apply Pt.of
          exact q _ _ _ a' hd lr' ns' _ ((fc10.upd (n := 1) (by omega) _).x (pX_l (x := ⟨pt, ot, .tup [.str w, .int n], a', hd⟩))) (inv.place inv8 hab hP hO hN) (hla10.upn (dl 1 (by omega)).1.symm (nlA 1 (by omega))) nl8 (by omega) nl0 (F10.upf (hm_in (by simp)))
        · trivial
          apply Pt.of
          exact q _ _ _ a' hd lr' ns' _ fc10 inv8 hla10 nl8 (by omega) nl0 F10
  intro _
  trivial
  refine newL_i fun z nz => ?_
  have hla7 := hla6.sb ((Sb.refl _).upf' nz (o := .lst [ot]))
  have fc7 := fc6.sb ((Sb.refl _).upf' nz (o := .lst [ot]))
  have st := st.up' nz (o := .lst [ot])
  have F7 := F6.upf' nz (o := .lst [ot])
  have ez : up h6 z (.lst [ot]) z = some (.lst [ot]) := up_same
  generalize up h6 z (.lst [ot]) = h7 at hla7 fc7 st F7 ez ⊢
  clear hla6 fc6 F6 eps6 nz
  trivial
  refine key_ok hla7 nlr (by omega) ez (plL_iff.mpr fun x hx => by rw [List.mem_singleton] at hx; subst hx; exact hO.pl) (by simp) fun a' lr' ns' h8 hla8 nl8 nl8' ln8 hab s8 => ?_
  have fc8 := fc7.hm s8 (by simpa using npa) (fun i hi => by simpa using (dl i hi).1)
  have nlp := st.nn nl8'
  have st := st.hm s8 (by simpa using dp.1)
  have F8 := hm_trans F7 s8 (by simp)
  have f08 : h8 (A 0) = some (.lst (B.map encB)) := fc8.lst 0 (by omega)
  have fd8 := fc8.dic
  have nlA : ∀ i, i < 9 → lr' ≠ A i := fun i hi z => by have := fc7.lst i hi; rw [← z, nl8'] at this; cases this
  have inv8 := inv.birth hab hN hO
  have nl0 : h lr' = none := by
    have := F7.nn nl8'
    rw [hm_out (fun z => ?_)] at this
    · exact this
    · simp only [List.mem_cons, List.not_mem_nil, or_false] at z
      rcases z with z | z | z | z | z
      · exact nlA 0 (by omega) z
      · exact nlA 1 (by omega) z
      · exact nlA 2 (by omega) z
      · exact nl8 z
      · exact nlp z.symm
  trivial
  refine ⟨_, d0, ?_⟩
  trivial
  refine ⟨by rw [List.length_map, SZ]; omega, ?_⟩
  have fc9 := (fc8.upd (n := 0) (by omega) (B.map encB ++ [.tup [.tup [.str w, .int n], ot]])).x (pX_b (x := (.tup [.str w, .int n], ot)))
  have st := st.upn (o := .lst (B.map encB ++ [.tup [.tup [.str w, .int n], ot]])) (dl 0 (by omega)).2.2.symm
  have hla9 := hla8.upn (o := .lst (B.map encB ++ [.tup [.tup [.str w, .int n], ot]])) (dl 0 (by omega)).1.symm (nlA 0 (by omega))
  have F9 := F8.upf (o := .lst (B.map encB ++ [.tup [.tup [.str w, .int n], ot]])) (hm_in (show A 0 ∈ [A 0, A 1, A 2, la, pl] by simp))
  generalize up h8 (A 0) (.lst (B.map encB ++ [.tup [.tup [.str w, .int n], ot]])) = h9 at fc9 st hla9 F9 ⊢
  clear hla8 fc8 F8 f08 fd8 fc7 F7 hla7 s8 ez
  trivial
  refine take_ok st fun r5 h10 r50 r51 st s10 => ?_
  have fc10 := fc9.hm s10 (by simpa using npl) (fun i hi => by simpa using (dl i hi).2.2)
  have F10 := hm_trans F9 s10 (by simp)
  have hla10 := hla9.hm s10 (by simpa using dp.1.symm) (by simpa using nlp.symm)
  have f110 : h10 (A 1) = some (.lst (L.map encP)) := fc10.lst 1 (by omega)
  have fd10 := fc10.dic
  trivial
  refine onT_d (fun e => ?_) (fun e => ?_)
  · trivial
    refine ⟨_, d1, ?_⟩
    trivial
    refine ⟨by rw [List.length_map, SZ]; omega, ?_⟩
    apply Pt.of
    refine q _ _ _ a' hd lr' ns' _ ((fc10.upd (n := 1) (by omega) _).x (pX_l (x := ⟨_, ot, _, a', hd⟩))) (inv.place inv8 hab hN hO hN) (hla10.upn (dl 1 (by omega)).1.symm (nlA 1 (by omega))) nl8 (by omega) nl0 (F10.upf (hm_in (by simp)))
  · trivial
    apply Pt.of
    exact q _ _ _ a' hd lr' ns' _ fc10 inv8 hla10 nl8 (by omega) nl0 F10
end K29
end

section
set_option linter.all false
set_option autoImplicit false
set_option maxRecDepth 100000
set_option maxHeartbeats 2000000
namespace K29
open G
open PySem (Str)
local macro_rules | `(tactic| fail $s:str) => match s.getString with
  | "ne" => `(tactic| first | assumption | (apply Ne.symm; assumption) | exact ne_f1 (by assumption) (by fail "lk") | exact ne_f2 (by assumption) (by fail "lk") | grind [up, Sb])
  | "lk" => `(tactic| first | assumption | exact up_same | (refine up_at ?_ ?_; (· fail "ne"); fail "lk") | (refine Sb.at ?_ ?_; (· assumption); fail "lk"))
  | "sd" => `(tactic| first | (with_reducible show -(2 ^ 62) ≤ (_ : Int); first | omega | (simp only [List.length_map]; omega)) | (with_reducible show (_ : Int) < 2 ^ 62; first | omega | (simp only [List.length_map]; omega)) | assumption | rfl | (apply isT_lst; fail "lk") | (apply isT_dic; fail "lk") | decide | (simp only [List.length_cons, List.length_nil]; decide) | exact mulOk_l (by decide) (by decide) | exact mulOk_r (by decide) (by decide) | exact mulOk_l (by omega) (by omega) | exact mulOk_r (by omega) (by omega) | omega | (simp only [List.length_map]; omega))
  | "ls" => `(tactic| first | exact sq_tup | exact sq_rl | exact ls_rl | (apply ls_lst; fail "lk") | (apply sq_lst; fail "lk"))
  | "st" => `(tactic| first
  | ((with_reducible apply ix_lst); (· fail "lk"))
  | with_reducible apply ix_tup
  | with_reducible apply ix_str
  | with_reducible apply in_tup
  | with_reducible apply min_ii
  | with_reducible apply max_ii
  | ((with_reducible apply in_lst); (· fail "lk"))
  | ((with_reducible apply in_dic); (· fail "lk"))
  | ((with_reducible apply notIn_dic); (· fail "lk"))
  | ((with_reducible apply notIn_lst); (· fail "lk"))
  | with_reducible apply ix_rl
  | ((with_reducible apply ix_dic); (· fail "lk"))
  | ((with_reducible apply app_lst); (· fail "lk"))
  | ((with_reducible apply len_lst); (· fail "lk"))
  | with_reducible apply len_tup
  | with_reducible apply len_rl
  | with_reducible apply len_str
  | ((with_reducible apply oIsT_lst); (· fail "lk"))
  | ((with_reducible apply dict_ls); (· fail "ls"))
  | ((with_reducible apply sl_ls); (· fail "ls"))
  | ((with_reducible apply rev_ls); (· fail "ls"))
  | ((with_reducible apply list_sq); (· fail "ls"))
  | ((with_reducible apply list_dic); (· fail "lk"))
  | ((with_reducible apply index_ls); (· fail "ls"))
  | ((with_reducible apply count_ls); (· fail "ls"))
  | ((with_reducible apply fill_dic); (· fail "lk"))
  | ((with_reducible apply max_ls); (· fail "ls"))
  | ((with_reducible apply sortK_ls); (· fail "ls"))
  | ((with_reducible apply sum_ls); (· fail "ls"))
  | ((with_reducible apply sorted_ls); (· fail "ls"))
  | ((with_reducible apply sortI_ls); (· fail "ls"))
  | ((with_reducible apply sortD_ls); (· fail "ls"))
  | ((with_reducible apply sortD_dic); (· fail "lk"))
  | ((with_reducible apply oIsT_dic); (· fail "lk"))
  | ((with_reducible apply walkD_lst); (· fail "lk"))
  | ((with_reducible apply walkD_dic); (· fail "lk"))
  | ((with_reducible apply walkI_dic); (· fail "lk"))
  | with_reducible apply walkD_tup
  | with_reducible apply walkD_rl
  | ((with_reducible apply walkL_lst); (· fail "lk"))
  | with_reducible apply walkL_rl
  | ((with_reducible apply mul_lst); (· fail "lk"))
  | ((with_reducible apply min_ls); (· fail "ls"))
  | ((with_reducible apply oAdd_lst); (· fail "lk"); (· fail "lk"))
  | ((with_reducible apply put_lst); (· fail "lk"))
  | ((with_reducible apply put_dic); (· fail "lk"))
  | ((with_reducible apply tru_lst); (· fail "lk"))
  | with_reducible apply oIsT_bl
  | with_reducible apply oIsT_int
  | with_reducible apply oIsT_str
  | with_reducible apply oIsT_tup
  | with_reducible apply oIsT_rl
  | with_reducible apply oIsT_non
  | with_reducible apply sl_tup
  | with_reducible apply sl_str
  | ((with_reducible apply get_dic); (· fail "lk"))
  | ((with_reducible apply get_dic2); (· fail "lk"))
  | ((with_reducible apply setdef_dic); (· fail "lk"))
  | ((with_reducible apply ext_lst); (· fail "lk"); (· fail "lk"))
  | ((with_reducible apply pop_lst); (· fail "lk"))
  | ((with_reducible apply popAt_lst); (· fail "lk"))
  | ((with_reducible apply ins_lst); (· fail "lk"))
  | ((with_reducible apply clr_lst); (· fail "lk"))
  | ((with_reducible apply clr_dic); (· fail "lk"))
  | ((with_reducible apply join_sq); (· fail "ls"))
  | ((with_reducible apply oEq_sst); (· with_reducible rfl))
  | ((with_reducible apply oEq_ssf); (· first | assumption | decide))
  | ((with_reducible apply oNe_sst); (· with_reducible rfl))
  | ((with_reducible apply oNe_ssf); (· first | assumption | decide))
  | ((with_reducible apply oEq_iit); (· with_reducible rfl))
  | ((with_reducible apply oEq_iif); (· first | assumption | decide))
  | ((with_reducible apply oNe_iit); (· with_reducible rfl))
  | ((with_reducible apply oNe_iif); (· first | assumption | decide))
  | refine Exists.intro _ (And.intro (rfl : atI _ _ = some _) ?_)
  | refine Exists.intro _ (And.intro (rfl : ixN _ _ = some _) ?_)
  | ((with_reducible refine And.intro ?_ ?_); (· fail "sd")))
  | _ => Lean.Macro.throwUnsupported
local macro_rules | `(tactic| nofun) => `(tactic| fail "ne")
local macro_rules | `(tactic| bv_omega) => `(tactic| fail "lk")
local macro_rules | `(tactic| ac_rfl) => `(tactic| fail "sd")
local macro_rules | `(tactic| trivial) => `(tactic| ((conv => whnf); repeat (fail "st"; (conv => whnf))))
/-! ### facts: a copy, and two alike -/
def CompG (S : Src) (g : DG) (t : DT) (e : DE) (own : List Nat) (ρ : Lo) (h1 : AH) (P : Addr → AH → Prop) : Prop := ∀ p, h1 p = none → ∃ I : Nat → List D → AH → Prop, I 0 [] (up h1 p (.lst [])) ∧
  (∀ i acc h, i ≤ S.ds.length → I i acc h → S.ok h ∧ h p = some (.lst acc)) ∧
  (∀ i acc h d, I i acc h → S.ds[i]? = some d → g d (wipe ρ own) h fun ρ1 h1 => t ρ1 h1 fun b h2 =>
    onT b (e ρ1 h2 fun y h3 => acc.length < SZ ∧ h3 p = some (.lst acc) ∧ Pt (I (i + 1) (acc ++ [y])) (up h3 p (.lst (acc ++ [y])))) (Pt (I (i + 1) acc) h2)) ∧
  ∀ acc h, I S.ds.length acc h → P p h
def fcT (n : Nat) (B : Nat → Addr) : List D := (List.range n).map fun i => .tup [fkey i, .ref (B i)]
theorem fcT_succ (n : Nat) (B : Nat → Addr) : fcT (n + 1) B = fcT n B ++ [.tup [fkey n, .ref (B n)]] := by unfold fcT; rw [List.range_succ, List.map_append]; rfl
theorem fcT_ext {n : Nat} {A B : Nat → Addr} (h : ∀ i, i < n → A i = B i) : fcT n A = fcT n B := by
  unfold fcT
  exact List.map_congr_left fun i hi => by rw [h i (List.mem_range.mp hi)]
theorem pairs_fcT (B : Nat → Addr) : pairsOf (fcT 9 B) = some (fcN 9 B) := rfl
theorem copy_ok {h : AH} {p : Addr} {A : Nat → Addr} {X : Nat → List D} {ρ : Lo} {kk : Nat} {ex : DE} {P : Addr → AH → Prop} (fc : Fc h p A X)
    (he : ∀ i, i < 9 → ∀ h' Q, Fc h' p A X → newL (X i) h' (fun r h2 => Q (.tup [fkey i, r]) h2) → ex ((wipe ρ [kk]).set kk (some (fkey i))) h' Q)
    (q : ∀ e B h', h e = none → h' e = some (.lst (fcT 9 B)) → (∀ i, i < 9 → h' (B i) = some (.lst (X i)) ∧ h (B i) = none) → (∀ i j, i < 9 → j < 9 → B i = B j → i = j) → Sb h h' → P e h') :
    CompG (srcK p ((fcN 9 A).map (·.1))) (gVar kk) tYes ex [kk] ρ h P := by
  intro e ne
  refine ⟨fun i acc h' => i ≤ 9 ∧ ∃ B, acc = fcT i B ∧ h' e = some (.lst acc) ∧ (∀ j, j < i → h' (B j) = some (.lst (X j)) ∧ h (B j) = none ∧ B j ≠ e) ∧ (∀ j k, j < i → k < i → B j = B k → j = k) ∧ Sb h h', ?_, ?_, ?_, ?_⟩
  · exact ⟨by omega, fun _ => 0, rfl, up_same, (fun j hj => by omega), (fun j k hj => by omega), (Sb.refl h).upf' ne⟩
  · rintro i acc h' _ ⟨_, B, _, e1, _, _, sb⟩
    exact ⟨⟨_, sb _ _ fc.dic, rfl⟩, e1⟩
  · rintro i acc h' d ⟨hi, B, rfl, e1, hl, hj, sb⟩ hd
    have hd' : ((fcN 9 A).map (·.1))[i]? = some d := hd
    rw [fcN_keys] at hd'
    have hi9 : i < 9 := by have := (List.getElem?_eq_some_iff.mp hd').1; simpa using this
    have ed : d = fkey i := by
      rw [List.getElem?_map, List.getElem?_range hi9] at hd'
      exact (Option.some.inj hd').symm
    subst ed
    trivial
    refine he i hi9 h' _ (fc.sb sb) (newL_i fun r nr => ?_)
    have nre : r ≠ e := by nofun
    have hr0 : h r = none := sb.nn nr
    refine ⟨by unfold fcT; rw [List.length_map, List.length_range, SZ]; omega, up_at nre.symm e1, ?_⟩
    apply Pt.of
    refine ⟨hi9, fun j => if j = i then r else B j, ?_, up_same, fun j hj' => ?_, fun j k hj' hk e => ?_, (sb.upf' nr).upf ne⟩
    · rw [fcT_succ, if_pos rfl, fcT_ext fun j hj => (if_neg (Nat.ne_of_lt hj)).symm]
    · by_cases z : j = i
      · subst z
        simp only [if_true]
        exact ⟨up_at nre up_same, hr0, nre⟩
      · simp only [if_neg z]
        obtain ⟨l1, l2, l3⟩ := hl j (by omega)
        have n2 : B j ≠ r := by nofun
        exact ⟨up_at l3 (up_at n2 l1), l2, l3⟩
    · by_cases z1 : j = i
      · by_cases z2 : k = i
        · omega
        · simp only [if_pos z1, if_neg z2] at e
          have := (hl k (by omega)).1
          rw [← e, nr] at this; cases this
      · by_cases z2 : k = i
        · simp only [if_neg z1, if_pos z2] at e
          have := (hl j (by omega)).1
          rw [e, nr] at this; cases this
        · simp only [if_neg z1, if_neg z2] at e
          exact hj j k (by omega) (by omega) e
  · rintro acc h' ⟨_, B, rfl, e1, hl, hj, sb⟩
    have e9 : (srcK p ((fcN 9 A).map (·.1))).ds.length = 9 := by simp [srcK, fcN]
    rw [e9] at e1
    change ∀ j, j < (srcK p ((fcN 9 A).map (·.1))).ds.length → _ at hl
    change ∀ j k, j < (srcK p ((fcN 9 A).map (·.1))).ds.length → k < (srcK p ((fcN 9 A).map (·.1))).ds.length → _ at hj
    rw [e9] at hl hj
    exact q e B h' ne e1 (fun i hi => ⟨(hl i hi).1, (hl i hi).2.1⟩) hj sb
/-! ### facts of parts: drawn -/
theorem sb_hm {h0 h h' : AH} {S : List Addr} (a : Sb h0 h) (b : Sb (hm h S) h') (n : ∀ x ∈ S, h0 x = none) : Sb h0 h' := fun x o e => b x o (by rw [hm_out (fun z => by rw [n x z] at e; cases e)]; exact a x o e)
theorem PI.mono {a b : Int} {k k' : Nat} {B : List (D × D)} {L : List Pc} {C : List (D × D)} (x : PI a b k B L C) (h : k ≤ k') : PI a b k' B L C :=
  ⟨x.bs, x.ls, x.cs, x.up, by have := x.lb; omega, by have := x.ll; omega, by have := x.lc; omega, x.a0, by have := x.ak; omega⟩
theorem PI.nil : PI 0 3 1 [] [] [] := ⟨(fun _ h => by cases h), (fun _ h => by cases h), (fun _ h => by cases h), .nil, by simp, by simp, by simp, by omega, by omega⟩
theorem drawn_ok {h : AH} {ns : List Int} {Q : KD} (q : ∀ p A B L C a b h', h p = none → (∀ i, i < 9 → h (A i) = none) → Sb h h' → Fc h' p A (pX B L C) → PI a b 61 B L C → Q (.ref p) h') : f_l_drawn [.rl (ns.map .int), .bl true] h Q := by
  unfold f_l_drawn
  trivial
  refine bare_ok fun p A h1 np nA s1 fc => ?_
  replace fc : Fc h1 p A (pX [] [] []) := fc.x fun i => match i with | 0 => rfl | 1 => rfl | 2 => rfl | _ + 3 => rfl
  trivial
  refine newL_i fun lr nlr => ?_
  trivial
  refine newL_i fun la nla => ?_
  have nrl : lr ≠ la := by nofun
  have nAr : ∀ i, i < 9 → A i ≠ lr := fun i hi z => by have := fc.lst i hi; rw [z, nlr] at this; cases this
  have nAl : ∀ i, i < 9 → A i ≠ la := fun i hi z => by have := fc.lst i hi; rw [z, (up_none.mp nla).2] at this; cases this
  have nla0 : h la = none := s1.nn (up_none.mp nla).2
  generalize hH : up (up h1 lr (.lst [])) la _ = h2
  have s2 : Sb h h2 := by rw [← hH]; exact (s1.upf' nlr).upf' nla
  have fc2 : Fc h2 p A (pX [] [] []) := by rw [← hH]; exact fc.sb (((Sb.refl _).upf' nlr).upf' nla)
  have hla2 : La h2 la lr 0 3 [] := by rw [← hH]; exact ⟨up_same, up_at nrl up_same, rfl⟩
  clear hH nlr nla fc s1
  trivial
  generalize hn : ((if (61 : Int) < ((ns.map D.int).length : Int) then (61 : Int) else ((ns.map D.int).length : Int)) - 1).toNat = n
  have hn60 : n ≤ 60 := by rw [← hn]; split <;> omega
  clear hn
  refine ⟨fun i ρ h' => i ≤ n ∧ ∃ x4 B L C a b lr ns', ρ = [some (.rl (ns.map .int)), some (.bl true), some (.ref p), some (.ref la), x4] ∧ Fc h' p A (pX B L C) ∧ PI a b (1 + i) B L C ∧ La h' la lr a b ns' ∧ lr ≠ la ∧ ns'.length ≤ 1 + i ∧ (∀ i, i < 9 → A i ≠ lr) ∧ Sb h h', ?_, ?_, ?_, ?_⟩
  · exact ⟨Nat.zero_le _, _, [], [], [], 0, 3, lr, [], rfl, fc2, PI.nil, hla2, nrl, by simp, nAr, s2⟩
  · intro _ _ _ _ _; exact True.intro
  · rintro i ρ h' d ⟨hi, x4, B, L, C, a, b, lr', ns', rfl, fc, inv, hla, nl, ln, nA', sb⟩ hd
    obtain ⟨hi', rfl⟩ := rng_get hd
    rw [show (1 : Int) + (i : Int) = ((1 + i : Nat) : Int) by omega]
    trivial
    refine pool_ok (by omega) fun pl x y npl => ?_
    have npl0 : h pl = none := sb.nn npl
    have fc3 := fc.sb ((Sb.refl _).upf' npl (o := .lst [.int x, .int y]))
    have hla3 := hla.sb ((Sb.refl _).upf' npl (o := .lst [.int x, .int y]))
    have s3 := sb.upf' npl (o := .lst [.int x, .int y])
    have d1 : ∀ i, i < 9 → A i ≠ pl := fun i hi z => by have := fc.lst i hi; rw [z, npl] at this; cases this
    have d2 : pl ≠ la := fun z => by have := hla.el; rw [← z, npl] at this; cases this
    have d3 : pl ≠ lr' := fun z => by have := hla.er; rw [← z, npl] at this; cases this
    have st : PlS (up h' pl (.lst [.int x, .int y])) pl := ⟨x, y, up_same⟩
    generalize up h' pl (.lst [.int x, .int y]) = h3 at fc3 hla3 s3 st ⊢
    clear npl
    trivial
    refine event_ok fc3 inv hla3 nl ln st (by omega) (fun i hi => ⟨nAl i hi, nA' i hi, d1 i hi⟩) ⟨d2, d3⟩ fun B' L' C' a' b' lr2 ns2 h4 fc4 inv4 hla4 nl4 ln4 n4 s4 => ?_
    trivial
    apply Pt.of
    refine ⟨hi', _, B', L', C', a', b', lr2, ns2, rfl, fc4, inv4, hla4, nl4, ln4, fun i hi z => ?_, sb_hm s3 s4 fun z hz => ?_⟩
    · have := fc3.lst i hi; rw [z, n4] at this; cases this
    · simp only [List.mem_cons, List.not_mem_nil, or_false] at hz
      rcases hz with rfl | rfl | rfl | rfl | rfl
      · exact nA 0 (by omega)
      · exact nA 1 (by omega)
      · exact nA 2 (by omega)
      · exact nla0
      · exact npl0
  · rintro ρ h3 ⟨hi, x4, B, L, C, a, b, lr', ns', rfl, fc, inv, hla, nl, ln, nA', sb⟩
    rw [rng_len] at inv
    trivial
    apply Pt.of
    exact q p A B L C a b h3 np nA sb fc (inv.mono (by omega))
/-! ### facts of parts: kept -/
theorem kept_ok {h : AH} {p : Addr} {A : Nat → Addr} {X : Nat → List D} {Q : KD} (fc : Fc h p A X) (q : ∀ e B h', h e = none → h' e = some (.lst (fcT 9 B)) → (∀ i, i < 9 → h' (B i) = some (.lst (X i))) → Sb h h' → Q (.ref e) h') : f_l_kept [.ref p] h Q := by
  have fcd := fc.dic
  unfold f_l_kept
  trivial
  refine copy_ok fc (fun i hi h' Q' fc' k => ?_) fun e B h' ne e1 e2 e3 sb => ?_
  · obtain ⟨s, es⟩ := fkey_pl i
    have fd := fc'.dic
    have fl := fc'.lst i hi
    trivial
    refine ⟨by rw [es]; rfl, _, fcN_get (Nat.le_refl 9) hi A, ?_⟩
    trivial
    refine newL_i fun r nr => ?_
    trivial
    unfold newL at k
    exact k r nr
  · apply Pt.of
    exact q e B h' ne e1 (fun i hi => (e2 i hi).1) sb
end K29
end

section
set_option linter.all false
set_option autoImplicit false
set_option maxRecDepth 100000
set_option maxHeartbeats 2000000
namespace K29
open G
open PySem (Str)
local macro_rules | `(tactic| fail $s:str) => match s.getString with
  | "ne" => `(tactic| first | assumption | (apply Ne.symm; assumption) | exact ne_f1 (by assumption) (by fail "lk") | exact ne_f2 (by assumption) (by fail "lk") | grind [up, Sb])
  | "lk" => `(tactic| first | assumption | exact up_same | (refine up_at ?_ ?_; (· fail "ne"); fail "lk") | (refine Sb.at ?_ ?_; (· assumption); fail "lk"))
  | "sd" => `(tactic| first | (with_reducible show -(2 ^ 62) ≤ (_ : Int); first | omega | (simp only [List.length_map]; omega)) | (with_reducible show (_ : Int) < 2 ^ 62; first | omega | (simp only [List.length_map]; omega)) | assumption | rfl | (apply isT_lst; fail "lk") | (apply isT_dic; fail "lk") | decide | (simp only [List.length_cons, List.length_nil]; decide) | exact mulOk_l (by decide) (by decide) | exact mulOk_r (by decide) (by decide) | exact mulOk_l (by omega) (by omega) | exact mulOk_r (by omega) (by omega) | omega | (simp only [List.length_map]; omega))
  | "ls" => `(tactic| first | exact sq_tup | exact sq_rl | exact ls_rl | (apply ls_lst; fail "lk") | (apply sq_lst; fail "lk"))
  | "st" => `(tactic| first
  | ((with_reducible apply ix_lst); (· fail "lk"))
  | with_reducible apply ix_tup
  | with_reducible apply ix_str
  | with_reducible apply in_tup
  | with_reducible apply min_ii
  | with_reducible apply max_ii
  | ((with_reducible apply in_lst); (· fail "lk"))
  | ((with_reducible apply in_dic); (· fail "lk"))
  | ((with_reducible apply notIn_dic); (· fail "lk"))
  | ((with_reducible apply notIn_lst); (· fail "lk"))
  | with_reducible apply ix_rl
  | ((with_reducible apply ix_dic); (· fail "lk"))
  | ((with_reducible apply app_lst); (· fail "lk"))
  | ((with_reducible apply len_lst); (· fail "lk"))
  | with_reducible apply len_tup
  | with_reducible apply len_rl
  | with_reducible apply len_str
  | ((with_reducible apply oIsT_lst); (· fail "lk"))
  | ((with_reducible apply dict_ls); (· fail "ls"))
  | ((with_reducible apply sl_ls); (· fail "ls"))
  | ((with_reducible apply rev_ls); (· fail "ls"))
  | ((with_reducible apply list_sq); (· fail "ls"))
  | ((with_reducible apply list_dic); (· fail "lk"))
  | ((with_reducible apply index_ls); (· fail "ls"))
  | ((with_reducible apply count_ls); (· fail "ls"))
  | ((with_reducible apply fill_dic); (· fail "lk"))
  | ((with_reducible apply max_ls); (· fail "ls"))
  | ((with_reducible apply sortK_ls); (· fail "ls"))
  | ((with_reducible apply sum_ls); (· fail "ls"))
  | ((with_reducible apply sorted_ls); (· fail "ls"))
  | ((with_reducible apply sortI_ls); (· fail "ls"))
  | ((with_reducible apply sortD_ls); (· fail "ls"))
  | ((with_reducible apply sortD_dic); (· fail "lk"))
  | ((with_reducible apply oIsT_dic); (· fail "lk"))
  | ((with_reducible apply walkD_lst); (· fail "lk"))
  | ((with_reducible apply walkD_dic); (· fail "lk"))
  | ((with_reducible apply walkI_dic); (· fail "lk"))
  | with_reducible apply walkD_tup
  | with_reducible apply walkD_rl
  | ((with_reducible apply walkL_lst); (· fail "lk"))
  | with_reducible apply walkL_rl
  | ((with_reducible apply mul_lst); (· fail "lk"))
  | ((with_reducible apply min_ls); (· fail "ls"))
  | ((with_reducible apply oAdd_lst); (· fail "lk"); (· fail "lk"))
  | ((with_reducible apply put_lst); (· fail "lk"))
  | ((with_reducible apply put_dic); (· fail "lk"))
  | ((with_reducible apply tru_lst); (· fail "lk"))
  | with_reducible apply oIsT_bl
  | with_reducible apply oIsT_int
  | with_reducible apply oIsT_str
  | with_reducible apply oIsT_tup
  | with_reducible apply oIsT_rl
  | with_reducible apply oIsT_non
  | with_reducible apply sl_tup
  | with_reducible apply sl_str
  | ((with_reducible apply get_dic); (· fail "lk"))
  | ((with_reducible apply get_dic2); (· fail "lk"))
  | ((with_reducible apply setdef_dic); (· fail "lk"))
  | ((with_reducible apply ext_lst); (· fail "lk"); (· fail "lk"))
  | ((with_reducible apply pop_lst); (· fail "lk"))
  | ((with_reducible apply popAt_lst); (· fail "lk"))
  | ((with_reducible apply ins_lst); (· fail "lk"))
  | ((with_reducible apply clr_lst); (· fail "lk"))
  | ((with_reducible apply clr_dic); (· fail "lk"))
  | ((with_reducible apply join_sq); (· fail "ls"))
  | ((with_reducible apply oEq_sst); (· with_reducible rfl))
  | ((with_reducible apply oEq_ssf); (· first | assumption | decide))
  | ((with_reducible apply oNe_sst); (· with_reducible rfl))
  | ((with_reducible apply oNe_ssf); (· first | assumption | decide))
  | ((with_reducible apply oEq_iit); (· with_reducible rfl))
  | ((with_reducible apply oEq_iif); (· first | assumption | decide))
  | ((with_reducible apply oNe_iit); (· with_reducible rfl))
  | ((with_reducible apply oNe_iif); (· first | assumption | decide))
  | refine Exists.intro _ (And.intro (rfl : atI _ _ = some _) ?_)
  | refine Exists.intro _ (And.intro (rfl : ixN _ _ = some _) ?_)
  | ((with_reducible refine And.intro ?_ ?_); (· fail "sd")))
  | _ => Lean.Macro.throwUnsupported
local macro_rules | `(tactic| nofun) => `(tactic| fail "ne")
local macro_rules | `(tactic| bv_omega) => `(tactic| fail "lk")
local macro_rules | `(tactic| ac_rfl) => `(tactic| fail "sd")
local macro_rules | `(tactic| trivial) => `(tactic| ((conv => whnf); repeat (fail "st"; (conv => whnf))))
/-! ### facts of parts: the last places -/
abbrev e3 (p : Pc) : D × D := (p.pt, .tup [p.ot, p.nm, .tup [.int p.k0, .int p.k1]])
abbrev e2 (p : Pc) : D × D := (p.pt, .tup [p.ot, p.nm])
def pl3 (L : List Pc) : List (D × D) := dputs [] (L.map e3)
def pl2 (L : List Pc) : List (D × D) := dputs [] (L.map e2)
theorem pl3_snoc (L : List Pc) (p : Pc) : pl3 (L ++ [p]) = dput (pl3 L) (e3 p).1 (e3 p).2 := by unfold pl3; rw [List.map_append, List.map_cons, List.map_nil, dputs_snoc]
theorem pl2_snoc (L : List Pc) (p : Pc) : pl2 (L ++ [p]) = dput (pl2 L) (e2 p).1 (e2 p).2 := by unfold pl2; rw [List.map_append, List.map_cons, List.map_nil, dputs_snoc]
theorem pl3_len (L : List Pc) : (pl3 L).length ≤ L.length := by
  have := dputs_lenP (L.map e3) []
  rw [List.length_map] at this
  unfold pl3
  simp only [List.length_nil] at this
  omega
theorem pl2_len (L : List Pc) : (pl2 L).length ≤ L.length := by
  have := dputs_lenP (L.map e2) []
  rw [List.length_map] at this
  unfold pl2
  simp only [List.length_nil] at this
  omega
theorem pl3_nd (L : List Pc) : ((pl3 L).map (·.1)).Nodup := dputs_ndP List.nodup_nil
theorem pl2_nd (L : List Pc) : ((pl2 L).map (·.1)).Nodup := dputs_ndP List.nodup_nil
theorem pl3_mem {L : List Pc} {x : D × D} (h : x ∈ pl3 L) : ∃ p ∈ L, x = e3 p := by
  rcases dputs_memP h with h | h
  · cases h
  · obtain ⟨p, hp, rfl⟩ := List.mem_map.mp h; exact ⟨p, hp, rfl⟩
theorem pl2_mem {L : List Pc} {x : D × D} (h : x ∈ pl2 L) : ∃ p ∈ L, x = e2 p := by
  rcases dputs_memP h with h | h
  · cases h
  · obtain ⟨p, hp, rfl⟩ := List.mem_map.mp h; exact ⟨p, hp, rfl⟩
theorem dget_memP : ∀ {kvs : List (D × D)} {k v : D}, dget kvs k = some v → (k, v) ∈ kvs
  | [], _, _, h => by simp [dget] at h
  | (a, b) :: r, k, v, h => by
    rw [dget] at h
    split at h
    · rename_i e; cases h; rw [e]; exact List.mem_cons_self
    · exact List.mem_cons_of_mem _ (dget_memP h)
theorem pl3_get {L : List Pc} {k v : D} (h : dget (pl3 L) k = some v) : ∃ p ∈ L, p.pt = k ∧ v = (e3 p).2 := by
  obtain ⟨p, hp, e⟩ := pl3_mem (dget_memP h)
  have e1 := congrArg Prod.fst e
  have e2 := congrArg Prod.snd e
  exact ⟨p, hp, e1.symm, e2⟩
def told2 : D → D
  | .tup [a, b, _] => .tup [a, b]
  | x => x
theorem pl32 (L : List Pc) : (pl3 L).map (fun p => (p.1, told2 p.2)) = pl2 L := by
  unfold pl3 pl2
  rw [dputs_map, List.map_map]; rfl
theorem dlt2 (a b a' b' : Int) : dltL [.int a, .int b] [.int a', .int b'] = decide (a < a' ∨ a = a' ∧ b < b') := by
  rw [Bool.eq_iff_iff]
  simp only [dltL, dlt]
  by_cases h1 : a = a'
  · subst h1
    by_cases h2 : b = b'
    · subst h2; simp
    · simp [h2]
  · simp [h1]
theorem places_by_ok {h : AH} {p a1 : Addr} {kvs : List (D × D)} {L : List Pc} {a b : Int} {Q : KD} (e1 : h p = some (.dic kvs)) (d1 : dget kvs (.str (Str.ofString "places")) = some (.ref a1)) (el : h a1 = some (.lst (L.map encP))) (ok : ∀ p ∈ L, PcOk a b p) (up' : L.Pairwise fun x y => [x.k0, x.k1] < [y.k0, y.k1]) (lL : L.length ≤ 1000)
    (q : ∀ r h', h r = none → Sb h h' → h' r = some (.dic (pl3 L)) → Q (.ref r) h') : f_places_by [.ref p] h Q := by
  unfold f_places_by
  trivial
  refine newD_i fun r nr => ?_
  trivial
  refine ⟨_, d1, ?_⟩
  trivial
  refine ⟨fun i ρ h' => i ≤ L.length ∧ ∃ x2 x3 x4 x5, ρ = [some (.ref p), some (.ref r), x2, x3, x4, x5] ∧ h' r = some (.dic (pl3 (L.take i))) ∧ Sb h h', ?_, ?_, ?_, ?_⟩
  · exact ⟨Nat.zero_le _, _, _, _, _, rfl, up_same, (Sb.refl h).upf' nr⟩
  · rintro i ρ h' _ ⟨_, x2, x3, x4, x5, _, _, sb⟩
    exact sb _ _ el
  · rintro i ρ h' d ⟨hi, x2, x3, x4, x5, rfl, er, sb⟩ hd
    obtain ⟨x, hx, rfl⟩ := get_map hd
    have hlt := (List.getElem?_eq_some_iff.mp hx).1
    have o := ok x (List.mem_of_getElem? hx)
    have p8 := pl_mono 7 8 _ (by omega) o.pt.pl
    have hlen := pl3_len (L.take i)
    rw [List.length_take] at hlen
    trivial
    apply joinP (P := True)
    case m =>
      intro go
      refine onT_i (fun e => ?_) (fun e => ?_)
      · exact (go True.intro).un
      · have hin : x.pt ∈ (pl3 (L.take i)).map (·.1) := by simpa using e
        clear e
        obtain ⟨v, ev⟩ : ∃ v, dget (pl3 (L.take i)) x.pt = some v := by
          cases ev : dget (pl3 (L.take i)) x.pt with
          | none => exact absurd hin (dget_noneP.mp ev)
          | some v => exact ⟨v, rfl⟩
        obtain ⟨y, hy, ey, rfl⟩ := pl3_get ev
        have hlt2 : y.k0 < x.k0 ∨ y.k0 = x.k0 ∧ y.k1 < x.k1 := by
          obtain ⟨j, hj, hjy⟩ := List.getElem_of_mem hy
          rw [List.getElem_take] at hjy
          rw [List.length_take] at hj
          have := List.pairwise_iff_getElem.mp up' j i (by omega) hlt (by omega)
          rw [hjy, (List.getElem?_eq_some_iff.mp hx).2] at this
          exact lx2.mp this
        trivial
        refine ⟨_, ev, ?_⟩
        trivial
        rw [dlt2, decide_eq_true hlt2]
        exact (go True.intro).un
    intro _
    trivial
    refine ⟨by rw [SZ]; omega, ?_⟩
    apply Pt.of
    refine ⟨hlt, _, _, _, _, rfl, ?_, sb.upf nr⟩
    rw [take_snoc hx, pl3_snoc]
    exact up_same
  · rintro ρ h' ⟨_, x2, x3, x4, x5, rfl, er, sb⟩
    rw [show L.take (srcL a1 (L.map encP)).ds.length = L from List.take_of_length_le (by simp [srcL])] at er
    trivial
    apply Pt.of
    exact q r h' nr sb er
/-! ### rounds: plain -/
structure Gr where
  K : List D
  nd : K.Nodup
  nx : D → Option D
  dom : ∀ x, (∃ y, nx x = some y) ↔ x ∈ K
  rk : D → List Int
  inj : ∀ x ∈ K, ∀ y ∈ K, rk x = rk y → x = y
namespace Gr
variable {g : Gr}
def it (g : Gr) : Nat → D → Option D
  | 0, x => some x
  | n + 1, x => (g.it n x).bind g.nx
theorem it_add (m : Nat) (x : D) : ∀ n, g.it (m + n) x = (g.it m x).bind (g.it n)
  | 0 => by cases h : g.it m x <;> simp [it, h]
  | n + 1 => by
    rw [show m + (n + 1) = (m + n) + 1 from rfl, it, it_add m x n]
    cases h : g.it m x <;> simp [it]
def Rc (g : Gr) (x y : D) : Prop := ∃ n, g.it n x = some y
theorem Rc.refl (x : D) : g.Rc x x := ⟨0, rfl⟩
theorem Rc.trans {x y z : D} (a : g.Rc x y) (b : g.Rc y z) : g.Rc x z := by
  obtain ⟨n, e1⟩ := a
  obtain ⟨m, e2⟩ := b
  exact ⟨n + m, by rw [it_add, e1]; exact e2⟩
theorem Rc.one {x y : D} (a : g.nx x = some y) : g.Rc x y := ⟨1, by simp [it, a]⟩
theorem it_sub {n m : Nat} {x y z : D} (a : g.it n x = some y) (b : g.it m x = some z) (h : n ≤ m) : g.it (m - n) y = some z := by
  have := it_add (g := g) n x (m - n)
  rw [Nat.add_sub_cancel' h, b, a] at this
  exact this.symm
def On (g : Gr) (x : D) : Prop := ∃ n, g.it (n + 1) x = some x
theorem it_mul {n : Nat} {x : D} (e : g.it n x = some x) : ∀ m, g.it (m * n) x = some x
  | 0 => by rw [Nat.zero_mul]; rfl
  | m + 1 => by rw [Nat.succ_mul, it_add, it_mul e m]; exact e
theorem On.back {x y : D} (o : g.On x) (r : g.Rc x y) : g.Rc y x := by
  obtain ⟨n, e⟩ := o
  obtain ⟨k, ek⟩ := r
  have h := it_mul e k
  exact ⟨k * (n + 1) - k, it_sub ek h (Nat.le_mul_of_pos_right _ (by omega))⟩
theorem On.mem {x : D} (o : g.On x) : x ∈ g.K := by
  obtain ⟨n, e⟩ := o
  rw [Nat.add_comm, it_add] at e
  cases h : g.nx x with
  | none => simp [it, h] at e
  | some y => exact (g.dom x).mp ⟨y, h⟩
theorem On.rc {x y : D} (o : g.On x) (r : g.Rc x y) : g.On y := by
  obtain ⟨k, ek⟩ := o.back r
  obtain ⟨m, em⟩ := r
  obtain ⟨n, en⟩ := o
  refine ⟨k + (n + m), ?_⟩
  rw [show k + (n + m) + 1 = k + ((n + 1) + m) by omega, it_add, ek]
  show g.it ((n + 1) + m) x = _
  rw [it_add, en]
  exact em
/-- of its round, the one of the greatest rank -/
def Top (g : Gr) (x : D) : Prop := g.On x ∧ ∀ y, g.Rc x y → ¬ g.rk x < g.rk y
theorem closed {Z : D → Prop} (c : ∀ z, Z z → ∀ y, g.nx z = some y → Z y) {x y : D} (hx : Z x) (r : g.Rc x y) : Z y := by
  obtain ⟨n, e⟩ := r
  induction n generalizing y with
  | zero => cases e; exact hx
  | succ n ih =>
    rw [it] at e
    cases h : g.it n x with
    | none => rw [h] at e; cases e
    | some z => rw [h] at e; exact c z (ih h) y e
theorem rc_out {x y : D} (h : x ∉ g.K) (r : g.Rc x y) : y = x := by
  refine closed (Z := fun z => z = x) (fun z hz w e => ?_) rfl r
  subst hz
  exact absurd ((g.dom z).mp ⟨w, e⟩) h
/-- a walk from p along w, now at h -/
inductive Pth (g : Gr) (p : D) : List D → D → Prop
  | nil : Pth g p [] p
  | snoc {w : List D} {x y : D} : Pth g p w x → g.nx x = some y → Pth g p (w ++ [x]) y
theorem Pth.rc {p h : D} {w : List D} (a : g.Pth p w h) : g.Rc p h := by
  induction a with
  | nil => exact .refl _
  | snoc _ e ih => exact ih.trans (.one e)
theorem Pth.mem {p h : D} {w : List D} (a : g.Pth p w h) : ∀ z ∈ w, g.Rc p z ∧ ∃ n, g.it (n + 1) z = some h := by
  induction a with
  | nil => intro z hz; cases hz
  | @snoc w x y b e ih =>
    intro z hz
    rcases List.mem_append.mp hz with hz | hz
    · obtain ⟨h1, n, h2⟩ := ih z hz
      exact ⟨h1, n + 1, by rw [it, h2]; exact e⟩
    · rw [List.mem_singleton] at hz; subst hz
      exact ⟨b.rc, 0, by simp [it, e]⟩
theorem Pth.sub {p h : D} {w : List D} (a : g.Pth p w h) : ∀ z ∈ w, z ∈ g.K := by
  induction a with
  | nil => intro z hz; cases hz
  | @snoc w x y b e ih =>
    intro z hz
    rcases List.mem_append.mp hz with hz | hz
    · exact ih z hz
    · rw [List.mem_singleton] at hz; subst hz
      exact (g.dom z).mp ⟨y, e⟩
theorem Pth.next {p h : D} {w : List D} (a : g.Pth p w h) : ∀ z ∈ w, ∀ y, g.nx z = some y → y ∈ w ∨ y = h := by
  induction a with
  | nil => intro z hz; cases hz
  | @snoc w x y b e ih =>
    intro z hz u hu
    rcases List.mem_append.mp hz with hz | hz
    · rcases ih z hz u hu with h | h
      · exact .inl (List.mem_append_left _ h)
      · exact .inl (h ▸ List.mem_append_right _ (by simp))
    · rw [List.mem_singleton] at hz; subst hz
      rw [e] at hu; cases hu
      exact .inr rfl
theorem Pth.first {p h : D} {w : List D} (a : g.Pth p w h) : (w = [] ∧ h = p) ∨ w.head? = some p := by
  induction a with
  | nil => exact .inl ⟨rfl, rfl⟩
  | snoc b e ih =>
    rcases ih with ⟨rfl, rfl⟩ | h
    · exact .inr rfl
    · exact .inr (by rw [List.head?_append, h]; rfl)
theorem Pth.suf {p h : D} {w : List D} (a : g.Pth p w h) : ∀ u c b, w = u ++ c :: b → g.Pth c (c :: b) h := by
  induction a with
  | nil => intro u c b e; cases u <;> cases e
  | @snoc w x y q e ih =>
    intro u c b eq
    rcases List.eq_nil_or_concat b with rfl | ⟨b', z, rfl⟩
    · obtain ⟨h1, h2⟩ := List.append_inj' eq rfl
      cases h2
      exact .snoc (w := []) .nil e
    · rw [List.concat_eq_append, ← List.cons_append, ← List.append_assoc] at eq
      obtain ⟨h1, h2⟩ := List.append_inj' eq rfl
      cases h2
      rw [List.concat_eq_append, ← List.cons_append]
      exact .snoc (ih u c b' h1) e
theorem Pth.round {p h : D} {w : List D} (a : g.Pth p w h) {u b : List D} (e : w = u ++ h :: b) : g.On h ∧ ∀ y, g.Rc h y ↔ y ∈ h :: b := by
  have q := a.suf u h b e
  have o : g.On h := (q.mem h List.mem_cons_self).2
  refine ⟨o, fun y => ⟨fun r => ?_, fun hy => (q.mem y hy).1⟩⟩
  refine closed (Z := fun z => z ∈ h :: b) (fun z hz y e => ?_) List.mem_cons_self r
  rcases q.next z hz y e with h1 | h1
  · exact h1
  · rw [h1]; exact List.mem_cons_self
/-- all around, and the greatest of it -/
theorem Pth.top {p h : D} {w : List D} (a : g.Pth p w h) (nd : w.Nodup) (hp : p ∈ g.K) (hh : h ∉ g.K ∨ h ∈ w) : g.Top p ↔ h = p ∧ ∀ z ∈ w, ¬ g.rk p < g.rk z := by
  constructor
  · intro t
    have hhk : h ∈ g.K := (t.1.rc a.rc).mem
    have hw := hh.resolve_left fun z => z hhk
    obtain ⟨u, b, e⟩ := List.append_of_mem hw
    obtain ⟨o, r⟩ := a.round e
    have hpb : p ∈ h :: b := (r p).mp (t.1.back a.rc)
    refine ⟨?_, fun z hz => t.2 z (a.mem z hz).1⟩
    rcases a.first with ⟨e1, _⟩ | hf
    · rw [e1] at hw; cases hw
    · cases u with
      | nil => rw [e] at hf; exact Option.some.inj hf
      | cons x u =>
        rw [e] at hf
        have : x = p := Option.some.inj hf
        subst this
        rw [e, List.cons_append, List.nodup_cons] at nd
        exact absurd (List.mem_append_right u hpb) nd.1
  · rintro ⟨rfl, hm⟩
    have hw := hh.resolve_left fun z => z hp
    obtain ⟨u, b, e⟩ := List.append_of_mem hw
    obtain ⟨o, r⟩ := a.round e
    refine ⟨o, fun y hy => hm y ?_⟩
    rw [e]
    exact List.mem_append_right _ ((r y).mp hy)
end Gr
/-! ### rounds opened: plain -/
namespace Gr
variable {g : Gr}
/-- what was seen, and what was opened -/
structure Seen (g : Gr) (S O : D → Prop) : Prop where
  sub : ∀ x, S x → x ∈ g.K
  cl : ∀ x, S x → ∀ y, g.nx x = some y → S y ∨ y ∉ g.K
  on : ∀ x, S x → g.On x → ∃ t, g.Rc x t ∧ O t
  top : ∀ t, O t → g.Top t
theorem Seen.nil : g.Seen (fun _ => False) (fun _ => False) := ⟨fun _ h => h.elim, fun _ h => h.elim, fun _ h => h.elim, fun _ h => h.elim⟩
/-- a walk that met no new round -/
theorem Seen.none {S O : D → Prop} (s : g.Seen S O) {p h : D} {w : List D} (a : g.Pth p w h) (hh : h ∉ g.K ∨ S h) : g.Seen (fun x => S x ∨ x ∈ w) O := by
  refine ⟨fun x hx => hx.elim (s.sub x) (a.sub x), fun x hx y e => ?_, fun x hx o => ?_, s.top⟩
  · rcases hx with hx | hx
    · exact (s.cl x hx y e).imp .inl id
    · rcases a.next x hx y e with h1 | h1
      · exact .inl (.inr h1)
      · rw [h1]; exact hh.elim .inr fun z => .inl (.inl z)
  · rcases hx with hx | hx
    · exact s.on x hx o
    · obtain ⟨_, n, e⟩ := a.mem x hx
      have r : g.Rc x h := ⟨n + 1, e⟩
      have oh := o.rc r
      rcases hh with hh | hh
      · exact absurd oh.mem hh
      · obtain ⟨t, h1, h2⟩ := s.on h hh oh
        exact ⟨t, r.trans h1, h2⟩
/-- a walk that met a new round, its greatest opened -/
theorem Seen.round {S O : D → Prop} (s : g.Seen S O) {p h t : D} {w u b : List D} (a : g.Pth p w h) (e : w = u ++ h :: b) (ht : t ∈ h :: b) (hm : ∀ z ∈ h :: b, ¬ g.rk t < g.rk z) : g.Seen (fun x => S x ∨ x ∈ w) (fun x => O x ∨ x = t) := by
  obtain ⟨o, r⟩ := a.round e
  have rt := (r t).mpr ht
  have tt : g.Top t := ⟨o.rc rt, fun y hy => hm y ((r y).mp (rt.trans hy))⟩
  refine ⟨fun x hx => hx.elim (s.sub x) (a.sub x), fun x hx y e' => ?_, fun x hx o' => ?_, fun x hx => hx.elim (s.top x) fun z => z ▸ tt⟩
  · rcases hx with hx | hx
    · exact (s.cl x hx y e').imp .inl id
    · rcases a.next x hx y e' with h1 | h1
      · exact .inl (.inr h1)
      · exact .inl (.inr (by rw [h1, e]; exact List.mem_append_right _ List.mem_cons_self))
  · rcases hx with hx | hx
    · obtain ⟨t', h1, h2⟩ := s.on x hx o'
      exact ⟨t', h1, .inl h2⟩
    · obtain ⟨_, n, e'⟩ := a.mem x hx
      exact ⟨t, Rc.trans ⟨n + 1, e'⟩ rt, .inr rfl⟩
/-- all seen: the opened are the greatest -/
theorem Seen.all {S O : D → Prop} (s : g.Seen S O) (hS : ∀ x ∈ g.K, S x) (x : D) : O x ↔ g.Top x := by
  refine ⟨s.top x, fun t => ?_⟩
  obtain ⟨y, r, hy⟩ := s.on x (hS x t.1.mem) t.1
  have ty := s.top y hy
  have h1 := t.2 y r
  have h2 := ty.2 x (t.1.back r)
  have : g.rk x = g.rk y := List.le_antisymm (List.not_lt.mp h2) (List.not_lt.mp h1)
  rw [g.inj x t.1.mem y ty.1.mem this]
  exact hy
end Gr
/-! ### where it leads: plain -/
open Classical in
/-- the map with the greatest of each round led to m -/
noncomputable def Gr.op (g : Gr) (m : D) : D → Option D := fun x => if g.Top x then some m else g.nx x
theorem Gr.op_dom (g : Gr) (m x : D) : (∃ y, g.op m x = some y) ↔ x ∈ g.K := by
  classical
  unfold Gr.op
  by_cases h : g.Top x
  · rw [if_pos h]; exact ⟨fun _ => h.1.mem, fun _ => ⟨m, rfl⟩⟩
  · rw [if_neg h]; exact g.dom x
theorem exists_max (f : D → List Int) : ∀ (l : List D), l ≠ [] → ∃ t ∈ l, ∀ z ∈ l, ¬ f t < f z
  | [], h => absurd rfl h
  | [x], _ => ⟨x, List.mem_cons_self, fun z hz => by rw [List.mem_singleton] at hz; subst hz; exact List.lt_irrefl _⟩
  | x :: y :: r, _ => by
    obtain ⟨t, ht, hm⟩ := exists_max f (y :: r) (by simp)
    by_cases c : f t < f x
    · refine ⟨x, List.mem_cons_self, fun z hz => ?_⟩
      rcases List.mem_cons.mp hz with rfl | hz
      · exact List.lt_irrefl _
      · exact fun q => hm z hz (List.lt_trans c q)
    · refine ⟨t, List.mem_cons_of_mem _ ht, fun z hz => ?_⟩
      rcases List.mem_cons.mp hz with rfl | hz
      · exact c
      · exact hm z hz
/-- a walk that stays in K comes upon itself -/
theorem walk_rep (K : List D) (ys : Nat → D) (h : ∀ i, i ≤ K.length → ys i ∈ K) : ∃ i j, i < j ∧ j ≤ K.length ∧ ys i = ys j := by
  classical
  refine Classical.byContradiction fun hn => ?_
  have nd : ((List.range (K.length + 1)).map ys).Nodup := by
    rw [List.nodup_iff_pairwise_ne, List.pairwise_map]
    refine List.pairwise_iff_getElem.mpr fun i j hi hj hij => ?_
    rw [List.getElem_range, List.getElem_range]
    rw [List.length_range] at hj
    exact fun e => hn ⟨i, j, hij, by omega, e⟩
  have hl : ((List.range (K.length + 1)).map ys).length ≤ K.length := by
    refine List.Nodup.length_le_of_subset nd fun x hx => ?_
    obtain ⟨i, hi, rfl⟩ := List.mem_map.mp hx
    rw [List.mem_range] at hi
    exact h i (by omega)
  rw [List.length_map, List.length_range] at hl
  omega
namespace Gr
/-- the rounds opened, to m -/
noncomputable def opG (g : Gr) (m : D) : Gr := { g with nx := g.op m, dom := g.op_dom m }
theorem opG_K (g : Gr) (m : D) : (g.opG m).K = g.K := rfl
theorem op_not {g : Gr} {m x y : D} (h : g.op m x = some y) (hy : y ≠ m) : ¬ g.Top x ∧ g.nx x = some y := by
  classical
  unfold Gr.op at h
  by_cases c : g.Top x
  · rw [if_pos c] at h; cases h; exact absurd rfl hy
  · rw [if_neg c] at h; exact ⟨c, h⟩
theorem On.next {g : Gr} {x : D} (o : g.On x) : ∃ y, g.nx x = some y := (g.dom x).mpr o.mem
theorem noround {g : Gr} {m : D} (hm : m ∉ g.K) (x : D) : ¬ (g.opG m).On x := by
  classical
  intro o
  have key : ∀ y, (g.opG m).Rc x y → ¬ g.Top y ∧ g.nx y = g.op m y := fun y r => by
    obtain ⟨z, ez⟩ := (o.rc r).next
    have oz := (o.rc r).rc (.one ez)
    have hz : z ≠ m := fun e => hm (e ▸ oz.mem)
    obtain ⟨h1, h2⟩ := op_not ez hz
    exact ⟨h1, h2.trans ez.symm⟩
  have same : ∀ n y, g.it n x = some y → (g.opG m).it n x = some y := by
    intro n
    induction n with
    | zero => exact fun y e => e
    | succ n ih =>
      intro y e
      rw [it] at e ⊢
      cases h : g.it n x with
      | none => rw [h] at e; cases e
      | some z =>
        rw [h] at e
        have hz := ih z h
        rw [hz]
        show g.op m z = some y
        rw [← (key z ⟨n, hz⟩).2]; exact e
  have same' : ∀ n y, (g.opG m).it n x = some y → g.it n x = some y := by
    intro n
    induction n with
    | zero => exact fun y e => e
    | succ n ih =>
      intro y e
      rw [it] at e ⊢
      cases h : (g.opG m).it n x with
      | none => rw [h] at e; cases e
      | some z =>
        rw [h] at e
        rw [ih z h]
        show g.nx z = some y
        rw [(key z ⟨n, h⟩).2]; exact e
  have og : g.On x := let ⟨n, e⟩ := o; ⟨n, same' _ _ e⟩
  obtain ⟨t, ht, hmx⟩ := exists_max g.rk (g.K.filter fun y => decide (g.Rc x y)) (fun z => by
    have : x ∈ g.K.filter fun y => decide (g.Rc x y) := List.mem_filter.mpr ⟨og.mem, decide_eq_true (.refl x)⟩
    rw [z] at this; cases this)
  obtain ⟨_, hr⟩ := List.mem_filter.mp ht
  have hr := of_decide_eq_true hr
  have tt : g.Top t := ⟨og.rc hr, fun y hy => hmx y (List.mem_filter.mpr ⟨(og.rc (hr.trans hy)).mem, decide_eq_true (hr.trans hy)⟩)⟩
  obtain ⟨n, e⟩ := hr
  exact (key t ⟨n, same n t e⟩).1 tt
theorem goesOut {g : Gr} (hno : ∀ x, ¬ g.On x) (x : D) : ∃ n y, g.it n x = some y ∧ y ∉ g.K := by
  refine Classical.byContradiction fun hn => ?_
  have hin : ∀ n y, g.it n x = some y → y ∈ g.K := fun n y e => Classical.byContradiction fun z => hn ⟨n, y, e, z⟩
  have hs : ∀ n, ∃ y, g.it n x = some y := by
    intro n
    induction n with
    | zero => exact ⟨x, rfl⟩
    | succ n ih =>
      obtain ⟨y, e⟩ := ih
      obtain ⟨z, ez⟩ := (g.dom y).mpr (hin n y e)
      exact ⟨z, by rw [it, e]; exact ez⟩
  obtain ⟨i, j, hij, _, e⟩ := walk_rep g.K (fun n => (g.it n x).getD x) fun i _ => by
    obtain ⟨y, ey⟩ := hs i
    show (g.it i x).getD x ∈ _
    rw [ey]; exact hin i y ey
  obtain ⟨y, ey⟩ := hs i
  obtain ⟨z, ez⟩ := hs j
  simp only [ey, ez, Option.getD_some] at e
  subst e
  have := it_sub ey ez (by omega)
  exact hno y ⟨j - i - 1, by rw [show j - i - 1 + 1 = j - i by omega]; exact this⟩
theorem rc_two {g : Gr} {x y z : D} (a : g.Rc x y) (b : g.Rc x z) : g.Rc y z ∨ g.Rc z y := by
  obtain ⟨n, e1⟩ := a
  obtain ⟨m, e2⟩ := b
  rcases Nat.le_total n m with h | h
  · exact .inl ⟨_, it_sub e1 e2 h⟩
  · exact .inr ⟨_, it_sub e2 e1 h⟩
theorem out_one {g : Gr} {x y z : D} (a : g.Rc x y) (b : g.Rc x z) (hy : y ∉ g.K) (hz : z ∉ g.K) : y = z := by
  rcases rc_two a b with h | h
  · exact (rc_out hy h).symm
  · exact rc_out hz h
/-- what leads to m, by way of h -/
theorem lead {g : Gr} {m x h : D} (hm : m ∉ g.K) (a : g.Rc x h) : g.Rc x m ↔ g.Rc h m := by
  refine ⟨fun r => ?_, a.trans⟩
  rcases rc_two a r with q | q
  · exact q
  · rw [rc_out hm q]; exact .refl _
end Gr
end K29
end

section
set_option linter.all false
set_option autoImplicit false
set_option maxRecDepth 100000
set_option maxHeartbeats 2000000
namespace K29
open G
open PySem (Str)
local macro_rules | `(tactic| fail $s:str) => match s.getString with
  | "ne" => `(tactic| first | assumption | (apply Ne.symm; assumption) | exact ne_f1 (by assumption) (by fail "lk") | exact ne_f2 (by assumption) (by fail "lk") | grind [up, Sb])
  | "lk" => `(tactic| first | assumption | exact up_same | (refine up_at ?_ ?_; (· fail "ne"); fail "lk") | (refine Sb.at ?_ ?_; (· assumption); fail "lk"))
  | "sd" => `(tactic| first | (with_reducible show -(2 ^ 62) ≤ (_ : Int); first | omega | (simp only [List.length_map]; omega)) | (with_reducible show (_ : Int) < 2 ^ 62; first | omega | (simp only [List.length_map]; omega)) | assumption | rfl | (apply isT_lst; fail "lk") | (apply isT_dic; fail "lk") | decide | (simp only [List.length_cons, List.length_nil]; decide) | exact mulOk_l (by decide) (by decide) | exact mulOk_r (by decide) (by decide) | exact mulOk_l (by omega) (by omega) | exact mulOk_r (by omega) (by omega) | omega | (simp only [List.length_map]; omega))
  | "ls" => `(tactic| first | exact sq_tup | exact sq_rl | exact ls_rl | (apply ls_lst; fail "lk") | (apply sq_lst; fail "lk"))
  | "st" => `(tactic| first
  | ((with_reducible apply ix_lst); (· fail "lk"))
  | with_reducible apply ix_tup
  | with_reducible apply ix_str
  | with_reducible apply in_tup
  | with_reducible apply min_ii
  | with_reducible apply max_ii
  | ((with_reducible apply in_lst); (· fail "lk"))
  | ((with_reducible apply in_dic); (· fail "lk"))
  | ((with_reducible apply notIn_dic); (· fail "lk"))
  | ((with_reducible apply notIn_lst); (· fail "lk"))
  | with_reducible apply ix_rl
  | ((with_reducible apply ix_dic); (· fail "lk"))
  | ((with_reducible apply app_lst); (· fail "lk"))
  | ((with_reducible apply len_lst); (· fail "lk"))
  | with_reducible apply len_tup
  | with_reducible apply len_rl
  | with_reducible apply len_str
  | ((with_reducible apply oIsT_lst); (· fail "lk"))
  | ((with_reducible apply dict_ls); (· fail "ls"))
  | ((with_reducible apply sl_ls); (· fail "ls"))
  | ((with_reducible apply rev_ls); (· fail "ls"))
  | ((with_reducible apply list_sq); (· fail "ls"))
  | ((with_reducible apply list_dic); (· fail "lk"))
  | ((with_reducible apply index_ls); (· fail "ls"))
  | ((with_reducible apply count_ls); (· fail "ls"))
  | ((with_reducible apply fill_dic); (· fail "lk"))
  | ((with_reducible apply max_ls); (· fail "ls"))
  | ((with_reducible apply sortK_ls); (· fail "ls"))
  | ((with_reducible apply sum_ls); (· fail "ls"))
  | ((with_reducible apply sorted_ls); (· fail "ls"))
  | ((with_reducible apply sortI_ls); (· fail "ls"))
  | ((with_reducible apply sortD_ls); (· fail "ls"))
  | ((with_reducible apply sortD_dic); (· fail "lk"))
  | ((with_reducible apply oIsT_dic); (· fail "lk"))
  | ((with_reducible apply walkD_lst); (· fail "lk"))
  | ((with_reducible apply walkD_dic); (· fail "lk"))
  | ((with_reducible apply walkI_dic); (· fail "lk"))
  | with_reducible apply walkD_tup
  | with_reducible apply walkD_rl
  | ((with_reducible apply walkL_lst); (· fail "lk"))
  | with_reducible apply walkL_rl
  | ((with_reducible apply mul_lst); (· fail "lk"))
  | ((with_reducible apply min_ls); (· fail "ls"))
  | ((with_reducible apply oAdd_lst); (· fail "lk"); (· fail "lk"))
  | ((with_reducible apply put_lst); (· fail "lk"))
  | ((with_reducible apply put_dic); (· fail "lk"))
  | ((with_reducible apply tru_lst); (· fail "lk"))
  | with_reducible apply oIsT_bl
  | with_reducible apply oIsT_int
  | with_reducible apply oIsT_str
  | with_reducible apply oIsT_tup
  | with_reducible apply oIsT_rl
  | with_reducible apply oIsT_non
  | with_reducible apply sl_tup
  | with_reducible apply sl_str
  | ((with_reducible apply get_dic); (· fail "lk"))
  | ((with_reducible apply get_dic2); (· fail "lk"))
  | ((with_reducible apply setdef_dic); (· fail "lk"))
  | ((with_reducible apply ext_lst); (· fail "lk"); (· fail "lk"))
  | ((with_reducible apply pop_lst); (· fail "lk"))
  | ((with_reducible apply popAt_lst); (· fail "lk"))
  | ((with_reducible apply ins_lst); (· fail "lk"))
  | ((with_reducible apply clr_lst); (· fail "lk"))
  | ((with_reducible apply clr_dic); (· fail "lk"))
  | ((with_reducible apply join_sq); (· fail "ls"))
  | ((with_reducible apply oEq_sst); (· with_reducible rfl))
  | ((with_reducible apply oEq_ssf); (· first | assumption | decide))
  | ((with_reducible apply oNe_sst); (· with_reducible rfl))
  | ((with_reducible apply oNe_ssf); (· first | assumption | decide))
  | ((with_reducible apply oEq_iit); (· with_reducible rfl))
  | ((with_reducible apply oEq_iif); (· first | assumption | decide))
  | ((with_reducible apply oNe_iit); (· with_reducible rfl))
  | ((with_reducible apply oNe_iif); (· first | assumption | decide))
  | refine Exists.intro _ (And.intro (rfl : atI _ _ = some _) ?_)
  | refine Exists.intro _ (And.intro (rfl : ixN _ _ = some _) ?_)
  | ((with_reducible refine And.intro ?_ ?_); (· fail "sd")))
  | _ => Lean.Macro.throwUnsupported
local macro_rules | `(tactic| nofun) => `(tactic| fail "ne")
local macro_rules | `(tactic| bv_omega) => `(tactic| fail "lk")
local macro_rules | `(tactic| ac_rfl) => `(tactic| fail "sd")
local macro_rules | `(tactic| trivial) => `(tactic| ((conv => whnf); repeat (fail "st"; (conv => whnf))))
/-! ### rounds: the program -/
structure Pd (kvs : List (D × D)) (g : Gr) : Prop where
  ks : kvs.map (·.1) = g.K
  at_ : ∀ x ∈ g.K, ∃ o n a b, dget kvs x = some (.tup [o, n, .tup [.int a, .int b]]) ∧ g.nx x = some o ∧ g.rk x = [a, b] ∧ G.pl 7 o = true
  pk : ∀ x ∈ g.K, G.pl 7 x = true
  nn : ∀ x ∈ g.K, x ≠ .non
  len : kvs.length ≤ 1000
theorem Pd.klen {kvs : List (D × D)} {g : Gr} (P : Pd kvs g) : g.K.length ≤ 1000 := by rw [← P.ks, List.length_map]; exact P.len
theorem Gr.wlen {g : Gr} {w : List D} (nd : w.Nodup) (s : ∀ x ∈ w, x ∈ g.K) : w.length ≤ g.K.length := List.Nodup.length_le_of_subset nd s
theorem round_of_ok {h : AH} {pd sd : Addr} {kvs sv : List (D × D)} {g : Gr} {pt : D} {Q : KD} (P : Pd kvs g) (ep : h pd = some (.dic kvs)) (es : h sd = some (.dic sv)) (nps : pd ≠ sd) (hp : pt ∈ g.K) (hsv : ∀ k v, dget sv k = some v → v ≠ pt ∧ G.pl 7 v = true) (ls : sv.length ≤ 1000000)
    (q : ∀ r w hh sv' rd h', h r = none → h' r = some (.lst rd) → h' sd = some (.dic sv') → Sb (hm h [sd]) h' → g.Pth pt w hh → w.Nodup → (∀ x, x ∈ sv'.map (·.1) ↔ x ∈ sv.map (·.1) ∨ x ∈ w) → (∀ k v, dget sv' k = some v → (k ∈ w ∧ v = pt) ∨ dget sv k = some v) → sv'.length ≤ sv.length + w.length →
      ((rd = [] ∧ (hh ∉ g.K ∨ hh ∈ sv.map (·.1))) ∨ ∃ u b, w = u ++ hh :: b ∧ rd = hh :: b) → pt ∈ sv'.map (·.1) → Q (.ref r) h') : f_round_of [.ref pd, .ref sd, pt] h Q := by
  have ppt := P.pk pt hp
  have kl := P.klen
  have bs : hm h [sd] sd = none := hm_in (by simp)
  unfold f_round_of
  trivial
  refine newL_i fun wy nwy => ?_
  have nws : sd ≠ wy := by nofun
  trivial
  refine ⟨fun m ρ h' => ∃ w hh sv', ρ = [some (.ref pd), some (.ref sd), some pt, some (.ref wy), some hh] ∧ h' wy = some (.lst w) ∧ h' sd = some (.dic sv') ∧ Sb (hm h [sd]) h' ∧ g.Pth pt w hh ∧ w.Nodup ∧ (∀ x ∈ w, x ∉ sv.map (·.1)) ∧ (∀ x, x ∈ sv'.map (·.1) ↔ x ∈ sv.map (·.1) ∨ x ∈ w) ∧ (∀ k v, dget sv' k = some v → (k ∈ w ∧ v = pt) ∨ dget sv k = some v) ∧ sv'.length ≤ sv.length + w.length ∧ G.pl 7 hh = true ∧ m = g.K.length - w.length, ⟨_, [], pt, sv, rfl, up_same, up_at nws es, hm_of ((Sb.refl h).upf' nwy), .nil, List.nodup_nil, (fun _ h => by cases h), (fun x => by simp), (fun k v e => .inr e), by simp, ppt, rfl⟩, ?_⟩
  rintro m ρ h' ⟨w, hh, sv', rfl, ew, es', sb, pth, nd, hw, hk, hv, hl, ph, rfl⟩
  have ep' := hm_get sb ep (by simpa using nps)
  have ph8 := pl_mono 7 8 _ (by omega) ph
  have hwl := Gr.wlen nd pth.sub
  have hw0 : hm h [sd] wy = none := hm_nn nwy
  trivial
  rw [P.ks]
  refine onT_i (fun e => ?_) (fun e => ?_)
  · have hin : hh ∈ g.K := of_decide_eq_true e
    obtain ⟨o, n', a, b, e1, e2, e3, po⟩ := P.at_ hh hin
    trivial
    refine onT_nd (fun e => ?_) (fun e => ?_)
    · have hnw : hh ∉ w := fun z => e ((hk hh).mpr (.inr z))
      have nd' : (w ++ [hh]).Nodup := by
        rw [List.nodup_append]
        exact ⟨nd, by simp, fun x hx y hy => by rw [List.mem_singleton] at hy; subst hy; exact fun z => hnw (z ▸ hx)⟩
      have pth' := pth.snoc e2
      have hwl' := Gr.wlen nd' pth'.sub
      rw [List.length_append, List.length_singleton] at hwl'
      trivial
      refine ⟨by rw [SZ]; omega, ?_⟩
      have ew2 := up_at (o := .dic (dput sv' hh pt)) (show wy ≠ sd by nofun) ew
      have ep2 := up_at (o := .dic (dput sv' hh pt)) nps ep'
      trivial
      refine ⟨by rw [SZ]; omega, ?_⟩
      have ep3 := up_at (o := .lst (w ++ [hh])) (show pd ≠ wy by nofun) ep2
      trivial
      refine ⟨_, e1, ?_⟩
      trivial
      apply Pt.of
      refine ⟨_, ?_, w ++ [hh], o, dput sv' hh pt, rfl, up_same, up_at nws up_same, (sb.upf bs).upf hw0, pth', nd', fun x hx => ?_, fun x => ?_, fun k v ev => ?_, ?_, po, rfl⟩
      · rw [List.length_append, List.length_singleton]; omega
      · rcases List.mem_append.mp hx with h | h
        · exact hw x h
        · rw [List.mem_singleton] at h; subst h; exact fun z => e ((hk x).mpr (.inl z))
      · rw [dput_keysP, if_neg e, List.mem_append, List.mem_singleton, hk x, List.mem_append, List.mem_singleton]
        exact or_assoc
      · rw [dget_put] at ev
        split at ev
        · rename_i ek
          cases ev
          exact .inl ⟨by rw [← ek]; simp, rfl⟩
        · exact (hv k v ev).imp (fun z => ⟨List.mem_append_left _ z.1, z.2⟩) id
      · have := dput_lenP sv' hh pt
        rw [List.length_append, List.length_singleton]; omega
    · -- seen
      obtain ⟨v, ev⟩ : ∃ v, dget sv' hh = some v := by
        cases ev : dget sv' hh with
        | none => exact absurd e (dget_noneP.mp ev)
        | some v => exact ⟨v, rfl⟩
      have hpt : pt ∈ sv'.map (·.1) := by
        rcases pth.first with ⟨_, h2⟩ | h2
        · rw [← h2]; exact e
        · refine (hk pt).mpr (.inr ?_)
          cases w with
          | nil => cases h2
          | cons x r => cases h2; exact List.mem_cons_self
      trivial
      rw [P.ks, decide_eq_true hin]
      trivial
      refine ⟨_, ev, ?_⟩
      have pv : G.pl 7 v = true := by
        rcases hv hh v ev with ⟨_, h2⟩ | h2
        · rw [h2]; exact ppt
        · exact (hsv hh v h2).2
      refine oEq_pv (.pl pv) (.pl ppt) ?_
      trivial
      refine onT_d (fun e2 => ?_) (fun e2 => ?_)
      · have hin2 : hh ∈ w := by
          rcases hv hh v ev with ⟨h1, _⟩ | h2
          · exact h1
          · exact absurd e2 (hsv hh v h2).1
        obtain ⟨j, hj⟩ := List.mem_iff_getElem?.mp hin2
        have hfst : ∀ i, i < j → w[i]? ≠ some hh := fun i hij z => by
          obtain ⟨l1, l2⟩ := List.getElem?_eq_some_iff.mp z
          obtain ⟨l3, l4⟩ := List.getElem?_eq_some_iff.mp hj
          have := (List.getElem_inj nd).mp (l2.trans l4.symm)
          omega
        trivial
        refine ⟨fun d hd => pl_mono 7 8 _ (by omega) (P.pk d (pth.sub d hd)), ph8, j, hj, hfst, ?_⟩
        trivial
        rw [cut_drop]
        refine newL_i fun r nr => ?_
        apply Pt.of
        have hjl := (List.getElem?_eq_some_iff.mp hj).1
        have edr : w.drop j = hh :: w.drop (j + 1) := by
          rw [List.drop_eq_getElem_cons hjl, (List.getElem?_eq_some_iff.mp hj).2]
        have hr0 : h r = none := by
          have := sb.nn nr
          rw [hm_out (fun z => ?_)] at this
          · exact this
          · rw [List.mem_singleton] at z
            rw [z, es'] at nr; cases nr
        refine q r w hh sv' _ _ hr0 up_same (up_at (by nofun) es') (sb.upf (hm_nn hr0)) pth nd hk hv hl (.inr ⟨w.take j, w.drop (j + 1), ?_, edr⟩) hpt
        rw [← edr, List.take_append_drop]
      · trivial
        refine newL_i fun r nr => ?_
        apply Pt.of
        have hr0 : h r = none := by
          have := sb.nn nr
          rw [hm_out (fun z => ?_)] at this
          · exact this
          · rw [List.mem_singleton] at z
            rw [z, es'] at nr; cases nr
        refine q r w hh sv' _ _ hr0 up_same (up_at (by nofun) es') (sb.upf (hm_nn hr0)) pth nd hk hv hl (.inl ⟨rfl, .inr ?_⟩) hpt
        rcases hv hh v ev with ⟨_, h2⟩ | h2
        · exact absurd h2 e2
        · exact List.mem_map.mpr ⟨_, dget_memP h2, rfl⟩
  · have hout : hh ∉ g.K := of_decide_eq_false e
    have hpt : pt ∈ sv'.map (·.1) := by
      rcases pth.first with ⟨_, h2⟩ | h2
      · rw [h2] at hout; exact absurd hp hout
      · refine (hk pt).mpr (.inr ?_)
        cases w with
        | nil => cases h2
        | cons x r => cases h2; exact List.mem_cons_self
    trivial
    rw [P.ks, decide_eq_false hout]
    trivial
    refine newL_i fun r nr => ?_
    apply Pt.of
    have hr0 : h r = none := by
      have := sb.nn nr
      rw [hm_out (fun z => ?_)] at this
      · exact this
      · rw [List.mem_singleton] at z
        rw [z, es'] at nr; cases nr
    exact q r w hh sv' _ _ hr0 up_same (up_at (by nofun) es') (sb.upf (hm_nn hr0)) pth nd hk hv hl (.inl ⟨rfl, .inl hout⟩) hpt
/-! ### rounds opened: the program -/
theorem map_put (F : D → D) (t v : D) : ∀ (K : List D), K.Nodup → t ∈ K → dput (K.map fun k => (k, F k)) t v = K.map fun k => (k, if k = t then v else F k) := by
  intro K
  induction K with
  | nil => intro _ h; cases h
  | cons a l ih =>
    intro nd hm
    rw [List.nodup_cons] at nd
    rw [List.map_cons, List.map_cons, dput]
    by_cases e : a = t
    · rw [if_pos e, if_pos e]
      congr 1
      refine List.map_congr_left fun k hk => ?_
      rw [if_neg fun z : k = t => nd.1 (by rw [e, ← z]; exact hk)]
    · rw [if_neg e, if_neg e, ih nd.2 ((List.mem_cons.mp hm).resolve_left fun z => e z.symm)]
open Classical in
/-- the opened map, as a dict: O is opened -/
noncomputable def opO (g : Gr) (O : D → Prop) : List (D × D) := g.K.map fun k => (k, if O k then main0 else (g.nx k).getD .non)
noncomputable def opD (g : Gr) : List (D × D) := g.K.map fun k => (k, (g.op main0 k).getD .non)
theorem opO_top {g : Gr} {O : D → Prop} (h : ∀ x, O x ↔ g.Top x) : opO g O = opD g := by
  classical
  unfold opO opD
  refine List.map_congr_left fun k _ => ?_
  unfold Gr.op
  by_cases c : g.Top k
  · rw [if_pos ((h k).mpr c), if_pos c]; rfl
  · rw [if_neg fun z => c ((h k).mp z), if_neg c]
theorem opO_keys (g : Gr) (O : D → Prop) : (opO g O).map (·.1) = g.K := by
  unfold opO
  rw [List.map_map]
  exact List.map_id _
theorem opD_keys (g : Gr) : (opD g).map (·.1) = g.K := by
  unfold opD
  rw [List.map_map]
  exact List.map_id _
theorem opO_put {g : Gr} {O : D → Prop} {t : D} (ht : t ∈ g.K) : dput (opO g O) t main0 = opO g (fun x => O x ∨ x = t) := by
  classical
  unfold opO
  rw [map_put _ _ _ _ g.nd ht]
  refine List.map_congr_left fun k _ => ?_
  by_cases e : k = t
  · rw [if_pos e, if_pos (.inr e)]
  · rw [if_neg e]
    by_cases o : O k
    · rw [if_pos o, if_pos (.inl o)]
    · rw [if_neg o, if_neg fun z => z.elim o e]
theorem outers_of_ok {h : AH} {pd : Addr} {kvs : List (D × D)} {g : Gr} {Q : KD} (P : Pd kvs g) (ep : h pd = some (.dic kvs)) (q : ∀ r h', h r = none → Sb h h' → h' r = some (.dic (opD g)) → Q (.ref r) h') : f_outers_of [.ref pd] h Q := by
  have kl := P.klen
  unfold f_outers_of
  trivial
  refine newD_i fun f nf => ?_
  have npf : pd ≠ f := by nofun
  trivial
  rw [P.ks]
  refine ⟨fun i ρ h' => i ≤ g.K.length ∧ ∃ x2, ρ = [some (.ref pd), some (.ref f), x2, none, none, none] ∧ h' f = some (.dic ((g.K.take i).map fun k => (k, (g.nx k).getD .non))) ∧ Sb h h', ?_, ?_, ?_, ?_⟩
  · exact ⟨Nat.zero_le _, _, rfl, up_same, (Sb.refl h).upf' nf⟩
  · rintro i ρ h' _ ⟨_, x2, _, _, sb⟩
    exact ⟨_, sb _ _ ep, P.ks⟩
  · rintro i ρ h' k ⟨hi, x2, rfl, ef, sb⟩ hd
    have hk : g.K[i]? = some k := hd
    have hlt := (List.getElem?_eq_some_iff.mp hk).1
    have hm := List.mem_of_getElem? hk
    have ep' := sb _ _ ep
    obtain ⟨o, n', a, b, e1, e2, e3, po⟩ := P.at_ k hm
    have p8 := pl_mono 7 8 _ (by omega) (P.pk k hm)
    trivial
    refine ⟨_, e1, ?_⟩
    trivial
    refine ⟨by rw [List.length_map, List.length_take, SZ]; omega, ?_⟩
    apply Pt.of
    refine ⟨hlt, _, rfl, ?_, sb.upf nf⟩
    rw [up_same, dput_new, take_snoc hk, List.map_append, List.map_cons, List.map_nil, e2]
    · rfl
    · have nd := g.nd
      rw [← List.take_append_drop (i + 1) g.K, take_snoc hk, List.nodup_append] at nd
      have nd := nd.1
      rw [List.nodup_append] at nd
      rw [List.map_map]
      intro z
      obtain ⟨x, hx, ex⟩ := List.mem_map.mp z
      exact nd.2.2 x hx k (by simp) ex
  rintro ρ h1 ⟨_, x2, rfl, ef, sb⟩
  rw [show g.K.take (srcK pd g.K).ds.length = g.K from List.take_of_length_le (by simp [srcK])] at ef
  have ef : h1 f = some (.dic (opO g fun _ => False)) := by
    rw [ef]
    unfold opO
    congr 2
    exact List.map_congr_left fun k _ => by rw [if_neg id]
  trivial
  refine newD_i fun s ns => ?_
  have nfs : f ≠ s := by nofun
  have ep1 := sb _ _ ep
  have nps : pd ≠ s := by nofun
  have ns0 := sb.nn ns
  trivial
  rw [P.ks]
  refine ⟨fun i ρ h' => i ≤ g.K.length ∧ ∃ x2 x4 x5 sv S O, ρ = [some (.ref pd), some (.ref f), x2, some (.ref s), x4, x5] ∧ h' f = some (.dic (opO g O)) ∧ h' s = some (.dic sv) ∧ (∀ x, x ∈ sv.map (·.1) ↔ S x) ∧ (∀ k v, dget sv k = some v → v ∈ g.K.take i) ∧ g.Seen S O ∧ (∀ x ∈ g.K.take i, S x) ∧ sv.length ≤ i * 1000 ∧ Sb h h', ?_, ?_, ?_, ?_⟩
  · exact ⟨Nat.zero_le _, _, _, _, [], fun _ => False, fun _ => False, rfl, up_at nfs ef, up_same, (fun x => by simp), (fun k v e => by cases e), Gr.Seen.nil, (fun x h => by cases h), by simp, sb.upf' ns⟩
  · rintro i ρ h' _ ⟨_, x2, x4, x5, sv, S, O, _, _, _, _, _, _, _, _, sb⟩
    exact ⟨_, sb _ _ ep, P.ks⟩
  · clear ef ep1
    rintro i ρ h' k ⟨hi, x2, x4, x5, sv, S, O, rfl, ef, es, hS, hv, seen, hall, lsv, sb⟩ hd
    have hk : g.K[i]? = some k := hd
    have hlt := (List.getElem?_eq_some_iff.mp hk).1
    have hm := List.mem_of_getElem? hk
    have ep' := sb _ _ ep
    have hkt : k ∉ g.K.take i := by
      have nd := g.nd
      rw [← List.take_append_drop (i + 1) g.K, take_snoc hk, List.nodup_append] at nd
      have nd := nd.1
      rw [List.nodup_append] at nd
      exact fun z => nd.2.2 k z k (by simp) rfl
    trivial
    refine round_of_ok P ep' es nps hm (fun k' v e => ⟨fun z => hkt (z ▸ hv k' v e), P.pk v (List.mem_of_mem_take (hv k' v e))⟩) (by omega) fun r w hh sv' rd h2 nr er es2 s2 pth nd hk2 hv2 hl2 hrd hpt => ?_
    have ef2 := hm_get s2 ef (by simpa using nfs)
    have ep2 := hm_get s2 ep' (by simpa using nps)
    have sb2 : Sb h h2 := fun x o e => hm_get s2 (sb _ _ e) (by rw [List.mem_singleton]; intro z; rw [z, ns0] at e; cases e)
    have hwl := Gr.wlen nd pth.sub
    have hrdk : ∀ z ∈ rd, z ∈ g.K := fun z hz => by
      rcases hrd with ⟨e, _⟩ | ⟨u, b, e1, e2⟩
      · rw [e] at hz; cases hz
      · rw [e2] at hz; exact pth.sub z (by rw [e1]; exact List.mem_append_right _ hz)
    trivial
    refine ⟨fun j ρ h' => j ≤ rd.length ∧ ∃ top x5, ρ = [some (.ref pd), some (.ref f), some k, some (.ref s), some top, x5] ∧ ((j = 0 ∧ top = .non) ∨ (top ∈ rd.take j ∧ ∀ z ∈ rd.take j, ¬ g.rk top < g.rk z)) ∧ h' = h2, ?_, ?_, ?_, ?_⟩
    · exact ⟨Nat.zero_le _, _, _, rfl, .inl ⟨rfl, rfl⟩, rfl⟩
    · rintro j ρ h' _ ⟨_, top, x5, _, _, rfl⟩
      exact er
    · rintro j ρ h' one ⟨hj, top, x5, rfl, ht, rfl⟩ hd
      have ho : rd[j]? = some one := hd
      have hjl := (List.getElem?_eq_some_iff.mp ho).1
      have h1m := hrdk one (List.mem_of_getElem? ho)
      obtain ⟨o, n', a, b, e1, e2, e3, po⟩ := P.at_ one h1m
      have p8 := pl_mono 7 8 _ (by omega) (P.pk one h1m)
      trivial
      rcases ht with ⟨rfl, rfl⟩ | ⟨ht, hmx⟩
      · trivial
        apply Pt.of
        refine ⟨hjl, _, _, rfl, .inr ?_, rfl⟩
        rw [take_snoc ho, List.take_zero, List.nil_append]
        exact ⟨by simp, fun z hz => by rw [List.mem_singleton] at hz; subst hz; exact List.lt_irrefl _⟩
      · have htk := hrdk top (List.mem_of_mem_take ht)
        obtain ⟨o', n'', a', b', e1', e2', e3', po'⟩ := P.at_ top htk
        have p8' := pl_mono 7 8 _ (by omega) (P.pk top htk)
        refine onT_i (fun e => absurd (of_decide_eq_true e) (P.nn top htk)) (fun _ => ?_)
        trivial
        refine ⟨_, e1, ?_⟩
        trivial
        refine ⟨_, e1', ?_⟩
        trivial
        rw [dlt2]
        have hlt2 : (a' < a ∨ a' = a ∧ b' < b) ↔ g.rk top < g.rk one := by rw [e3, e3', lx2]
        refine onT_d (fun e => ?_) (fun e => ?_)
        · trivial
          apply Pt.of
          refine ⟨hjl, _, _, rfl, .inr ?_, rfl⟩
          rw [take_snoc ho]
          refine ⟨by simp, fun z hz q => ?_⟩
          rcases List.mem_append.mp hz with h | h
          · exact hmx z h (List.lt_trans (hlt2.mp e) q)
          · rw [List.mem_singleton] at h; subst h; exact List.lt_irrefl _ q
        · trivial
          apply Pt.of
          refine ⟨hjl, _, _, rfl, .inr ?_, rfl⟩
          rw [take_snoc ho]
          refine ⟨List.mem_append_left _ ht, fun z hz q => ?_⟩
          rcases List.mem_append.mp hz with h | h
          · exact hmx z h q
          · rw [List.mem_singleton] at h; subst h; exact e (hlt2.mpr q)
    rintro ρ h3 ⟨_, top, x5', rfl, ht, rfl⟩
    rw [show rd.take (srcL r rd).ds.length = rd from List.take_of_length_le (by simp [srcL])] at ht
    trivial
    rcases hrd with ⟨e, hh2⟩ | ⟨u, b, ew, e⟩
    · have : top = .non := by
        rcases ht with ⟨_, h⟩ | ⟨h, _⟩
        · exact h
        · rw [e] at h; cases h
      subst this
      trivial
      apply Pt.of
      refine ⟨hlt, _, _, _, sv', fun x => S x ∨ x ∈ w, O, rfl, ef2, es2, fun x => (hk2 x).trans (or_congr (hS x) Iff.rfl), fun k' v ev => ?_, seen.none pth (hh2.imp id fun z => (hS _).mp z), fun x hx => ?_, by omega, sb2⟩
      · rw [take_snoc hk]
        rcases hv2 k' v ev with ⟨_, h⟩ | h
        · rw [h]; simp
        · exact List.mem_append_left _ (hv k' v h)
      · rw [take_snoc hk] at hx
        rcases List.mem_append.mp hx with h | h
        · exact .inl (hall x h)
        · rw [List.mem_singleton] at h; subst h
          exact ((hk2 x).mp hpt).imp (hS x).mp id
    · obtain ⟨ht, hmx⟩ : top ∈ rd ∧ ∀ z ∈ rd, ¬ g.rk top < g.rk z := by
        rcases ht with ⟨h, _⟩ | h
        · rw [e] at h; cases h
        · exact h
      have htk := hrdk top ht
      have p8' := pl_mono 7 8 _ (by omega) (P.pk top htk)
      have lo : (opO g O).length = g.K.length := by unfold opO; rw [List.length_map]
      refine onT_i (fun _ => ?_) (fun e => absurd e ?_)
      · trivial
        refine ⟨by rw [lo, SZ]; omega, ?_⟩
        apply Pt.of
        rw [e] at ht hmx
        refine ⟨hlt, _, _, _, sv', fun x => S x ∨ x ∈ w, fun x => O x ∨ x = top, rfl, ?_, up_at nfs.symm es2, fun x => (hk2 x).trans (or_congr (hS x) Iff.rfl), fun k' v ev => ?_, seen.round pth ew ht hmx, fun x hx => ?_, by omega, sb2.upf nf⟩
        · rw [up_same, ← opO_put htk]; rfl
        · rw [take_snoc hk]
          rcases hv2 k' v ev with ⟨_, h⟩ | h
          · rw [h]; simp
          · exact List.mem_append_left _ (hv k' v h)
        · rw [take_snoc hk] at hx
          rcases List.mem_append.mp hx with h | h
          · exact .inl (hall x h)
          · rw [List.mem_singleton] at h; subst h
            exact ((hk2 x).mp hpt).imp (hS x).mp id
      · rw [decide_eq_false (P.nn top htk)]
        simp
  · rintro ρ h' ⟨_, x2, x4, x5, sv, S, O, rfl, ef, es, hS, hv, seen, hall, lsv, sb⟩
    rw [show g.K.take (srcK pd g.K).ds.length = g.K from List.take_of_length_le (by simp [srcK])] at hall
    rw [opO_top (seen.all hall)] at ef
    trivial
    apply Pt.of
    exact q f h' nf sb ef
end K29
end

section
set_option linter.all false
set_option autoImplicit false
set_option maxRecDepth 100000
set_option maxHeartbeats 4000000
namespace K29
open G
open PySem (Str)
local macro_rules | `(tactic| fail $s:str) => match s.getString with
  | "ne" => `(tactic| first | assumption | (apply Ne.symm; assumption) | exact ne_f1 (by assumption) (by fail "lk") | exact ne_f2 (by assumption) (by fail "lk") | grind [up, Sb])
  | "lk" => `(tactic| first | assumption | exact up_same | (refine up_at ?_ ?_; (· fail "ne"); fail "lk") | (refine Sb.at ?_ ?_; (· assumption); fail "lk"))
  | "sd" => `(tactic| first | (with_reducible show -(2 ^ 62) ≤ (_ : Int); first | omega | (simp only [List.length_map]; omega)) | (with_reducible show (_ : Int) < 2 ^ 62; first | omega | (simp only [List.length_map]; omega)) | assumption | rfl | (apply isT_lst; fail "lk") | (apply isT_dic; fail "lk") | decide | (simp only [List.length_cons, List.length_nil]; decide) | exact mulOk_l (by decide) (by decide) | exact mulOk_r (by decide) (by decide) | exact mulOk_l (by omega) (by omega) | exact mulOk_r (by omega) (by omega) | omega | (simp only [List.length_map]; omega))
  | "ls" => `(tactic| first | exact sq_tup | exact sq_rl | exact ls_rl | (apply ls_lst; fail "lk") | (apply sq_lst; fail "lk"))
  | "st" => `(tactic| first
  | ((with_reducible apply ix_lst); (· fail "lk"))
  | with_reducible apply ix_tup
  | with_reducible apply ix_str
  | with_reducible apply in_tup
  | with_reducible apply min_ii
  | with_reducible apply max_ii
  | ((with_reducible apply in_lst); (· fail "lk"))
  | ((with_reducible apply in_dic); (· fail "lk"))
  | ((with_reducible apply notIn_dic); (· fail "lk"))
  | ((with_reducible apply notIn_lst); (· fail "lk"))
  | with_reducible apply ix_rl
  | ((with_reducible apply ix_dic); (· fail "lk"))
  | ((with_reducible apply app_lst); (· fail "lk"))
  | ((with_reducible apply len_lst); (· fail "lk"))
  | with_reducible apply len_tup
  | with_reducible apply len_rl
  | with_reducible apply len_str
  | ((with_reducible apply oIsT_lst); (· fail "lk"))
  | ((with_reducible apply dict_ls); (· fail "ls"))
  | ((with_reducible apply sl_ls); (· fail "ls"))
  | ((with_reducible apply rev_ls); (· fail "ls"))
  | ((with_reducible apply list_sq); (· fail "ls"))
  | ((with_reducible apply list_dic); (· fail "lk"))
  | ((with_reducible apply index_ls); (· fail "ls"))
  | ((with_reducible apply count_ls); (· fail "ls"))
  | ((with_reducible apply fill_dic); (· fail "lk"))
  | ((with_reducible apply max_ls); (· fail "ls"))
  | ((with_reducible apply sortK_ls); (· fail "ls"))
  | ((with_reducible apply sum_ls); (· fail "ls"))
  | ((with_reducible apply sorted_ls); (· fail "ls"))
  | ((with_reducible apply sortI_ls); (· fail "ls"))
  | ((with_reducible apply sortD_ls); (· fail "ls"))
  | ((with_reducible apply sortD_dic); (· fail "lk"))
  | ((with_reducible apply oIsT_dic); (· fail "lk"))
  | ((with_reducible apply walkD_lst); (· fail "lk"))
  | ((with_reducible apply walkD_dic); (· fail "lk"))
  | ((with_reducible apply walkI_dic); (· fail "lk"))
  | with_reducible apply walkD_tup
  | with_reducible apply walkD_rl
  | ((with_reducible apply walkL_lst); (· fail "lk"))
  | with_reducible apply walkL_rl
  | ((with_reducible apply mul_lst); (· fail "lk"))
  | ((with_reducible apply min_ls); (· fail "ls"))
  | ((with_reducible apply oAdd_lst); (· fail "lk"); (· fail "lk"))
  | ((with_reducible apply put_lst); (· fail "lk"))
  | ((with_reducible apply put_dic); (· fail "lk"))
  | ((with_reducible apply tru_lst); (· fail "lk"))
  | with_reducible apply oIsT_bl
  | with_reducible apply oIsT_int
  | with_reducible apply oIsT_str
  | with_reducible apply oIsT_tup
  | with_reducible apply oIsT_rl
  | with_reducible apply oIsT_non
  | with_reducible apply sl_tup
  | with_reducible apply sl_str
  | ((with_reducible apply get_dic); (· fail "lk"))
  | ((with_reducible apply get_dic2); (· fail "lk"))
  | ((with_reducible apply setdef_dic); (· fail "lk"))
  | ((with_reducible apply ext_lst); (· fail "lk"); (· fail "lk"))
  | ((with_reducible apply pop_lst); (· fail "lk"))
  | ((with_reducible apply popAt_lst); (· fail "lk"))
  | ((with_reducible apply ins_lst); (· fail "lk"))
  | ((with_reducible apply clr_lst); (· fail "lk"))
  | ((with_reducible apply clr_dic); (· fail "lk"))
  | ((with_reducible apply join_sq); (· fail "ls"))
  | ((with_reducible apply oEq_sst); (· with_reducible rfl))
  | ((with_reducible apply oEq_ssf); (· first | assumption | decide))
  | ((with_reducible apply oNe_sst); (· with_reducible rfl))
  | ((with_reducible apply oNe_ssf); (· first | assumption | decide))
  | ((with_reducible apply oEq_iit); (· with_reducible rfl))
  | ((with_reducible apply oEq_iif); (· first | assumption | decide))
  | ((with_reducible apply oNe_iit); (· with_reducible rfl))
  | ((with_reducible apply oNe_iif); (· first | assumption | decide))
  | refine Exists.intro _ (And.intro (rfl : atI _ _ = some _) ?_)
  | refine Exists.intro _ (And.intro (rfl : ixN _ _ = some _) ?_)
  | ((with_reducible refine And.intro ?_ ?_); (· fail "sd")))
  | _ => Lean.Macro.throwUnsupported
local macro_rules | `(tactic| nofun) => `(tactic| fail "ne")
local macro_rules | `(tactic| bv_omega) => `(tactic| fail "lk")
local macro_rules | `(tactic| ac_rfl) => `(tactic| fail "sd")
local macro_rules | `(tactic| trivial) => `(tactic| ((conv => whnf); repeat (fail "st"; (conv => whnf))))
/-! ### the map of the last places -/
def ou3 : D → D
  | .tup (o :: _) => o
  | x => x
def rk3 : D → List Int
  | .tup [_, _, .tup [.int a, .int b]] => [a, b]
  | _ => []
structure LOk (L : List Pc) : Prop where
  pt : ∀ p ∈ L, Nm p.pt
  ot : ∀ p ∈ L, Ot p.ot
  nm : ∀ p ∈ L, Nm p.nm
  up : L.Pairwise fun x y => [x.k0, x.k1] < [y.k0, y.k1]
  len : L.length ≤ 1000
theorem LOk.inj {L : List Pc} (o : LOk L) {x y : Pc} (hx : x ∈ L) (hy : y ∈ L) (e : [x.k0, x.k1] = [y.k0, y.k1]) : x = y := by
  obtain ⟨i, hi, rfl⟩ := List.getElem_of_mem hx
  obtain ⟨j, hj, rfl⟩ := List.getElem_of_mem hy
  have hp := List.pairwise_iff_getElem.mp o.up
  rcases Nat.lt_trichotomy i j with h | h | h
  · have := hp i j hi hj h
    rw [e] at this
    exact absurd this (List.lt_irrefl _)
  · subst h; rfl
  · have := hp j i hj hi h
    rw [e] at this
    exact absurd this (List.lt_irrefl _)
theorem pl3_at {L : List Pc} {x : D} (h : x ∈ (pl3 L).map (·.1)) : ∃ p ∈ L, p.pt = x ∧ dget (pl3 L) x = some (e3 p).2 := by
  cases e : dget (pl3 L) x with
  | none => exact absurd h (dget_noneP.mp e)
  | some v =>
    obtain ⟨p, hp, e1, rfl⟩ := pl3_get e
    exact ⟨p, hp, e1, rfl⟩
def grL (L : List Pc) (o : LOk L) : Gr where
  K := (pl3 L).map (·.1)
  nd := pl3_nd L
  nx := fun x => (dget (pl3 L) x).map ou3
  dom := fun x => by
    constructor
    · rintro ⟨y, e⟩
      cases h : dget (pl3 L) x with
      | none => rw [h] at e; cases e
      | some v => exact List.mem_map.mpr ⟨_, dget_memP h, rfl⟩
    · intro h
      obtain ⟨p, _, _, e⟩ := pl3_at h
      exact ⟨_, by rw [e]; rfl⟩
  rk := fun x => match dget (pl3 L) x with
    | some v => rk3 v
    | none => []
  inj := fun x hx y hy e => by
    obtain ⟨p, hp, e1, e2⟩ := pl3_at hx
    obtain ⟨q, hq, e3, e4⟩ := pl3_at hy
    simp only [e2, e4] at e
    have := o.inj hp hq e
    rw [← e1, ← e3, this]
theorem grL_pd {L : List Pc} (o : LOk L) : Pd (pl3 L) (grL L o) where
  ks := rfl
  at_ := fun x hx => by
    obtain ⟨p, hp, e1, e2⟩ := pl3_at hx
    refine ⟨p.ot, p.nm, p.k0, p.k1, e2, ?_, ?_, (o.ot p hp).pl⟩
    · show (dget (pl3 L) x).map ou3 = _
      rw [e2]; rfl
    · show (match dget (pl3 L) x with | some v => rk3 v | none => []) = _
      rw [e2]; rfl
  pk := fun x hx => by
    obtain ⟨p, hp, e1, e2⟩ := pl3_at hx
    exact e1 ▸ (o.pt p hp).pl
  nn := fun x hx => by
    obtain ⟨p, hp, e1, e2⟩ := pl3_at hx
    obtain ⟨w, n, e, _⟩ := o.pt p hp
    rw [← e1, e]
    intro z; cases z
  len := Nat.le_trans (pl3_len L) o.len
theorem grL_main {L : List Pc} (o : LOk L) : main0 ∉ (grL L o).K := fun hx => by
  obtain ⟨p, hp, e1, e2⟩ := pl3_at hx
  exact (o.pt p hp).ne e1
theorem opD_get {kvs : List (D × D)} {g : Gr} (P : Pd kvs g) {k : D} (hk : k ∈ g.K) : ∃ y, dget (opD g) k = some y ∧ (g.opG main0).nx k = some y ∧ G.pl 7 y = true ∧ (y = main0 ∨ g.nx k = some y) := by
  classical
  have gen : ∀ (F : D → D) (K : List D), k ∈ K → dget (K.map fun k => (k, F k)) k = some (F k) := by
    intro F K
    induction K with
    | nil => intro h; cases h
    | cons a l ih =>
      intro h
      rw [List.map_cons, dget]
      by_cases e : a = k
      · rw [if_pos e, e]
      · rw [if_neg e]
        exact ih ((List.mem_cons.mp h).resolve_left fun z => e z.symm)
  obtain ⟨o, n, a, b, e1, e2, e3, po⟩ := P.at_ k hk
  refine ⟨_, gen (fun k => (g.op main0 k).getD .non) g.K hk, ?_⟩
  show g.op main0 k = _ ∧ _
  unfold Gr.op
  by_cases c : g.Top k
  · rw [if_pos c]; exact ⟨rfl, rfl, .inl rfl⟩
  · rw [if_neg c, e2]; exact ⟨rfl, po, .inr rfl⟩
namespace Gr
variable {g : Gr}
theorem Pth.it {p h : D} {w : List D} (a : g.Pth p w h) : g.it w.length p = some h := by
  induction a with
  | nil => rfl
  | snoc _ e ih => rw [List.length_append, List.length_singleton, Gr.it, ih]; exact e
theorem Pth.nd {p h : D} {w : List D} (no : ∀ x, ¬ g.On x) (a : g.Pth p w h) : w.Nodup ∧ h ∉ w := by
  induction a with
  | nil => exact ⟨List.nodup_nil, fun h => by cases h⟩
  | @snoc w x y b e ih =>
    refine ⟨?_, fun hy => ?_⟩
    · rw [List.nodup_append]
      exact ⟨ih.1, by simp, fun u hu v hv => by rw [List.mem_singleton] at hv; subst hv; exact fun z => ih.2 (z ▸ hu)⟩
    · exact no y ((b.snoc e).mem y hy).2
end Gr
open Classical in
/-- where each stands -/
noncomputable def stE (g : Gr) (k : D) : D := if (g.opG main0).Rc k main0 then (g.op main0 k).getD .non else .non
noncomputable def FS (g : Gr) : List (D × D) := g.K.map fun k => (k, stE g k)
theorem dput_last : ∀ {M : List (D × D)} {k a v : D}, k ∉ M.map (·.1) → dput (M ++ [(k, a)]) k v = M ++ [(k, v)]
  | [], k, a, v, _ => by rw [List.nil_append, dput, if_pos rfl]; rfl
  | (b, c) :: r, k, a, v, h => by
    rw [List.cons_append, dput, if_neg (fun e => h (by simp [e])), dput_last fun q => h (List.mem_cons_of_mem _ q)]; rfl
/-! ### where parts stand: the program -/
theorem out_lt {g : Gr} {n : Nat} {p e h : D} {w : List D} (en : g.it n p = some e) (he : e ∉ g.K) (a : g.Pth p w h) (hh : h ∈ g.K) : w.length < n := by
  refine Classical.byContradiction fun c => ?_
  have := Gr.it_sub en a.it (by omega)
  have hr := Gr.rc_out he ⟨_, this⟩
  exact he (hr ▸ hh)
theorem stands_in_ok {h : AH} {p a1 : Addr} {kvs : List (D × D)} {L : List Pc} {a b : Int} {Q : KD} (e1 : h p = some (.dic kvs)) (d1 : dget kvs (.str (Str.ofString "places")) = some (.ref a1)) (el : h a1 = some (.lst (L.map encP))) (ok : ∀ p ∈ L, PcOk a b p) (o : LOk L)
    (q : ∀ r h', h r = none → Sb h h' → h' r = some (.dic (FS (grL L o))) → Q (.ref r) h') : f_stands_in [.ref p] h Q := by
  have P := grL_pd o
  have hmain := grL_main o
  unfold f_stands_in
  trivial
  refine places_by_ok e1 d1 el ok o.up o.len fun pd h1 npd s1 epd => ?_
  trivial
  refine outers_of_ok P epd fun od h2 nod s2 eod => ?_
  have s12 := s1.trans s2
  clear epd s1 s2 nod npd
  generalize grL L o = g at P hmain eod q
  have kl := P.klen
  have no := Gr.noround hmain
  trivial
  refine newD_i fun rd nrd => ?_
  trivial
  have nrd0 := s12.nn nrd
  have nor : od ≠ rd := by nofun
  have s3 := s12.upf nrd0 (o := .dic [(main0, .bl true)])
  generalize hH : up (up h2 rd _) rd _ = h3
  have er3 : h3 rd = some (.dic [(main0, .bl true)]) := by rw [← hH]; exact up_same
  have eo3 : h3 od = some (.dic (opD g)) := by rw [← hH]; exact up_at nor (up_at nor eod)
  have s3 : Sb h h3 := by rw [← hH]; exact (s12.upf nrd0).upf nrd0
  clear hH s12 nrd eod
  trivial
  rw [opD_keys]
  refine ⟨fun i ρ h' => i ≤ g.K.length ∧ ∃ x3 x4 x5 x6 rv, ρ = [some (.ref p), some (.ref od), some (.ref rd), x3, x4, x5, x6, none] ∧ h' od = some (.dic (opD g)) ∧ h' rd = some (.dic rv) ∧ main0 ∈ rv.map (·.1) ∧ (∀ k v, dget rv k = some v → v = .bl (@decide ((g.opG main0).Rc k main0) (Classical.propDecidable _))) ∧ (∀ x ∈ g.K.take i, x ∈ rv.map (·.1)) ∧ rv.length ≤ 1 + i * 1000 ∧ Sb h h', ?_, ?_, ?_, ?_⟩
  · refine ⟨Nat.zero_le _, _, _, _, _, [(main0, .bl true)], rfl, eo3, er3, by simp, fun k v ev => ?_, (fun x hx => by cases hx), by simp, s3⟩
    rw [dget] at ev
    split at ev
    · rename_i ek
      cases ev
      rw [@decide_eq_true _ (Classical.propDecidable _) (ek ▸ Gr.Rc.refl _)]
    · cases ev
  · rintro i ρ h' _ ⟨_, x3, x4, x5, x6, rv, _, eo, _⟩
    exact ⟨_, eo, opD_keys g⟩
  · clear er3 eo3 s3
    rintro i ρ h' k ⟨hi, x3, x4, x5, x6, rv, rfl, eo, er, hmr, hv, hall, lrv, sb⟩ hd
    have hk : g.K[i]? = some k := hd
    have hlt := (List.getElem?_eq_some_iff.mp hk).1
    have hm := List.mem_of_getElem? hk
    obtain ⟨N, e, en, he⟩ := Gr.goesOut no k
    trivial
    refine newL_i fun wy nwy => ?_
    have nwo : od ≠ wy := by nofun
    have nwr : rd ≠ wy := by nofun
    trivial
    refine ⟨fun m ρ h4 => ∃ w hh, ρ = [some (.ref p), some (.ref od), some (.ref rd), some k, some (.ref wy), some hh, x6, none] ∧ h4 = up h' wy (.lst w) ∧ (g.opG main0).Pth k w hh ∧ G.pl 7 hh = true ∧ m = N - w.length, ⟨_, [], k, rfl, rfl, .nil, P.pk k hm, rfl⟩, ?_⟩
    rintro m ρ h4 ⟨w, hh, rfl, rfl, pth, ph, rfl⟩
    have ph8 := pl_mono 7 8 _ (by omega) ph
    obtain ⟨wnd, hnw⟩ := pth.nd no
    have hwl := Gr.wlen wnd pth.sub
    rw [Gr.opG_K] at hwl
    have eo4 := up_at (o := .lst w) nwo eo
    have er4 := up_at (o := .lst w) nwr er
    have ew4 : up h' wy (.lst w) wy = some (.lst w) := up_same
    trivial
    rw [opD_keys]
    apply joinP (P := hh ∉ g.K ∨ hh ∈ rv.map (·.1))
    case m =>
      intro go
      refine onT_i (fun e' => ?_) (fun e' => ?_)
      · have hin : hh ∈ g.K := of_decide_eq_true e'
        trivial
        refine onT_nd (fun e' => ?_) (fun e' => ?_)
        · obtain ⟨y, y1, y2, y3, _⟩ := opD_get P hin
          have hlt' := out_lt en he pth hin
          trivial
          refine ⟨by rw [SZ]; omega, ?_⟩
          rw [up_up]
          have eo5 := up_at (o := .lst (w ++ [hh])) nwo eo
          trivial
          refine ⟨_, y1, ?_⟩
          trivial
          apply Pt.of
          refine ⟨_, ?_, w ++ [hh], y, rfl, rfl, pth.snoc y2, y3, rfl⟩
          rw [List.length_append, List.length_singleton]; omega
        · exact (go (.inr e')).un
      · exact (go (.inl (of_decide_eq_false e'))).un
    intro hex
    clear ew4 eo4 er4
    have npk : g.K.length ≤ 1000 := kl
    have nor' : od ≠ rd := nor
    generalize hH : up h' wy (.lst w) = h5
    have eo5 : h5 od = some (.dic (opD g)) := by rw [← hH]; exact up_at nwo eo
    have er5 : h5 rd = some (.dic rv) := by rw [← hH]; exact up_at nwr er
    have ew5 : h5 wy = some (.lst w) := by rw [← hH]; exact up_same
    have s5 : Sb h h5 := by rw [← hH]; exact sb.upf (sb.nn nwy)
    clear hH eo er sb nwy
    trivial
    refine ⟨fun j ρ h' => j ≤ w.length ∧ ∃ x6 rj, ρ = [some (.ref p), some (.ref od), some (.ref rd), some k, some (.ref wy), some hh, x6, none] ∧ h' od = some (.dic (opD g)) ∧ h' rd = some (.dic rj) ∧ h' wy = some (.lst w) ∧ (∀ x, x ∈ rj.map (·.1) ↔ x ∈ rv.map (·.1) ∨ x ∈ w.take j) ∧ (∀ k v, dget rj k = some v → v = .bl (@decide ((g.opG main0).Rc k main0) (Classical.propDecidable _))) ∧ rj.length ≤ 1 + i * 1000 + j ∧ Sb h h', ?_, ?_, ?_, ?_⟩
    · exact ⟨Nat.zero_le _, _, rv, rfl, eo5, er5, ew5, (fun x => by simp), hv, by omega, s5⟩
    · rintro j ρ h' _ ⟨_, x6, rj, _, _, _, ew, _⟩
      exact ew
    · clear eo5 er5 ew5 s5
      rintro j ρ h' one ⟨hj, x6', rj, rfl, eo, er, ew, hkj, hvj, lrj, sb⟩ hd
      have ho : w[j]? = some one := hd
      have hjl := (List.getElem?_eq_some_iff.mp ho).1
      have h1w := List.mem_of_getElem? ho
      have h1m : one ∈ g.K := pth.sub one h1w
      have p8 := pl_mono 7 8 _ (by omega) (P.pk one h1m)
      trivial
      have hval : (dget rj hh).getD (.bl false) = .bl (@decide ((g.opG main0).Rc one main0) (Classical.propDecidable _)) := by
        obtain ⟨_, n, en'⟩ := pth.mem one h1w
        have hl := Gr.lead (g := g.opG main0) (m := main0) hmain ⟨n + 1, en'⟩
        cases ev : dget rj hh with
        | some v =>
          rw [hvj hh v ev]
          show D.bl _ = D.bl _
          congr 1
          exact (@decide_eq_decide _ _ (Classical.propDecidable _) (Classical.propDecidable _)).mpr hl.symm
        | none =>
          have hnk : hh ∉ rv.map (·.1) := fun z => dget_noneP.mp ev ((hkj hh).mpr (.inl z))
          have hnK := hex.resolve_right hnk
          have : ¬ (g.opG main0).Rc one main0 := fun r => by
            have := Gr.rc_out (g := g.opG main0) hnK (hl.mp r)
            exact hnk (this ▸ hmr)
          show D.bl _ = D.bl _
          rw [@decide_eq_false _ (Classical.propDecidable _) this]
      rw [hval]
      trivial
      refine ⟨by rw [SZ]; omega, ?_⟩
      apply Pt.of
      refine ⟨hjl, _, _, rfl, up_at nor eo, up_same, up_at (by nofun) ew, fun x => ?_, fun k' v ev => ?_, ?_, sb.upf nrd0⟩
      · rw [dput_keysP, take_snoc ho, List.mem_append, List.mem_singleton, ← or_assoc, ← hkj x]
        split
        · exact ⟨.inl, fun z => z.elim id fun e => by rw [e]; assumption⟩
        · rw [List.mem_append, List.mem_singleton]
      · rw [dget_put] at ev
        split at ev
        · rename_i ek
          cases ev
          rw [ek]
        · exact hvj k' v ev
      · have := dput_lenP rj one (.bl (@decide ((g.opG main0).Rc one main0) (Classical.propDecidable _)))
        omega
    rintro ρ h6 ⟨_, x6', rj, rfl, eo, er, ew, hkj, hvj, lrj, sb⟩
    rw [show w.take (srcL wy w).ds.length = w from List.take_of_length_le (by simp [srcL])] at hkj
    have hkin : k ∈ rj.map (·.1) := by
      rw [hkj k]
      rcases pth.first with ⟨e1, e2⟩ | h
      · rw [← e2]; exact .inl (hex.resolve_left fun z => z (by rw [e2]; exact hm))
      · refine .inr ?_
        cases w with
        | nil => cases h
        | cons x r => cases h; exact List.mem_cons_self
    have hwl2 : (srcL wy w).ds.length = w.length := by simp [srcL]
    trivial
    apply Pt.of
    refine ⟨hlt, _, _, _, _, rj, rfl, eo, er, (hkj _).mpr (.inl hmr), hvj, fun x hx => ?_, by omega, sb⟩
    rw [take_snoc hk] at hx
    rcases List.mem_append.mp hx with h | h
    · exact (hkj x).mpr (.inl (hall x h))
    · rw [List.mem_singleton] at h; subst h; exact hkin
  rintro ρ h4 ⟨_, x3, x4, x5, x6, rv, rfl, eo, er, hmr, hv, hall, lrv, sb⟩
  rw [show g.K.take (srcK od g.K).ds.length = g.K from List.take_of_length_le (by simp [srcK])] at hall
  clear er3 eo3 s3
  trivial
  refine newD_i fun fd nfd => ?_
  trivial
  have nfd0 := sb.nn nfd
  have nfo : od ≠ fd := by nofun
  have nfr : rd ≠ fd := by nofun
  rw [opD_keys]
  refine ⟨fun i ρ h' => i ≤ g.K.length ∧ ∃ x3, ρ = [some (.ref p), some (.ref od), some (.ref rd), x3, x4, x5, x6, some (.ref fd)] ∧ h' od = some (.dic (opD g)) ∧ h' rd = some (.dic rv) ∧ h' fd = some (.dic ((g.K.take i).map fun k => (k, stE g k))) ∧ Sb h h', ?_, ?_, ?_, ?_⟩
  · exact ⟨Nat.zero_le _, _, rfl, up_at nfo eo, up_at nfr er, up_same, sb.upf nfd0⟩
  · rintro i ρ h' _ ⟨_, x3, _, eo, _⟩
    exact ⟨_, eo, opD_keys g⟩
  · clear eo er sb
    rintro i ρ h' k ⟨hi, x3, rfl, eo, er, ef, sb⟩ hd
    have hk : g.K[i]? = some k := hd
    have hlt := (List.getElem?_eq_some_iff.mp hk).1
    have hm := List.mem_of_getElem? hk
    have p8 := pl_mono 7 8 _ (by omega) (P.pk k hm)
    have hkt : k ∉ ((g.K.take i).map fun k => (k, stE g k)).map (·.1) := by
      have nd := g.nd
      rw [← List.take_append_drop (i + 1) g.K, take_snoc hk, List.nodup_append] at nd
      have nd := nd.1
      rw [List.nodup_append] at nd
      rw [List.map_map, show ((fun p : D × D => p.1) ∘ fun k => (k, stE g k)) = id from rfl, List.map_id]
      exact fun z => nd.2.2 k z k (by simp) rfl
    have hlm : ((g.K.take i).map fun k => (k, stE g k)).length = i := by rw [List.length_map, List.length_take]; omega
    trivial
    refine ⟨by rw [hlm, SZ]; omega, ?_⟩
    rw [dput_new hkt]
    generalize hH : up h' fd _ = h5
    have eo5 : h5 od = some (.dic (opD g)) := by rw [← hH]; exact up_at nfo eo
    have er5 : h5 rd = some (.dic rv) := by rw [← hH]; exact up_at nfr er
    have ef5 : h5 fd = some (.dic (((g.K.take i).map fun k => (k, stE g k)) ++ [(k, .non)])) := by rw [← hH]; exact up_same
    have s5 : Sb h h5 := by rw [← hH]; exact sb.upf nfd0
    clear hH eo er sb ef
    obtain ⟨v, ev⟩ : ∃ v, dget rv k = some v := by
      cases ev : dget rv k with
      | none => exact absurd (hall k (by rw [List.mem_iff_getElem?]; exact ⟨i, hk⟩)) (dget_noneP.mp ev)
      | some v => exact ⟨v, rfl⟩
    have evv := hv k v ev
    subst evv
    trivial
    refine ⟨_, ev, ?_⟩
    trivial
    refine onT_i (fun e => ?_) (fun e => ?_)
    · have hr := @of_decide_eq_true _ (Classical.propDecidable _) e
      obtain ⟨y, y1, y2, y3, y4⟩ := opD_get P hm
      trivial
      refine ⟨_, y1, ?_⟩
      trivial
      refine ⟨by rw [List.length_append, hlm, List.length_singleton, SZ]; omega, ?_⟩
      apply Pt.of
      refine ⟨hlt, _, rfl, up_at nfo eo5, up_at nfr er5, ?_, s5.upf nfd0⟩
      rw [up_same, dput_last hkt, take_snoc hk, List.map_append, List.map_singleton]
      unfold stE
      rw [if_pos hr]
      show some (O.dic (_ ++ [(k, y)])) = _
      have : g.op main0 k = some y := y2
      rw [this]; rfl
    · have hr := @of_decide_eq_false _ (Classical.propDecidable _) e
      trivial
      apply Pt.of
      refine ⟨hlt, _, rfl, eo5, er5, ?_, s5⟩
      rw [ef5, take_snoc hk, List.map_append, List.map_singleton]
      unfold stE
      rw [if_neg hr]
  · rintro ρ h5 ⟨_, x3', rfl, eo, er, ef, sb⟩
    rw [show g.K.take (srcK od g.K).ds.length = g.K from List.take_of_length_le (by simp [srcK])] at ef
    trivial
    apply Pt.of
    exact q fd h5 nfd0 sb ef
/-! ### where parts stand: the law -/
theorem l_outers_ok {h : AH} {p a1 : Addr} {kvs : List (D × D)} {L : List Pc} {a b : Int} {Q : KD} (e1 : h p = some (.dic kvs)) (d1 : dget kvs (.str (Str.ofString "places")) = some (.ref a1)) (el : h a1 = some (.lst (L.map encP))) (ok : ∀ p ∈ L, PcOk a b p) (lL : L.length ≤ 1000)
    (q : ∀ r h', h r = none → Sb h h' → h' r = some (.dic (pl3 L)) → Q (.ref r) h') : f_l_outers [.ref p] h Q := by
  unfold f_l_outers
  trivial
  refine newD_i fun r nr => ?_
  trivial
  refine ⟨_, d1, ?_⟩
  trivial
  refine ⟨fun i ρ h' => i ≤ L.length ∧ ∃ x2 x3 x4 x5, ρ = [some (.ref p), some (.ref r), x2, x3, x4, x5] ∧ h' r = some (.dic (pl3 (L.take i))) ∧ Sb h h', ?_, ?_, ?_, ?_⟩
  · exact ⟨Nat.zero_le _, _, _, _, _, rfl, up_same, (Sb.refl h).upf' nr⟩
  · rintro i ρ h' _ ⟨_, x2, x3, x4, x5, _, _, sb⟩
    exact sb _ _ el
  · rintro i ρ h' d ⟨hi, x2, x3, x4, x5, rfl, er, sb⟩ hd
    obtain ⟨x, hx, rfl⟩ := get_map hd
    have hlt := (List.getElem?_eq_some_iff.mp hx).1
    have o := ok x (List.mem_of_getElem? hx)
    have p8 := pl_mono 7 8 _ (by omega) o.pt.pl
    have hlen := pl3_len (L.take i)
    rw [List.length_take] at hlen
    trivial
    refine ⟨by rw [SZ]; omega, ?_⟩
    apply Pt.of
    refine ⟨hlt, _, _, _, _, rfl, ?_, sb.upf nr⟩
    rw [take_snoc hx, pl3_snoc]
    exact up_same
  · rintro ρ h' ⟨_, x2, x3, x4, x5, rfl, er, sb⟩
    rw [show L.take (srcL a1 (L.map encP)).ds.length = L from List.take_of_length_le (by simp [srcL])] at er
    trivial
    apply Pt.of
    exact q r h' nr sb er
theorem dlt_ints : ∀ a b : List Int, dltL (a.map .int) (b.map .int) = decide (a < b)
  | [], [] => by simp [dltL]
  | [], _ :: _ => by simp [dltL]
  | _ :: _, [] => by simp [dltL]
  | x :: a, y :: b => by
    simp only [List.map_cons, dltL, dlt, dlt_ints a b]
    rw [show decide (D.int x = D.int y) = decide (x = y) by simp, Bool.eq_iff_iff]
    simp [List.cons_lt_cons_iff]
def kyL (l : List Int) : D := .tup (l.map .int)
theorem dmax_rk (f : D → List Int) : ∀ (ls : List D) (l : D), ∃ t, dmax (kyL (f l)) (ls.map fun x => kyL (f x)) = kyL (f t) ∧ t ∈ l :: ls ∧ ∀ x ∈ l :: ls, ¬ f t < f x
  | [], l => ⟨l, rfl, by simp, fun x hx => by simp at hx; rw [hx]; exact List.lt_irrefl _⟩
  | m :: ls, l => by
    have e : dlt (kyL (f l)) (kyL (f m)) = decide (f l < f m) := by unfold kyL; rw [dlt]; exact dlt_ints _ _
    obtain ⟨t, h1, h2, h3⟩ := dmax_rk f ls (if f l < f m then m else l)
    refine ⟨t, ?_, ?_, fun x hx q => ?_⟩
    · show dmax (if dlt (kyL (f l)) (kyL (f m)) = true then kyL (f m) else kyL (f l)) _ = _
      rw [← h1, e]
      by_cases h : f l < f m
      · rw [if_pos h, decide_eq_true h]; rfl
      · rw [if_neg h, decide_eq_false h]; rfl
    · rcases List.mem_cons.mp h2 with h | h
      · rw [h]; split <;> simp
      · exact List.mem_cons_of_mem _ (List.mem_cons_of_mem _ h)
    · have hb := h3 (if f l < f m then m else l) (by simp)
      by_cases hlm : f l < f m
      · rw [if_pos hlm] at hb h3
        rcases List.mem_cons.mp hx with h | h
        · rw [h] at q; exact hb (List.lt_trans q hlm)
        · exact h3 x h q
      · rw [if_neg hlm] at hb h3
        rcases List.mem_cons.mp hx with h | h
        · rw [h] at q; exact hb q
        · rcases List.mem_cons.mp h with h | h
          · rw [h] at q
            exact hlm (Classical.byContradiction fun _ => by
              have h4 := List.not_lt.mp hb
              have h5 := List.not_lt.mp hlm
              exact List.not_lt.mpr (List.le_trans h5 h4) q)
          · exact h3 x (List.mem_cons_of_mem _ h) q
theorem opO_ext {g : Gr} {O O' : D → Prop} (h : ∀ x ∈ g.K, O x ↔ O' x) : opO g O = opO g O' := by
  classical
  unfold opO
  refine List.map_congr_left fun k hk => ?_
  by_cases c : O k
  · rw [if_pos c, if_pos ((h k hk).mp c)]
  · rw [if_neg c, if_neg fun z => c ((h k hk).mpr z)]
theorem take_nin {g : Gr} {i : Nat} {k : D} (hk : g.K[i]? = some k) : k ∉ g.K.take i := by
  have nd := g.nd
  rw [← List.take_append_drop (i + 1) g.K, take_snoc hk, List.nodup_append] at nd
  have nd := nd.1
  rw [List.nodup_append] at nd
  exact fun z => nd.2.2 k z k (by simp) rfl
theorem l_stands_ok {h : AH} {p a1 : Addr} {kvs : List (D × D)} {L : List Pc} {a b : Int} {Q : KD} (e1 : h p = some (.dic kvs)) (d1 : dget kvs (.str (Str.ofString "places")) = some (.ref a1)) (el : h a1 = some (.lst (L.map encP))) (ok : ∀ p ∈ L, PcOk a b p) (o : LOk L)
    (q : ∀ r h', h r = none → Sb h h' → h' r = some (.dic (FS (grL L o))) → Q (.ref r) h') : f_l_stands [.ref p] h Q := by
  have P := grL_pd o
  have hmain := grL_main o
  unfold f_l_stands
  trivial
  refine l_outers_ok e1 d1 el ok o.len fun od h1 nod s1 eod => ?_
  generalize grL L o = g at P hmain q
  generalize pl3 L = ps at P eod
  have kl := P.klen
  have no := Gr.noround hmain
  trivial
  refine newD_i fun td ntd => ?_
  trivial
  have nto : od ≠ td := by nofun
  have ntd0 := s1.nn ntd
  have eo2 := up_at (o := .dic []) nto eod
  have s2 := s1.upf ntd0 (o := .dic [])
  have et2 : up h1 td (.dic []) td = some (.dic []) := up_same
  generalize up h1 td (.dic []) = h2 at eo2 s2 et2 ⊢
  clear s1 eod ntd nod
  trivial
  rw [P.ks]
  refine ⟨fun i ρ h' => i ≤ g.K.length ∧ ∃ x3, ρ = [some (.ref p), some (.ref od), some (.ref td), x3, none, none, none, none, none] ∧ h' od = some (.dic ps) ∧ h' td = some (.dic ((opO g fun _ => False).take i)) ∧ Sb h h', ?_, ?_, ?_, ?_⟩
  · exact ⟨Nat.zero_le _, _, rfl, eo2, et2, s2⟩
  · rintro i ρ h' _ ⟨_, x3, _, eo, _⟩
    exact ⟨_, eo, P.ks⟩
  · clear eo2 et2 s2
    rintro i ρ h' k ⟨hi, x3, rfl, eo, et, sb⟩ hd
    have hk : g.K[i]? = some k := hd
    have hlt := (List.getElem?_eq_some_iff.mp hk).1
    have hm := List.mem_of_getElem? hk
    have p8 := pl_mono 7 8 _ (by omega) (P.pk k hm)
    obtain ⟨ot, n', a', b', e1', e2', e3', po⟩ := P.at_ k hm
    have hkt := take_nin hk
    have hlo : (opO g fun _ => False).length = g.K.length := by unfold opO; rw [List.length_map]
    trivial
    refine ⟨_, e1', ?_⟩
    trivial
    refine ⟨by rw [List.length_take, SZ]; omega, ?_⟩
    apply Pt.of
    refine ⟨hlt, _, rfl, up_at nto eo, ?_, sb.upf ntd0⟩
    have hx : (opO g fun _ => False)[i]? = some (k, ot) := by
      unfold opO
      rw [List.getElem?_map, hk]
      show some (k, _) = _
      rw [if_neg id, e2']; rfl
    rw [up_same, dput_new, take_snoc hx]
    intro z
    rw [List.map_take, opO_keys] at z
    exact hkt z
  rintro ρ h3 ⟨_, x3, rfl, eo, et, sb⟩
  rw [show (srcK od g.K).ds.length = g.K.length by simp [srcK], List.take_of_length_le (by unfold opO; rw [List.length_map]; exact Nat.le_refl _)] at et
  clear eo2 et2 s2
  trivial
  rw [P.ks]
  refine ⟨fun i ρ h' => i ≤ g.K.length ∧ ∃ x3 x4 x5 x6, ρ = [some (.ref p), some (.ref od), some (.ref td), x3, x4, x5, x6, none, none] ∧ h' od = some (.dic ps) ∧ h' td = some (.dic (opO g fun x => x ∈ g.K.take i ∧ g.Top x)) ∧ Sb h h', ?_, ?_, ?_, ?_⟩
  · refine ⟨Nat.zero_le _, _, _, _, _, rfl, eo, ?_, sb⟩
    rw [et, opO_ext fun x _ => ?_]
    exact ⟨fun z => z.elim, fun z => by cases z.1⟩
  · rintro i ρ h' _ ⟨_, x3, x4, x5, x6, _, eo, _⟩
    exact ⟨_, eo, P.ks⟩
  · clear eo et sb
    rintro i ρ h' k ⟨hi, x3, x4, x5, x6, rfl, eo, et, sb⟩ hd
    have hk : g.K[i]? = some k := hd
    have hlt := (List.getElem?_eq_some_iff.mp hk).1
    have hm := List.mem_of_getElem? hk
    have pk7 := P.pk k hm
    have p8 := pl_mono 7 8 _ (by omega) pk7
    trivial
    refine newL_i fun wy nwy => ?_
    have nwo : od ≠ wy := by nofun
    have nwt : td ≠ wy := by nofun
    trivial
    refine ⟨fun m ρ h4 => ∃ w hh, ρ = [some (.ref p), some (.ref od), some (.ref td), some k, some (.ref wy), some hh, x6, none, none] ∧ h4 = up h' wy (.lst w) ∧ g.Pth k w hh ∧ w.Nodup ∧ G.pl 7 hh = true ∧ m = g.K.length - w.length, ⟨_, [], k, rfl, rfl, .nil, List.nodup_nil, pk7, rfl⟩, ?_⟩
    rintro m ρ h4 ⟨w, hh, rfl, rfl, pth, wnd, ph, rfl⟩
    have ph8 := pl_mono 7 8 _ (by omega) ph
    have hwl := Gr.wlen wnd pth.sub
    have eo4 := up_at (o := .lst w) nwo eo
    have et4 := up_at (o := .lst w) nwt et
    have ew4 : up h' wy (.lst w) wy = some (.lst w) := up_same
    trivial
    rw [P.ks]
    apply joinP (P := hh ∉ g.K ∨ hh ∈ w)
    case m =>
      intro go
      refine onT_i (fun e' => ?_) (fun e' => ?_)
      · have hin : hh ∈ g.K := of_decide_eq_true e'
        trivial
        refine ⟨_, _, .pl ph8, PvL.pl (m := 7) (plL_iff.mpr fun x hx => P.pk x (pth.sub x hx)) (by omega), ?_⟩
        trivial
        refine onT_nd (fun e' => ?_) (fun e' => ?_)
        · obtain ⟨ot, n', a', b', y1, y2, y3, y4⟩ := P.at_ hh hin
          have wnd' : (w ++ [hh]).Nodup := by
            rw [List.nodup_append]
            exact ⟨wnd, by simp, fun x hx y hy z => e' (by rw [List.mem_singleton] at hy; rw [← hy, ← z]; exact hx)⟩
          have hwl' := Gr.wlen wnd' (pth.snoc y2).sub
          rw [List.length_append, List.length_singleton] at hwl'
          trivial
          refine ⟨by rw [SZ]; omega, ?_⟩
          rw [up_up]
          have eo5 := up_at (o := .lst (w ++ [hh])) nwo eo
          trivial
          refine ⟨_, y1, ?_⟩
          trivial
          apply Pt.of
          refine ⟨_, ?_, w ++ [hh], ot, rfl, rfl, pth.snoc y2, wnd', y4, rfl⟩
          rw [List.length_append, List.length_singleton]; omega
        · exact (go (.inr e')).un
      · exact (go (.inl (of_decide_eq_false e'))).un
    intro hex
    clear ew4 eo4 et4
    generalize hH : up h' wy (.lst w) = h5
    have eo4 : h5 od = some (.dic ps) := by rw [← hH]; exact up_at nwo eo
    have et4 : h5 td = some (.dic (opO g fun x => x ∈ g.K.take i ∧ g.Top x)) := by rw [← hH]; exact up_at nwt et
    have ew4 : h5 wy = some (.lst w) := by rw [← hH]; exact up_same
    have s5 : Sb h h5 := by rw [← hH]; exact sb.upf (sb.nn nwy)
    clear hH eo et sb nwy
    trivial
    intro ks nks
    refine ⟨fun j acc h' => j ≤ w.length ∧ acc = (w.take j).map (fun x => kyL (g.rk x)) ∧ h' ks = some (.lst acc) ∧ h' wy = some (.lst w) ∧ h' od = some (.dic ps) ∧ h' td = some (.dic (opO g fun x => x ∈ g.K.take i ∧ g.Top x)) ∧ Sb h h', ?_, ?_, ?_, ?_⟩
    · exact ⟨Nat.zero_le _, rfl, up_same, up_at (by nofun) ew4, up_at (by nofun) eo4, up_at (by nofun) et4, s5.upf (s5.nn nks)⟩
    · rintro j acc h' _ ⟨_, _, ek, ew, _⟩
      exact ⟨ew, ek⟩
    · have nks0 := s5.nn nks
      have n1 : wy ≠ ks := by nofun
      have n2 : od ≠ ks := by nofun
      have n3 : td ≠ ks := by nofun
      clear eo4 et4 ew4 s5 nks
      rintro j acc h' d ⟨hj, rfl, ek, ew, eo, et, sb⟩ hd
      have ho : w[j]? = some d := hd
      have hjl := (List.getElem?_eq_some_iff.mp ho).1
      have h1m : d ∈ g.K := pth.sub d (List.mem_of_getElem? ho)
      obtain ⟨ot, n', a', b', y1, y2, y3, y4⟩ := P.at_ d h1m
      have q8 := pl_mono 7 8 _ (by omega) (P.pk d h1m)
      trivial
      refine ⟨_, y1, ?_⟩
      trivial
      refine ⟨by rw [List.length_map, List.length_take, SZ]; omega, ek, ?_⟩
      apply Pt.of
      refine ⟨hjl, ?_, up_same, up_at n1 ew, up_at n2 eo, up_at n3 et, sb.upf nks0⟩
      rw [take_snoc ho, List.map_append, List.map_singleton]
      unfold kyL
      rw [y3]; rfl
    rintro acc h6 ⟨_, rfl, ek, ew, eo, et, sb⟩
    rw [show w.take (srcL wy w).ds.length = w from List.take_of_length_le (by simp [srcL])] at ek
    clear eo4 et4 ew4 s5 nks
    trivial
    refine oEq_pv (.pl ph) (.pl pk7) ?_
    trivial
    have fin : ∀ O : D → Prop, (∀ x ∈ g.K, O x ↔ x ∈ g.K.take (i + 1) ∧ g.Top x) → opO g O = opO g fun x => x ∈ g.K.take (i + 1) ∧ g.Top x := fun O hO => opO_ext hO
    have stay : (∀ x, x = k → ¬ g.Top x) → ∀ x ∈ g.K, (x ∈ g.K.take i ∧ g.Top x) ↔ x ∈ g.K.take (i + 1) ∧ g.Top x := fun hn x _ => by
      rw [take_snoc hk, List.mem_append, List.mem_singleton]
      exact ⟨fun z => ⟨.inl z.1, z.2⟩, fun z => ⟨z.1.resolve_right fun w => hn x w z.2, z.2⟩⟩
    have tp := pth.top wnd hm hex
    refine onT_d (fun e' => ?_) (fun e' => ?_)
    · have hw0 := hex.resolve_left (e' ▸ fun z => z hm)
      obtain ⟨r, er⟩ : ∃ r, w = k :: r := by
        rcases pth.first with ⟨z, _⟩ | z
        · rw [z] at hw0; cases hw0
        · cases w with
          | nil => cases z
          | cons x r => cases z; exact ⟨r, rfl⟩
      rw [er, List.map_cons] at ek
      obtain ⟨t, t1, t2, t3⟩ := dmax_rk g.rk r k
      rw [← er] at t2 t3
      have rkw : ∀ x ∈ w, ∃ a b, g.rk x = [a, b] := fun x hx => by
        obtain ⟨ot, n', a', b', y1, y2, y3, y4⟩ := P.at_ x (pth.sub x hx)
        exact ⟨a', b', y3⟩
      obtain ⟨ot, n', a', b', y1, y2, y3, y4⟩ := P.at_ k hm
      obtain ⟨ta, tb, t4⟩ := rkw t t2
      have all : ∀ x ∈ kyL (g.rk k) :: r.map (fun x => kyL (g.rk x)), ∃ l, x = kyL l ∧ ∃ a b, l = [a, b] := fun x hx => by
        rw [show kyL (g.rk k) :: r.map (fun x => kyL (g.rk x)) = w.map (fun x => kyL (g.rk x)) by rw [er]; rfl] at hx
        obtain ⟨y, hy, rfl⟩ := List.mem_map.mp hx
        exact ⟨_, rfl, rkw y hy⟩
      trivial
      refine ⟨⟨fun x hx y hy => ?_, fun x hx => ?_⟩, ?_⟩
      · obtain ⟨_, rfl, a, b, rfl⟩ := all x hx
        obtain ⟨_, rfl, a, b, rfl⟩ := all y hy
        rfl
      · obtain ⟨_, rfl, a, b, rfl⟩ := all x hx
        exact ⟨rfl, fun z => by cases z⟩
      rw [t1, t4]
      trivial
      refine ⟨_, y1, ?_⟩
      trivial
      refine oEq_pv (.pl (n := 2) rfl) (.pl (n := 2) rfl) ?_
      trivial
      have hiff : kyL [ta, tb] = D.tup [.int a', .int b'] ↔ g.Top k := by
        rw [tp]
        constructor
        · intro z
          have hr : g.rk t = g.rk k := by
            rw [t4, y3]
            unfold kyL at z
            simp only [List.map_cons, List.map_nil, D.tup.injEq, List.cons.injEq, D.int.injEq, and_true] at z
            rw [z.1, z.2]
          exact ⟨e', fun z hz => hr ▸ t3 z (er ▸ hz)⟩
        · rintro ⟨_, hx⟩
          have hr : g.rk t = g.rk k := List.le_antisymm (List.not_lt.mp (hx t t2)) (List.not_lt.mp (t3 k (by rw [er]; exact List.mem_cons_self)))
          have hr2 : [ta, tb] = [a', b'] := by rw [← t4, ← y3, hr]
          rw [hr2]; rfl
      refine onT_d (fun e2 => ?_) (fun e2 => ?_)
      · have lo : (opO g fun x => x ∈ g.K.take i ∧ g.Top x).length = g.K.length := by unfold opO; rw [List.length_map]
        trivial
        refine ⟨by rw [lo, SZ]; omega, ?_⟩
        apply Pt.of
        refine ⟨hlt, _, _, _, _, rfl, up_at nto eo, ?_, sb.upf ntd0⟩
        rw [up_same]
        show some (O.dic (dput _ k main0)) = _
        rw [opO_put hm]
        rw [fin _ fun x hx => ?_]
        rw [take_snoc hk, List.mem_append, List.mem_singleton]
        constructor
        · rintro (z | z)
          · exact ⟨.inl z.1, z.2⟩
          · exact ⟨.inr z, z ▸ hiff.mp e2⟩
        · rintro ⟨z | z, t⟩
          · exact .inl ⟨z, t⟩
          · exact .inr z
      · trivial
        apply Pt.of
        refine ⟨hlt, _, _, _, _, rfl, eo, ?_, sb⟩
        rw [et, fin _ (stay fun x z t => e2 (hiff.mpr (z ▸ t)))]
    · trivial
      apply Pt.of
      refine ⟨hlt, _, _, _, _, rfl, eo, ?_, sb⟩
      rw [et, fin _ (stay fun x z t => e' (tp.mp (z ▸ t)).1)]
  clear eo et sb
  rintro ρ h4 ⟨_, x3, x4, x5, x6, rfl, eo, et, sb⟩
  rw [show (srcK od g.K).ds.length = g.K.length by simp [srcK], opO_top (fun x => (and_iff_right_of_imp fun t => by rw [List.take_length]; exact t.1.mem))] at et
  clear eo
  trivial
  refine newD_i fun fd nfd => ?_
  trivial
  have nfd0 := sb.nn nfd
  have nft : td ≠ fd := by nofun
  rw [opD_keys]
  refine ⟨fun i ρ h' => i ≤ g.K.length ∧ ∃ x3 x5, ρ = [some (.ref p), some (.ref od), some (.ref td), x3, x4, x5, x6, some (.ref fd), none] ∧ h' td = some (.dic (opD g)) ∧ h' fd = some (.dic ((g.K.take i).map fun k => (k, stE g k))) ∧ Sb h h', ?_, ?_, ?_, ?_⟩
  · exact ⟨Nat.zero_le _, _, _, rfl, up_at nft et, up_same, sb.upf nfd0⟩
  · rintro i ρ h' _ ⟨_, x3, x5, _, et, _⟩
    exact ⟨_, et, opD_keys g⟩
  · clear et sb
    rintro i ρ h' k ⟨hi, x3, x5, rfl, et, ef, sb⟩ hd
    have hk : g.K[i]? = some k := hd
    have hlt := (List.getElem?_eq_some_iff.mp hk).1
    have hm := List.mem_of_getElem? hk
    have pk7 := P.pk k hm
    have p8 := pl_mono 7 8 _ (by omega) pk7
    have hkt : k ∉ ((g.K.take i).map fun k => (k, stE g k)).map (·.1) := by
      rw [List.map_map, show ((fun p : D × D => p.1) ∘ fun k => (k, stE g k)) = id from rfl, List.map_id]
      exact take_nin hk
    have hlm : ((g.K.take i).map fun k => (k, stE g k)).length = i := by rw [List.length_map, List.length_take]; omega
    obtain ⟨N, e, en, he⟩ := Gr.goesOut no k
    trivial
    refine ⟨fun m ρ h4 => ∃ w hh, ρ = [some (.ref p), some (.ref od), some (.ref td), some k, x4, some hh, x6, some (.ref fd), none] ∧ h4 = h' ∧ (g.opG main0).Pth k w hh ∧ G.pl 7 hh = true ∧ m = N - w.length, ⟨_, [], k, rfl, rfl, .nil, pk7, rfl⟩, ?_⟩
    rintro m ρ h4 ⟨w, hh, rfl, rfl, pth, ph, rfl⟩
    have ph8 := pl_mono 7 8 _ (by omega) ph
    trivial
    rw [opD_keys]
    refine onT_i (fun e' => ?_) (fun e' => ?_)
    · have hin : hh ∈ g.K := of_decide_eq_true e'
      obtain ⟨y, y1, y2, y3, _⟩ := opD_get P hin
      have hlt' := out_lt en he pth hin
      trivial
      refine ⟨_, y1, ?_⟩
      trivial
      apply Pt.of
      refine ⟨_, ?_, w ++ [hh], y, rfl, rfl, pth.snoc y2, y3, rfl⟩
      rw [List.length_append, List.length_singleton]; omega
    · have hout : hh ∉ g.K := of_decide_eq_false e'
      trivial
      refine ⟨by rw [hlm, SZ]; omega, ?_⟩
      rw [dput_new hkt]
      have et5 := up_at (o := .dic (((g.K.take i).map fun k => (k, stE g k)) ++ [(k, .non)])) nft et
      have ef5 : up h4 fd (.dic (((g.K.take i).map fun k => (k, stE g k)) ++ [(k, .non)])) fd = _ := up_same
      have s5 := sb.upf nfd0 (o := .dic (((g.K.take i).map fun k => (k, stE g k)) ++ [(k, .non)]))
      generalize up h4 fd _ = h5 at et5 ef5 s5 ⊢
      clear et sb ef
      trivial
      refine oEq_pv (.pl ph) (.pl (n := 2) rfl) ?_
      trivial
      have hiff : hh = main0 ↔ (g.opG main0).Rc k main0 := by
        constructor
        · rintro rfl; exact pth.rc
        · exact fun z => Gr.out_one pth.rc z hout hmain
      refine onT_d (fun e2 => ?_) (fun e2 => ?_)
      · have hr := hiff.mp e2
        obtain ⟨y, y1, y2, y3, y4⟩ := opD_get P hm
        trivial
        refine ⟨_, y1, ?_⟩
        trivial
        refine ⟨by rw [List.length_append, hlm, List.length_singleton, SZ]; omega, ?_⟩
        apply Pt.of
        refine ⟨hlt, _, _, rfl, up_at nft et5, ?_, s5.upf nfd0⟩
        rw [up_same, dput_last hkt, take_snoc hk, List.map_append, List.map_singleton]
        unfold stE
        rw [if_pos hr]
        show some (O.dic (_ ++ [(k, y)])) = _
        have : g.op main0 k = some y := y2
        rw [this]; rfl
      · have hr := fun z => e2 (hiff.mpr z)
        trivial
        apply Pt.of
        refine ⟨hlt, _, _, rfl, et5, ?_, s5⟩
        rw [ef5, take_snoc hk, List.map_append, List.map_singleton]
        unfold stE
        rw [if_neg hr]
  · rintro ρ h5 ⟨_, x3', x5', rfl, et, ef, sb⟩
    rw [show g.K.take (srcK td g.K).ds.length = g.K from List.take_of_length_le (by simp [srcK])] at ef
    trivial
    apply Pt.of
    exact q fd h5 nfd0 sb ef
/-! ### facts of parts: kept -/
theorem fcT_dv {h : AH} {e : Addr} {B : Nat → Addr} {X : Nat → List D} (e1 : h e = some (.lst (fcT 9 B))) (e2 : ∀ i, i < 9 → h (B i) = some (.lst (X i))) (dx : ∀ i, i < 9 → datL 8 (X i) = true) : Dv h 12 (.ref e) (.rl ((List.range 9).map fun i => .tup [fkey i, .rl (X i)])) := by
  refine .lst e1 ?_
  have gen : ∀ l : List Nat, (∀ i ∈ l, i < 9) → DvL h 11 (l.map fun i => D.tup [fkey i, .ref (B i)]) (l.map fun i => D.tup [fkey i, .rl (X i)]) := by
    intro l
    induction l with
    | nil => intro _; exact .nil
    | cons i l ih =>
      intro hl
      have hi := hl i List.mem_cons_self
      obtain ⟨s, es⟩ := fkey_pl i
      exact .cons (.tup (.cons (by rw [es]; exact .dat (m := 1) rfl) (.cons (.lst (n := 9) (e2 i hi) (.dat (dx i hi) (by omega))) .nil))) (ih fun j hj => hl j (List.mem_cons_of_mem _ hj))
  exact gen (List.range 9) fun i hi => List.mem_range.mp hi
theorem pX_dat {a b : Int} {k : Nat} {B : List (D × D)} {L : List Pc} {C : List (D × D)} (x : PI a b k B L C) : ∀ i, i < 9 → datL 8 (pX B L C i) = true := by
  have two : ∀ {u v : D}, G.pl 7 u = true → G.pl 7 v = true → dat 8 (.tup [u, v]) = true := fun {u v} h1 h2 => by
    have h1 := pl_dat 7 _ h1
    have h2 := pl_dat 7 _ h2
    simp only [dat, datL, h1, h2]
    rfl
  intro i _
  unfold pX
  split
  · exact datL_iff.mpr fun d hd => by
      obtain ⟨y, hy, rfl⟩ := List.mem_map.mp hd
      exact two (x.bs y hy).1.pl (x.bs y hy).2.pl
  · exact datL_iff.mpr fun d hd => by
      obtain ⟨y, hy, rfl⟩ := List.mem_map.mp hd
      have o := x.ls y hy
      have h1 := pl_dat 7 _ o.pt.pl
      have h2 := pl_dat 7 _ o.ot.pl
      have h3 := pl_dat 7 _ o.nm.pl
      have h4 : dat 7 (D.tup [.int y.k0, .int y.k1]) = true := rfl
      simp only [encP, dat, datL, h1, h2, h3, h4]
      rfl
  · exact datL_iff.mpr fun d hd => by
      obtain ⟨y, hy, rfl⟩ := List.mem_map.mp hd
      exact two (x.cs y hy).1.pl (x.cs y hy).2.pl
  · rfl
theorem PI.lok {a b : Int} {k : Nat} {B : List (D × D)} {L : List Pc} {C : List (D × D)} (x : PI a b k B L C) (hk : k ≤ 1000) : LOk L where
  pt := fun p hp => (x.ls p hp).pt
  ot := fun p hp => (x.ls p hp).ot
  nm := fun p hp => (x.ls p hp).nm
  up := x.up
  len := Nat.le_trans x.ll hk
theorem FS_keys (g : Gr) : (FS g).map (·.1) = g.K := by
  unfold FS
  rw [List.map_map]
  exact List.map_id _
theorem FS_nd (g : Gr) : ((FS g).map (·.1)).Nodup := by rw [FS_keys]; exact g.nd
theorem stE_pl {kvs : List (D × D)} {g : Gr} (P : Pd kvs g) {k : D} (hk : k ∈ g.K) : G.pl 7 (stE g k) = true := by
  classical
  obtain ⟨y, _, y2, y3, _⟩ := opD_get P hk
  unfold stE
  split
  · rw [show g.op main0 k = some y from y2]; exact y3
  · rfl
theorem FS_dv {h : AH} {kvs : List (D × D)} {g : Gr} (P : Pd kvs g) : ∀ p ∈ FS g, ∃ z, Dv h 10 p.2 z := fun p hp => by
  obtain ⟨k, hk, rfl⟩ := List.mem_map.mp hp
  exact ⟨_, .dat (m := 7) (pl_dat 7 _ (stE_pl P hk))⟩
theorem FS_nm {L : List Pc} (o : LOk L) : ∀ k ∈ (FS (grL L o)).map (·.1), Nm k := fun k hk => by
  rw [FS_keys] at hk
  obtain ⟨p, hp, e, _⟩ := pl3_at hk
  exact e ▸ o.pt p hp
theorem FS_len {L : List Pc} (o : LOk L) : (FS (grL L o)).length ≤ L.length := by
  have := congrArg List.length (FS_keys (grL L o))
  rw [List.length_map] at this
  rw [this]
  show ((pl3 L).map (·.1)).length ≤ _
  rw [List.length_map]
  exact pl3_len L
end K29
end

section
set_option linter.all false
set_option autoImplicit false
set_option maxRecDepth 100000
set_option maxHeartbeats 4000000
namespace K29
open G
open PySem (Str)
local macro_rules | `(tactic| fail $s:str) => match s.getString with
  | "ne" => `(tactic| first | assumption | (apply Ne.symm; assumption) | exact ne_f1 (by assumption) (by fail "lk") | exact ne_f2 (by assumption) (by fail "lk") | grind [up, Sb])
  | "lk" => `(tactic| first | assumption | exact up_same | (refine up_at ?_ ?_; (· fail "ne"); fail "lk") | (refine Sb.at ?_ ?_; (· assumption); fail "lk"))
  | "sd" => `(tactic| first | (with_reducible show -(2 ^ 62) ≤ (_ : Int); first | omega | (simp only [List.length_map]; omega)) | (with_reducible show (_ : Int) < 2 ^ 62; first | omega | (simp only [List.length_map]; omega)) | assumption | rfl | (apply isT_lst; fail "lk") | (apply isT_dic; fail "lk") | decide | (simp only [List.length_cons, List.length_nil]; decide) | exact mulOk_l (by decide) (by decide) | exact mulOk_r (by decide) (by decide) | exact mulOk_l (by omega) (by omega) | exact mulOk_r (by omega) (by omega) | omega | (simp only [List.length_map]; omega))
  | "ls" => `(tactic| first | exact sq_tup | exact sq_rl | exact ls_rl | (apply ls_lst; fail "lk") | (apply sq_lst; fail "lk"))
  | "st" => `(tactic| first
  | ((with_reducible apply ix_lst); (· fail "lk"))
  | with_reducible apply ix_tup
  | with_reducible apply ix_str
  | with_reducible apply in_tup
  | with_reducible apply min_ii
  | with_reducible apply max_ii
  | ((with_reducible apply in_lst); (· fail "lk"))
  | ((with_reducible apply in_dic); (· fail "lk"))
  | ((with_reducible apply notIn_dic); (· fail "lk"))
  | ((with_reducible apply notIn_lst); (· fail "lk"))
  | with_reducible apply ix_rl
  | ((with_reducible apply ix_dic); (· fail "lk"))
  | ((with_reducible apply app_lst); (· fail "lk"))
  | ((with_reducible apply len_lst); (· fail "lk"))
  | with_reducible apply len_tup
  | with_reducible apply len_rl
  | with_reducible apply len_str
  | ((with_reducible apply oIsT_lst); (· fail "lk"))
  | ((with_reducible apply dict_ls); (· fail "ls"))
  | ((with_reducible apply sl_ls); (· fail "ls"))
  | ((with_reducible apply rev_ls); (· fail "ls"))
  | ((with_reducible apply list_sq); (· fail "ls"))
  | ((with_reducible apply list_dic); (· fail "lk"))
  | ((with_reducible apply index_ls); (· fail "ls"))
  | ((with_reducible apply count_ls); (· fail "ls"))
  | ((with_reducible apply fill_dic); (· fail "lk"))
  | ((with_reducible apply max_ls); (· fail "ls"))
  | ((with_reducible apply sortK_ls); (· fail "ls"))
  | ((with_reducible apply sum_ls); (· fail "ls"))
  | ((with_reducible apply sorted_ls); (· fail "ls"))
  | ((with_reducible apply sortI_ls); (· fail "ls"))
  | ((with_reducible apply sortD_ls); (· fail "ls"))
  | ((with_reducible apply sortD_dic); (· fail "lk"))
  | ((with_reducible apply oIsT_dic); (· fail "lk"))
  | ((with_reducible apply walkD_lst); (· fail "lk"))
  | ((with_reducible apply walkD_dic); (· fail "lk"))
  | ((with_reducible apply walkI_dic); (· fail "lk"))
  | with_reducible apply walkD_tup
  | with_reducible apply walkD_rl
  | ((with_reducible apply walkL_lst); (· fail "lk"))
  | with_reducible apply walkL_rl
  | ((with_reducible apply mul_lst); (· fail "lk"))
  | ((with_reducible apply min_ls); (· fail "ls"))
  | ((with_reducible apply oAdd_lst); (· fail "lk"); (· fail "lk"))
  | ((with_reducible apply put_lst); (· fail "lk"))
  | ((with_reducible apply put_dic); (· fail "lk"))
  | ((with_reducible apply tru_lst); (· fail "lk"))
  | with_reducible apply oIsT_bl
  | with_reducible apply oIsT_int
  | with_reducible apply oIsT_str
  | with_reducible apply oIsT_tup
  | with_reducible apply oIsT_rl
  | with_reducible apply oIsT_non
  | with_reducible apply sl_tup
  | with_reducible apply sl_str
  | ((with_reducible apply get_dic); (· fail "lk"))
  | ((with_reducible apply get_dic2); (· fail "lk"))
  | ((with_reducible apply setdef_dic); (· fail "lk"))
  | ((with_reducible apply ext_lst); (· fail "lk"); (· fail "lk"))
  | ((with_reducible apply pop_lst); (· fail "lk"))
  | ((with_reducible apply popAt_lst); (· fail "lk"))
  | ((with_reducible apply ins_lst); (· fail "lk"))
  | ((with_reducible apply clr_lst); (· fail "lk"))
  | ((with_reducible apply clr_dic); (· fail "lk"))
  | ((with_reducible apply join_sq); (· fail "ls"))
  | ((with_reducible apply oEq_sst); (· with_reducible rfl))
  | ((with_reducible apply oEq_ssf); (· first | assumption | decide))
  | ((with_reducible apply oNe_sst); (· with_reducible rfl))
  | ((with_reducible apply oNe_ssf); (· first | assumption | decide))
  | ((with_reducible apply oEq_iit); (· with_reducible rfl))
  | ((with_reducible apply oEq_iif); (· first | assumption | decide))
  | ((with_reducible apply oNe_iit); (· with_reducible rfl))
  | ((with_reducible apply oNe_iif); (· first | assumption | decide))
  | refine Exists.intro _ (And.intro (rfl : atI _ _ = some _) ?_)
  | refine Exists.intro _ (And.intro (rfl : ixN _ _ = some _) ?_)
  | ((with_reducible refine And.intro ?_ ?_); (· fail "sd")))
  | _ => Lean.Macro.throwUnsupported
local macro_rules | `(tactic| nofun) => `(tactic| fail "ne")
local macro_rules | `(tactic| bv_omega) => `(tactic| fail "lk")
local macro_rules | `(tactic| ac_rfl) => `(tactic| fail "sd")
local macro_rules | `(tactic| trivial) => `(tactic| ((conv => whnf); repeat (fail "st"; (conv => whnf))))
/-! ### sorting by a key -/
theorem sort_kf (kf : D → List Int) {X Y : List D} (h : ∀ a ∈ X, ∀ b ∈ X, dlt a b = decide (kf a < kf b)) (inj : ∀ a ∈ X, ∀ b ∈ X, kf a = kf b → a = b) (pm : X.Perm Y) : X.mergeSort (dle false) = Y.mergeSort (dle false) := by
  let kle : D → D → Bool := fun a b => decide (kf a ≤ kf b)
  have tr : ∀ a b c : D, kle a b = true → kle b c = true → kle a c = true := fun a b c x y => by
    simp only [kle, decide_eq_true_eq] at *
    exact List.le_trans x y
  have to : ∀ a b : D, (kle a b || kle b a) = true := fun a b => by
    simp only [kle, Bool.or_eq_true, decide_eq_true_eq]
    exact List.le_total _ _
  have cg : ∀ Z : List D, (∀ a ∈ Z, a ∈ X) → Z.mergeSort (dle false) = Z.mergeSort kle := fun Z hz => by
    have := List.map_mergeSort (r := kle) (s := dle false) (f := id) (l := Z) fun a ha b hb => by
      show decide (kf a ≤ kf b) = !dlt b a
      rw [h b (hz b hb) a (hz a ha), ← decide_not]
      exact decide_eq_decide.mpr List.not_lt.symm
    rw [List.map_id, List.map_id] at this
    exact this.symm
  rw [cg X fun _ h => h, cg Y fun a ha => pm.mem_iff.mpr ha]
  refine List.Perm.eq_of_pairwise (le := fun a b => kle a b = true) (fun x y hx hy h1 h2 => ?_) (List.pairwise_mergeSort tr to _) (List.pairwise_mergeSort tr to _) ((List.mergeSort_perm _ _).trans (pm.trans (List.mergeSort_perm _ _).symm))
  simp only [kle, decide_eq_true_eq] at h1 h2
  exact inj x ((List.mergeSort_perm _ _).mem_iff.mp hx) y (pm.mem_iff.mpr ((List.mergeSort_perm _ _).mem_iff.mp hy)) (List.le_antisymm h1 h2)
/-- names: a word and a number -/
def Wn (x : D) : Prop := ∃ w n, x = .tup [.str w, .int n]
def kfS (a : List Nat) (n : Int) : List Int := a.map (fun (c : Nat) => (c : Int) + 1) ++ [0, n]
theorem kfS_lt : ∀ (a b : List Nat) (n m : Int), kfS a n < kfS b m ↔ a < b ∨ a = b ∧ n < m
  | [], [], n, m => by simp [kfS, List.cons_lt_cons_iff]
  | [], y :: b, n, m => by
    have : (0 : Int) < (y : Int) + 1 := by omega
    simp [kfS, List.cons_lt_cons_iff, this]
  | x :: a, [], n, m => by
    have h1 : ¬ (x : Int) + 1 < 0 := by omega
    have h2 : ¬ (x : Int) + 1 = 0 := by omega
    simp [kfS, List.cons_lt_cons_iff, h1, h2]
  | x :: a, y :: b, n, m => by
    have ih := kfS_lt a b n m
    have e : ∀ (z : Nat) (c : List Nat) (k : Int), kfS (z :: c) k = ((z : Int) + 1) :: kfS c k := fun z c k => rfl
    rw [e, e, List.cons_lt_cons_iff, ih, List.cons_lt_cons_iff, List.cons.injEq]
    constructor
    · rintro (h | ⟨h, h'⟩)
      · exact .inl (.inl (by omega))
      · have h : x = y := by omega
        rcases h' with h' | ⟨h', h2⟩
        · exact .inl (.inr ⟨h, h'⟩)
        · exact .inr ⟨⟨h, h'⟩, h2⟩
    · rintro ((h | ⟨h, h'⟩) | ⟨⟨h, h'⟩, h2⟩)
      · exact .inl (by omega)
      · exact .inr ⟨by omega, .inl h'⟩
      · exact .inr ⟨by omega, .inr ⟨h', h2⟩⟩
theorem kfS_inj {a b : List Nat} {n m : Int} (e : kfS a n = kfS b m) : a = b ∧ n = m := by
  have h1 : ¬ kfS a n < kfS b m := e ▸ List.lt_irrefl _
  have h2 : ¬ kfS b m < kfS a n := e ▸ List.lt_irrefl _
  rw [kfS_lt] at h1 h2
  have ab : a = b := List.le_antisymm (List.not_lt.mp fun z => h2 (.inl z)) (List.not_lt.mp fun z => h1 (.inl z))
  refine ⟨ab, ?_⟩
  have h3 : ¬ n < m := fun z => h1 (.inr ⟨ab, z⟩)
  have h4 : ¬ m < n := fun z => h2 (.inr ⟨ab.symm, z⟩)
  omega
def kfD : D → List Int
  | .tup [.str w, .int n] => kfS w.cps.toList n
  | _ => []
theorem str_cps {a b : Str} (e : a.cps.toList = b.cps.toList) : a = b := by
  cases a; cases b
  simp only [PySem.Str.mk.injEq]
  exact Array.toList_inj.mp e
theorem dlt_wn {a b : D} (ha : Wn a) (hb : Wn b) : dlt a b = decide (kfD a < kfD b) := by
  obtain ⟨w, n, rfl⟩ := ha
  obtain ⟨v, m, rfl⟩ := hb
  rw [dlt, Bool.eq_iff_iff]
  simp only [dltL, dlt, kfD, kfS_lt, Bool.or_eq_true, Bool.and_eq_true, decide_eq_true_eq, Bool.false_eq_true, and_false, or_false, D.str.injEq]
  constructor
  · rintro (h | ⟨h, h'⟩)
    · exact .inl h
    · exact .inr ⟨congrArg (fun s : Str => s.cps.toList) h, h'⟩
  · rintro (h | ⟨h, h'⟩)
    · exact .inl h
    · exact .inr ⟨str_cps h, h'⟩
theorem kfD_inj {a b : D} (ha : Wn a) (hb : Wn b) (e : kfD a = kfD b) : a = b := by
  obtain ⟨w, n, rfl⟩ := ha
  obtain ⟨v, m, rfl⟩ := hb
  obtain ⟨h1, rfl⟩ := kfS_inj e
  rw [str_cps h1]
theorem sort_wn {X Y : List D} (hx : ∀ a ∈ X, Wn a) (pm : X.Perm Y) : X.mergeSort (dle false) = Y.mergeSort (dle false) :=
  sort_kf kfD (fun a ha b hb => dlt_wn (hx a ha) (hx b hb)) (fun a ha b hb e => kfD_inj (hx a ha) (hx b hb) e) pm
theorem srt_wn {X : List D} (hx : ∀ a ∈ X, Wn a) : sortable X := by
  refine ⟨fun a ha b hb => ?_, fun a ha => ?_, .inl fun a ha => ?_⟩
  · obtain ⟨w, n, rfl⟩ := hx a ha
    obtain ⟨w', n', rfl⟩ := hx b hb
    simp [alk, alkL]
  · obtain ⟨w, n, rfl⟩ := hx a ha
    rfl
  · obtain ⟨w, n, rfl⟩ := hx a ha
    exact ⟨_, _, rfl⟩
theorem perm_nd {l₁ l₂ : List D} (d₁ : l₁.Nodup) (d₂ : l₂.Nodup) (h : ∀ a, a ∈ l₁ ↔ a ∈ l₂) : l₁.Perm l₂ := (List.perm_ext_iff_of_nodup d₁ d₂).mpr h
/-! ### what is shown: plain -/
theorem dget_mapK (F : D → D) : ∀ {K : List D} {k : D}, k ∈ K → dget (K.map fun k => (k, F k)) k = some (F k)
  | x :: K, k, h => by
    rw [List.map_cons, dget]
    by_cases e : x = k
    · rw [if_pos e, e]
    · rw [if_neg e]; exact dget_mapK F ((List.mem_cons.mp h).resolve_left fun z => e z.symm)
theorem FS_get {g : Gr} {k : D} (hk : k ∈ g.K) : dget (FS g) k = some (stE g k) := dget_mapK (stE g) hk
theorem stE_cases {kvs : List (D × D)} {g : Gr} (P : Pd kvs g) (hmain : main0 ∉ g.K) {k : D} (hk : k ∈ g.K) : stE g k ∈ g.K ∨ stE g k = main0 ∨ stE g k = .non := by
  classical
  unfold stE
  split
  · rename_i hr
    obtain ⟨y, _, y2, _, _⟩ := opD_get P hk
    rw [show g.op main0 k = some y from y2]
    show y ∈ g.K ∨ _
    by_cases hy : y ∈ g.K
    · exact .inl hy
    · exact .inr (.inl (Gr.out_one (g := g.opG main0) (Gr.Rc.one y2) hr hy hmain))
  · exact .inr (.inr rfl)
/-- where each stands, not over cut ones -/
noncomputable def shG (g : Gr) (C : List D) : Gr where
  K := g.K.filter fun k => decide (k ∉ C)
  nd := List.Pairwise.filter _ g.nd
  nx := fun x => if x ∈ g.K ∧ x ∉ C then some (stE g x) else none
  dom := fun x => by
    rw [List.mem_filter, decide_eq_true_eq]
    by_cases h : x ∈ g.K ∧ x ∉ C
    · rw [if_pos h]; exact ⟨fun _ => h, fun _ => ⟨_, rfl⟩⟩
    · rw [if_neg h]; exact ⟨fun ⟨_, e⟩ => (by cases e), fun z => absurd z h⟩
  rk := g.rk
  inj := fun x hx y hy => g.inj x (List.mem_filter.mp hx).1 y (List.mem_filter.mp hy).1
theorem shG_K {g : Gr} {C : List D} {x : D} : x ∈ (shG g C).K ↔ x ∈ g.K ∧ x ∉ C := by
  show x ∈ g.K.filter _ ↔ _
  rw [List.mem_filter, decide_eq_true_eq]
theorem shG_nx {g : Gr} {C : List D} {x : D} (h : x ∈ g.K) (h2 : x ∉ C) : (shG g C).nx x = some (stE g x) := if_pos ⟨h, h2⟩
theorem shG_it {g : Gr} {C : List D} (nn : D.non ∉ g.K) : ∀ (n : Nat) (x y : D), (shG g C).it n x = some y → y ∈ g.K → (g.opG main0).it n x = some y
  | 0, x, y, e, _ => e
  | n + 1, x, y, e, hy => by
    classical
    rw [Gr.it] at e
    cases h : (shG g C).it n x with
    | none => rw [h] at e; cases e
    | some z =>
      rw [h] at e
      have e : (if z ∈ g.K ∧ z ∉ C then some (stE g z) else none) = some y := e
      split at e
      · rename_i c
        cases e
        rw [Gr.it, shG_it nn n x z h c.1]
        show g.op main0 z = some (stE g z)
        obtain ⟨w, hw⟩ := (Gr.op_dom g main0 z).mpr c.1
        by_cases hr : (g.opG main0).Rc z main0
        · unfold stE
          rw [if_pos hr, hw]; rfl
        · exact absurd (show D.non ∈ g.K by
            have : stE g z = .non := by unfold stE; rw [if_neg hr]
            rw [this] at hy; exact hy) nn
      · cases e
theorem shG_no {g : Gr} {C : List D} (nn : D.non ∉ g.K) (hmain : main0 ∉ g.K) (x : D) : ¬ (shG g C).On x := fun o => by
  have hm := o.mem
  obtain ⟨n, e⟩ := o
  exact Gr.noround hmain x ⟨n, shG_it nn _ _ _ e (shG_K.mp hm).1⟩
def Sh (g : Gr) (C : List D) (x : D) : Prop := (shG g C).Rc x main0
noncomputable def shB (g : Gr) (C : List D) (x : D) : Bool := @decide (Sh g C x) (Classical.propDecidable _)
theorem shB_iff {g : Gr} {C : List D} {x : D} : shB g C x = true ↔ Sh g C x := @decide_eq_true_iff _ (Classical.propDecidable _)
theorem shB_eq {g : Gr} {C : List D} {x y : D} (h : Sh g C x ↔ Sh g C y) : shB g C x = shB g C y := by rw [Bool.eq_iff_iff, shB_iff, shB_iff]; exact h
theorem shB_main {g : Gr} {C : List D} : shB g C main0 = true := shB_iff.mpr (Gr.Rc.refl _)
theorem Sh_out {g : Gr} {C : List D} {x : D} (hx : x ∉ (shG g C).K) : Sh g C x ↔ x = main0 := ⟨fun r => (Gr.rc_out hx r).symm, fun e => e ▸ Gr.Rc.refl _⟩
theorem shB_not {g : Gr} {C : List D} {x : D} (hx : x ∉ (shG g C).K) (n : x ≠ main0) : shB g C x = false := by
  cases h : shB g C x with
  | false => rfl
  | true => exact absurd ((Sh_out hx).mp (shB_iff.mp h)) n
/-- what is known of parts that are shown -/
structure Sw (g : Gr) (C : List D) (rv : List (D × D)) : Prop where
  mn : main0 ∈ rv.map (·.1)
  nn : D.non ∈ rv.map (·.1)
  vl : ∀ k v, dget rv k = some v → v = .bl (shB g C k)
  ks : ∀ x ∈ rv.map (·.1), x ∈ g.K ∨ x = main0 ∨ x = .non
  nd : (rv.map (·.1)).Nodup
theorem Sw.put {g : Gr} {C : List D} {rv : List (D × D)} (s : Sw g C rv) {k : D} (hk : k ∈ g.K) : Sw g C (dput rv k (.bl (shB g C k))) where
  mn := by rw [dput_keysP]; split; exact s.mn; exact List.mem_append_left _ s.mn
  nn := by rw [dput_keysP]; split; exact s.nn; exact List.mem_append_left _ s.nn
  vl := fun k' v e => by
    rw [dget_put] at e
    split at e
    · rename_i ek; cases e; rw [ek]
    · exact s.vl k' v e
  ks := fun x hx => by
    rw [dput_keysP] at hx
    split at hx
    · exact s.ks x hx
    · rcases List.mem_append.mp hx with h | h
      · exact s.ks x h
      · exact .inl (by rw [List.mem_singleton] at h; rw [h]; exact hk)
  nd := dput_nodupP s.nd
theorem Sw.put_mem {rv : List (D × D)} {k v x : D} : x ∈ (dput rv k v).map (·.1) ↔ x ∈ rv.map (·.1) ∨ x = k := by
  rw [dput_keysP]
  split
  · exact ⟨.inl, fun z => z.elim id fun e => by rw [e]; assumption⟩
  · rw [List.mem_append, List.mem_singleton]
theorem Sw.len {g : Gr} {C : List D} {rv : List (D × D)} (s : Sw g C rv) : rv.length ≤ g.K.length + 2 := by
  have := List.Nodup.length_le_of_subset (l₂ := main0 :: .non :: g.K) s.nd fun x hx => by
    rcases s.ks x hx with h | h | h
    · exact List.mem_cons_of_mem _ (List.mem_cons_of_mem _ h)
    · rw [h]; exact List.mem_cons_self
    · rw [h]; exact List.mem_cons_of_mem _ List.mem_cons_self
  rw [List.length_map] at this
  exact this
theorem Sw.init {g : Gr} {C : List D} (nn : D.non ∉ g.K) : Sw g C [(main0, .bl true), (.non, .bl false)] where
  mn := by simp
  nn := by simp
  vl := fun k v e => by
    rw [dget] at e
    split at e
    · rename_i ek; cases e; rw [← ek, shB_main]
    · rw [dget] at e
      split at e
      · rename_i ek; cases e
        rw [← ek, shB_not (fun z => nn (shG_K.mp z).1) (by unfold main0; exact fun z => by cases z)]
      · cases e
  ks := fun x hx => by simp at hx; exact .inr hx
  nd := by
    refine List.nodup_cons.mpr ⟨?_, List.nodup_cons.mpr ⟨by simp, List.nodup_nil⟩⟩
    simp [main0]
/-! ### what is shown: the program -/
theorem shown_by_ok {h : AH} {p c1 ind : Addr} {kvs ps : List (D × D)} {g : Gr} {C : List (D × D)} {Q : KD} (e1 : h p = some (.dic kvs)) (d2 : dget kvs (.str (Str.ofString "cuts")) = some (.ref c1)) (el : h c1 = some (.lst (C.map encB))) (ok : ∀ c ∈ C, Nm c.1 ∧ Nm c.2) (lC : C.length ≤ 1000) (P : Pd ps g) (hmain : main0 ∉ g.K) (ei : h ind = some (.dic (FS g)))
    (q : ∀ r h' sv, h r = none → Sb h h' → h' r = some (.dic sv) → Sw g (C.map (·.1)) sv → (∀ x ∈ g.K, x ∈ sv.map (·.1)) → Q (.ref r) h') : f_shown_by [.ref p, .ref ind] h Q := by
  have nn : D.non ∉ g.K := fun z => P.nn _ z rfl
  have kl := P.klen
  have no := shG_no (C := C.map (·.1)) nn hmain
  unfold f_shown_by
  trivial
  refine newD_i fun cd ncd => ?_
  trivial
  refine ⟨_, d2, ?_⟩
  trivial
  refine ⟨fun i ρ h' => i ≤ C.length ∧ ∃ x3 cv, ρ = [some (.ref p), some (.ref ind), some (.ref cd), x3, none, none, none, none, none] ∧ h' cd = some (.dic cv) ∧ (∀ x, x ∈ cv.map (·.1) ↔ x ∈ (C.take i).map (·.1)) ∧ cv.length ≤ i ∧ Sb h h', ?_, ?_, ?_, ?_⟩
  · exact ⟨Nat.zero_le _, _, [], rfl, up_same, (fun x => by simp), Nat.zero_le _, (Sb.refl h).upf' ncd⟩
  · rintro i ρ h' _ ⟨_, x3, cv, _, _, _, _, sb⟩
    exact sb _ _ el
  · rintro i ρ h' d ⟨hi, x3, cv, rfl, ec, hc, lc, sb⟩ hd
    obtain ⟨c, hcm, rfl⟩ := get_map hd
    have hlt := (List.getElem?_eq_some_iff.mp hcm).1
    have o := (ok c (List.mem_of_getElem? hcm)).1
    have p8 := pl_mono 7 8 _ (by omega) o.pl
    trivial
    refine ⟨by rw [SZ]; omega, ?_⟩
    apply Pt.of
    refine ⟨hlt, _, _, rfl, up_same, fun x => ?_, ?_, sb.upf ncd⟩
    · rw [Sw.put_mem, take_snoc hcm, List.map_append, List.mem_append, ← hc x, List.map_singleton, List.mem_singleton]
    · have := dput_lenP cv c.1 (.bl true); omega
  rintro ρ h1 ⟨_, x3, cv, rfl, ec, hc, lc, sb⟩
  rw [show C.take (srcL c1 (C.map encB)).ds.length = C from List.take_of_length_le (by simp [srcL])] at hc
  generalize C.map (·.1) = CC at hc no q
  clear lc ok el d2 e1
  have ei := sb _ _ ei
  trivial
  refine newD_i fun sd nsd => ?_
  trivial
  have nsd0 := sb.nn nsd
  have nis : ind ≠ sd := by nofun
  have ncs : cd ≠ sd := by nofun
  generalize hH : up (up h1 sd _) sd _ = h2
  have es : h2 sd = some (.dic [(main0, .bl true), (.non, .bl false)]) := by rw [← hH]; exact up_same
  have ei2 : h2 ind = some (.dic (FS g)) := by rw [← hH]; exact up_at nis (up_at nis ei)
  have ec2 : h2 cd = some (.dic cv) := by rw [← hH]; exact up_at ncs (up_at ncs ec)
  have s2 : Sb h h2 := by rw [← hH]; exact (sb.upf nsd0).upf nsd0
  clear hH sb nsd ei ec
  trivial
  rw [show (FS g).map (·.1) = g.K from FS_keys g]
  refine ⟨fun i ρ h' => i ≤ g.K.length ∧ ∃ x5 x6 x7 x8 rv, ρ = [some (.ref p), some (.ref ind), some (.ref cd), x3, some (.ref sd), x5, x6, x7, x8] ∧ h' ind = some (.dic (FS g)) ∧ h' cd = some (.dic cv) ∧ h' sd = some (.dic rv) ∧ Sw g CC rv ∧ (∀ x ∈ g.K.take i, x ∈ rv.map (·.1)) ∧ Sb h h', ?_, ?_, ?_, ?_⟩
  · exact ⟨Nat.zero_le _, _, _, _, _, _, rfl, ei2, ec2, es, Sw.init nn, (fun x hx => by cases hx), s2⟩
  · rintro i ρ h' _ ⟨_, x5, x6, x7, x8, rv, _, ei, _⟩
    exact ⟨_, ei, FS_keys g⟩
  · clear ei2 ec2 es s2
    rintro i ρ h' k ⟨hi, x5, x6, x7, x8, rv, rfl, ei, ec, es, sw, hall, sb⟩ hd
    have hk : g.K[i]? = some k := hd
    have hlt := (List.getElem?_eq_some_iff.mp hk).1
    have hm := List.mem_of_getElem? hk
    obtain ⟨N, e, en, he⟩ := Gr.goesOut no k
    have pk8 := pl_mono 7 8 _ (by omega) (P.pk k hm)
    trivial
    refine newL_i fun wy nwy => ?_
    have nwi : ind ≠ wy := by nofun
    have nwc : cd ≠ wy := by nofun
    have nws : sd ≠ wy := by nofun
    trivial
    refine ⟨fun m ρ h4 => ∃ w hh, ρ = [some (.ref p), some (.ref ind), some (.ref cd), x3, some (.ref sd), some k, some (.ref wy), some hh, x8] ∧ h4 = up h' wy (.lst w) ∧ (shG g CC).Pth k w hh ∧ (hh ∈ g.K ∨ hh = main0 ∨ hh = .non) ∧ m = N - w.length, ⟨_, [], k, rfl, rfl, .nil, .inl hm, rfl⟩, ?_⟩
    rintro m ρ h4 ⟨w, hh, rfl, rfl, pth, hc3, rfl⟩
    have ph8 : G.pl 8 hh = true := by
      rcases hc3 with h | rfl | rfl
      · exact pl_mono 7 8 _ (by omega) (P.pk _ h)
      · rfl
      · rfl
    obtain ⟨wnd, hnw⟩ := pth.nd no
    have hwl := Gr.wlen wnd pth.sub
    have hwl2 : (shG g CC).K.length ≤ g.K.length := List.length_filter_le _ _
    have ei4 := up_at (o := .lst w) nwi ei
    have ec4 := up_at (o := .lst w) nwc ec
    have es4 := up_at (o := .lst w) nws es
    have ew4 : up h' wy (.lst w) wy = some (.lst w) := up_same
    trivial
    apply joinP (P := hh ∈ rv.map (·.1) ∨ hh ∈ CC)
    case m =>
      intro go
      refine onT_nd (fun e' => ?_) (fun e' => ?_)
      · trivial
        refine onT_nd (fun e2 => ?_) (fun e2 => ?_)
        · have hin : hh ∈ g.K := by
            rcases hc3 with h | h | h
            · exact h
            · exact absurd (h ▸ sw.mn) e'
            · exact absurd (h ▸ sw.nn) e'
          have hnc : hh ∉ CC := fun z => e2 ((hc hh).mpr z)
          have hlt' := out_lt en he pth (shG_K.mpr ⟨hin, hnc⟩)
          trivial
          refine ⟨by rw [SZ]; omega, ?_⟩
          rw [up_up]
          have ei5 := up_at (o := .lst (w ++ [hh])) nwi ei
          trivial
          refine ⟨_, FS_get hin, ?_⟩
          trivial
          apply Pt.of
          refine ⟨_, ?_, w ++ [hh], stE g hh, rfl, rfl, pth.snoc (shG_nx hin hnc), stE_cases P hmain hin, rfl⟩
          rw [List.length_append, List.length_singleton]; omega
        · exact (go (.inr ((hc hh).mp e2))).un
      · exact (go (.inl e')).un
    intro hex
    generalize hH : up h' wy (.lst w) = h5 at ei4 ec4 es4 ew4 ⊢
    have s5 : Sb h h5 := by rw [← hH]; exact sb.upf (sb.nn nwy)
    clear hH ei ec es sb nwy
    trivial
    refine ⟨fun j ρ h' => j ≤ w.length ∧ ∃ x8 rj, ρ = [some (.ref p), some (.ref ind), some (.ref cd), x3, some (.ref sd), some k, some (.ref wy), some hh, x8] ∧ h' ind = some (.dic (FS g)) ∧ h' cd = some (.dic cv) ∧ h' sd = some (.dic rj) ∧ h' wy = some (.lst w) ∧ Sw g CC rj ∧ (∀ x, x ∈ rj.map (·.1) ↔ x ∈ rv.map (·.1) ∨ x ∈ w.take j) ∧ Sb h h', ?_, ?_, ?_, ?_⟩
    · exact ⟨Nat.zero_le _, _, rv, rfl, ei4, ec4, es4, ew4, sw, (fun x => by simp), s5⟩
    · rintro j ρ h' _ ⟨_, x8, rj, _, _, _, _, ew, _⟩
      exact ew
    · clear ei4 ec4 es4 ew4 s5
      rintro j ρ h' one ⟨hj, x8', rj, rfl, ei, ec, es, ew, swj, hkj, sb⟩ hd
      have ho : w[j]? = some one := hd
      have hjl := (List.getElem?_eq_some_iff.mp ho).1
      have h1w := List.mem_of_getElem? ho
      have h1m : one ∈ g.K := (shG_K.mp (pth.sub one h1w)).1
      have p8 := pl_mono 7 8 _ (by omega) (P.pk one h1m)
      have lrj := swj.len
      trivial
      have hval : (dget rj hh).getD (.bl false) = .bl (shB g CC one) := by
        obtain ⟨_, n, en'⟩ := pth.mem one h1w
        have hl : Sh g CC one ↔ Sh g CC hh := Gr.lead (g := shG g CC) (m := main0) (fun z => hmain (shG_K.mp z).1) ⟨n + 1, en'⟩
        cases ev : dget rj hh with
        | some v =>
          rw [swj.vl hh v ev]
          show D.bl _ = D.bl _
          rw [shB_eq hl]
        | none =>
          have hnk : hh ∉ rv.map (·.1) := fun z => dget_noneP.mp ev ((hkj hh).mpr (.inl z))
          have hnC := hex.resolve_left hnk
          have hnK : hh ∉ (shG g CC).K := fun z => (shG_K.mp z).2 hnC
          show D.bl _ = D.bl _
          rw [shB_eq hl, shB_not hnK fun z => hnk (z ▸ sw.mn)]
      rw [hval]
      trivial
      refine ⟨by rw [SZ]; omega, ?_⟩
      apply Pt.of
      refine ⟨hjl, _, _, rfl, up_at nis ei, up_at ncs ec, up_same, up_at (by nofun) ew, swj.put h1m, fun x => ?_, sb.upf nsd0⟩
      rw [Sw.put_mem, take_snoc ho, List.mem_append, List.mem_singleton, ← or_assoc, ← hkj x]
    rintro ρ h6 ⟨_, x8', rj, rfl, ei, ec, es, ew, swj, hkj, sb⟩
    rw [show w.take (srcL wy w).ds.length = w from List.take_of_length_le (by simp [srcL])] at hkj
    clear ei4 ec4 es4 ew4 s5
    have lrj := swj.len
    trivial
    refine onT_d (fun e' => ?_) (fun e' => ?_)
    · trivial
      refine ⟨by rw [SZ]; omega, ?_⟩
      apply Pt.of
      have hkC : k ∈ CC := (hc k).mp e'
      have hb : shB g CC k = false := shB_not (fun z => (shG_K.mp z).2 hkC) fun z => hmain (z ▸ hm)
      have swk := swj.put hm
      rw [hb] at swk
      refine ⟨hlt, _, _, _, _, _, rfl, up_at nis ei, up_at ncs ec, up_same, swk, fun x hx => ?_, sb.upf nsd0⟩
      rw [take_snoc hk] at hx
      rw [Sw.put_mem]
      rcases List.mem_append.mp hx with h | h
      · exact .inl ((hkj x).mpr (.inl (hall x h)))
      · exact .inr (List.mem_singleton.mp h)
    · have hkC : k ∉ CC := fun z => e' ((hc k).mpr z)
      have hkin : k ∈ rj.map (·.1) := by
        rw [hkj k]
        rcases pth.first with ⟨e1, e2⟩ | h
        · rw [← e2]; exact .inl (hex.resolve_right fun z => hkC (e2 ▸ z))
        · refine .inr ?_
          cases w with
          | nil => cases h
          | cons x r => cases h; exact List.mem_cons_self
      trivial
      apply Pt.of
      refine ⟨hlt, _, _, _, _, _, rfl, ei, ec, es, swj, fun x hx => ?_, sb⟩
      rw [take_snoc hk] at hx
      rcases List.mem_append.mp hx with h | h
      · exact (hkj x).mpr (.inl (hall x h))
      · rw [List.mem_singleton] at h; subst h; exact hkin
  · clear ei2 ec2 es s2
    rintro ρ h5 ⟨_, x5, x6, x7, x8, rv, rfl, ei, ec, es, sw, hall, sb⟩
    rw [show g.K.take (srcK ind g.K).ds.length = g.K from List.take_of_length_le (by simp [srcK])] at hall
    trivial
    apply Pt.of
    exact q sd h5 rv nsd0 sb es sw hall
noncomputable def SHL (g : Gr) (C : List D) : List D := (main0 :: g.K.filter (shB g C)).mergeSort (dle false)
/-- what the law and the program are told of -/
structure Pf (h : AH) (p : Addr) (B : List (D × D)) (L : List Pc) (C : List (D × D)) (a b : Int) : Prop where
  ex : ∃ kvs a1 c1, h p = some (.dic kvs) ∧ dget kvs (.str (Str.ofString "places")) = some (.ref a1) ∧ dget kvs (.str (Str.ofString "cuts")) = some (.ref c1) ∧ h a1 = some (.lst (L.map encP)) ∧ h c1 = some (.lst (C.map encB)) ∧ ∃ b1, dget kvs (.str (Str.ofString "births")) = some (.ref b1) ∧ h b1 = some (.lst (B.map encB))
  ok : ∀ p ∈ L, PcOk a b p
  cs : ∀ c ∈ C, Nm c.1 ∧ Nm c.2
  lC : C.length ≤ 1000
  bs : ∀ x ∈ B, Nm x.1
  lB : B.length ≤ 1000
theorem Pf.sb {h h' : AH} {p : Addr} {B : List (D × D)} {L : List Pc} {C : List (D × D)} {a b : Int} (x : Pf h p B L C a b) (s : Sb h h') : Pf h' p B L C a b := by
  obtain ⟨kvs, a1, c1, e1, e2, e3, e4, e5, b1, e6, e7⟩ := x.ex
  exact ⟨⟨kvs, a1, c1, s _ _ e1, e2, e3, s _ _ e4, s _ _ e5, b1, e6, s _ _ e7⟩, x.ok, x.cs, x.lC, x.bs, x.lB⟩
theorem wn_nm {x : D} (h : Nm x) : Wn x := by obtain ⟨w, n, rfl, _⟩ := h; exact ⟨_, _, rfl⟩
theorem wn_main : Wn main0 := ⟨_, _, rfl⟩
theorem grL_nm {L : List Pc} (o : LOk L) : ∀ k ∈ (grL L o).K, Nm k := fun k hk => FS_nm o k (by rw [FS_keys]; exact hk)
theorem SHL_perm {L : List Pc} (o : LOk L) {C : List D} {sv : List (D × D)} (sw : Sw (grL L o) C sv) (hall : ∀ x ∈ (grL L o).K, x ∈ sv.map (·.1)) : ((sv.map (·.1)).filter (shB (grL L o) C)).mergeSort (dle false) = SHL (grL L o) C := by
  have hmain := grL_main o
  have nn : D.non ∉ (grL L o).K := fun z => (grL_pd o).nn _ z rfl
  have hn : shB (grL L o) C .non = false := shB_not (fun z => nn (shG_K.mp z).1) (by unfold main0; exact fun z => by cases z)
  refine sort_wn (fun a ha => ?_) (perm_nd (List.Pairwise.filter _ sw.nd) (List.nodup_cons.mpr ⟨fun z => hmain (List.mem_filter.mp z).1, List.Pairwise.filter _ (grL L o).nd⟩) fun a => ?_)
  · obtain ⟨h1, h2⟩ := List.mem_filter.mp ha
    rcases sw.ks a h1 with h | h | h
    · exact wn_nm (grL_nm o a h)
    · rw [h]; exact wn_main
    · rw [h, hn] at h2; cases h2
  · rw [List.mem_filter, List.mem_cons, List.mem_filter]
    constructor
    · rintro ⟨h1, h2⟩
      rcases sw.ks a h1 with h | h | h
      · exact .inr ⟨h, h2⟩
      · exact .inl h
      · rw [h, hn] at h2; cases h2
    · rintro (h | ⟨h1, h2⟩)
      · rw [h]; exact ⟨sw.mn, shB_main⟩
      · exact ⟨hall a h1, h2⟩
theorem shown_parts_ok {h : AH} {p : Addr} {B : List (D × D)} {L : List Pc} {C : List (D × D)} {a b : Int} {Q : KD} (f : Pf h p B L C a b) (o : LOk L)
    (q : ∀ r h', h r = none → Sb h h' → h' r = some (.lst (SHL (grL L o) (C.map (·.1)))) → Q (.ref r) h') : f_shown_parts [.ref p] h Q := by
  obtain ⟨kvs, a1, c1, e1, d1, d2, e2, e3, _⟩ := f.ex
  have P := grL_pd o
  have hmain := grL_main o
  unfold f_shown_parts
  trivial
  refine stands_in_ok e1 d1 e2 f.ok o fun ind h1 ni s1 ei => ?_
  trivial
  refine shown_by_ok (s1 _ _ e1) d2 (s1 _ _ e3) f.cs f.lC P hmain ei fun sd h2 sv ns s2 es sw hall => ?_
  have s2 := s1.trans s2
  have e2 := SHL_perm o sw hall
  have ws : ∀ a ∈ (sv.map (·.1)).filter (shB (grL L o) (C.map (·.1))), Wn a := fun a ha => by
    obtain ⟨h1, h2⟩ := List.mem_filter.mp ha
    rcases sw.ks a h1 with h | h | h
    · exact wn_nm (grL_nm o a h)
    · rw [h]; exact wn_main
    · rw [h, shB_not (fun z => P.nn _ (shG_K.mp z).1 rfl) (by unfold main0; exact fun z => by cases z)] at h2; cases h2
  have hlen := sw.len
  have kl := P.klen
  have svl : (sv.map (·.1)).length ≤ 1002 := by rw [List.length_map]; omega
  clear hlen kl
  have vl := sw.vl
  have nd := sw.nd
  have pk : ∀ x ∈ sv.map (·.1), G.pl 8 x = true := fun x hx => by
    rcases sw.ks x hx with h | rfl | rfl
    · exact pl_mono 7 8 _ (by omega) (P.pk _ h)
    · rfl
    · rfl
  generalize hks : sv.map (·.1) = ks at e2 ws svl nd pk
  trivial
  rw [hks]
  intro r nr
  refine ⟨fun i acc h' => i ≤ ks.length ∧ acc = (ks.take i).filter (shB (grL L o) (C.map (·.1))) ∧ h' = up h2 r (.lst acc), ?_, ?_, ?_, ?_⟩
  · exact ⟨Nat.zero_le _, rfl, rfl⟩
  · rintro i acc h' _ ⟨_, rfl, rfl⟩
    exact ⟨⟨_, up_at (by nofun) es, hks⟩, up_same⟩
  · rintro i acc h' d ⟨hi, rfl, rfl⟩ hd
    have hk : ks[i]? = some d := hd
    have hlt := (List.getElem?_eq_some_iff.mp hk).1
    have hm := List.mem_of_getElem? hk
    have p8 := pk d hm
    obtain ⟨v, ev⟩ : ∃ v, dget sv d = some v := by
      cases ev : dget sv d with
      | none => exact absurd (hks ▸ hm) (dget_noneP.mp ev)
      | some v => exact ⟨v, rfl⟩
    have := vl d v ev
    subst this
    have hll : ((ks.take i).filter (shB (grL L o) (C.map (·.1)))).length ≤ 1002 := Nat.le_trans (List.length_filter_le _ _) (by rw [List.length_take]; omega)
    have es' := up_at (o := .lst ((ks.take i).filter (shB (grL L o) (C.map (·.1))))) (show sd ≠ r by nofun) es
    trivial
    refine ⟨_, ev, ?_⟩
    trivial
    refine onT_i (fun e => ?_) (fun e => ?_)
    · trivial
      refine ⟨by rw [SZ]; omega, up_same, ?_⟩
      rw [up_up]
      apply Pt.of
      exact ⟨hlt, by rw [filter_take hk, if_pos e], rfl⟩
    · apply Pt.of
      exact ⟨hlt, by rw [filter_take hk, e]; simp, rfl⟩
  rintro acc h' ⟨_, rfl, rfl⟩
  rw [show ks.take (srcK sd ks).ds.length = ks from List.take_of_length_le (by simp [srcK])]
  trivial
  refine ⟨srt_wn ws, ?_⟩
  rw [e2]
  refine newL_i fun t nt => ?_
  trivial
  apply Pt.of
  have s3 := s2.upf (s2.nn nr) (o := .lst (ks.filter (shB (grL L o) (C.map (·.1)))))
  exact q t _ (s3.nn nt) (s3.upf (s3.nn nt)) up_same
theorem l_shown_ok {h : AH} {p : Addr} {B : List (D × D)} {L : List Pc} {C : List (D × D)} {a b : Int} {Q : KD} (f : Pf h p B L C a b) (o : LOk L)
    (q : ∀ r h', h r = none → Sb h h' → h' r = some (.lst (SHL (grL L o) (C.map (·.1)))) → Q (.ref r) h') : f_l_shown [.ref p] h Q := by
  obtain ⟨kvs, a1, c1, e1, d1, d2, e2, e3, _⟩ := f.ex
  have P := grL_pd o
  have hmain := grL_main o
  have nn : D.non ∉ (grL L o).K := fun z => P.nn _ z rfl
  have gnm := grL_nm o
  have kl := P.klen
  unfold f_l_shown
  trivial
  refine l_stands_ok e1 d1 e2 f.ok o fun ind h1 ni s1 ei => ?_
  have no := shG_no (C := C.map (·.1)) nn hmain
  generalize grL L o = g at *
  have e1 := s1 _ _ e1
  have e3 := s1 _ _ e3
  trivial
  refine ⟨_, d2, ?_⟩
  trivial
  intro ct nct
  have lC := f.lC
  refine ⟨fun i acc h' => i ≤ C.length ∧ acc = (C.take i).map (·.1) ∧ h' = up h1 ct (.lst acc), ?_, ?_, ?_, ?_⟩
  · exact ⟨Nat.zero_le _, rfl, rfl⟩
  · rintro i acc h' _ ⟨_, rfl, rfl⟩
    exact ⟨up_at (by nofun) e3, up_same⟩
  · rintro i acc h' d ⟨hi, rfl, rfl⟩ hd
    obtain ⟨c, hcm, rfl⟩ := get_map hd
    have hlt := (List.getElem?_eq_some_iff.mp hcm).1
    trivial
    refine ⟨by rw [List.length_map, List.length_take, SZ]; omega, up_same, ?_⟩
    rw [up_up]
    apply Pt.of
    exact ⟨hlt, by rw [take_snoc hcm, List.map_append, List.map_singleton], rfl⟩
  rintro acc h2 ⟨_, rfl, rfl⟩
  rw [show C.take (srcL c1 (C.map encB)).ds.length = C from List.take_of_length_le (by simp [srcL])]
  have pC : plL 7 (C.map (·.1)) = true := plL_iff.mpr fun d hd => by
    obtain ⟨c, hc, rfl⟩ := List.mem_map.mp hd
    exact (f.cs c hc).1.pl
  generalize C.map (·.1) = CC at *
  have ei2 := up_at (o := .lst CC) (show ind ≠ ct by nofun) ei
  have ec2 : up h1 ct (.lst CC) ct = some (.lst CC) := up_same
  have s2 := s1.upf (s1.nn nct) (o := .lst CC)
  have nic : ind ≠ ct := by nofun
  generalize up h1 ct (.lst CC) = h2 at ei2 ec2 s2 ⊢
  clear e1 e2 e3 ei nct s1 ni d1 d2
  trivial
  refine newL_i fun sn nsn => ?_
  have nis : ind ≠ sn := by nofun
  have ncs : ct ≠ sn := by nofun
  have nsn0 := s2.nn nsn
  trivial
  rw [show (FS g).map (·.1) = g.K from FS_keys g]
  refine ⟨fun i ρ h' => i ≤ g.K.length ∧ ∃ x4 x5, ρ = [some (.ref p), some (.ref ind), some (.ref ct), some (.ref sn), x4, x5, none] ∧ h' ind = some (.dic (FS g)) ∧ h' ct = some (.lst CC) ∧ h' sn = some (.lst (main0 :: (g.K.take i).filter (shB g CC))) ∧ Sb h h', ?_, ?_, ?_, ?_⟩
  · exact ⟨Nat.zero_le _, _, _, rfl, up_at nis ei2, up_at ncs ec2, up_same, s2.upf nsn0⟩
  · rintro i ρ h' _ ⟨_, x4, x5, _, ei, _⟩
    exact ⟨_, ei, FS_keys g⟩
  · clear ei2 ec2 s2
    rintro i ρ h' k ⟨hi, x4, x5, rfl, ei, ec, es, sb⟩ hd
    have hk : g.K[i]? = some k := hd
    have hlt := (List.getElem?_eq_some_iff.mp hk).1
    have hm := List.mem_of_getElem? hk
    obtain ⟨N, e, en, he⟩ := Gr.goesOut no k
    trivial
    refine ⟨fun m ρ h4 => ∃ w hh, ρ = [some (.ref p), some (.ref ind), some (.ref ct), some (.ref sn), some k, some hh, none] ∧ h4 = h' ∧ (shG g CC).Pth k w hh ∧ (hh ∈ g.K ∨ hh = main0 ∨ hh = .non) ∧ m = N - w.length, ⟨_, [], k, rfl, rfl, .nil, .inl hm, rfl⟩, ?_⟩
    rintro m ρ h4 ⟨w, hh, rfl, rfl, pth, hc3, rfl⟩
    have ph7 : G.pl 7 hh = true := by
      rcases hc3 with h | rfl | rfl
      · exact P.pk _ h
      · rfl
      · rfl
    have ph8 : G.pl 8 hh = true := pl_mono 7 8 _ (by omega) ph7
    trivial
    rw [show (FS g).map (·.1) = g.K from FS_keys g]
    apply joinP (P := hh ∉ (shG g CC).K)
    case m =>
      intro go
      refine onT_i (fun e' => ?_) (fun e' => ?_)
      · have hin : hh ∈ g.K := of_decide_eq_true e'
        trivial
        refine ⟨_, _, .pl ph8, PvL.pl (m := 7) pC (by omega), ?_⟩
        trivial
        refine onT_nd (fun e2 => ?_) (fun e2 => ?_)
        · have hlt' := out_lt en he pth (shG_K.mpr ⟨hin, e2⟩)
          trivial
          refine ⟨_, FS_get hin, ?_⟩
          trivial
          apply Pt.of
          refine ⟨_, ?_, w ++ [hh], stE g hh, rfl, rfl, pth.snoc (shG_nx hin e2), stE_cases P hmain hin, rfl⟩
          rw [List.length_append, List.length_singleton]; omega
        · exact (go fun z => (shG_K.mp z).2 e2).un
      · exact (go fun z => of_decide_eq_false e' (shG_K.mp z).1).un
    intro hex
    trivial
    refine oEq_pv (.pl ph7) (.pl (n := 2) rfl) ?_
    trivial
    have hl : Sh g CC k ↔ hh = main0 := by
      rw [← Sh_out hex]
      exact Gr.lead (g := shG g CC) (m := main0) (fun z => hmain (shG_K.mp z).1) pth.rc
    have hll : ((g.K.take i).filter (shB g CC)).length ≤ 1000 := Nat.le_trans (List.length_filter_le _ _) (by rw [List.length_take]; omega)
    refine onT_d (fun e' => ?_) (fun e' => ?_)
    · trivial
      refine ⟨by rw [List.length_cons, SZ]; omega, ?_⟩
      apply Pt.of
      refine ⟨hlt, _, _, rfl, up_at nis ei, up_at ncs ec, ?_, sb.upf nsn0⟩
      rw [up_same, filter_take hk, if_pos (shB_iff.mpr (hl.mpr e'))]; rfl
    · trivial
      apply Pt.of
      refine ⟨hlt, _, _, rfl, ei, ec, ?_, sb⟩
      rw [es, filter_take hk, if_neg (fun z => e' (hl.mp (shB_iff.mp z))), List.append_nil]
  · clear ei2 ec2 s2
    rintro ρ h5 ⟨_, x4, x5, rfl, ei, ec, es, sb⟩
    rw [show g.K.take (srcK ind g.K).ds.length = g.K from List.take_of_length_le (by simp [srcK])] at es
    trivial
    refine ⟨srt_wn fun a ha => ?_, ?_⟩
    · rcases List.mem_cons.mp ha with h | h
      · rw [h]; exact wn_main
      · exact wn_nm (gnm a (List.mem_filter.mp h).1)
    refine newL_i fun t nt => ?_
    trivial
    apply Pt.of
    exact q t _ (sb.nn nt) (sb.upf (sb.nn nt)) up_same
end K29
end

section
set_option linter.all false
set_option autoImplicit false
set_option maxRecDepth 100000
set_option maxHeartbeats 4000000
namespace K29
open G
open PySem (Str)
local macro_rules | `(tactic| fail $s:str) => match s.getString with
  | "ne" => `(tactic| first | assumption | (apply Ne.symm; assumption) | exact ne_f1 (by assumption) (by fail "lk") | exact ne_f2 (by assumption) (by fail "lk") | grind [up, Sb])
  | "lk" => `(tactic| first | assumption | exact up_same | (refine up_at ?_ ?_; (· fail "ne"); fail "lk") | (refine Sb.at ?_ ?_; (· assumption); fail "lk"))
  | "sd" => `(tactic| first | (with_reducible show -(2 ^ 62) ≤ (_ : Int); first | omega | (simp only [List.length_map]; omega)) | (with_reducible show (_ : Int) < 2 ^ 62; first | omega | (simp only [List.length_map]; omega)) | assumption | rfl | (apply isT_lst; fail "lk") | (apply isT_dic; fail "lk") | decide | (simp only [List.length_cons, List.length_nil]; decide) | exact mulOk_l (by decide) (by decide) | exact mulOk_r (by decide) (by decide) | exact mulOk_l (by omega) (by omega) | exact mulOk_r (by omega) (by omega) | omega | (simp only [List.length_map]; omega))
  | "ls" => `(tactic| first | exact sq_tup | exact sq_rl | exact ls_rl | (apply ls_lst; fail "lk") | (apply sq_lst; fail "lk"))
  | "st" => `(tactic| first
  | ((with_reducible apply ix_lst); (· fail "lk"))
  | with_reducible apply ix_tup
  | with_reducible apply ix_str
  | with_reducible apply in_tup
  | with_reducible apply min_ii
  | with_reducible apply max_ii
  | ((with_reducible apply in_lst); (· fail "lk"))
  | ((with_reducible apply in_dic); (· fail "lk"))
  | ((with_reducible apply notIn_dic); (· fail "lk"))
  | ((with_reducible apply notIn_lst); (· fail "lk"))
  | with_reducible apply ix_rl
  | ((with_reducible apply ix_dic); (· fail "lk"))
  | ((with_reducible apply app_lst); (· fail "lk"))
  | ((with_reducible apply len_lst); (· fail "lk"))
  | with_reducible apply len_tup
  | with_reducible apply len_rl
  | with_reducible apply len_str
  | ((with_reducible apply oIsT_lst); (· fail "lk"))
  | ((with_reducible apply dict_ls); (· fail "ls"))
  | ((with_reducible apply sl_ls); (· fail "ls"))
  | ((with_reducible apply rev_ls); (· fail "ls"))
  | ((with_reducible apply list_sq); (· fail "ls"))
  | ((with_reducible apply list_dic); (· fail "lk"))
  | ((with_reducible apply index_ls); (· fail "ls"))
  | ((with_reducible apply count_ls); (· fail "ls"))
  | ((with_reducible apply fill_dic); (· fail "lk"))
  | ((with_reducible apply max_ls); (· fail "ls"))
  | ((with_reducible apply sortK_ls); (· fail "ls"))
  | ((with_reducible apply sum_ls); (· fail "ls"))
  | ((with_reducible apply sorted_ls); (· fail "ls"))
  | ((with_reducible apply sortI_ls); (· fail "ls"))
  | ((with_reducible apply sortD_ls); (· fail "ls"))
  | ((with_reducible apply sortD_dic); (· fail "lk"))
  | ((with_reducible apply oIsT_dic); (· fail "lk"))
  | ((with_reducible apply walkD_lst); (· fail "lk"))
  | ((with_reducible apply walkD_dic); (· fail "lk"))
  | ((with_reducible apply walkI_dic); (· fail "lk"))
  | with_reducible apply walkD_tup
  | with_reducible apply walkD_rl
  | ((with_reducible apply walkL_lst); (· fail "lk"))
  | with_reducible apply walkL_rl
  | ((with_reducible apply mul_lst); (· fail "lk"))
  | ((with_reducible apply min_ls); (· fail "ls"))
  | ((with_reducible apply oAdd_lst); (· fail "lk"); (· fail "lk"))
  | ((with_reducible apply put_lst); (· fail "lk"))
  | ((with_reducible apply put_dic); (· fail "lk"))
  | ((with_reducible apply tru_lst); (· fail "lk"))
  | with_reducible apply oIsT_bl
  | with_reducible apply oIsT_int
  | with_reducible apply oIsT_str
  | with_reducible apply oIsT_tup
  | with_reducible apply oIsT_rl
  | with_reducible apply oIsT_non
  | with_reducible apply sl_tup
  | with_reducible apply sl_str
  | ((with_reducible apply get_dic); (· fail "lk"))
  | ((with_reducible apply get_dic2); (· fail "lk"))
  | ((with_reducible apply setdef_dic); (· fail "lk"))
  | ((with_reducible apply ext_lst); (· fail "lk"); (· fail "lk"))
  | ((with_reducible apply pop_lst); (· fail "lk"))
  | ((with_reducible apply popAt_lst); (· fail "lk"))
  | ((with_reducible apply ins_lst); (· fail "lk"))
  | ((with_reducible apply clr_lst); (· fail "lk"))
  | ((with_reducible apply clr_dic); (· fail "lk"))
  | ((with_reducible apply join_sq); (· fail "ls"))
  | ((with_reducible apply oEq_sst); (· with_reducible rfl))
  | ((with_reducible apply oEq_ssf); (· first | assumption | decide))
  | ((with_reducible apply oNe_sst); (· with_reducible rfl))
  | ((with_reducible apply oNe_ssf); (· first | assumption | decide))
  | ((with_reducible apply oEq_iit); (· with_reducible rfl))
  | ((with_reducible apply oEq_iif); (· first | assumption | decide))
  | ((with_reducible apply oNe_iit); (· with_reducible rfl))
  | ((with_reducible apply oNe_iif); (· first | assumption | decide))
  | refine Exists.intro _ (And.intro (rfl : atI _ _ = some _) ?_)
  | refine Exists.intro _ (And.intro (rfl : ixN _ _ = some _) ?_)
  | ((with_reducible refine And.intro ?_ ?_); (· fail "sd")))
  | _ => Lean.Macro.throwUnsupported
local macro_rules | `(tactic| nofun) => `(tactic| fail "ne")
local macro_rules | `(tactic| bv_omega) => `(tactic| fail "lk")
local macro_rules | `(tactic| ac_rfl) => `(tactic| fail "sd")
local macro_rules | `(tactic| trivial) => `(tactic| ((conv => whnf); repeat (fail "st"; (conv => whnf))))
/-! ### inner parts -/
noncomputable def INp (g : Gr) (C : List D) (X : D) : D → Bool := fun k => decide (stE g k = X) && shB g C k
def INe (g : Gr) (k : D) : D := .tup [kyL (g.rk k), k]
noncomputable def INs (g : Gr) (C : List D) (X : D) : List D := ((g.K.filter (INp g C X)).map (INe g)).mergeSort (dle false)
noncomputable def INL (g : Gr) (C : List D) (X : D) : List D := (INs g C X).map D.tupAt1
theorem INe_form {L : List Pc} (o : LOk L) {k : D} (hk : k ∈ (grL L o).K) : ∃ a b w n, INe (grL L o) k = .tup [.tup [.int a, .int b], .tup [.str w, .int n]] ∧ k = .tup [.str w, .int n] := by
  obtain ⟨ot, n', a', b', y1, y2, y3, y4⟩ := (grL_pd o).at_ k hk
  obtain ⟨w, n, e, _⟩ := grL_nm o k hk
  refine ⟨a', b', w, n, ?_, e⟩
  unfold INe kyL
  rw [y3, e]; rfl
theorem INs_mem {g : Gr} {C : List D} {X d : D} (h : d ∈ INs g C X) : ∃ k ∈ g.K, d = INe g k := by
  have := (List.mergeSort_perm _ _).mem_iff.mp h
  obtain ⟨k, hk, rfl⟩ := List.mem_map.mp this
  exact ⟨k, (List.mem_filter.mp hk).1, rfl⟩
theorem INs_len (g : Gr) (C : List D) (X : D) : (INs g C X).length ≤ g.K.length := by
  unfold INs
  rw [List.length_mergeSort, List.length_map]
  exact List.length_filter_le _ _
theorem INL_pl {L : List Pc} (o : LOk L) (C : List D) (X : D) : plL 7 (INL (grL L o) C X) = true := plL_iff.mpr fun d hd => by
  obtain ⟨x, hx, rfl⟩ := List.mem_map.mp hd
  obtain ⟨k, hk, rfl⟩ := INs_mem hx
  exact (grL_nm o k hk).pl
theorem INs_srt {L : List Pc} (o : LOk L) (C : List D) (X : D) : sortable (((grL L o).K.filter (INp (grL L o) C X)).map (INe (grL L o))) := by
  have key : ∀ d ∈ ((grL L o).K.filter (INp (grL L o) C X)).map (INe (grL L o)), ∃ a b w n, d = .tup [.tup [.int a, .int b], .tup [.str w, .int n]] := fun d hd => by
    obtain ⟨k, hk, rfl⟩ := List.mem_map.mp hd
    obtain ⟨a, b, w, n, e, _⟩ := INe_form o (List.mem_filter.mp hk).1
    exact ⟨a, b, w, n, e⟩
  refine ⟨fun a ha b hb => ?_, fun a ha => ?_, .inl fun a ha => ?_⟩
  · obtain ⟨_, _, _, _, rfl⟩ := key a ha
    obtain ⟨_, _, _, _, rfl⟩ := key b hb
    simp [alk, alkL]
  · obtain ⟨_, _, _, _, rfl⟩ := key a ha
    rfl
  · obtain ⟨_, _, _, _, rfl⟩ := key a ha
    exact ⟨_, _, rfl⟩
theorem INf_len (g : Gr) (C : List D) (X : D) (i : Nat) : (((g.K.take i).filter (INp g C X)).map (INe g)).length ≤ g.K.length := by
  rw [List.length_map]
  exact Nat.le_trans (List.length_filter_le _ _) (by rw [List.length_take]; omega)
theorem INf_snoc {g : Gr} {C : List D} {X k : D} {i : Nat} (hk : g.K[i]? = some k) : ((g.K.take (i + 1)).filter (INp g C X)).map (INe g) = ((g.K.take i).filter (INp g C X)).map (INe g) ++ if INp g C X k then [INe g k] else [] := by
  rw [filter_take hk, List.map_append]
  split <;> rfl
theorem SHL_in {L : List Pc} (o : LOk L) {C : List D} {k : D} (hk : k ∈ (grL L o).K) : k ∈ SHL (grL L o) C ↔ shB (grL L o) C k = true := by
  unfold SHL
  rw [(List.mergeSort_perm _ _).mem_iff, List.mem_cons, List.mem_filter]
  constructor
  · rintro (h | h)
    · exact absurd (h ▸ hk) (grL_main o)
    · exact h.2
  · exact fun h => .inr ⟨hk, h⟩
theorem SHL_mem {g : Gr} {C : List D} {x : D} (h : x ∈ SHL g C) : x = main0 ∨ x ∈ g.K := by
  unfold SHL at h
  rw [(List.mergeSort_perm _ _).mem_iff, List.mem_cons, List.mem_filter] at h
  exact h.imp id And.left
theorem SHL_pl {L : List Pc} (o : LOk L) (C : List D) : plL 7 (SHL (grL L o) C) = true := plL_iff.mpr fun d hd => by
  rcases SHL_mem hd with h | h
  · rw [h]; rfl
  · exact (grL_nm o d h).pl
theorem inner_parts_ok {h : AH} {p : Addr} {B : List (D × D)} {L : List Pc} {C : List (D × D)} {a b : Int} {X : D} {Q : KD} (f : Pf h p B L C a b) (o : LOk L) (hX : G.pl 7 X = true)
    (q : ∀ r h', h r = none → Sb h h' → h' r = some (.lst (INL (grL L o) (C.map (·.1)) X)) → Q (.ref r) h') : f_inner_parts [.ref p, X] h Q := by
  obtain ⟨kvs, a1, c1, e1, d1, d2, e2, e3, _⟩ := f.ex
  have P := grL_pd o
  have hmain := grL_main o
  unfold f_inner_parts
  trivial
  refine stands_in_ok e1 d1 e2 f.ok o fun ind h1 ni s1 ei => ?_
  trivial
  refine shown_by_ok (s1 _ _ e1) d2 (s1 _ _ e3) f.cs f.lC P hmain ei fun sd h2 sv ns s2 es sw hall => ?_
  have s12 := s1.trans s2
  have ei := s2 _ _ ei
  trivial
  refine places_by_ok (s12 _ _ e1) d1 (s12 _ _ e2) f.ok o.up o.len fun pd h3 npd s3 ep => ?_
  have sb := s12.trans s3
  have ei := s3 _ _ ei
  have es := s3 _ _ es
  clear e1 d1 d2 e2 e3 s1 s2 s12 s3 ni ns npd
  have srt := INs_srt o (C.map (·.1)) X
  have frm := fun k (hk : k ∈ (grL L o).K) => INe_form o hk
  have kl := P.klen
  have vl := sw.vl
  generalize C.map (·.1) = CC at *
  generalize grL L o = g at *
  generalize pl3 L = ps at P ep
  trivial
  refine newL_i fun fd nfd => ?_
  have nfd0 := sb.nn nfd
  have n1 : ind ≠ fd := by nofun
  have n2 : sd ≠ fd := by nofun
  have n3 : pd ≠ fd := by nofun
  trivial
  rw [show (FS g).map (·.1) = g.K from FS_keys g]
  refine ⟨fun i ρ h' => i ≤ g.K.length ∧ ∃ x6, ρ = [some (.ref p), some X, some (.ref ind), some (.ref sd), some (.ref pd), some (.ref fd), x6, none] ∧ h' ind = some (.dic (FS g)) ∧ h' sd = some (.dic sv) ∧ h' pd = some (.dic ps) ∧ h' fd = some (.lst (((g.K.take i).filter (INp g CC X)).map (INe g))) ∧ Sb h h', ?_, ?_, ?_, ?_⟩
  · exact ⟨Nat.zero_le _, _, rfl, up_at n1 ei, up_at n2 es, up_at n3 ep, up_same, sb.upf nfd0⟩
  · rintro i ρ h' _ ⟨_, x6, _, ei, _⟩
    exact ⟨_, ei, FS_keys g⟩
  · clear ei es ep sb nfd
    rintro i ρ h' k ⟨hi, x6, rfl, ei, es, ep, ef, sb⟩ hd
    have hk : g.K[i]? = some k := hd
    have hlt := (List.getElem?_eq_some_iff.mp hk).1
    have hm := List.mem_of_getElem? hk
    have pk7 := P.pk k hm
    have p8 := pl_mono 7 8 _ (by omega) pk7
    have hll := INf_len g CC X i
    trivial
    refine ⟨_, FS_get hm, ?_⟩
    trivial
    refine oEq_pv (.pl (stE_pl P hm)) (.pl hX) ?_
    trivial
    refine onT_d (fun e' => ?_) (fun e' => ?_)
    · obtain ⟨v, ev⟩ : ∃ v, dget sv k = some v := by
        cases ev : dget sv k with
        | none => exact absurd (hall k hm) (dget_noneP.mp ev)
        | some v => exact ⟨v, rfl⟩
      have := vl k v ev
      subst this
      trivial
      refine ⟨_, ev, ?_⟩
      trivial
      refine onT_i (fun e2 => ?_) (fun e2 => ?_)
      · obtain ⟨ot, n', a', b', y1, y2, y3, y4⟩ := P.at_ k hm
        trivial
        refine ⟨_, y1, ?_⟩
        trivial
        refine ⟨by rw [SZ]; omega, ?_⟩
        apply Pt.of
        refine ⟨hlt, _, rfl, up_at n1 ei, up_at n2 es, up_at n3 ep, ?_, sb.upf nfd0⟩
        rw [up_same, INf_snoc hk, if_pos (by unfold INp; rw [decide_eq_true e', e2]; rfl)]
        unfold INe kyL
        rw [y3]; rfl
      · trivial
        apply Pt.of
        refine ⟨hlt, _, rfl, ei, es, ep, ?_, sb⟩
        rw [ef, INf_snoc hk, if_neg (by unfold INp; rw [e2, Bool.and_false]; exact fun z => by cases z), List.append_nil]
    · trivial
      apply Pt.of
      refine ⟨hlt, _, rfl, ei, es, ep, ?_, sb⟩
      rw [ef, INf_snoc hk, if_neg (by unfold INp; rw [decide_eq_false e', Bool.false_and]; exact fun z => by cases z), List.append_nil]
  clear ei es ep sb nfd
  rintro ρ h4 ⟨_, x6, rfl, ei, es, ep, ef, sb⟩
  rw [show g.K.take (srcK ind g.K).ds.length = g.K from List.take_of_length_le (by simp [srcK])] at ef
  clear ei es ep
  trivial
  have mem : ∀ d ∈ INs g CC X, ∃ k ∈ g.K, d = INe g k := fun d hd => INs_mem hd
  have il := INs_len g CC X
  rw [show (((g.K.filter (INp g CC X)).map (INe g)).mergeSort (dle false)) = INs g CC X from rfl]
  have qq : ∀ r h', h r = none → Sb h h' → h' r = some (.lst ((INs g CC X).map D.tupAt1)) → Q (.ref r) h' := q
  clear q srt ef
  generalize INs g CC X = S at mem il qq ⊢
  refine newL_i fun t nt => ?_
  have et : up h4 t (.lst S) t = some (.lst S) := up_same
  have sb := sb.upf (sb.nn nt) (o := .lst S)
  generalize up h4 t (.lst S) = h5 at et sb ⊢
  clear nt
  trivial
  intro r nr
  refine ⟨fun i acc h' => i ≤ S.length ∧ acc = (S.take i).map D.tupAt1 ∧ h' = up h5 r (.lst acc), ?_, ?_, ?_, ?_⟩
  · exact ⟨Nat.zero_le _, rfl, rfl⟩
  · rintro i acc h' _ ⟨_, rfl, rfl⟩
    exact ⟨up_at (by nofun) et, up_same⟩
  · rintro i acc h' d ⟨hi, rfl, rfl⟩ hd
    have hs : S[i]? = some d := hd
    have hlt := (List.getElem?_eq_some_iff.mp hs).1
    obtain ⟨k, hk, rfl⟩ := mem d (List.mem_of_getElem? hs)
    have hx := congrArg (List.map D.tupAt1) (take_snoc hs)
    unfold INe at *
    trivial
    refine ⟨by rw [List.length_map, List.length_take, SZ]; omega, up_same, ?_⟩
    rw [up_up]
    apply Pt.of
    exact ⟨hlt, by rw [hx, List.map_append, List.map_singleton]; rfl, rfl⟩
  rintro acc h' ⟨_, rfl, rfl⟩
  rw [show S.take (srcL t S).ds.length = S from List.take_of_length_le (by simp [srcL])]
  trivial
  apply Pt.of
  exact qq r _ (sb.nn nr) (sb.upf (sb.nn nr)) up_same
theorem l_inner_ok {h : AH} {p ind sd : Addr} {B : List (D × D)} {L : List Pc} {C : List (D × D)} {a b : Int} {X : D} {Q : KD} (f : Pf h p B L C a b) (o : LOk L) (hX : G.pl 7 X = true) (ei : h ind = some (.dic (FS (grL L o)))) (es : h sd = some (.lst (SHL (grL L o) (C.map (·.1)))))
    (q : ∀ r h', h r = none → Sb h h' → h' r = some (.lst (INL (grL L o) (C.map (·.1)) X)) → Q (.ref r) h') : f_l_inner [.ref p, .ref ind, .ref sd, X] h Q := by
  obtain ⟨kvs, a1, c1, e1, d1, d2, e2, e3, _⟩ := f.ex
  have P := grL_pd o
  unfold f_l_inner
  trivial
  refine l_outers_ok e1 d1 e2 f.ok o.len fun pd h3 npd s3 ep => ?_
  have sb := s3
  have ei := s3 _ _ ei
  have es := s3 _ _ es
  clear e1 d1 d2 e2 e3 s3 npd
  have srt := INs_srt o (C.map (·.1)) X
  have frm := fun k (hk : k ∈ (grL L o).K) => INe_form o hk
  have shi := fun k (hk : k ∈ (grL L o).K) => SHL_in o (C := C.map (·.1)) hk
  have shp := SHL_pl o (C.map (·.1))
  have kl := P.klen
  generalize C.map (·.1) = CC at *
  generalize grL L o = g at *
  generalize pl3 L = ps at P ep
  trivial
  refine newL_i fun fd nfd => ?_
  have nfd0 := sb.nn nfd
  have n1 : ind ≠ fd := by nofun
  have n2 : sd ≠ fd := by nofun
  have n3 : pd ≠ fd := by nofun
  trivial
  rw [show (FS g).map (·.1) = g.K from FS_keys g]
  refine ⟨fun i ρ h' => i ≤ g.K.length ∧ ∃ x6, ρ = [some (.ref p), some (.ref ind), some (.ref sd), some X, some (.ref pd), some (.ref fd), x6, none] ∧ h' ind = some (.dic (FS g)) ∧ h' sd = some (.lst (SHL g CC)) ∧ h' pd = some (.dic ps) ∧ h' fd = some (.lst (((g.K.take i).filter (INp g CC X)).map (INe g))) ∧ Sb h h', ?_, ?_, ?_, ?_⟩
  · exact ⟨Nat.zero_le _, _, rfl, up_at n1 ei, up_at n2 es, up_at n3 ep, up_same, sb.upf nfd0⟩
  · rintro i ρ h' _ ⟨_, x6, _, ei, _⟩
    exact ⟨_, ei, FS_keys g⟩
  · clear ei es ep sb nfd
    rintro i ρ h' k ⟨hi, x6, rfl, ei, es, ep, ef, sb⟩ hd
    have hk : g.K[i]? = some k := hd
    have hlt := (List.getElem?_eq_some_iff.mp hk).1
    have hm := List.mem_of_getElem? hk
    have pk7 := P.pk k hm
    have p8 := pl_mono 7 8 _ (by omega) pk7
    have hll := INf_len g CC X i
    trivial
    refine ⟨_, FS_get hm, ?_⟩
    trivial
    refine oEq_pv (.pl (stE_pl P hm)) (.pl hX) ?_
    trivial
    refine onT_d (fun e' => ?_) (fun e' => ?_)
    · trivial
      refine ⟨_, _, .pl p8, PvL.pl (m := 7) shp (by omega), ?_⟩
      trivial
      refine onT_d (fun e2 => ?_) (fun e2 => ?_)
      · have e2 := (shi k hm).mp e2
        obtain ⟨ot, n', a', b', y1, y2, y3, y4⟩ := P.at_ k hm
        trivial
        refine ⟨_, y1, ?_⟩
        trivial
        refine ⟨by rw [SZ]; omega, ?_⟩
        apply Pt.of
        refine ⟨hlt, _, rfl, up_at n1 ei, up_at n2 es, up_at n3 ep, ?_, sb.upf nfd0⟩
        rw [up_same, INf_snoc hk, if_pos (by unfold INp; rw [decide_eq_true e', e2]; rfl)]
        unfold INe kyL
        rw [y3]; rfl
      · trivial
        apply Pt.of
        refine ⟨hlt, _, rfl, ei, es, ep, ?_, sb⟩
        rw [ef, INf_snoc hk, if_neg (by unfold INp; exact fun z => e2 ((shi k hm).mpr ((Bool.and_eq_true _ _).mp z).2)), List.append_nil]
    · trivial
      apply Pt.of
      refine ⟨hlt, _, rfl, ei, es, ep, ?_, sb⟩
      rw [ef, INf_snoc hk, if_neg (by unfold INp; rw [decide_eq_false e', Bool.false_and]; exact fun z => by cases z), List.append_nil]
  clear ei es ep sb nfd
  rintro ρ h4 ⟨_, x6, rfl, ei, es, ep, ef, sb⟩
  rw [show g.K.take (srcK ind g.K).ds.length = g.K from List.take_of_length_le (by simp [srcK])] at ef
  clear ei es ep
  trivial
  have mem : ∀ d ∈ INs g CC X, ∃ k ∈ g.K, d = INe g k := fun d hd => INs_mem hd
  have il := INs_len g CC X
  rw [show (((g.K.filter (INp g CC X)).map (INe g)).mergeSort (dle false)) = INs g CC X from rfl]
  have qq : ∀ r h', h r = none → Sb h h' → h' r = some (.lst ((INs g CC X).map D.tupAt1)) → Q (.ref r) h' := q
  clear q srt ef
  generalize INs g CC X = S at mem il qq ⊢
  refine newL_i fun t nt => ?_
  have et : up h4 t (.lst S) t = some (.lst S) := up_same
  have sb := sb.upf (sb.nn nt) (o := .lst S)
  generalize up h4 t (.lst S) = h5 at et sb ⊢
  clear nt
  trivial
  intro r nr
  refine ⟨fun i acc h' => i ≤ S.length ∧ acc = (S.take i).map D.tupAt1 ∧ h' = up h5 r (.lst acc), ?_, ?_, ?_, ?_⟩
  · exact ⟨Nat.zero_le _, rfl, rfl⟩
  · rintro i acc h' _ ⟨_, rfl, rfl⟩
    exact ⟨up_at (by nofun) et, up_same⟩
  · rintro i acc h' d ⟨hi, rfl, rfl⟩ hd
    have hs : S[i]? = some d := hd
    have hlt := (List.getElem?_eq_some_iff.mp hs).1
    obtain ⟨k, hk, rfl⟩ := mem d (List.mem_of_getElem? hs)
    have hx := congrArg (List.map D.tupAt1) (take_snoc hs)
    unfold INe at *
    trivial
    refine ⟨by rw [List.length_map, List.length_take, SZ]; omega, up_same, ?_⟩
    rw [up_up]
    apply Pt.of
    exact ⟨hlt, by rw [hx, List.map_append, List.map_singleton]; rfl, rfl⟩
  rintro acc h' ⟨_, rfl, rfl⟩
  rw [show S.take (srcL t S).ds.length = S from List.take_of_length_le (by simp [srcL])]
  trivial
  apply Pt.of
  exact qq r _ (sb.nn nr) (sb.upf (sb.nn nr)) up_same
end K29
end

section
set_option linter.all false
set_option autoImplicit false
set_option maxRecDepth 100000
set_option maxHeartbeats 4000000
namespace K29
open G
open PySem (Str)
local macro_rules | `(tactic| fail $s:str) => match s.getString with
  | "ne" => `(tactic| first | assumption | (apply Ne.symm; assumption) | exact ne_f1 (by assumption) (by fail "lk") | exact ne_f2 (by assumption) (by fail "lk") | grind [up, Sb])
  | "lk" => `(tactic| first | assumption | exact up_same | (refine up_at ?_ ?_; (· fail "ne"); fail "lk") | (refine Sb.at ?_ ?_; (· assumption); fail "lk"))
  | "sd" => `(tactic| first | (with_reducible show -(2 ^ 62) ≤ (_ : Int); first | omega | (simp only [List.length_map]; omega)) | (with_reducible show (_ : Int) < 2 ^ 62; first | omega | (simp only [List.length_map]; omega)) | assumption | rfl | (apply isT_lst; fail "lk") | (apply isT_dic; fail "lk") | decide | (simp only [List.length_cons, List.length_nil]; decide) | exact mulOk_l (by decide) (by decide) | exact mulOk_r (by decide) (by decide) | exact mulOk_l (by omega) (by omega) | exact mulOk_r (by omega) (by omega) | omega | (simp only [List.length_map]; omega))
  | "ls" => `(tactic| first | exact sq_tup | exact sq_rl | exact ls_rl | (apply ls_lst; fail "lk") | (apply sq_lst; fail "lk"))
  | "st" => `(tactic| first
  | ((with_reducible apply ix_lst); (· fail "lk"))
  | with_reducible apply ix_tup
  | with_reducible apply ix_str
  | with_reducible apply in_tup
  | with_reducible apply min_ii
  | with_reducible apply max_ii
  | ((with_reducible apply in_lst); (· fail "lk"))
  | ((with_reducible apply in_dic); (· fail "lk"))
  | ((with_reducible apply notIn_dic); (· fail "lk"))
  | ((with_reducible apply notIn_lst); (· fail "lk"))
  | with_reducible apply ix_rl
  | ((with_reducible apply ix_dic); (· fail "lk"))
  | ((with_reducible apply app_lst); (· fail "lk"))
  | ((with_reducible apply len_lst); (· fail "lk"))
  | with_reducible apply len_tup
  | with_reducible apply len_rl
  | with_reducible apply len_str
  | ((with_reducible apply oIsT_lst); (· fail "lk"))
  | ((with_reducible apply dict_ls); (· fail "ls"))
  | ((with_reducible apply sl_ls); (· fail "ls"))
  | ((with_reducible apply rev_ls); (· fail "ls"))
  | ((with_reducible apply list_sq); (· fail "ls"))
  | ((with_reducible apply list_dic); (· fail "lk"))
  | ((with_reducible apply index_ls); (· fail "ls"))
  | ((with_reducible apply count_ls); (· fail "ls"))
  | ((with_reducible apply fill_dic); (· fail "lk"))
  | ((with_reducible apply max_ls); (· fail "ls"))
  | ((with_reducible apply sortK_ls); (· fail "ls"))
  | ((with_reducible apply sum_ls); (· fail "ls"))
  | ((with_reducible apply sorted_ls); (· fail "ls"))
  | ((with_reducible apply sortI_ls); (· fail "ls"))
  | ((with_reducible apply sortD_ls); (· fail "ls"))
  | ((with_reducible apply sortD_dic); (· fail "lk"))
  | ((with_reducible apply oIsT_dic); (· fail "lk"))
  | ((with_reducible apply walkD_lst); (· fail "lk"))
  | ((with_reducible apply walkD_dic); (· fail "lk"))
  | ((with_reducible apply walkI_dic); (· fail "lk"))
  | with_reducible apply walkD_tup
  | with_reducible apply walkD_rl
  | ((with_reducible apply walkL_lst); (· fail "lk"))
  | with_reducible apply walkL_rl
  | ((with_reducible apply mul_lst); (· fail "lk"))
  | ((with_reducible apply min_ls); (· fail "ls"))
  | ((with_reducible apply oAdd_lst); (· fail "lk"); (· fail "lk"))
  | ((with_reducible apply put_lst); (· fail "lk"))
  | ((with_reducible apply put_dic); (· fail "lk"))
  | ((with_reducible apply tru_lst); (· fail "lk"))
  | with_reducible apply oIsT_bl
  | with_reducible apply oIsT_int
  | with_reducible apply oIsT_str
  | with_reducible apply oIsT_tup
  | with_reducible apply oIsT_rl
  | with_reducible apply oIsT_non
  | with_reducible apply sl_tup
  | with_reducible apply sl_str
  | ((with_reducible apply get_dic); (· fail "lk"))
  | ((with_reducible apply get_dic2); (· fail "lk"))
  | ((with_reducible apply setdef_dic); (· fail "lk"))
  | ((with_reducible apply ext_lst); (· fail "lk"); (· fail "lk"))
  | ((with_reducible apply pop_lst); (· fail "lk"))
  | ((with_reducible apply popAt_lst); (· fail "lk"))
  | ((with_reducible apply ins_lst); (· fail "lk"))
  | ((with_reducible apply clr_lst); (· fail "lk"))
  | ((with_reducible apply clr_dic); (· fail "lk"))
  | ((with_reducible apply join_sq); (· fail "ls"))
  | ((with_reducible apply oEq_sst); (· with_reducible rfl))
  | ((with_reducible apply oEq_ssf); (· first | assumption | decide))
  | ((with_reducible apply oNe_sst); (· with_reducible rfl))
  | ((with_reducible apply oNe_ssf); (· first | assumption | decide))
  | ((with_reducible apply oEq_iit); (· with_reducible rfl))
  | ((with_reducible apply oEq_iif); (· first | assumption | decide))
  | ((with_reducible apply oNe_iit); (· with_reducible rfl))
  | ((with_reducible apply oNe_iif); (· first | assumption | decide))
  | refine Exists.intro _ (And.intro (rfl : atI _ _ = some _) ?_)
  | refine Exists.intro _ (And.intro (rfl : ixN _ _ = some _) ?_)
  | ((with_reducible refine And.intro ?_ ?_); (· fail "sd")))
  | _ => Lean.Macro.throwUnsupported
local macro_rules | `(tactic| nofun) => `(tactic| fail "ne")
local macro_rules | `(tactic| bv_omega) => `(tactic| fail "lk")
local macro_rules | `(tactic| ac_rfl) => `(tactic| fail "sd")
local macro_rules | `(tactic| trivial) => `(tactic| ((conv => whnf); repeat (fail "st"; (conv => whnf))))
/-! ### what is shown is right -/
theorem lok0 : LOk [] := ⟨(fun _ h => by cases h), (fun _ h => by cases h), (fun _ h => by cases h), .nil, by simp⟩
theorem SHL0 : SHL (grL [] lok0) [] = [main0] := by
  have : (grL [] lok0).K = [] := rfl
  unfold SHL
  rw [this]
  exact List.mergeSort_singleton _
theorem shown_right_ok {h : AH} {p : Addr} {B : List (D × D)} {L : List Pc} {C : List (D × D)} {a b : Int} {Q : KD} (f : Pf h p B L C a b) (o : LOk L)
    (q : ∀ h', Sb h h' → Q (.bl true) h') : f_l_shown_right [.ref p] h Q := by
  have dv : ∀ {h' : AH} {r : Addr}, h' r = some (.lst (SHL (grL L o) (C.map (·.1)))) → Dv h' 12 (.ref r) (.rl (SHL (grL L o) (C.map (·.1)))) := fun e => .lst e (.dat (m := 7) (plL_dat 7 _ (SHL_pl o _)) (by omega))
  unfold f_l_shown_right
  trivial
  refine l_shown_ok f o fun t1 h1 n1 s1 e1 => ?_
  trivial
  refine shown_parts_ok (f.sb s1) o fun t2 h2 n2 s2 e2 => ?_
  have n12 : t1 ≠ t2 := by nofun
  have e1 := s2 _ _ e1
  trivial
  refine oNe_same (dv e2) (dv e1) ?_
  trivial
  have e1' := up_at (o := .lst []) n12 e1
  have s3 := (s1.trans s2).upf (o := .lst []) (s1.nn n2)
  generalize up h2 t2 (.lst []) = h3 at e1' s3 ⊢
  refine shown_parts_ok (f.sb s3) o fun t3 h4 n3 s4 e3 => ?_
  have e1' := s4 _ _ e1'
  have s4 := s3.trans s4
  trivial
  refine bare_ok fun p' A' h5 np' nA' s5 fc => ?_
  have e1' := s5 _ _ e1'
  have e3 := s5 _ _ e3
  have s5 := s4.trans s5
  trivial
  refine shown_parts_ok (B := []) (L := []) (C := []) (a := 0) (b := 0) ⟨⟨_, A' 1, A' 2, fc.dic, fcN_get (i := 1) (Nat.le_refl 9) (by omega) A', fcN_get (i := 2) (Nat.le_refl 9) (by omega) A', fc.lst 1 (by omega), fc.lst 2 (by omega), A' 0, fcN_get (i := 0) (Nat.le_refl 9) (by omega) A', fc.lst 0 (by omega)⟩, (fun _ h => by cases h), (fun _ h => by cases h), by simp, (fun _ h => by cases h), by simp⟩ lok0 fun t4 h6 n4 s6 e4 => ?_
  have e4 : h6 t4 = some (.lst [main0]) := by rw [e4]; exact congrArg (fun x => some (O.lst x)) SHL0
  have e1' := s6 _ _ e1'
  have e3 := s6 _ _ e3
  have s6 := s5.trans s6
  trivial
  refine newL_i fun z nz => ?_
  have n4z : t4 ≠ z := by nofun
  have n1z : t1 ≠ z := by nofun
  have n3z : t3 ≠ z := by nofun
  refine oEq_same (z := .rl [main0]) (Dv.lst (up_at n4z e4) (.dat (m := 1) rfl (by omega))) (.lst up_same (.dat (m := 1) rfl (by omega))) ?_
  trivial
  refine oEq_same (dv (up_at n3z e3)) (dv (up_at n1z e1')) ?_
  trivial
  apply Pt.of
  exact q _ (s6.upf (s6.nn nz))
structure TU where
  t : Addr
  u : Addr
  x : D
abbrev encTU (y : TU) : D := .tup [.ref y.t, .ref y.u]
theorem inner_right_ok {h : AH} {p : Addr} {B : List (D × D)} {L : List Pc} {C : List (D × D)} {a b : Int} {n : Nat} {Q : KD} (f : Pf h p B L C a b) (o : LOk L)
    (q : ∀ h', Sb h h' → Q (.bl true) h') : f_l_inner_right [.ref p, .int (n : Int)] h Q := by
  obtain ⟨kvs, a1, c1, e1, d1, d2, e2, e3, b1, d3, e4⟩ := f.ex
  have dvI : ∀ (X : D) {h' : AH} {r : Addr}, h' r = some (.lst (INL (grL L o) (C.map (·.1)) X)) → Dv h' 12 (.ref r) (.rl (INL (grL L o) (C.map (·.1)) X)) := fun X _ _ e => .lst e (.dat (m := 7) (plL_dat 7 _ (INL_pl o _ X)) (by omega))
  have lB := f.lB
  have ilen : ∀ X, (INL (grL L o) (C.map (·.1)) X).length ≤ 1000 := fun X => by
    unfold INL
    rw [List.length_map]
    exact Nat.le_trans (INs_len _ _ _) (grL_pd o).klen
  unfold f_l_inner_right
  trivial
  refine l_shown_ok f o fun sd h1 n1 s1 es => ?_
  trivial
  refine l_stands_ok (s1 _ _ e1) d1 (s1 _ _ e2) f.ok o fun ind h2 n2 s2 ei => ?_
  have s12 := s1.trans s2
  have es := s2 _ _ es
  clear s1 s2 n1 n2
  trivial
  refine newL_i fun sm nsm => ?_
  have nsm0 : h sm = none := s12.nn nsm
  have nsd : sd ≠ sm := by nofun
  have nin : ind ≠ sm := by nofun
  have es3 := up_at (o := .lst []) (show sd ≠ sm by nofun) es
  have ei3 := up_at (o := .lst []) (show ind ≠ sm by nofun) ei
  have em : up h2 sm (.lst []) sm = some (.lst []) := up_same
  have s3 := s12.upf (o := .lst []) nsm0
  generalize up h2 sm (.lst []) = h3 at s3 em es3 ei3 ⊢
  clear s12 es ei nsm
  trivial
  refine newL_i fun l0 nl0 => ?_
  have e13 := s3 _ _ e1
  have e43 := s3 _ _ e4
  have nl00 := s3.nn nl0
  generalize hH : up h3 l0 _ = h4
  have el0 : h4 l0 = some (.lst [main0]) := by rw [← hH]; exact up_same
  have es4 : h4 sd = some (.lst (SHL (grL L o) (C.map (·.1)))) := by rw [← hH]; exact up_at (by nofun) es3
  have ei4 : h4 ind = some (.dic (FS (grL L o))) := by rw [← hH]; exact up_at (by nofun) ei3
  have em4 : h4 sm = some (.lst []) := by rw [← hH]; exact up_at (by nofun) em
  have s4 : Sb h h4 := by rw [← hH]; exact s3.upf nl00
  clear hH es3 ei3 em s3 nl0 e13 e43
  have e14 := s4 _ _ e1
  have e44 := s4 _ _ e4
  trivial
  refine ⟨_, d3, ?_⟩
  trivial
  intro bl nbl
  refine ⟨fun i acc h' => i ≤ B.length ∧ acc = (B.take i).map (·.1) ∧ h' = up h4 bl (.lst acc), ?_, ?_, ?_, ?_⟩
  · exact ⟨Nat.zero_le _, rfl, rfl⟩
  · rintro i acc h' _ ⟨_, rfl, rfl⟩
    exact ⟨up_at (by nofun) e44, up_same⟩
  · rintro i acc h' d ⟨hi, rfl, rfl⟩ hd
    obtain ⟨c, hcm, rfl⟩ := get_map hd
    have hlt := (List.getElem?_eq_some_iff.mp hcm).1
    trivial
    refine ⟨by rw [List.length_map, List.length_take, SZ]; omega, up_same, ?_⟩
    rw [up_up]
    apply Pt.of
    exact ⟨hlt, by rw [take_snoc hcm, List.map_append, List.map_singleton], rfl⟩
  rintro acc h5 ⟨_, rfl, rfl⟩
  rw [show B.take (srcL b1 (B.map encB)).ds.length = B from List.take_of_length_le (by simp [srcL])]
  have el5 := up_at (o := .lst (B.map (·.1))) (show l0 ≠ bl by nofun) el0
  have es5 := up_at (o := .lst (B.map (·.1))) (show sd ≠ bl by nofun) es4
  have ei5 := up_at (o := .lst (B.map (·.1))) (show ind ≠ bl by nofun) ei4
  have em5 := up_at (o := .lst (B.map (·.1))) (show sm ≠ bl by nofun) em4
  have eb5 : up h4 bl (.lst (B.map (·.1))) bl = some (.lst (B.map (·.1))) := up_same
  have s5 := s4.upf (o := .lst (B.map (·.1))) (s4.nn nbl)
  generalize up h4 bl (.lst (B.map (·.1))) = h5 at el5 es5 ei5 em5 eb5 s5 ⊢
  clear el0 es4 ei4 em4 s4 e14 e44 nbl nl00
  trivial
  rw [cut_take]
  refine newL_i fun cl ncl => ?_
  have ncl0 := s5.nn ncl
  have el6 := up_at (o := .lst ((B.map (·.1)).take n)) (show l0 ≠ cl by nofun) el5
  have es6 := up_at (o := .lst ((B.map (·.1)).take n)) (show sd ≠ cl by nofun) es5
  have ei6 := up_at (o := .lst ((B.map (·.1)).take n)) (show ind ≠ cl by nofun) ei5
  have em6 := up_at (o := .lst ((B.map (·.1)).take n)) (show sm ≠ cl by nofun) em5
  have ec6 : up h5 cl (.lst ((B.map (·.1)).take n)) cl = some (.lst ((B.map (·.1)).take n)) := up_same
  have s6 := s5.upf (o := .lst ((B.map (·.1)).take n)) ncl0
  generalize up h5 cl (.lst ((B.map (·.1)).take n)) = h6 at el6 es6 ei6 em6 ec6 s6 ⊢
  clear el5 es5 ei5 em5 eb5 s5 ncl ncl0
  have hBl : ((B.map (·.1)).take n).length ≤ 1000 := by rw [List.length_take, List.length_map]; omega
  have hBp : ∀ x ∈ (B.map (·.1)).take n, G.pl 7 x = true := fun x hx => by
    obtain ⟨y, hy, rfl⟩ := List.mem_map.mp (List.mem_of_mem_take hx)
    exact (f.bs y hy).pl
  generalize hX : (B.map (·.1)).take n = Bn at hBl hBp ec6 ⊢
  clear hX
  trivial
  refine ⟨by rw [List.length_singleton, SZ]; omega, newL_i fun xl nxl => ?_⟩
  have nxl0 := s6.nn nxl
  change ∀ z, _ at hBp
  generalize hXs : [main0] ++ Bn = Xs
  have hXl : Xs.length ≤ 1001 := by rw [← hXs, List.length_append, List.length_singleton]; omega
  have hXp : ∀ x ∈ Xs, G.pl 7 x = true := fun x hx => by
    rw [← hXs] at hx
    rcases List.mem_append.mp hx with h | h
    · rw [List.mem_singleton] at h; subst h; rfl
    · exact hBp x h
  have hX0 : Xs[0]? = some main0 := by rw [← hXs]; rfl
  generalize hH : up h6 xl _ = h7
  have ex7 : h7 xl = some (.lst Xs) := by rw [← hH, ← hXs]; exact up_same
  have es7 : h7 sd = some (.lst (SHL (grL L o) (C.map (·.1)))) := by rw [← hH]; exact up_at (by nofun) es6
  have ei7 : h7 ind = some (.dic (FS (grL L o))) := by rw [← hH]; exact up_at (by nofun) ei6
  have em7 : h7 sm = some (.lst []) := by rw [← hH]; exact up_at (by nofun) em6
  have s7 : Sb h h7 := by rw [← hH]; exact s6.upf nxl0
  have nsx : sm ≠ xl := by nofun
  clear hH el6 es6 ei6 em6 ec6 s6 nxl nxl0 hXs hBl hBp
  generalize hIN : (fun X => INL (grL L o) (C.map (·.1)) X) = IN
  have qI : ∀ {h' : AH} {r : Addr} (X : D), h' r = some (.lst (INL (grL L o) (C.map (·.1)) X)) → h' r = some (.lst (IN X)) := fun X e => by rw [e, ← hIN]
  have dvI : ∀ (X : D) {h' : AH} {r : Addr}, h' r = some (.lst (IN X)) → Dv h' 12 (.ref r) (.rl (IN X)) := by rw [← hIN]; exact dvI
  have ilen : ∀ X, (IN X).length ≤ 1000 := by rw [← hIN]; exact ilen
  clear hIN
  have hsm7 : ∀ x, h7 x = none → x ≠ sm := fun x e z => by rw [z, em7] at e; cases e
  trivial
  refine ⟨fun i ρ h' => i ≤ Xs.length ∧ ∃ (x5 x6 : Option D) (Z : List TU), ρ = [some (.ref p), some (.int n), some (.ref sd), some (.ref ind), some (.ref sm), x5, x6, none, none] ∧ Z.map (·.x) = Xs.take i ∧ h' sm = some (.lst (Z.map encTU)) ∧ (∀ z ∈ Z, h' z.t = some (.lst (IN z.x)) ∧ h' z.u = some (.lst (IN z.x)) ∧ h7 z.t = none ∧ h7 z.u = none) ∧ Z.Pairwise (fun y z => y.t ≠ z.t) ∧ (∀ y ∈ Z, ∀ z ∈ Z, y.t ≠ z.u) ∧ Sb (hm h7 [sm]) h', ?_, ?_, ?_, ?_⟩
  · exact ⟨Nat.zero_le _, _, _, [], rfl, rfl, em7, (fun z hz => by cases hz), .nil, (fun z hz => by cases hz), hm_sb _ _⟩
  · rintro i ρ h' _ ⟨_, x5, x6, Z, _, _, _, _, _, _, sb⟩
    exact hm_get sb ex7 (by simpa using nsx.symm)
  · rintro i ρ h' X ⟨hi, x5, x6, Z, rfl, eZ, em, hz, pw, tu, sb⟩ hd
    have hk : Xs[i]? = some X := hd
    have hlt := (List.getElem?_eq_some_iff.mp hk).1
    have pX := hXp X (List.mem_of_getElem? hk)
    have sbh : Sb h h' := sb_hm s7 sb (by simpa using nsm0)
    have lZ : Z.length = i := by
      have := congrArg List.length eZ
      rw [List.length_map, List.length_take] at this; omega
    trivial
    refine inner_parts_ok (f.sb sbh) o pX fun t h9 nt s9 et => ?_
    have et := qI X et
    have ts : t ≠ sm := by nofun
    have nt7 : h7 t = none := by
      have := sb.nn nt
      rwa [hm_out (by simpa using ts)] at this
    have em9 := s9 _ _ em
    trivial
    have ind1 := s9 _ _ (hm_get sb ei7 (by simpa using nin))
    have sd1 := s9 _ _ (hm_get sb es7 (by simpa using nsd))
    refine l_inner_ok (f.sb (sbh.trans s9)) o pX ind1 sd1 fun u h10 nu s10 eu => ?_
    have eu := qI X eu
    have us : u ≠ sm := by
      have := s9 _ _ em
      nofun
    have tu' : t ≠ u := by nofun
    have nu7 : h7 u = none := by
      have := sb.nn (s9.nn nu)
      rwa [hm_out (by simpa using us)] at this
    have s910 := s9.trans s10
    have em10 := s910 _ _ em
    trivial
    refine ⟨by rw [List.length_map, SZ]; omega, ?_⟩
    apply Pt.of
    have hzn : ∀ z ∈ Z, z.t ≠ t ∧ z.u ≠ t ∧ z.t ≠ u ∧ z.u ≠ u ∧ z.t ≠ sm ∧ z.u ≠ sm := fun z hz' => by
      obtain ⟨h1, h2, h3, h4⟩ := hz z hz'
      have nu' := s9.nn nu
      exact ⟨ne_of h1 nt, ne_of h2 nt, ne_of h1 nu', ne_of h2 nu', hsm7 _ h3, hsm7 _ h4⟩
    refine ⟨hlt, _, _, Z ++ [⟨t, u, X⟩], rfl, by rw [List.map_append, eZ, take_snoc hk]; rfl, by rw [up_same, List.map_append]; rfl, fun z hz' => ?_, List.pairwise_append.mpr ⟨pw, List.pairwise_singleton _ _, fun y hy z hz' => ?_⟩, fun y hy z hz' => ?_, (sb.trans s910).upf (hm_in (by simp))⟩
    · rcases List.mem_append.mp hz' with h | h
      · obtain ⟨h1, h2, h3, h4⟩ := hz z h
        obtain ⟨_, _, _, _, g5, g6⟩ := hzn z h
        exact ⟨up_at g5 (s910 _ _ h1), up_at g6 (s910 _ _ h2), h3, h4⟩
      · rw [List.mem_singleton] at h; subst h
        exact ⟨up_at ts (s10 _ _ et), up_at us eu, nt7, nu7⟩
    · rw [List.mem_singleton] at hz'; subst hz'
      exact (hzn y hy).1
    · rcases List.mem_append.mp hy with h | h
      · rcases List.mem_append.mp hz' with g | g
        · exact tu y h z g
        · rw [List.mem_singleton] at g; subst g
          exact (hzn y h).2.2.1
      · rw [List.mem_singleton] at h; subst h
        rcases List.mem_append.mp hz' with g | g
        · exact (hzn z g).2.1.symm
        · rw [List.mem_singleton] at g; subst g
          exact tu'
  rintro ρ h8 ⟨_, x5, x6, Z, rfl, eZ, em, hz, pw, tu, sb⟩
  rw [show Xs.take (srcL xl Xs).ds.length = Xs from List.take_of_length_le (by simp [srcL])] at eZ
  have s8 : Sb h h8 := sb_hm s7 sb (by simpa using nsm0)
  have hZ0 : ∀ x ∈ Z.map (·.t), h x = none := fun x hx => by
    obtain ⟨z, hz', rfl⟩ := List.mem_map.mp hx
    exact s7.nn (hz z hz').2.2.1
  have nsm : sm ∉ Z.map (·.t) := fun hx => by
    obtain ⟨z, hz', e⟩ := List.mem_map.mp hx
    exact hsm7 _ (hz z hz').2.2.1 e
  have lZ : Z.length ≤ 1001 := by
    have := congrArg List.length eZ
    rw [List.length_map] at this; omega
  obtain ⟨z0, hz0, ez0⟩ : ∃ z, Z[0]? = some z ∧ z.x = main0 := by
    have := hX0
    rw [← eZ, List.getElem?_map] at this
    cases e : Z[0]? with
    | none => rw [e] at this; cases this
    | some z => rw [e] at this; exact ⟨z, rfl, Option.some.inj this⟩
  have hz := fun z hz' => (⟨(hz z hz').1, (hz z hz').2.1⟩ : h8 z.t = some (.lst (IN z.x)) ∧ h8 z.u = some (.lst (IN z.x)))
  clear ex7 es7 ei7 em7 s7 sb hX0 hXp hXl nsx hsm7
  trivial
  refine ⟨fun i ρ h' => i ≤ Z.length ∧ ∃ x6 x7, ρ = [some (.ref p), some (.int n), some (.ref sd), some (.ref ind), some (.ref sm), x5, x6, x7, none] ∧ Sb (hm h8 (Z.map (·.t))) h' ∧ (∀ z ∈ Z.drop i, h' z.t = some (.lst (IN z.x))), ?_, ?_, ?_, ?_⟩
  · exact ⟨Nat.zero_le _, _, _, rfl, hm_sb _ _, fun z hz' => (hz z hz').1⟩
  · rintro i ρ h' _ ⟨_, x6, x7, _, sb, _⟩
    exact hm_get sb em nsm
  · rintro i ρ h' d ⟨hi, x6, x7, rfl, sb, hT⟩ hd
    obtain ⟨z, hzi, rfl⟩ := get_map hd
    have hlt := (List.getElem?_eq_some_iff.mp hzi).1
    have hzm := List.mem_of_getElem? hzi
    have ed : Z.drop i = z :: Z.drop (i + 1) := by
      rw [List.drop_eq_getElem_cons hlt, (List.getElem?_eq_some_iff.mp hzi).2]
    have et := hT z (by rw [ed]; exact List.mem_cons_self)
    have eu : h' z.u = some (.lst (IN z.x)) := hm_get sb (hz z hzm).2 fun hx => by
      obtain ⟨y, hy, e⟩ := List.mem_map.mp hx
      exact tu y hy z hzm e
    have il := ilen z.x
    trivial
    refine oNe_same (dvI _ et) (dvI _ eu) ?_
    trivial
    refine ⟨by rw [SZ]; omega, ?_⟩
    apply Pt.of
    refine ⟨hlt, _, _, rfl, sb.upf (hm_in (List.mem_map.mpr ⟨z, hzm, rfl⟩)), fun y hy => ?_⟩
    have pd := List.Pairwise.sublist (List.drop_sublist i Z) pw
    rw [ed] at pd
    refine up_at ((List.pairwise_cons.mp pd).1 y hy).symm (hT y ?_)
    rw [ed]; exact List.mem_cons_of_mem _ hy
  rintro ρ h9 ⟨_, x6, x7, rfl, sb, _⟩
  have s9 : Sb h h9 := sb_hm s8 sb hZ0
  trivial
  refine inner_parts_ok (f.sb s9) o (X := main0) rfl fun r h10 nr s10 er => ?_
  have er := qI main0 er
  have em10 := s10 _ _ (hm_get sb em nsm)
  have hz0m := List.mem_of_getElem? hz0
  have eu : h10 z0.u = some (.lst (IN main0)) := by
    refine s10 _ _ (hm_get sb (ez0 ▸ (hz z0 hz0m).2) fun hx => ?_)
    obtain ⟨y, hy, e⟩ := List.mem_map.mp hx
    exact tu y hy z0 hz0m e
  trivial
  refine ⟨encTU z0, atI_nat (i := 0) (by rw [List.getElem?_map, hz0]; rfl), ?_⟩
  trivial
  refine oEq_same (dvI _ er) (dvI _ eu) ?_
  trivial
  apply Pt.of
  exact q _ (s9.trans s10)
end K29
end

section
set_option linter.all false
set_option autoImplicit false
set_option maxRecDepth 100000
set_option maxHeartbeats 4000000
namespace K29
open G
open PySem (Str)
local macro_rules | `(tactic| fail $s:str) => match s.getString with
  | "ne" => `(tactic| first | assumption | (apply Ne.symm; assumption) | exact ne_f1 (by assumption) (by fail "lk") | exact ne_f2 (by assumption) (by fail "lk") | grind [up, Sb])
  | "lk" => `(tactic| first | assumption | exact up_same | (refine up_at ?_ ?_; (· fail "ne"); fail "lk") | (refine Sb.at ?_ ?_; (· assumption); fail "lk"))
  | "sd" => `(tactic| first | (with_reducible show -(2 ^ 62) ≤ (_ : Int); first | omega | (simp only [List.length_map]; omega)) | (with_reducible show (_ : Int) < 2 ^ 62; first | omega | (simp only [List.length_map]; omega)) | assumption | rfl | (apply isT_lst; fail "lk") | (apply isT_dic; fail "lk") | decide | (simp only [List.length_cons, List.length_nil]; decide) | exact mulOk_l (by decide) (by decide) | exact mulOk_r (by decide) (by decide) | exact mulOk_l (by omega) (by omega) | exact mulOk_r (by omega) (by omega) | omega | (simp only [List.length_map]; omega))
  | "ls" => `(tactic| first | exact sq_tup | exact sq_rl | exact ls_rl | (apply ls_lst; fail "lk") | (apply sq_lst; fail "lk"))
  | "st" => `(tactic| first
  | ((with_reducible apply ix_lst); (· fail "lk"))
  | with_reducible apply ix_tup
  | with_reducible apply ix_str
  | with_reducible apply in_tup
  | with_reducible apply min_ii
  | with_reducible apply max_ii
  | ((with_reducible apply in_lst); (· fail "lk"))
  | ((with_reducible apply in_dic); (· fail "lk"))
  | ((with_reducible apply notIn_dic); (· fail "lk"))
  | ((with_reducible apply notIn_lst); (· fail "lk"))
  | with_reducible apply ix_rl
  | ((with_reducible apply ix_dic); (· fail "lk"))
  | ((with_reducible apply app_lst); (· fail "lk"))
  | ((with_reducible apply len_lst); (· fail "lk"))
  | with_reducible apply len_tup
  | with_reducible apply len_rl
  | with_reducible apply len_str
  | ((with_reducible apply oIsT_lst); (· fail "lk"))
  | ((with_reducible apply dict_ls); (· fail "ls"))
  | ((with_reducible apply sl_ls); (· fail "ls"))
  | ((with_reducible apply rev_ls); (· fail "ls"))
  | ((with_reducible apply list_sq); (· fail "ls"))
  | ((with_reducible apply list_dic); (· fail "lk"))
  | ((with_reducible apply index_ls); (· fail "ls"))
  | ((with_reducible apply count_ls); (· fail "ls"))
  | ((with_reducible apply fill_dic); (· fail "lk"))
  | ((with_reducible apply max_ls); (· fail "ls"))
  | ((with_reducible apply sortK_ls); (· fail "ls"))
  | ((with_reducible apply sum_ls); (· fail "ls"))
  | ((with_reducible apply sorted_ls); (· fail "ls"))
  | ((with_reducible apply sortI_ls); (· fail "ls"))
  | ((with_reducible apply sortD_ls); (· fail "ls"))
  | ((with_reducible apply sortD_dic); (· fail "lk"))
  | ((with_reducible apply oIsT_dic); (· fail "lk"))
  | ((with_reducible apply walkD_lst); (· fail "lk"))
  | ((with_reducible apply walkD_dic); (· fail "lk"))
  | ((with_reducible apply walkI_dic); (· fail "lk"))
  | with_reducible apply walkD_tup
  | with_reducible apply walkD_rl
  | ((with_reducible apply walkL_lst); (· fail "lk"))
  | with_reducible apply walkL_rl
  | ((with_reducible apply mul_lst); (· fail "lk"))
  | ((with_reducible apply min_ls); (· fail "ls"))
  | ((with_reducible apply oAdd_lst); (· fail "lk"); (· fail "lk"))
  | ((with_reducible apply put_lst); (· fail "lk"))
  | ((with_reducible apply put_dic); (· fail "lk"))
  | ((with_reducible apply tru_lst); (· fail "lk"))
  | with_reducible apply oIsT_bl
  | with_reducible apply oIsT_int
  | with_reducible apply oIsT_str
  | with_reducible apply oIsT_tup
  | with_reducible apply oIsT_rl
  | with_reducible apply oIsT_non
  | with_reducible apply sl_tup
  | with_reducible apply sl_str
  | ((with_reducible apply get_dic); (· fail "lk"))
  | ((with_reducible apply get_dic2); (· fail "lk"))
  | ((with_reducible apply setdef_dic); (· fail "lk"))
  | ((with_reducible apply ext_lst); (· fail "lk"); (· fail "lk"))
  | ((with_reducible apply pop_lst); (· fail "lk"))
  | ((with_reducible apply popAt_lst); (· fail "lk"))
  | ((with_reducible apply ins_lst); (· fail "lk"))
  | ((with_reducible apply clr_lst); (· fail "lk"))
  | ((with_reducible apply clr_dic); (· fail "lk"))
  | ((with_reducible apply join_sq); (· fail "ls"))
  | ((with_reducible apply oEq_sst); (· with_reducible rfl))
  | ((with_reducible apply oEq_ssf); (· first | assumption | decide))
  | ((with_reducible apply oNe_sst); (· with_reducible rfl))
  | ((with_reducible apply oNe_ssf); (· first | assumption | decide))
  | ((with_reducible apply oEq_iit); (· with_reducible rfl))
  | ((with_reducible apply oEq_iif); (· first | assumption | decide))
  | ((with_reducible apply oNe_iit); (· with_reducible rfl))
  | ((with_reducible apply oNe_iif); (· first | assumption | decide))
  | refine Exists.intro _ (And.intro (rfl : atI _ _ = some _) ?_)
  | refine Exists.intro _ (And.intro (rfl : ixN _ _ = some _) ?_)
  | ((with_reducible refine And.intro ?_ ?_); (· fail "sd")))
  | _ => Lean.Macro.throwUnsupported
local macro_rules | `(tactic| nofun) => `(tactic| fail "ne")
local macro_rules | `(tactic| bv_omega) => `(tactic| fail "lk")
local macro_rules | `(tactic| ac_rfl) => `(tactic| fail "sd")
local macro_rules | `(tactic| trivial) => `(tactic| ((conv => whnf); repeat (fail "st"; (conv => whnf))))
theorem law_holds : ∀ ns : List Int, ns.length ≤ 63 → f_law [.rl (ns.map .int)] (fun _ => none) fun d _ => d = .bl true := by
  intro ns hns
  unfold f_law
  trivial
  refine drawn_ok fun p A B L C a b h1 np nA s1 fc inv => ?_
  clear np nA s1
  have ll := inv.ll
  have lok := inv.lok (by omega)
  have d0 : dget (fcN 9 A) (.str (Str.ofString "births")) = some (.ref (A 0)) := fcN_get (i := 0) (Nat.le_refl 9) (by omega) A
  have d1 : dget (fcN 9 A) (.str (Str.ofString "places")) = some (.ref (A 1)) := fcN_get (i := 1) (Nat.le_refl 9) (by omega) A
  have d2 : dget (fcN 9 A) (.str (Str.ofString "cuts")) = some (.ref (A 2)) := fcN_get (i := 2) (Nat.le_refl 9) (by omega) A
  have mk : ∀ {h' : AH} {L' : List Pc} {a' b' : Int}, Fc h' p A (pX B L' C) → (∀ q ∈ L', PcOk a' b' q) → Pf h' p B L' C a' b' := fun fc ls => ⟨⟨_, A 1, A 2, fc.dic, d1, d2, fc.lst 1 (by omega), fc.lst 2 (by omega), A 0, d0, fc.lst 0 (by omega)⟩, ls, inv.cs, by have := inv.lc; omega, fun x hx => (inv.bs x hx).1, by have := inv.lb; omega⟩
  trivial
  refine kept_ok fc fun e B1 h2 ne ee e2' s2 => ?_
  have fc2 := fc.sb s2
  clear fc s2 ne
  trivial
  refine shown_right_ok (mk fc2 inv.ls) lok fun h3 s3 => ?_
  have fc3 := fc2.sb s3
  have ee3 := s3 _ _ ee
  have eB3 := fun i hi => s3 _ _ (e2' i hi)
  clear fc2 ee e2' s3
  trivial
  refine inner_right_ok (n := 24) (mk fc3 inv.ls) lok fun h4 s4 => ?_
  have fc4 := fc3.sb s4
  have ee4 := s4 _ _ ee3
  have eB4 := fun i hi => s4 _ _ (eB3 i hi)
  clear fc3 ee3 eB3 s4
  trivial
  refine kept_ok fc4 fun e' B2 h5 ne' ee5 eB5 s5 => ?_
  have dx := pX_dat inv
  refine oNe_same (fcT_dv ee5 eB5 dx) (fcT_dv (s5 _ _ ee4) (fun i hi => s5 _ _ (eB4 i hi)) dx) ?_
  have fc5 := fc4.sb s5
  clear fc4 ee4 eB4 ee5 eB5 s5 ne'
  trivial
  refine l_outers_ok fc5.dic d1 (fc5.lst 1 (by omega)) inv.ls lok.len fun d h6 nd6 s6 ed => ?_
  have fc6 := fc5.sb s6
  clear fc5 s6 nd6
  have kdv : ∀ h : AH, ∀ x ∈ pl3 L, ∃ z, Dv h 10 x.2 z := fun h x hx => by
    obtain ⟨y, hy, rfl⟩ := pl3_mem hx
    have o := inv.ls y hy
    have h2 := pl_dat 7 _ o.ot.pl
    have h3 := pl_dat 7 _ o.nm.pl
    exact ⟨_, .dat (m := 8) (by simp only [e3, dat, datL, h2, h3]; rfl)⟩
  have kn : ∀ k ∈ (pl3 L).map (·.1), Nm k := fun k hk => by
    obtain ⟨x, hx, rfl⟩ := List.mem_map.mp hk
    obtain ⟨y, hy, rfl⟩ := pl3_mem hx
    exact (inv.ls y hy).pt
  have kl := pl3_len L
  trivial
  refine newD_i fun z nz => ?_
  have ed7 := up_at (o := .dic []) (show d ≠ z by nofun) ed
  refine ⟨eqB_nil ed7 up_same (kdv _) ?_⟩
  have fc7 := fc6.sb ((Sb.refl _).upf' nz (o := .dic []))
  generalize up h6 z (.dic []) = h7 at ed7 fc7 ⊢
  clear fc6 ed nz
  trivial
  refine onT_i (fun hne => ?_) (fun hne => ?_)
  · generalize pl3 L = ks at kdv ed7 kn kl hne
    have hnz : ks ≠ [] := fun z => by rw [z] at hne; simp at hne
    obtain ⟨k, hk⟩ : ∃ k, ((ks.map (·.1)).mergeSort (dle false))[0]? = some k := ⟨_, List.getElem?_eq_getElem (by rw [List.length_mergeSort, List.length_map]; exact List.length_pos_iff.mpr hnz)⟩
    have hkm : Nm k := kn k ((List.mergeSort_perm _ _).mem_iff.mp (List.mem_of_getElem? hk))
    have fd12 := fc7.dic
    have f112 : h7 (A 1) = some (.lst (L.map encP)) := fc7.lst 1 (by omega)
    trivial
    refine ⟨_, d1, ?_⟩
    trivial
    refine ⟨⟨fun a ha b hb => ?_, fun a ha => pl_dat 12 _ (pl_mono 7 12 _ (by omega) (kn a ha).pl), .inl fun a ha => ?_⟩, ?_⟩
    · obtain ⟨w, n, rfl, _⟩ := kn a ha
      obtain ⟨w', n', rfl, _⟩ := kn b hb
      simp [alk, alkL]
    · obtain ⟨w, n, rfl, _⟩ := kn a ha
      exact ⟨_, _, rfl⟩
    refine newL_i fun y ny => ?_
    trivial
    refine ⟨k, atI_nat (i := 0) hk, ?_⟩
    have fc13 := fc7.sb ((Sb.refl _).upf' ny (o := .lst ((ks.map (·.1)).mergeSort (dle false))))
    generalize up h7 y (.lst ((ks.map (·.1)).mergeSort (dle false))) = h13 at fc13 ⊢
    clear fc7 fd12 f112 ed7 ny
    have fd13 := fc13.dic
    have f113 : h13 (A 1) = some (.lst (L.map encP)) := fc13.lst 1 (by omega)
    have p8 := pl_mono 7 8 _ (by omega) hkm.pl
    trivial
    refine ⟨by rw [List.length_map, SZ]; omega, ?_⟩
    have fc14 := (fc13.upd (n := 1) (by omega) (L.map encP ++ [.tup [k, .tup [.str (Str.ofString ""), .int 0], .tup [.str (Str.ofString "ann"), .int 99], .tup [.int 1000, .int 0]]])).x (pX_l (x := ⟨k, main0, .tup [.str (Str.ofString "ann"), .int 99], 1000, 0⟩))
    generalize up h13 (A 1) _ = h14 at fc14 ⊢
    clear fc13 fd13 f113
    have ok' : ∀ q ∈ L ++ [(⟨k, main0, .tup [.str (Str.ofString "ann"), .int 99], 1000, 0⟩ : Pc)], PcOk 1000 0 q := fun q hq => by
      rcases List.mem_append.mp hq with h | h
      · have o := inv.ls q h
        exact ⟨o.pt, o.ot, o.nm, .inl (by have := o.le; have := inv.ak; omega)⟩
      · rw [List.mem_singleton] at h; subst h
        exact ⟨hkm, .inl rfl, ⟨_, _, rfl, .inl rfl⟩, .inr ⟨rfl, Int.le_refl _⟩⟩
    have up' : (L ++ [(⟨k, main0, .tup [.str (Str.ofString "ann"), .int 99], 1000, 0⟩ : Pc)]).Pairwise fun x y => [x.k0, x.k1] < [y.k0, y.k1] := by
      refine List.pairwise_append.mpr ⟨inv.up, List.pairwise_singleton _ _, fun z hz w hw => ?_⟩
      rw [List.mem_singleton] at hw; subst hw
      have := (inv.ls z hz).le
      have := inv.ak
      exact lx2.mpr (.inl (by show z.k0 < 1000; omega))
    generalize hL : L ++ [(⟨k, main0, .tup [.str (Str.ofString "ann"), .int 99], 1000, 0⟩ : Pc)] = L' at ok' up' fc14
    have hl' : L'.length ≤ 62 := by rw [← hL, List.length_append, List.length_singleton]; omega
    have lok' : LOk L' := ⟨fun p hp => (ok' p hp).pt, fun p hp => (ok' p hp).ot, fun p hp => (ok' p hp).nm, up', by omega⟩
    trivial
    refine shown_right_ok (mk fc14 ok') lok' fun h15 s15 => ?_
    have fc15 := fc14.sb s15
    trivial
    refine inner_right_ok (n := 4) (mk fc15 ok') lok' fun h16 s16 => ?_
    apply Pt.of
    rfl
  · trivial
    refine shown_right_ok (mk fc7 inv.ls) lok fun h15 s15 => ?_
    have fc15 := fc7.sb s15
    trivial
    refine inner_right_ok (n := 4) (mk fc15 inv.ls) lok fun h16 s16 => ?_
    apply Pt.of
    rfl
end K29
end

section
set_option Elab.async false
set_option linter.all false
set_option maxRecDepth 100000
set_option maxHeartbeats 4000000
/-! The walk of pagefolk_k29_parts_shown; printed by pp.py. -/
namespace K29
open PySem PySem.Spec PyProof.Rows L2 G
def topS (i : Nat) : Stmt := PySem.Challenge.pw_pagefolk_k29_parts_shown.main.body.getD i (.Pass ⟨0, 0, 0, 0⟩)
abbrev s_places_by : Stmt := topS 2
theorem sc_places_by : FnScope ["facts", "found", "part", "outer", "told", "rank"] ["facts"] (defScope s_places_by) := ⟨rfl, rfl, rfl, by decide +kernel, rfl, by decide +kernel, by decide +kernel⟩
abbrev s_round_of : Stmt := topS 3
theorem sc_round_of : FnScope ["places", "seen", "part", "way", "here"] ["places", "seen", "part"] (defScope s_round_of) := ⟨rfl, rfl, rfl, by decide +kernel, rfl, by decide +kernel, by decide +kernel⟩
abbrev s_outers_of : Stmt := topS 4
theorem sc_outers_of : FnScope ["places", "found", "part", "seen", "top", "one"] ["places"] (defScope s_outers_of) := ⟨rfl, rfl, rfl, by decide +kernel, rfl, by decide +kernel, by decide +kernel⟩
abbrev s_stands_in : Stmt := topS 5
theorem sc_stands_in : FnScope ["facts", "outers", "reached", "part", "way", "here", "one", "found"] ["facts"] (defScope s_stands_in) := ⟨rfl, rfl, rfl, by decide +kernel, rfl, by decide +kernel, by decide +kernel⟩
abbrev s_shown_by : Stmt := topS 6
theorem sc_shown_by : FnScope ["facts", "inner", "cut", "row", "seen", "part", "way", "here", "one"] ["facts", "inner"] (defScope s_shown_by) := ⟨rfl, rfl, rfl, by decide +kernel, rfl, by decide +kernel, by decide +kernel⟩
abbrev s_shown_parts : Stmt := topS 7
theorem sc_shown_parts : FnScope ["facts", "seen", "part"] ["facts"] (defScope s_shown_parts) := ⟨rfl, rfl, rfl, by decide +kernel, rfl, by decide +kernel, by decide +kernel⟩
abbrev s_inner_parts : Stmt := topS 8
theorem sc_inner_parts : FnScope ["facts", "part", "inner", "seen", "places", "found", "one", "row"] ["facts", "part"] (defScope s_inner_parts) := ⟨rfl, rfl, rfl, by decide +kernel, rfl, by decide +kernel, by decide +kernel⟩
abbrev s_l_cell_at : Stmt := topS 10
theorem sc_l_cell_at : FnScope ["_law_script", "_law_k"] ["_law_script", "_law_k"] (defScope s_l_cell_at) := ⟨rfl, rfl, rfl, by decide +kernel, rfl, by decide +kernel, by decide +kernel⟩
abbrev s_l_pool : Stmt := topS 11
theorem sc_l_pool : FnScope ["_law_script", "_law_k", "_law_cell", "_law_number"] ["_law_script", "_law_k"] (defScope s_l_pool) := ⟨rfl, rfl, rfl, by decide +kernel, rfl, by decide +kernel, by decide +kernel⟩
abbrev s_l_take : Stmt := topS 12
theorem sc_l_take : FnScope ["_law_pool_here", "_law_many", "_law_found"] ["_law_pool_here", "_law_many"] (defScope s_l_take) := ⟨rfl, rfl, rfl, by decide +kernel, rfl, by decide +kernel, by decide +kernel⟩
abbrev s_l_facts : Stmt := topS 13
theorem sc_l_facts : FnScope ["_law_facts_here", "_law_word"] [] (defScope s_l_facts) := ⟨rfl, rfl, rfl, by decide +kernel, rfl, by decide +kernel, by decide +kernel⟩
abbrev s_l_key : Stmt := topS 14
theorem sc_l_key : FnScope ["_law_last", "_law_name", "_law_hand", "_law_named", "_law_told", "_law_one"] ["_law_last", "_law_name", "_law_hand", "_law_named"] (defScope s_l_key) := ⟨rfl, rfl, rfl, by decide +kernel, rfl, by decide +kernel, by decide +kernel⟩
abbrev s_l_outers : Stmt := topS 16
theorem sc_l_outers : FnScope ["_law_facts_here", "_law_outers_here", "_law_part", "_law_outer", "_law_name", "_law_key_here"] ["_law_facts_here"] (defScope s_l_outers) := ⟨rfl, rfl, rfl, by decide +kernel, rfl, by decide +kernel, by decide +kernel⟩
abbrev s_l_beneath : Stmt := topS 17
theorem sc_l_beneath : FnScope ["_law_facts_here", "_law_one", "_law_part", "_law_outers_here"] ["_law_facts_here", "_law_one", "_law_part"] (defScope s_l_beneath) := ⟨rfl, rfl, rfl, by decide +kernel, rfl, by decide +kernel, by decide +kernel⟩
abbrev s_l_event : Stmt := topS 15
theorem sc_l_event : FnScope ["_law_facts_here", "_law_pool_here", "_law_k", "_law_last", "_law_rounds", "_law_way", "_law_hand", "_law_name", "_law_parts", "_law_outer", "_law_key_here", "_law_part", "_law_one"] ["_law_facts_here", "_law_pool_here", "_law_k", "_law_last", "_law_rounds"] (defScope s_l_event) := ⟨rfl, rfl, rfl, by decide +kernel, rfl, by decide +kernel, by decide +kernel⟩
abbrev s_l_drawn : Stmt := topS 18
theorem sc_l_drawn : FnScope ["_law_script", "_law_rounds", "_law_facts_here", "_law_last", "_law_k"] ["_law_script", "_law_rounds"] (defScope s_l_drawn) := ⟨rfl, rfl, rfl, by decide +kernel, rfl, by decide +kernel, by decide +kernel⟩
abbrev s_l_kept : Stmt := topS 19
theorem sc_l_kept : FnScope ["_law_facts_here", "_law_word"] ["_law_facts_here"] (defScope s_l_kept) := ⟨rfl, rfl, rfl, by decide +kernel, rfl, by decide +kernel, by decide +kernel⟩
abbrev s_l_stands : Stmt := topS 20
theorem sc_l_stands : FnScope ["_law_facts_here", "_law_outers_here", "_law_told", "_law_part", "_law_around", "_law_here", "_law_keys", "_law_found", "_law_one"] ["_law_facts_here"] (defScope s_l_stands) := ⟨rfl, rfl, rfl, by decide +kernel, rfl, by decide +kernel, by decide +kernel⟩
abbrev s_l_shown : Stmt := topS 21
theorem sc_l_shown : FnScope ["_law_facts_here", "_law_stands_here", "_law_cut", "_law_seen", "_law_part", "_law_here", "_law_one"] ["_law_facts_here"] (defScope s_l_shown) := ⟨rfl, rfl, rfl, by decide +kernel, rfl, by decide +kernel, by decide +kernel⟩
abbrev s_l_inner : Stmt := topS 22
theorem sc_l_inner : FnScope ["_law_facts_here", "_law_stands_here", "_law_seen", "_law_part", "_law_outers_here", "_law_some", "_law_one", "_law_key_here"] ["_law_facts_here", "_law_stands_here", "_law_seen", "_law_part"] (defScope s_l_inner) := ⟨rfl, rfl, rfl, by decide +kernel, rfl, by decide +kernel, by decide +kernel⟩
abbrev s_l_shown_right : Stmt := topS 23
theorem sc_l_shown_right : FnScope ["_law_facts_here", "_law_seen", "_law_found"] ["_law_facts_here"] (defScope s_l_shown_right) := ⟨rfl, rfl, rfl, by decide +kernel, rfl, by decide +kernel, by decide +kernel⟩
abbrev s_l_inner_right : Stmt := topS 24
theorem sc_l_inner_right : FnScope ["_law_facts_here", "_law_most", "_law_seen", "_law_stands_here", "_law_some", "_law_part", "_law_told", "_law_due", "_law_one"] ["_law_facts_here", "_law_most"] (defScope s_l_inner_right) := ⟨rfl, rfl, rfl, by decide +kernel, rfl, by decide +kernel, by decide +kernel⟩
abbrev s_law : Stmt := topS 25
theorem sc_law : FnScope ["_law_script", "_law_facts_here", "_law_kept_here", "_law_placed"] ["_law_script"] (defScope s_law) := ⟨rfl, rfl, rfl, by decide +kernel, rfl, by decide +kernel, by decide +kernel⟩
local instance : Tb := tb0
section
variable {P : Program} {w : World} {K : PySem.W.Frag} {mg : Str → Option Value} {base : Heap}
theorem ok_places_by {f : PySem.Addr} {fd : FuncData} (F : Fun K "places_by" "places_by" s_places_by f fd) : FnG P w K mg base 1 f fd ["facts"] f_places_by := by
  unfold f_places_by
  exact fn_ok F sc_places_by fun cdv A outer s H E hr =>
    (gss_cons (gs_set (i := 1) sc_places_by.nd ge_dic0)
      (gss_cons (gs_for PassesOwn.never rfl (gi_seq (ge_ix (gx_ix (hu64 hr)) (ge_var 0) ge_str)) (gg_tup rfl (ggs_cons (gg_var sc_places_by.nd) (ggs_cons (gg_var sc_places_by.nd) (ggs_cons (gg_var sc_places_by.nd) (ggs_cons (gg_var sc_places_by.nd) ggs_nil))))) (gss_one (gs_if (PW.pt (gw_or (gt_cmp (gc_notIn (hu64 hr)) (ge_var 2) (ge_var 1)) (gw_or1 (gt_cmp (gc_gt (hu64 hr)) (ge_var 5) (ge_ix (gx_ix (hu64 hr)) (ge_ix (gx_ix (hu64 hr)) (ge_var 1) (ge_var 2)) ge_int))))) (gss_one (gs_asg (ge_tup (ga_cons (ge_var 3) (ga_cons (ge_var 4) (ga_cons (ge_var 5) ga_nil)))) (gg_sub (pg_sub (ge_var 1) (ge_var 2) (set_ok (hu64 hr)))))) gss_nil)))
      (gss_one (gs_ret (ge_var 1)))))
theorem ok_round_of {f : PySem.Addr} {fd : FuncData} (F : Fun K "round_of" "round_of" s_round_of f fd) : FnG P w K mg base 1 f fd ["places", "seen", "part"] f_round_of := by
  unfold f_round_of
  exact fn_ok F sc_round_of fun cdv A outer s H E hr =>
    (gss_cons (gs_set (i := 3) sc_round_of.nd (ge_lst ga_nil))
      (gss_cons (gs_set (i := 4) sc_round_of.nd (ge_var 2))
      (gss_cons (gs_while PassesOwn.never (PW.pt (gw_and (gt_cmp (gc_in (hu64 hr)) (ge_var 4) (ge_var 0)) (gw_and1 (gt_cmp (gc_notIn (hu64 hr)) (ge_var 4) (ge_var 1))))) (gss_cons (gs_asg (ge_var 2) (gg_sub (pg_sub (ge_var 1) (ge_var 4) (set_ok (hu64 hr)))))
      (gss_cons (gs_exp (ge_meth PySem.F.plainAttrs_list PySem.F.slot_list_append PySem.F.type_list_append gm_append (by decide) (ge_var 3) (ga_cons (ge_var 4) ga_nil)))
      (gss_one (gs_set (i := 4) sc_round_of.nd (ge_ix (gx_ix (hu64 hr)) (ge_ix (gx_ix (hu64 hr)) (ge_var 0) (ge_var 4)) ge_int))))))
      (gss_cons (gs_if (PW.pt (gw_and (gt_cmp (gc_in (hu64 hr)) (ge_var 4) (ge_var 0)) (gw_and1 (gt_cmp (gc_eq (hu64 hr)) (ge_ix (gx_ix (hu64 hr)) (ge_var 1) (ge_var 4)) (ge_var 2))))) (gss_one (gs_ret (ge_slice (ge_var 3) (go_some (ge_meth PySem.F.plainAttrs_list PySem.F.slot_list_index PySem.F.type_list_index (gm_index (hu100 hr)) (by decide) (ge_var 3) (ga_cons (ge_var 4) ga_nil))) go_none))) gss_nil)
      (gss_one (gs_ret (ge_lst ga_nil)))))))
theorem ok_outers_of {f : PySem.Addr} {fd : FuncData} (F : Fun K "outers_of" "outers_of" s_outers_of f fd) {u_MAIN : Value} {v_MAIN : V} (X_MAIN : mg "MAIN" = some u_MAIN ∧ L2.RelV v_MAIN u_MAIN ∧ ∀ H, Rv K H c_MAIN v_MAIN) {a_round_of : PySem.Addr} {d_round_of : FuncData} (G_round_of : FnG P w K mg base 1 a_round_of d_round_of ["places", "seen", "part"] f_round_of) (g_round_of : mg "round_of" = some (.ref a_round_of)) (k_round_of : PySem.W.keepIn K (.ref a_round_of) = true) (b_round_of_ : Binds K d_round_of ["places", "seen", "part"] []) : FnG P w K mg base 2 f fd ["places"] f_outers_of := by
  unfold f_outers_of
  exact fn_ok F sc_outers_of fun cdv A outer s H E hr =>
    (gss_cons (gs_set (i := 1) sc_outers_of.nd ge_dic0)
      (gss_cons (gs_for PassesOwn.never rfl (gi_seq (ge_var 0)) (gg_var sc_outers_of.nd) (gss_one (gs_asg (ge_ix (gx_ix (hu64 hr)) (ge_ix (gx_ix (hu64 hr)) (ge_var 0) (ge_var 2)) ge_int) (gg_sub (pg_sub (ge_var 1) (ge_var 2) (set_ok (hu64 hr)))))))
      (gss_cons (gs_set (i := 3) sc_outers_of.nd ge_dic0)
      (gss_cons (gs_for PassesOwn.never rfl (gi_seq (ge_var 0)) (gg_var sc_outers_of.nd) (gss_cons (gs_set (i := 4) sc_outers_of.nd ge_non)
      (gss_cons (gs_for PassesOwn.never rfl (gi_seq (ge_call G_round_of (hr.mono (by decide)) g_round_of k_round_of b_round_of_ (ga_cons (ge_var 0) (ga_cons (ge_var 3) (ga_cons (ge_var 2) ga_nil))))) (gg_var sc_outers_of.nd) (gss_one (gs_if (PW.pt (gw_or (gt_isN (ge_var 4)) (gw_or1 (gt_cmp (gc_gt (hu64 hr)) (ge_ix (gx_ix (hu64 hr)) (ge_ix (gx_ix (hu64 hr)) (ge_var 0) (ge_var 5)) ge_int) (ge_ix (gx_ix (hu64 hr)) (ge_ix (gx_ix (hu64 hr)) (ge_var 0) (ge_var 4)) ge_int))))) (gss_one (gs_set (i := 4) sc_outers_of.nd (ge_var 5))) gss_nil)))
      (gss_one (gs_if (gt_notN (ge_var 4)) (gss_one (gs_asg (ge_glob X_MAIN.1 X_MAIN.2.1 X_MAIN.2.2) (gg_sub (pg_sub (ge_var 1) (ge_var 4) (set_ok (hu64 hr)))))) gss_nil)))))
      (gss_one (gs_ret (ge_var 1)))))))
theorem ok_stands_in {f : PySem.Addr} {fd : FuncData} (F : Fun K "stands_in" "stands_in" s_stands_in f fd) {u_MAIN : Value} {v_MAIN : V} (X_MAIN : mg "MAIN" = some u_MAIN ∧ L2.RelV v_MAIN u_MAIN ∧ ∀ H, Rv K H c_MAIN v_MAIN) {a_places_by : PySem.Addr} {d_places_by : FuncData} (G_places_by : FnG P w K mg base 1 a_places_by d_places_by ["facts"] f_places_by) (g_places_by : mg "places_by" = some (.ref a_places_by)) (k_places_by : PySem.W.keepIn K (.ref a_places_by) = true) (b_places_by_ : Binds K d_places_by ["facts"] []) {a_outers_of : PySem.Addr} {d_outers_of : FuncData} (G_outers_of : FnG P w K mg base 2 a_outers_of d_outers_of ["places"] f_outers_of) (g_outers_of : mg "outers_of" = some (.ref a_outers_of)) (k_outers_of : PySem.W.keepIn K (.ref a_outers_of) = true) (b_outers_of_ : Binds K d_outers_of ["places"] []) : FnG P w K mg base 3 f fd ["facts"] f_stands_in := by
  unfold f_stands_in
  exact fn_ok F sc_stands_in fun cdv A outer s H E hr =>
    (gss_cons (gs_set (i := 1) sc_stands_in.nd (ge_call G_outers_of (hr.mono (by decide)) g_outers_of k_outers_of b_outers_of_ (ga_cons (ge_call G_places_by (hr.mono (by decide)) g_places_by k_places_by b_places_by_ (ga_cons (ge_var 0) ga_nil)) ga_nil)))
      (gss_cons (gs_set (i := 2) sc_stands_in.nd (ge_disp (hu64 hr) (gp_cons (ge_glob X_MAIN.1 X_MAIN.2.1 X_MAIN.2.2) ge_bl gp_nil)))
      (gss_cons (gs_for PassesOwn.never rfl (gi_seq (ge_var 1)) (gg_var sc_stands_in.nd) (gss_cons (gs_set (i := 4) sc_stands_in.nd (ge_lst ga_nil))
      (gss_cons (gs_set (i := 5) sc_stands_in.nd (ge_var 3))
      (gss_cons (gs_while PassesOwn.never (PW.pt (gw_and (gt_cmp (gc_in (hu64 hr)) (ge_var 5) (ge_var 1)) (gw_and1 (gt_cmp (gc_notIn (hu64 hr)) (ge_var 5) (ge_var 2))))) (gss_cons (gs_exp (ge_meth PySem.F.plainAttrs_list PySem.F.slot_list_append PySem.F.type_list_append gm_append (by decide) (ge_var 4) (ga_cons (ge_var 5) ga_nil)))
      (gss_one (gs_set (i := 5) sc_stands_in.nd (ge_ix (gx_ix (hu64 hr)) (ge_var 1) (ge_var 5))))))
      (gss_one (gs_for PassesOwn.never rfl (gi_seq (ge_var 4)) (gg_var sc_stands_in.nd) (gss_one (gs_asg (ge_meth PySem.F.plainAttrs_dict PySem.F.slot_dict_get PySem.F.type_dict_get (gm_get (hu64 hr)) (by decide) (ge_var 2) (ga_cons (ge_var 5) (ga_cons ge_bl ga_nil))) (gg_sub (pg_sub (ge_var 2) (ge_var 6) (set_ok (hu64 hr))))))))))))
      (gss_cons (gs_set (i := 7) sc_stands_in.nd ge_dic0)
      (gss_cons (gs_for PassesOwn.never rfl (gi_seq (ge_var 1)) (gg_var sc_stands_in.nd) (gss_cons (gs_asg ge_non (gg_sub (pg_sub (ge_var 7) (ge_var 3) (set_ok (hu64 hr)))))
      (gss_one (gs_if (gt_val (ge_ix (gx_ix (hu64 hr)) (ge_var 2) (ge_var 3))) (gss_one (gs_asg (ge_ix (gx_ix (hu64 hr)) (ge_var 1) (ge_var 3)) (gg_sub (pg_sub (ge_var 7) (ge_var 3) (set_ok (hu64 hr)))))) gss_nil))))
      (gss_one (gs_ret (ge_var 7))))))))
theorem ok_shown_by {f : PySem.Addr} {fd : FuncData} (F : Fun K "shown_by" "shown_by" s_shown_by f fd) {u_MAIN : Value} {v_MAIN : V} (X_MAIN : mg "MAIN" = some u_MAIN ∧ L2.RelV v_MAIN u_MAIN ∧ ∀ H, Rv K H c_MAIN v_MAIN) : FnG P w K mg base 1 f fd ["facts", "inner"] f_shown_by := by
  unfold f_shown_by
  exact fn_ok F sc_shown_by fun cdv A outer s H E hr =>
    (gss_cons (gs_set (i := 2) sc_shown_by.nd ge_dic0)
      (gss_cons (gs_for PassesOwn.never rfl (gi_seq (ge_ix (gx_ix (hu64 hr)) (ge_var 0) ge_str)) (gg_var sc_shown_by.nd) (gss_one (gs_asg ge_bl (gg_sub (pg_sub (ge_var 2) (ge_ix (gx_ix (hu64 hr)) (ge_var 3) ge_int) (set_ok (hu64 hr)))))))
      (gss_cons (gs_set (i := 4) sc_shown_by.nd (ge_disp (hu64 hr) (gp_cons (ge_glob X_MAIN.1 X_MAIN.2.1 X_MAIN.2.2) ge_bl (gp_cons ge_non ge_bl gp_nil))))
      (gss_cons (gs_for PassesOwn.never rfl (gi_seq (ge_var 1)) (gg_var sc_shown_by.nd) (gss_cons (gs_set (i := 6) sc_shown_by.nd (ge_lst ga_nil))
      (gss_cons (gs_set (i := 7) sc_shown_by.nd (ge_var 5))
      (gss_cons (gs_while PassesOwn.never (PW.pt (gw_and (gt_cmp (gc_notIn (hu64 hr)) (ge_var 7) (ge_var 4)) (gw_and1 (gt_cmp (gc_notIn (hu64 hr)) (ge_var 7) (ge_var 2))))) (gss_cons (gs_exp (ge_meth PySem.F.plainAttrs_list PySem.F.slot_list_append PySem.F.type_list_append gm_append (by decide) (ge_var 6) (ga_cons (ge_var 7) ga_nil)))
      (gss_one (gs_set (i := 7) sc_shown_by.nd (ge_ix (gx_ix (hu64 hr)) (ge_var 1) (ge_var 7))))))
      (gss_cons (gs_for PassesOwn.never rfl (gi_seq (ge_var 6)) (gg_var sc_shown_by.nd) (gss_one (gs_asg (ge_meth PySem.F.plainAttrs_dict PySem.F.slot_dict_get PySem.F.type_dict_get (gm_get (hu64 hr)) (by decide) (ge_var 4) (ga_cons (ge_var 7) (ga_cons ge_bl ga_nil))) (gg_sub (pg_sub (ge_var 4) (ge_var 8) (set_ok (hu64 hr)))))))
      (gss_one (gs_if (gt_cmp (gc_in (hu64 hr)) (ge_var 5) (ge_var 2)) (gss_one (gs_asg ge_bl (gg_sub (pg_sub (ge_var 4) (ge_var 5) (set_ok (hu64 hr)))))) gss_nil)))))))
      (gss_one (gs_ret (ge_var 4)))))))
theorem ok_shown_parts {f : PySem.Addr} {fd : FuncData} (F : Fun K "shown_parts" "shown_parts" s_shown_parts f fd) (b_sorted : mg "sorted" = none) {a_stands_in : PySem.Addr} {d_stands_in : FuncData} (G_stands_in : FnG P w K mg base 3 a_stands_in d_stands_in ["facts"] f_stands_in) (g_stands_in : mg "stands_in" = some (.ref a_stands_in)) (k_stands_in : PySem.W.keepIn K (.ref a_stands_in) = true) (b_stands_in_ : Binds K d_stands_in ["facts"] []) {a_shown_by : PySem.Addr} {d_shown_by : FuncData} (G_shown_by : FnG P w K mg base 1 a_shown_by d_shown_by ["facts", "inner"] f_shown_by) (g_shown_by : mg "shown_by" = some (.ref a_shown_by)) (k_shown_by : PySem.W.keepIn K (.ref a_shown_by) = true) (b_shown_by_ : Binds K d_shown_by ["facts", "inner"] []) : FnG P w K mg base 4 f fd ["facts"] f_shown_parts := by
  unfold f_shown_parts
  exact fn_ok F sc_shown_parts fun cdv A outer s H E hr =>
    (gss_cons (gs_set (i := 1) sc_shown_parts.nd (ge_call G_shown_by (hr.mono (by decide)) g_shown_by k_shown_by b_shown_by_ (ga_cons (ge_var 0) (ga_cons (ge_call G_stands_in (hr.mono (by decide)) g_stands_in k_stands_in b_stands_in_ (ga_cons (ge_var 0) ga_nil)) ga_nil))))
      (gss_one (gs_ret (ge_callB (gb_sortD rfl (hu100 hr)) b_sorted (by decide +kernel) (ga_cons (ge_comp (own := [("part", 2)]) (N := ["facts", "seen", "part"]) (sc := defScope s_shown_parts) rfl sc_shown_parts.nd (gi_seq (ge_var 1)) rfl rfl (by decide +kernel) (fun _ _ _ _ _ => (gg_var sc_shown_parts.nd)) (fun _ _ _ _ _ => (gts_one (gt_val (ge_ix (gx_ix (hu64 hr)) (ge_var 1) (ge_var 2))))) (fun _ _ _ _ _ => (ge_var 2))) ga_nil)))))
theorem ok_inner_parts {f : PySem.Addr} {fd : FuncData} (F : Fun K "inner_parts" "inner_parts" s_inner_parts f fd) (b_sorted : mg "sorted" = none) {a_stands_in : PySem.Addr} {d_stands_in : FuncData} (G_stands_in : FnG P w K mg base 3 a_stands_in d_stands_in ["facts"] f_stands_in) (g_stands_in : mg "stands_in" = some (.ref a_stands_in)) (k_stands_in : PySem.W.keepIn K (.ref a_stands_in) = true) (b_stands_in_ : Binds K d_stands_in ["facts"] []) {a_shown_by : PySem.Addr} {d_shown_by : FuncData} (G_shown_by : FnG P w K mg base 1 a_shown_by d_shown_by ["facts", "inner"] f_shown_by) (g_shown_by : mg "shown_by" = some (.ref a_shown_by)) (k_shown_by : PySem.W.keepIn K (.ref a_shown_by) = true) (b_shown_by_ : Binds K d_shown_by ["facts", "inner"] []) {a_places_by : PySem.Addr} {d_places_by : FuncData} (G_places_by : FnG P w K mg base 1 a_places_by d_places_by ["facts"] f_places_by) (g_places_by : mg "places_by" = some (.ref a_places_by)) (k_places_by : PySem.W.keepIn K (.ref a_places_by) = true) (b_places_by_ : Binds K d_places_by ["facts"] []) : FnG P w K mg base 4 f fd ["facts", "part"] f_inner_parts := by
  unfold f_inner_parts
  exact fn_ok F sc_inner_parts fun cdv A outer s H E hr =>
    (gss_cons (gs_set (i := 2) sc_inner_parts.nd (ge_call G_stands_in (hr.mono (by decide)) g_stands_in k_stands_in b_stands_in_ (ga_cons (ge_var 0) ga_nil)))
      (gss_cons (gs_set (i := 3) sc_inner_parts.nd (ge_call G_shown_by (hr.mono (by decide)) g_shown_by k_shown_by b_shown_by_ (ga_cons (ge_var 0) (ga_cons (ge_var 2) ga_nil))))
      (gss_cons (gs_set (i := 4) sc_inner_parts.nd (ge_call G_places_by (hr.mono (by decide)) g_places_by k_places_by b_places_by_ (ga_cons (ge_var 0) ga_nil)))
      (gss_cons (gs_set (i := 5) sc_inner_parts.nd (ge_lst ga_nil))
      (gss_cons (gs_for PassesOwn.never rfl (gi_seq (ge_var 2)) (gg_var sc_inner_parts.nd) (gss_one (gs_if (PW.pt (gw_and (gt_cmp (gc_eq (hu64 hr)) (ge_ix (gx_ix (hu64 hr)) (ge_var 2) (ge_var 6)) (ge_var 1)) (gw_and1 (gt_val (ge_ix (gx_ix (hu64 hr)) (ge_var 3) (ge_var 6)))))) (gss_one (gs_exp (ge_meth PySem.F.plainAttrs_list PySem.F.slot_list_append PySem.F.type_list_append gm_append (by decide) (ge_var 5) (ga_cons (ge_tup (ga_cons (ge_ix (gx_ix (hu64 hr)) (ge_ix (gx_ix (hu64 hr)) (ge_var 4) (ge_var 6)) ge_int) (ga_cons (ge_var 6) ga_nil))) ga_nil)))) gss_nil)))
      (gss_one (gs_ret (ge_comp (own := [("row", 7)]) (N := ["facts", "part", "inner", "seen", "places", "found", "one", "row"]) (sc := defScope s_inner_parts) rfl sc_inner_parts.nd (gi_seq (ge_callB (gb_sortD rfl (hu100 hr)) b_sorted (by decide +kernel) (ga_cons (ge_var 5) ga_nil))) rfl rfl (by decide +kernel) (fun _ _ _ _ _ => (gg_var sc_inner_parts.nd)) (fun _ _ _ _ _ => gts_nil) (fun _ _ _ _ _ => (ge_ix (gx_ix (hu64 hr)) (ge_var 7) ge_int))))))))))
theorem ok_l_cell_at {f : PySem.Addr} {fd : FuncData} (F : Fun K "_law_cell_at" "_law_cell_at" s_l_cell_at f fd) (b_len : mg "len" = none) : FnG P w K mg base 1 f fd ["_law_script", "_law_k"] f_l_cell_at := by
  unfold f_l_cell_at
  exact fn_ok F sc_l_cell_at fun cdv A outer s H E hr =>
    (gss_cons (gs_if (gt_cmp (gc_lt (hu64 hr)) (ge_var 1) (ge_callB gb_len b_len PySem.boot_len (ga_cons (ge_var 0) ga_nil))) (gss_one (gs_ret (ge_ix (gx_ix (hu64 hr)) (ge_var 0) (ge_var 1)))) gss_nil)
      (gss_one (gs_ret ge_int)))
theorem ok_l_pool {f : PySem.Addr} {fd : FuncData} (F : Fun K "_law_pool" "_law_pool" s_l_pool f fd) (b_abs : mg "abs" = none) {a_l_cell_at : PySem.Addr} {d_l_cell_at : FuncData} (G_l_cell_at : FnG P w K mg base 1 a_l_cell_at d_l_cell_at ["_law_script", "_law_k"] f_l_cell_at) (g_l_cell_at : mg "_law_cell_at" = some (.ref a_l_cell_at)) (k_l_cell_at : PySem.W.keepIn K (.ref a_l_cell_at) = true) (b_l_cell_at_ : Binds K d_l_cell_at ["_law_script", "_law_k"] []) : FnG P w K mg base 2 f fd ["_law_script", "_law_k"] f_l_pool := by
  unfold f_l_pool
  exact fn_ok F sc_l_pool fun cdv A outer s H E hr =>
    (gss_cons (gs_set (i := 2) sc_l_pool.nd (ge_callB gb_abs b_abs (by decide +kernel) (ga_cons (ge_call G_l_cell_at (hr.mono (by decide)) g_l_cell_at k_l_cell_at b_l_cell_at_ (ga_cons (ge_var 0) (ga_cons (ge_var 1) ga_nil))) ga_nil)))
      (gss_cons (gs_set (i := 3) sc_l_pool.nd (ge_op go_mod (ge_op go_mul (ge_op go_add (ge_op go_add (ge_op go_mod (ge_var 2) ge_int) (ge_op go_mul (ge_op go_mul ge_int (ge_var 1)) (ge_var 1))) ge_int) ge_int) ge_int))
      (gss_cons (gs_if (PW.pt (gw_or (gt_cmp (gc_eq (hu64 hr)) (ge_op go_mod (ge_call G_l_cell_at (hr.mono (by decide)) g_l_cell_at k_l_cell_at b_l_cell_at_ (ga_cons (ge_var 0) (ga_cons ge_int ga_nil))) ge_int) ge_int) (gw_or1 (gt_cmp (gc_lt (hu64 hr)) (ge_var 2) (ge_op go_pow ge_int ge_int))))) (gss_one (gs_set (i := 2) sc_l_pool.nd ge_int)) gss_nil)
      (gss_one (gs_ret (ge_lst (ga_cons (ge_var 2) (ga_cons (ge_op go_mod (ge_op go_mul (ge_var 3) (ge_var 3)) ge_int) ga_nil))))))))
theorem ok_l_take {f : PySem.Addr} {fd : FuncData} (F : Fun K "_law_take" "_law_take" s_l_take f fd) : FnG P w K mg base 1 f fd ["_law_pool_here", "_law_many"] f_l_take := by
  unfold f_l_take
  exact fn_ok F sc_l_take fun cdv A outer s H E hr =>
    (gss_cons (gs_if (gt_cmp (gc_gt (hu64 hr)) (ge_ix (gx_ix (hu64 hr)) (ge_var 0) ge_int) ge_int) (gss_cons (gs_set (i := 2) sc_l_take.nd (ge_op go_mod (ge_ix (gx_ix (hu64 hr)) (ge_var 0) ge_int) (ge_var 1)))
      (gss_cons (gs_asg (ge_op go_div (ge_ix (gx_ix (hu64 hr)) (ge_var 0) ge_int) (ge_var 1)) (gg_sub (pg_sub (ge_var 0) ge_int (set_ok (hu64 hr)))))
      (gss_one (gs_ret (ge_var 2))))) gss_nil)
      (gss_cons (gs_asg (ge_op go_mod (ge_op go_add (ge_op go_mul (ge_ix (gx_ix (hu64 hr)) (ge_var 0) ge_int) ge_int) ge_int) ge_int) (gg_sub (pg_sub (ge_var 0) ge_int (set_ok (hu64 hr)))))
      (gss_one (gs_ret (ge_op go_mod (ge_op go_div (ge_op go_mod (ge_op go_mul (ge_ix (gx_ix (hu64 hr)) (ge_var 0) ge_int) (ge_ix (gx_ix (hu64 hr)) (ge_var 0) ge_int)) ge_int) ge_int) (ge_var 1))))))
theorem ok_l_facts {f : PySem.Addr} {fd : FuncData} (F : Fun K "_law_facts" "_law_facts" s_l_facts f fd) : FnG P w K mg base 1 f fd [] f_l_facts := by
  unfold f_l_facts
  exact fn_ok F sc_l_facts fun cdv A outer s H E hr =>
    (gss_cons (gs_set (i := 0) sc_l_facts.nd ge_dic0)
      (gss_cons (gs_for PassesOwn.never rfl (gi_seq (ge_lst (ga_cons ge_str (ga_cons ge_str (ga_cons ge_str (ga_cons ge_str (ga_cons ge_str (ga_cons ge_str (ga_cons ge_str (ga_cons ge_str (ga_cons ge_str ga_nil))))))))))) (gg_var sc_l_facts.nd) (gss_one (gs_asg (ge_lst ga_nil) (gg_sub (pg_sub (ge_var 0) (ge_var 1) (set_ok (hu64 hr)))))))
      (gss_one (gs_ret (ge_var 0)))))
theorem ok_l_key {f : PySem.Addr} {fd : FuncData} (F : Fun K "_law_key" "_law_key" s_l_key f fd) (b_len : mg "len" = none) : FnG P w K mg base 1 f fd ["_law_last", "_law_name", "_law_hand", "_law_named"] f_l_key := by
  unfold f_l_key
  exact fn_ok F sc_l_key fun cdv A outer s H E hr =>
    (gss_cons (gs_setComp (i := 4) (own := [("_law_one", 5)]) (N := ["_law_last", "_law_name", "_law_hand", "_law_named", "_law_told", "_law_one"]) (sc := defScope s_l_key) rfl sc_l_key.nd (gi_seq (ge_var 3)) rfl rfl (by decide +kernel) (fun _ _ _ _ _ => (gg_var sc_l_key.nd)) (fun _ _ _ _ _ => (gts_one (gt_cmp (gc_in (hu64 hr)) (ge_var 5) (ge_ix (gx_ix (hu64 hr)) (ge_var 0) ge_int)))) (fun _ _ _ _ _ => (ge_var 5)) (sw_true rfl rfl rfl (by decide +kernel)))
      (gss_cons (gs_if (PW.pt (gw_or (gt_cmp (gc_le (hu64 hr)) (ge_var 2) (ge_ix (gx_ix (hu64 hr)) (ge_var 0) ge_int)) (gw_or (gt_cmp (gc_ne (hu64 hr)) (ge_var 4) (ge_lst ga_nil)) (gw_or1 (gt_cmp (gc_gt (hu64 hr)) (ge_callB gb_len b_len PySem.boot_len (ga_cons (ge_ix (gx_ix (hu64 hr)) (ge_var 0) ge_int) ga_nil)) (ge_op go_add ge_int (ge_op go_mod (ge_ix (gx_ix (hu64 hr)) (ge_var 1) ge_int) ge_int))))))) (gss_cons (gs_asg (ge_op go_add (ge_ix (gx_ix (hu64 hr)) (ge_var 0) ge_int) ge_int) (gg_sub (pg_sub (ge_var 0) ge_int (set_ok (hu64 hr)))))
      (gss_one (gs_asg (ge_lst ga_nil) (gg_sub (pg_sub (ge_var 0) ge_int (set_ok (hu64 hr))))))) gss_nil)
      (gss_cons (gs_asg (ge_var 2) (gg_sub (pg_sub (ge_var 0) ge_int (set_ok (hu64 hr)))))
      (gss_cons (gs_asg (ge_op go_add (ge_ix (gx_ix (hu64 hr)) (ge_var 0) ge_int) (ge_lst (ga_cons (ge_var 1) ga_nil))) (gg_sub (pg_sub (ge_var 0) ge_int (set_ok (hu64 hr)))))
      (gss_one (gs_ret (ge_tup (ga_cons (ge_ix (gx_ix (hu64 hr)) (ge_var 0) ge_int) (ga_cons (ge_var 2) ga_nil)))))))))
theorem ok_l_outers {f : PySem.Addr} {fd : FuncData} (F : Fun K "_law_outers" "_law_outers" s_l_outers f fd) : FnG P w K mg base 1 f fd ["_law_facts_here"] f_l_outers := by
  unfold f_l_outers
  exact fn_ok F sc_l_outers fun cdv A outer s H E hr =>
    (gss_cons (gs_set (i := 1) sc_l_outers.nd ge_dic0)
      (gss_cons (gs_for PassesOwn.never rfl (gi_seq (ge_ix (gx_ix (hu64 hr)) (ge_var 0) ge_str)) (gg_tup rfl (ggs_cons (gg_var sc_l_outers.nd) (ggs_cons (gg_var sc_l_outers.nd) (ggs_cons (gg_var sc_l_outers.nd) (ggs_cons (gg_var sc_l_outers.nd) ggs_nil))))) (gss_one (gs_asg (ge_tup (ga_cons (ge_var 3) (ga_cons (ge_var 4) (ga_cons (ge_var 5) ga_nil)))) (gg_sub (pg_sub (ge_var 1) (ge_var 2) (set_ok (hu64 hr)))))))
      (gss_one (gs_ret (ge_var 1)))))
theorem ok_l_beneath {f : PySem.Addr} {fd : FuncData} (F : Fun K "_law_beneath" "_law_beneath" s_l_beneath f fd) {a_l_outers : PySem.Addr} {d_l_outers : FuncData} (G_l_outers : FnG P w K mg base 1 a_l_outers d_l_outers ["_law_facts_here"] f_l_outers) (g_l_outers : mg "_law_outers" = some (.ref a_l_outers)) (k_l_outers : PySem.W.keepIn K (.ref a_l_outers) = true) (b_l_outers_ : Binds K d_l_outers ["_law_facts_here"] []) : FnG P w K mg base 2 f fd ["_law_facts_here", "_law_one", "_law_part"] f_l_beneath := by
  unfold f_l_beneath
  exact fn_ok F sc_l_beneath fun cdv A outer s H E hr =>
    (gss_cons (gs_set (i := 3) sc_l_beneath.nd (ge_call G_l_outers (hr.mono (by decide)) g_l_outers k_l_outers b_l_outers_ (ga_cons (ge_var 0) ga_nil)))
      (gss_cons (gs_while PassesOwn.never (PW.pt (gw_and (gt_cmp (gc_in (hu64 hr)) (ge_var 1) (ge_var 3)) (gw_and1 (gt_cmp (gc_ne (hu64 hr)) (ge_var 1) (ge_var 2))))) (gss_one (gs_set (i := 1) sc_l_beneath.nd (ge_ix (gx_ix (hu64 hr)) (ge_ix (gx_ix (hu64 hr)) (ge_var 3) (ge_var 1)) ge_int))))
      (gss_one (gs_ret (ge_cmp (gc_eq (hu64 hr)) (ge_var 1) (ge_var 2))))))
theorem ok_l_event {f : PySem.Addr} {fd : FuncData} (F : Fun K "_law_event" "_law_event" s_l_event f fd) (b_len : mg "len" = none) {a_l_take : PySem.Addr} {d_l_take : FuncData} (G_l_take : FnG P w K mg base 1 a_l_take d_l_take ["_law_pool_here", "_law_many"] f_l_take) (g_l_take : mg "_law_take" = some (.ref a_l_take)) (k_l_take : PySem.W.keepIn K (.ref a_l_take) = true) (b_l_take_ : Binds K d_l_take ["_law_pool_here", "_law_many"] []) {a_l_key : PySem.Addr} {d_l_key : FuncData} (G_l_key : FnG P w K mg base 1 a_l_key d_l_key ["_law_last", "_law_name", "_law_hand", "_law_named"] f_l_key) (g_l_key : mg "_law_key" = some (.ref a_l_key)) (k_l_key : PySem.W.keepIn K (.ref a_l_key) = true) (b_l_key_ : Binds K d_l_key ["_law_last", "_law_name", "_law_hand", "_law_named"] []) {a_l_beneath : PySem.Addr} {d_l_beneath : FuncData} (G_l_beneath : FnG P w K mg base 2 a_l_beneath d_l_beneath ["_law_facts_here", "_law_one", "_law_part"] f_l_beneath) (g_l_beneath : mg "_law_beneath" = some (.ref a_l_beneath)) (k_l_beneath : PySem.W.keepIn K (.ref a_l_beneath) = true) (b_l_beneath_ : Binds K d_l_beneath ["_law_facts_here", "_law_one", "_law_part"] []) : FnG P w K mg base 3 f fd ["_law_facts_here", "_law_pool_here", "_law_k", "_law_last", "_law_rounds"] f_l_event := by
  unfold f_l_event
  exact fn_ok F sc_l_event fun cdv A outer s H E hr =>
    (gss_cons (gs_set (i := 5) sc_l_event.nd (ge_call G_l_take (hr.mono (by decide)) g_l_take k_l_take b_l_take_ (ga_cons (ge_var 1) (ga_cons ge_int ga_nil))))
      (gss_cons (gs_set (i := 6) sc_l_event.nd (ge_call G_l_take (hr.mono (by decide)) g_l_take k_l_take b_l_take_ (ga_cons (ge_var 1) (ga_cons ge_int ga_nil))))
      (gss_cons (gs_set (i := 7) sc_l_event.nd (ge_tup (ga_cons (ge_ix (gx_ix (hu64 hr)) (ge_lst (ga_cons ge_str (ga_cons ge_str (ga_cons ge_str ga_nil)))) (ge_var 6)) (ga_cons (ge_ix (gx_ix (hu64 hr)) (ge_lst (ga_cons (ge_var 2) (ga_cons (ge_op go_sub ge_int (ge_var 2)) (ga_cons (ge_var 2) ga_nil)))) (ge_var 6)) ga_nil))))
      (gss_cons (gs_set (i := 8) sc_l_event.nd (ge_op go_add (ge_lst (ga_cons (ge_tup (ga_cons ge_str (ga_cons ge_int ga_nil))) ga_nil)) (ge_comp (own := [("_law_one", 12)]) (N := ["_law_facts_here", "_law_pool_here", "_law_k", "_law_last", "_law_rounds", "_law_way", "_law_hand", "_law_name", "_law_parts", "_law_outer", "_law_key_here", "_law_part", "_law_one"]) (sc := defScope s_l_event) rfl sc_l_event.nd (gi_seq (ge_ix (gx_ix (hu64 hr)) (ge_var 0) ge_str)) rfl rfl (by decide +kernel) (fun _ _ _ _ _ => (gg_var sc_l_event.nd)) (fun _ _ _ _ _ => gts_nil) (fun _ _ _ _ _ => (ge_ix (gx_ix (hu64 hr)) (ge_var 12) ge_int)))))
      (gss_cons (gs_set (i := 9) sc_l_event.nd (ge_ix (gx_ix (hu64 hr)) (ge_var 8) (ge_call G_l_take (hr.mono (by decide)) g_l_take k_l_take b_l_take_ (ga_cons (ge_var 1) (ga_cons (ge_callB gb_len b_len PySem.boot_len (ga_cons (ge_var 8) ga_nil)) ga_nil)))))
      (gss_cons (gs_if (PW.pt (gw_or (gt_cmp (gc_lt (hu64 hr)) (ge_var 5) ge_int) (gw_or1 (gt_cmp (gc_eq (hu64 hr)) (ge_callB gb_len b_len PySem.boot_len (ga_cons (ge_var 8) ga_nil)) ge_int)))) (gss_cons (gs_set (i := 10) sc_l_event.nd (ge_call G_l_key (hr.mono (by decide)) g_l_key k_l_key b_l_key_ (ga_cons (ge_var 3) (ga_cons (ge_var 7) (ga_cons (ge_var 6) (ga_cons (ge_lst (ga_cons (ge_var 9) ga_nil)) ga_nil))))))
      (gss_cons (gs_exp (ge_meth PySem.F.plainAttrs_list PySem.F.slot_list_append PySem.F.type_list_append gm_append (by decide) (ge_ix (gx_ix (hu64 hr)) (ge_var 0) ge_str) (ga_cons (ge_tup (ga_cons (ge_var 7) (ga_cons (ge_var 9) ga_nil))) ga_nil)))
      (gss_cons (gs_if (gt_cmp (gc_gt (hu64 hr)) (ge_call G_l_take (hr.mono (by decide)) g_l_take k_l_take b_l_take_ (ga_cons (ge_var 1) (ga_cons ge_int ga_nil))) ge_int) (gss_one (gs_exp (ge_meth PySem.F.plainAttrs_list PySem.F.slot_list_append PySem.F.type_list_append gm_append (by decide) (ge_ix (gx_ix (hu64 hr)) (ge_var 0) ge_str) (ga_cons (ge_tup (ga_cons (ge_var 7) (ga_cons (ge_var 9) (ga_cons (ge_var 7) (ga_cons (ge_var 10) ga_nil))))) ga_nil)))) gss_nil)
      (gss_one gs_retN)))) gss_nil)
      (gss_cons (gs_set (i := 11) sc_l_event.nd (ge_ix (gx_ix (hu64 hr)) (ge_var 8) (ge_op go_add ge_int (ge_call G_l_take (hr.mono (by decide)) g_l_take k_l_take b_l_take_ (ga_cons (ge_var 1) (ga_cons (ge_op go_sub (ge_callB gb_len b_len PySem.boot_len (ga_cons (ge_var 8) ga_nil)) ge_int) ga_nil))))))
      (gss_cons (gs_set (i := 10) sc_l_event.nd (ge_call G_l_key (hr.mono (by decide)) g_l_key k_l_key b_l_key_ (ga_cons (ge_var 3) (ga_cons (ge_var 7) (ga_cons (ge_var 6) (ga_cons (ge_lst (ga_cons (ge_var 11) (ga_cons (ge_var 9) ga_nil))) ga_nil))))))
      (gss_one (gs_if (PW.pt (gw_and (gt_cmp (gc_eq (hu64 hr)) (ge_var 5) ge_int) (gw_and1 (gt_cmp (gc_eq (hu64 hr)) (ge_call G_l_take (hr.mono (by decide)) g_l_take k_l_take b_l_take_ (ga_cons (ge_var 1) (ga_cons ge_int ga_nil))) ge_int)))) (gss_one (gs_exp (ge_meth PySem.F.plainAttrs_list PySem.F.slot_list_append PySem.F.type_list_append gm_append (by decide) (ge_ix (gx_ix (hu64 hr)) (ge_var 0) ge_str) (ga_cons (ge_tup (ga_cons (ge_var 11) (ga_cons (ge_var 7) ga_nil))) ga_nil)))) (gss_one (gs_if (gt_cmp (gc_in (hu64 hr)) (ge_var 11) (ge_comp (own := [("_law_one", 12)]) (N := ["_law_facts_here", "_law_pool_here", "_law_k", "_law_last", "_law_rounds", "_law_way", "_law_hand", "_law_name", "_law_parts", "_law_outer", "_law_key_here", "_law_part", "_law_one"]) (sc := defScope s_l_event) rfl sc_l_event.nd (gi_seq (ge_ix (gx_ix (hu64 hr)) (ge_var 0) ge_str)) rfl rfl (by decide +kernel) (fun _ _ _ _ _ => (gg_var sc_l_event.nd)) (fun _ _ _ _ _ => gts_nil) (fun _ _ _ _ _ => (ge_ix (gx_ix (hu64 hr)) (ge_var 12) ge_int)))) (gss_one (gs_if (PW.pt (gw_or (gt_val (ge_var 4)) (gw_or1 (gt_not (gt_val (ge_call G_l_beneath (hr.mono (by decide)) g_l_beneath k_l_beneath b_l_beneath_ (ga_cons (ge_var 0) (ga_cons (ge_var 9) (ga_cons (ge_var 11) ga_nil))))))))) (gss_one (gs_exp (ge_meth PySem.F.plainAttrs_list PySem.F.slot_list_append PySem.F.type_list_append gm_append (by decide) (ge_ix (gx_ix (hu64 hr)) (ge_var 0) ge_str) (ga_cons (ge_tup (ga_cons (ge_var 11) (ga_cons (ge_var 9) (ga_cons (ge_var 7) (ga_cons (ge_var 10) ga_nil))))) ga_nil)))) gss_nil)) gss_nil))))))))))))
theorem ok_l_drawn {f : PySem.Addr} {fd : FuncData} (F : Fun K "_law_drawn" "_law_drawn" s_l_drawn f fd) (b_range : mg "range" = none) (b_len : mg "len" = none) (b_min : mg "min" = none) {a_l_facts : PySem.Addr} {d_l_facts : FuncData} (G_l_facts : FnG P w K mg base 1 a_l_facts d_l_facts [] f_l_facts) (g_l_facts : mg "_law_facts" = some (.ref a_l_facts)) (k_l_facts : PySem.W.keepIn K (.ref a_l_facts) = true) (b_l_facts_ : Binds K d_l_facts [] []) {a_l_pool : PySem.Addr} {d_l_pool : FuncData} (G_l_pool : FnG P w K mg base 2 a_l_pool d_l_pool ["_law_script", "_law_k"] f_l_pool) (g_l_pool : mg "_law_pool" = some (.ref a_l_pool)) (k_l_pool : PySem.W.keepIn K (.ref a_l_pool) = true) (b_l_pool_ : Binds K d_l_pool ["_law_script", "_law_k"] []) {a_l_event : PySem.Addr} {d_l_event : FuncData} (G_l_event : FnG P w K mg base 3 a_l_event d_l_event ["_law_facts_here", "_law_pool_here", "_law_k", "_law_last", "_law_rounds"] f_l_event) (g_l_event : mg "_law_event" = some (.ref a_l_event)) (k_l_event : PySem.W.keepIn K (.ref a_l_event) = true) (b_l_event_ : Binds K d_l_event ["_law_facts_here", "_law_pool_here", "_law_k", "_law_last", "_law_rounds"] []) : FnG P w K mg base 4 f fd ["_law_script", "_law_rounds"] f_l_drawn := by
  unfold f_l_drawn
  exact fn_ok F sc_l_drawn fun cdv A outer s H E hr =>
    (gss_cons (gs_set (i := 2) sc_l_drawn.nd (ge_call0 G_l_facts (hr.mono (by decide)) g_l_facts k_l_facts b_l_facts_))
      (gss_cons (gs_set (i := 3) sc_l_drawn.nd (ge_lst (ga_cons ge_int (ga_cons ge_int (ga_cons (ge_lst ga_nil) ga_nil)))))
      (gss_cons (gs_for PassesOwn.never rfl (gi_rng2 b_range (ga_cons ge_int (ga_cons (ge_callB (gb_min rfl (hu100 hr)) b_min (by decide +kernel) (ga_cons (ge_callB gb_len b_len PySem.boot_len (ga_cons (ge_var 0) ga_nil)) (ga_cons ge_int ga_nil))) ga_nil))) (gg_var sc_l_drawn.nd) (gss_one (gs_exp (ge_call G_l_event (hr.mono (by decide)) g_l_event k_l_event b_l_event_ (ga_cons (ge_var 2) (ga_cons (ge_call G_l_pool (hr.mono (by decide)) g_l_pool k_l_pool b_l_pool_ (ga_cons (ge_var 0) (ga_cons (ge_var 4) ga_nil))) (ga_cons (ge_var 4) (ga_cons (ge_var 3) (ga_cons (ge_var 1) ga_nil)))))))))
      (gss_one (gs_ret (ge_var 2))))))
theorem ok_l_kept {f : PySem.Addr} {fd : FuncData} (F : Fun K "_law_kept" "_law_kept" s_l_kept f fd) (b_list : mg "list" = none) : FnG P w K mg base 1 f fd ["_law_facts_here"] f_l_kept := by
  unfold f_l_kept
  exact fn_ok F sc_l_kept fun cdv A outer s H E hr =>
    (gss_one (gs_ret (ge_comp (own := [("_law_word", 1)]) (N := ["_law_facts_here", "_law_word"]) (sc := defScope s_l_kept) rfl sc_l_kept.nd (gi_seq (ge_var 0)) rfl rfl (by decide +kernel) (fun _ _ _ _ _ => (gg_var sc_l_kept.nd)) (fun _ _ _ _ _ => gts_nil) (fun _ _ _ _ _ => (ge_tup (ga_cons (ge_var 1) (ga_cons (ge_callTy (gb_list rfl) b_list (by decide +kernel) (ga_cons (ge_ix (gx_ix (hu64 hr)) (ge_var 0) (ge_var 1)) ga_nil)) ga_nil)))))))
theorem ok_l_stands {f : PySem.Addr} {fd : FuncData} (F : Fun K "_law_stands" "_law_stands" s_l_stands f fd) (b_max : mg "max" = none) {a_l_outers : PySem.Addr} {d_l_outers : FuncData} (G_l_outers : FnG P w K mg base 1 a_l_outers d_l_outers ["_law_facts_here"] f_l_outers) (g_l_outers : mg "_law_outers" = some (.ref a_l_outers)) (k_l_outers : PySem.W.keepIn K (.ref a_l_outers) = true) (b_l_outers_ : Binds K d_l_outers ["_law_facts_here"] []) : FnG P w K mg base 2 f fd ["_law_facts_here"] f_l_stands := by
  unfold f_l_stands
  exact fn_ok F sc_l_stands fun cdv A outer s H E hr =>
    (gss_cons (gs_set (i := 1) sc_l_stands.nd (ge_call G_l_outers (hr.mono (by decide)) g_l_outers k_l_outers b_l_outers_ (ga_cons (ge_var 0) ga_nil)))
      (gss_cons (gs_set (i := 2) sc_l_stands.nd ge_dic0)
      (gss_cons (gs_for PassesOwn.never rfl (gi_seq (ge_var 1)) (gg_var sc_l_stands.nd) (gss_one (gs_asg (ge_ix (gx_ix (hu64 hr)) (ge_ix (gx_ix (hu64 hr)) (ge_var 1) (ge_var 3)) ge_int) (gg_sub (pg_sub (ge_var 2) (ge_var 3) (set_ok (hu64 hr)))))))
      (gss_cons (gs_for PassesOwn.never rfl (gi_seq (ge_var 1)) (gg_var sc_l_stands.nd) (gss_cons (gs_set (i := 4) sc_l_stands.nd (ge_lst ga_nil))
      (gss_cons (gs_set (i := 5) sc_l_stands.nd (ge_var 3))
      (gss_cons (gs_while PassesOwn.never (PW.pt (gw_and (gt_cmp (gc_in (hu64 hr)) (ge_var 5) (ge_var 1)) (gw_and1 (gt_cmp (gc_notIn (hu64 hr)) (ge_var 5) (ge_var 4))))) (gss_cons (gs_exp (ge_meth PySem.F.plainAttrs_list PySem.F.slot_list_append PySem.F.type_list_append gm_append (by decide) (ge_var 4) (ga_cons (ge_var 5) ga_nil)))
      (gss_one (gs_set (i := 5) sc_l_stands.nd (ge_ix (gx_ix (hu64 hr)) (ge_ix (gx_ix (hu64 hr)) (ge_var 1) (ge_var 5)) ge_int)))))
      (gss_cons (gs_setComp (i := 6) (own := [("_law_one", 8)]) (N := ["_law_facts_here", "_law_outers_here", "_law_told", "_law_part", "_law_around", "_law_here", "_law_keys", "_law_found", "_law_one"]) (sc := defScope s_l_stands) rfl sc_l_stands.nd (gi_seq (ge_var 4)) rfl rfl (by decide +kernel) (fun _ _ _ _ _ => (gg_var sc_l_stands.nd)) (fun _ _ _ _ _ => gts_nil) (fun _ _ _ _ _ => (ge_ix (gx_ix (hu64 hr)) (ge_ix (gx_ix (hu64 hr)) (ge_var 1) (ge_var 8)) ge_int)) (sw_true rfl rfl rfl (by decide +kernel)))
      (gss_one (gs_if (PW.pt (gw_and (gt_cmp (gc_eq (hu64 hr)) (ge_var 5) (ge_var 3)) (gw_and1 (gt_cmp (gc_eq (hu64 hr)) (ge_callB (gb_max rfl (hu100 hr)) b_max (by decide +kernel) (ga_cons (ge_var 6) ga_nil)) (ge_ix (gx_ix (hu64 hr)) (ge_ix (gx_ix (hu64 hr)) (ge_var 1) (ge_var 3)) ge_int))))) (gss_one (gs_asg (ge_tup (ga_cons ge_str (ga_cons ge_int ga_nil))) (gg_sub (pg_sub (ge_var 2) (ge_var 3) (set_ok (hu64 hr)))))) gss_nil)))))))
      (gss_cons (gs_set (i := 7) sc_l_stands.nd ge_dic0)
      (gss_cons (gs_for PassesOwn.never rfl (gi_seq (ge_var 2)) (gg_var sc_l_stands.nd) (gss_cons (gs_set (i := 5) sc_l_stands.nd (ge_var 3))
      (gss_cons (gs_while PassesOwn.never (gt_cmp (gc_in (hu64 hr)) (ge_var 5) (ge_var 2)) (gss_one (gs_set (i := 5) sc_l_stands.nd (ge_ix (gx_ix (hu64 hr)) (ge_var 2) (ge_var 5)))))
      (gss_cons (gs_asg ge_non (gg_sub (pg_sub (ge_var 7) (ge_var 3) (set_ok (hu64 hr)))))
      (gss_one (gs_if (gt_cmp (gc_eq (hu64 hr)) (ge_var 5) (ge_tup (ga_cons ge_str (ga_cons ge_int ga_nil)))) (gss_one (gs_asg (ge_ix (gx_ix (hu64 hr)) (ge_var 2) (ge_var 3)) (gg_sub (pg_sub (ge_var 7) (ge_var 3) (set_ok (hu64 hr)))))) gss_nil))))))
      (gss_one (gs_ret (ge_var 7)))))))))
theorem ok_l_shown {f : PySem.Addr} {fd : FuncData} (F : Fun K "_law_shown" "_law_shown" s_l_shown f fd) (b_sorted : mg "sorted" = none) {a_l_stands : PySem.Addr} {d_l_stands : FuncData} (G_l_stands : FnG P w K mg base 2 a_l_stands d_l_stands ["_law_facts_here"] f_l_stands) (g_l_stands : mg "_law_stands" = some (.ref a_l_stands)) (k_l_stands : PySem.W.keepIn K (.ref a_l_stands) = true) (b_l_stands_ : Binds K d_l_stands ["_law_facts_here"] []) : FnG P w K mg base 3 f fd ["_law_facts_here"] f_l_shown := by
  unfold f_l_shown
  exact fn_ok F sc_l_shown fun cdv A outer s H E hr =>
    (gss_cons (gs_set (i := 1) sc_l_shown.nd (ge_call G_l_stands (hr.mono (by decide)) g_l_stands k_l_stands b_l_stands_ (ga_cons (ge_var 0) ga_nil)))
      (gss_cons (gs_setComp (i := 2) (own := [("_law_one", 6)]) (N := ["_law_facts_here", "_law_stands_here", "_law_cut", "_law_seen", "_law_part", "_law_here", "_law_one"]) (sc := defScope s_l_shown) rfl sc_l_shown.nd (gi_seq (ge_ix (gx_ix (hu64 hr)) (ge_var 0) ge_str)) rfl rfl (by decide +kernel) (fun _ _ _ _ _ => (gg_var sc_l_shown.nd)) (fun _ _ _ _ _ => gts_nil) (fun _ _ _ _ _ => (ge_ix (gx_ix (hu64 hr)) (ge_var 6) ge_int)) (sw_true rfl rfl rfl (by decide +kernel)))
      (gss_cons (gs_set (i := 3) sc_l_shown.nd (ge_lst (ga_cons (ge_tup (ga_cons ge_str (ga_cons ge_int ga_nil))) ga_nil)))
      (gss_cons (gs_for PassesOwn.never rfl (gi_seq (ge_var 1)) (gg_var sc_l_shown.nd) (gss_cons (gs_set (i := 5) sc_l_shown.nd (ge_var 4))
      (gss_cons (gs_while PassesOwn.never (PW.pt (gw_and (gt_cmp (gc_in (hu64 hr)) (ge_var 5) (ge_var 1)) (gw_and1 (gt_cmp (gc_notIn (hu64 hr)) (ge_var 5) (ge_var 2))))) (gss_one (gs_set (i := 5) sc_l_shown.nd (ge_ix (gx_ix (hu64 hr)) (ge_var 1) (ge_var 5)))))
      (gss_one (gs_if (gt_cmp (gc_eq (hu64 hr)) (ge_var 5) (ge_tup (ga_cons ge_str (ga_cons ge_int ga_nil)))) (gss_one (gs_exp (ge_meth PySem.F.plainAttrs_list PySem.F.slot_list_append PySem.F.type_list_append gm_append (by decide) (ge_var 3) (ga_cons (ge_var 4) ga_nil)))) gss_nil)))))
      (gss_one (gs_ret (ge_callB (gb_sortD rfl (hu100 hr)) b_sorted (by decide +kernel) (ga_cons (ge_var 3) ga_nil))))))))
theorem ok_l_inner {f : PySem.Addr} {fd : FuncData} (F : Fun K "_law_inner" "_law_inner" s_l_inner f fd) (b_sorted : mg "sorted" = none) {a_l_outers : PySem.Addr} {d_l_outers : FuncData} (G_l_outers : FnG P w K mg base 1 a_l_outers d_l_outers ["_law_facts_here"] f_l_outers) (g_l_outers : mg "_law_outers" = some (.ref a_l_outers)) (k_l_outers : PySem.W.keepIn K (.ref a_l_outers) = true) (b_l_outers_ : Binds K d_l_outers ["_law_facts_here"] []) : FnG P w K mg base 2 f fd ["_law_facts_here", "_law_stands_here", "_law_seen", "_law_part"] f_l_inner := by
  unfold f_l_inner
  exact fn_ok F sc_l_inner fun cdv A outer s H E hr =>
    (gss_cons (gs_set (i := 4) sc_l_inner.nd (ge_call G_l_outers (hr.mono (by decide)) g_l_outers k_l_outers b_l_outers_ (ga_cons (ge_var 0) ga_nil)))
      (gss_cons (gs_set (i := 5) sc_l_inner.nd (ge_lst ga_nil))
      (gss_cons (gs_for PassesOwn.never rfl (gi_seq (ge_var 1)) (gg_var sc_l_inner.nd) (gss_one (gs_if (PW.pt (gw_and (gt_cmp (gc_eq (hu64 hr)) (ge_ix (gx_ix (hu64 hr)) (ge_var 1) (ge_var 6)) (ge_var 3)) (gw_and1 (gt_cmp (gc_in (hu64 hr)) (ge_var 6) (ge_var 2))))) (gss_one (gs_exp (ge_meth PySem.F.plainAttrs_list PySem.F.slot_list_append PySem.F.type_list_append gm_append (by decide) (ge_var 5) (ga_cons (ge_tup (ga_cons (ge_ix (gx_ix (hu64 hr)) (ge_ix (gx_ix (hu64 hr)) (ge_var 4) (ge_var 6)) ge_int) (ga_cons (ge_var 6) ga_nil))) ga_nil)))) gss_nil)))
      (gss_one (gs_ret (ge_comp (own := [("_law_key_here", 7), ("_law_one", 6)]) (N := ["_law_facts_here", "_law_stands_here", "_law_seen", "_law_part", "_law_outers_here", "_law_some", "_law_one", "_law_key_here"]) (sc := defScope s_l_inner) rfl sc_l_inner.nd (gi_seq (ge_callB (gb_sortD rfl (hu100 hr)) b_sorted (by decide +kernel) (ga_cons (ge_var 5) ga_nil))) rfl rfl (by decide +kernel) (fun _ _ _ _ _ => (gg_tup rfl (ggs_cons (gg_var sc_l_inner.nd) (ggs_cons (gg_var sc_l_inner.nd) ggs_nil)))) (fun _ _ _ _ _ => gts_nil) (fun _ _ _ _ _ => (ge_var 6))))))))
theorem ok_l_shown_right {f : PySem.Addr} {fd : FuncData} (F : Fun K "_law_shown_right" "_law_shown_right" s_l_shown_right f fd) (b_isinstance : mg "isinstance" = none) (b_list : mg "list" = none) {a_l_shown : PySem.Addr} {d_l_shown : FuncData} (G_l_shown : FnG P w K mg base 3 a_l_shown d_l_shown ["_law_facts_here"] f_l_shown) (g_l_shown : mg "_law_shown" = some (.ref a_l_shown)) (k_l_shown : PySem.W.keepIn K (.ref a_l_shown) = true) (b_l_shown_ : Binds K d_l_shown ["_law_facts_here"] []) {a_shown_parts : PySem.Addr} {d_shown_parts : FuncData} (G_shown_parts : FnG P w K mg base 4 a_shown_parts d_shown_parts ["facts"] f_shown_parts) (g_shown_parts : mg "shown_parts" = some (.ref a_shown_parts)) (k_shown_parts : PySem.W.keepIn K (.ref a_shown_parts) = true) (b_shown_parts_ : Binds K d_shown_parts ["facts"] []) {a_l_facts : PySem.Addr} {d_l_facts : FuncData} (G_l_facts : FnG P w K mg base 1 a_l_facts d_l_facts [] f_l_facts) (g_l_facts : mg "_law_facts" = some (.ref a_l_facts)) (k_l_facts : PySem.W.keepIn K (.ref a_l_facts) = true) (b_l_facts_ : Binds K d_l_facts [] []) : FnG P w K mg base 5 f fd ["_law_facts_here"] f_l_shown_right := by
  unfold f_l_shown_right
  exact fn_ok F sc_l_shown_right fun cdv A outer s H E hr =>
    (gss_cons (gs_set (i := 1) sc_l_shown_right.nd (ge_call G_l_shown (hr.mono (by decide)) g_l_shown k_l_shown b_l_shown_ (ga_cons (ge_var 0) ga_nil)))
      (gss_cons (gs_set (i := 2) sc_l_shown_right.nd (ge_call G_shown_parts (hr.mono (by decide)) g_shown_parts k_shown_parts b_shown_parts_ (ga_cons (ge_var 0) ga_nil)))
      (gss_cons (gs_if (PW.pt (gw_or (gt_not (gt_val (ge_isT (T := "list") (by decide) (ge_var 2) b_isinstance b_list (by decide +kernel)))) (gw_or1 (gt_cmp (gc_ne (hu64 hr)) (ge_var 2) (ge_var 1))))) (gss_one (gs_ret ge_bl)) gss_nil)
      (gss_cons (gs_exp (ge_meth0 PySem.F.plainAttrs_list PySem.F.slot_list_clear PySem.F.type_list_clear gm_clear (by decide) (ge_var 2)))
      (gss_cons (gs_set (i := 2) sc_l_shown_right.nd (ge_call G_shown_parts (hr.mono (by decide)) g_shown_parts k_shown_parts b_shown_parts_ (ga_cons (ge_var 0) ga_nil)))
      (gss_one (gs_ret (ge_and (ge_cmp (gc_eq (hu64 hr)) (ge_call G_shown_parts (hr.mono (by decide)) g_shown_parts k_shown_parts b_shown_parts_ (ga_cons (ge_call0 G_l_facts (hr.mono (by decide)) g_l_facts k_l_facts b_l_facts_) ga_nil)) (ge_lst (ga_cons (ge_tup (ga_cons ge_str (ga_cons ge_int ga_nil))) ga_nil))) (ge_one (ge_cmp (gc_eq (hu64 hr)) (ge_var 2) (ge_var 1)))))))))))
theorem ok_l_inner_right {f : PySem.Addr} {fd : FuncData} (F : Fun K "_law_inner_right" "_law_inner_right" s_l_inner_right f fd) (b_isinstance : mg "isinstance" = none) (b_list : mg "list" = none) {a_l_shown : PySem.Addr} {d_l_shown : FuncData} (G_l_shown : FnG P w K mg base 3 a_l_shown d_l_shown ["_law_facts_here"] f_l_shown) (g_l_shown : mg "_law_shown" = some (.ref a_l_shown)) (k_l_shown : PySem.W.keepIn K (.ref a_l_shown) = true) (b_l_shown_ : Binds K d_l_shown ["_law_facts_here"] []) {a_l_stands : PySem.Addr} {d_l_stands : FuncData} (G_l_stands : FnG P w K mg base 2 a_l_stands d_l_stands ["_law_facts_here"] f_l_stands) (g_l_stands : mg "_law_stands" = some (.ref a_l_stands)) (k_l_stands : PySem.W.keepIn K (.ref a_l_stands) = true) (b_l_stands_ : Binds K d_l_stands ["_law_facts_here"] []) {a_inner_parts : PySem.Addr} {d_inner_parts : FuncData} (G_inner_parts : FnG P w K mg base 4 a_inner_parts d_inner_parts ["facts", "part"] f_inner_parts) (g_inner_parts : mg "inner_parts" = some (.ref a_inner_parts)) (k_inner_parts : PySem.W.keepIn K (.ref a_inner_parts) = true) (b_inner_parts_ : Binds K d_inner_parts ["facts", "part"] []) {a_l_inner : PySem.Addr} {d_l_inner : FuncData} (G_l_inner : FnG P w K mg base 2 a_l_inner d_l_inner ["_law_facts_here", "_law_stands_here", "_law_seen", "_law_part"] f_l_inner) (g_l_inner : mg "_law_inner" = some (.ref a_l_inner)) (k_l_inner : PySem.W.keepIn K (.ref a_l_inner) = true) (b_l_inner_ : Binds K d_l_inner ["_law_facts_here", "_law_stands_here", "_law_seen", "_law_part"] []) : FnG P w K mg base 5 f fd ["_law_facts_here", "_law_most"] f_l_inner_right := by
  unfold f_l_inner_right
  exact fn_ok F sc_l_inner_right fun cdv A outer s H E hr =>
    (gss_cons (gs_set (i := 2) sc_l_inner_right.nd (ge_call G_l_shown (hr.mono (by decide)) g_l_shown k_l_shown b_l_shown_ (ga_cons (ge_var 0) ga_nil)))
      (gss_cons (gs_set (i := 3) sc_l_inner_right.nd (ge_call G_l_stands (hr.mono (by decide)) g_l_stands k_l_stands b_l_stands_ (ga_cons (ge_var 0) ga_nil)))
      (gss_cons (gs_set (i := 4) sc_l_inner_right.nd (ge_lst ga_nil))
      (gss_cons (gs_for PassesOwn.never rfl (gi_seq (ge_op go_add (ge_lst (ga_cons (ge_tup (ga_cons ge_str (ga_cons ge_int ga_nil))) ga_nil)) (ge_slice (ge_comp (own := [("_law_one", 8)]) (N := ["_law_facts_here", "_law_most", "_law_seen", "_law_stands_here", "_law_some", "_law_part", "_law_told", "_law_due", "_law_one"]) (sc := defScope s_l_inner_right) rfl sc_l_inner_right.nd (gi_seq (ge_ix (gx_ix (hu64 hr)) (ge_var 0) ge_str)) rfl rfl (by decide +kernel) (fun _ _ _ _ _ => (gg_var sc_l_inner_right.nd)) (fun _ _ _ _ _ => gts_nil) (fun _ _ _ _ _ => (ge_ix (gx_ix (hu64 hr)) (ge_var 8) ge_int))) go_none (go_some (ge_var 1))))) (gg_var sc_l_inner_right.nd) (gss_cons (gs_set (i := 6) sc_l_inner_right.nd (ge_call G_inner_parts (hr.mono (by decide)) g_inner_parts k_inner_parts b_inner_parts_ (ga_cons (ge_var 0) (ga_cons (ge_var 5) ga_nil))))
      (gss_cons (gs_if (gt_not (gt_val (ge_isT (T := "list") (by decide) (ge_var 6) b_isinstance b_list (by decide +kernel)))) (gss_one (gs_ret ge_bl)) gss_nil)
      (gss_one (gs_exp (ge_meth PySem.F.plainAttrs_list PySem.F.slot_list_append PySem.F.type_list_append gm_append (by decide) (ge_var 4) (ga_cons (ge_tup (ga_cons (ge_var 6) (ga_cons (ge_call G_l_inner (hr.mono (by decide)) g_l_inner k_l_inner b_l_inner_ (ga_cons (ge_var 0) (ga_cons (ge_var 3) (ga_cons (ge_var 2) (ga_cons (ge_var 5) ga_nil))))) ga_nil))) ga_nil)))))))
      (gss_cons (gs_for PassesOwn.never rfl (gi_seq (ge_var 4)) (gg_tup rfl (ggs_cons (gg_var sc_l_inner_right.nd) (ggs_cons (gg_var sc_l_inner_right.nd) ggs_nil))) (gss_cons (gs_if (gt_cmp (gc_ne (hu64 hr)) (ge_var 6) (ge_var 7)) (gss_one (gs_ret ge_bl)) gss_nil)
      (gss_one (gs_exp (ge_meth PySem.F.plainAttrs_list PySem.F.slot_list_append PySem.F.type_list_append gm_append (by decide) (ge_var 6) (ga_cons (ge_tup (ga_cons ge_str (ga_cons ge_int ga_nil))) ga_nil))))))
      (gss_one (gs_ret (ge_cmp (gc_eq (hu64 hr)) (ge_call G_inner_parts (hr.mono (by decide)) g_inner_parts k_inner_parts b_inner_parts_ (ga_cons (ge_var 0) (ga_cons (ge_tup (ga_cons ge_str (ga_cons ge_int ga_nil))) ga_nil))) (ge_ix (gx_ix (hu64 hr)) (ge_ix (gx_ix (hu64 hr)) (ge_var 4) ge_int) ge_int)))))))))
theorem ok_law {f : PySem.Addr} {fd : FuncData} (F : Fun K "law" "law" s_law f fd) (b_sorted : mg "sorted" = none) {a_l_drawn : PySem.Addr} {d_l_drawn : FuncData} (G_l_drawn : FnG P w K mg base 4 a_l_drawn d_l_drawn ["_law_script", "_law_rounds"] f_l_drawn) (g_l_drawn : mg "_law_drawn" = some (.ref a_l_drawn)) (k_l_drawn : PySem.W.keepIn K (.ref a_l_drawn) = true) (b_l_drawn_ : Binds K d_l_drawn ["_law_script", "_law_rounds"] []) {a_l_kept : PySem.Addr} {d_l_kept : FuncData} (G_l_kept : FnG P w K mg base 1 a_l_kept d_l_kept ["_law_facts_here"] f_l_kept) (g_l_kept : mg "_law_kept" = some (.ref a_l_kept)) (k_l_kept : PySem.W.keepIn K (.ref a_l_kept) = true) (b_l_kept_ : Binds K d_l_kept ["_law_facts_here"] []) {a_l_shown_right : PySem.Addr} {d_l_shown_right : FuncData} (G_l_shown_right : FnG P w K mg base 5 a_l_shown_right d_l_shown_right ["_law_facts_here"] f_l_shown_right) (g_l_shown_right : mg "_law_shown_right" = some (.ref a_l_shown_right)) (k_l_shown_right : PySem.W.keepIn K (.ref a_l_shown_right) = true) (b_l_shown_right_ : Binds K d_l_shown_right ["_law_facts_here"] []) {a_l_inner_right : PySem.Addr} {d_l_inner_right : FuncData} (G_l_inner_right : FnG P w K mg base 5 a_l_inner_right d_l_inner_right ["_law_facts_here", "_law_most"] f_l_inner_right) (g_l_inner_right : mg "_law_inner_right" = some (.ref a_l_inner_right)) (k_l_inner_right : PySem.W.keepIn K (.ref a_l_inner_right) = true) (b_l_inner_right_ : Binds K d_l_inner_right ["_law_facts_here", "_law_most"] []) {a_l_outers : PySem.Addr} {d_l_outers : FuncData} (G_l_outers : FnG P w K mg base 1 a_l_outers d_l_outers ["_law_facts_here"] f_l_outers) (g_l_outers : mg "_law_outers" = some (.ref a_l_outers)) (k_l_outers : PySem.W.keepIn K (.ref a_l_outers) = true) (b_l_outers_ : Binds K d_l_outers ["_law_facts_here"] []) : FnG P w K mg base 6 f fd ["_law_script"] f_law := by
  unfold f_law
  exact fn_ok F sc_law fun cdv A outer s H E hr =>
    (gss_cons (gs_set (i := 1) sc_law.nd (ge_call G_l_drawn (hr.mono (by decide)) g_l_drawn k_l_drawn b_l_drawn_ (ga_cons (ge_var 0) (ga_cons ge_bl ga_nil))))
      (gss_cons (gs_set (i := 2) sc_law.nd (ge_call G_l_kept (hr.mono (by decide)) g_l_kept k_l_kept b_l_kept_ (ga_cons (ge_var 1) ga_nil)))
      (gss_cons (gs_if (PW.pt (gw_or (gt_not (gt_val (ge_call G_l_shown_right (hr.mono (by decide)) g_l_shown_right k_l_shown_right b_l_shown_right_ (ga_cons (ge_var 1) ga_nil)))) (gw_or (gt_not (gt_val (ge_call G_l_inner_right (hr.mono (by decide)) g_l_inner_right k_l_inner_right b_l_inner_right_ (ga_cons (ge_var 1) (ga_cons ge_int ga_nil))))) (gw_or1 (gt_cmp (gc_ne (hu64 hr)) (ge_call G_l_kept (hr.mono (by decide)) g_l_kept k_l_kept b_l_kept_ (ga_cons (ge_var 1) ga_nil)) (ge_var 2)))))) (gss_one (gs_ret ge_bl)) gss_nil)
      (gss_cons (gs_set (i := 3) sc_law.nd (ge_call G_l_outers (hr.mono (by decide)) g_l_outers k_l_outers b_l_outers_ (ga_cons (ge_var 1) ga_nil)))
      (gss_cons (gs_if (gt_cmp (gc_ne (hu64 hr)) (ge_var 3) ge_dic0) (gss_one (gs_exp (ge_meth PySem.F.plainAttrs_list PySem.F.slot_list_append PySem.F.type_list_append gm_append (by decide) (ge_ix (gx_ix (hu64 hr)) (ge_var 1) ge_str) (ga_cons (ge_tup (ga_cons (ge_ix (gx_ix (hu64 hr)) (ge_callB (gb_sortD rfl (hu100 hr)) b_sorted (by decide +kernel) (ga_cons (ge_var 3) ga_nil)) ge_int) (ga_cons (ge_tup (ga_cons ge_str (ga_cons ge_int ga_nil))) (ga_cons (ge_tup (ga_cons ge_str (ga_cons ge_int ga_nil))) (ga_cons (ge_tup (ga_cons ge_int (ga_cons ge_int ga_nil))) ga_nil))))) ga_nil)))) gss_nil)
      (gss_one (gs_ret (ge_and (ge_call G_l_shown_right (hr.mono (by decide)) g_l_shown_right k_l_shown_right b_l_shown_right_ (ga_cons (ge_var 1) ga_nil)) (ge_one (ge_call G_l_inner_right (hr.mono (by decide)) g_l_inner_right k_l_inner_right b_l_inner_right_ (ga_cons (ge_var 1) (ga_cons ge_int ga_nil))))))))))))
end
theorem all_mk {l : PySem.W.OpenLaw} {w : World} {K : PySem.W.Frag} {h : Heap} {mg : Str → Option Value} {fa : PySem.Addr} (X : K.In h) (G : h.Ns mainGlobals mg) (hfa : mg "law" = some (.ref fa))
    {f0 : PySem.Addr} {oc0 kV0 dc0 pm0 cd0 ct0 : Value} {od0 an0 : Option PySem.Addr} {sl0 : Array (Option Value)}
    (a0 : PySem.W.nsIn K mainGlobals "places_by" = some (some (.ref f0))) (l0 : K.lookup f0 = some ⟨oc0, od0, .func (PySem.W.fnOf "places_by" "places_by" (defArgs s_places_by) (defBody s_places_by) (defScope s_places_by) .none kV0 dc0 pm0 an0 cd0 ct0), sl0⟩) (c0 : PySem.W.codeIn K cd0 "places_by" = true) (k0 : PySem.W.keepIn K (.ref f0) = true)
    {f1 : PySem.Addr} {oc1 kV1 dc1 pm1 cd1 ct1 : Value} {od1 an1 : Option PySem.Addr} {sl1 : Array (Option Value)}
    (a1 : PySem.W.nsIn K mainGlobals "round_of" = some (some (.ref f1))) (l1 : K.lookup f1 = some ⟨oc1, od1, .func (PySem.W.fnOf "round_of" "round_of" (defArgs s_round_of) (defBody s_round_of) (defScope s_round_of) .none kV1 dc1 pm1 an1 cd1 ct1), sl1⟩) (c1 : PySem.W.codeIn K cd1 "round_of" = true) (k1 : PySem.W.keepIn K (.ref f1) = true)
    {f2 : PySem.Addr} {oc2 kV2 dc2 pm2 cd2 ct2 : Value} {od2 an2 : Option PySem.Addr} {sl2 : Array (Option Value)}
    (a2 : PySem.W.nsIn K mainGlobals "outers_of" = some (some (.ref f2))) (l2 : K.lookup f2 = some ⟨oc2, od2, .func (PySem.W.fnOf "outers_of" "outers_of" (defArgs s_outers_of) (defBody s_outers_of) (defScope s_outers_of) .none kV2 dc2 pm2 an2 cd2 ct2), sl2⟩) (c2 : PySem.W.codeIn K cd2 "outers_of" = true) (k2 : PySem.W.keepIn K (.ref f2) = true)
    {f3 : PySem.Addr} {oc3 kV3 dc3 pm3 cd3 ct3 : Value} {od3 an3 : Option PySem.Addr} {sl3 : Array (Option Value)}
    (a3 : PySem.W.nsIn K mainGlobals "stands_in" = some (some (.ref f3))) (l3 : K.lookup f3 = some ⟨oc3, od3, .func (PySem.W.fnOf "stands_in" "stands_in" (defArgs s_stands_in) (defBody s_stands_in) (defScope s_stands_in) .none kV3 dc3 pm3 an3 cd3 ct3), sl3⟩) (c3 : PySem.W.codeIn K cd3 "stands_in" = true) (k3 : PySem.W.keepIn K (.ref f3) = true)
    {f4 : PySem.Addr} {oc4 kV4 dc4 pm4 cd4 ct4 : Value} {od4 an4 : Option PySem.Addr} {sl4 : Array (Option Value)}
    (a4 : PySem.W.nsIn K mainGlobals "shown_by" = some (some (.ref f4))) (l4 : K.lookup f4 = some ⟨oc4, od4, .func (PySem.W.fnOf "shown_by" "shown_by" (defArgs s_shown_by) (defBody s_shown_by) (defScope s_shown_by) .none kV4 dc4 pm4 an4 cd4 ct4), sl4⟩) (c4 : PySem.W.codeIn K cd4 "shown_by" = true) (k4 : PySem.W.keepIn K (.ref f4) = true)
    {f5 : PySem.Addr} {oc5 kV5 dc5 pm5 cd5 ct5 : Value} {od5 an5 : Option PySem.Addr} {sl5 : Array (Option Value)}
    (a5 : PySem.W.nsIn K mainGlobals "shown_parts" = some (some (.ref f5))) (l5 : K.lookup f5 = some ⟨oc5, od5, .func (PySem.W.fnOf "shown_parts" "shown_parts" (defArgs s_shown_parts) (defBody s_shown_parts) (defScope s_shown_parts) .none kV5 dc5 pm5 an5 cd5 ct5), sl5⟩) (c5 : PySem.W.codeIn K cd5 "shown_parts" = true) (k5 : PySem.W.keepIn K (.ref f5) = true)
    {f6 : PySem.Addr} {oc6 kV6 dc6 pm6 cd6 ct6 : Value} {od6 an6 : Option PySem.Addr} {sl6 : Array (Option Value)}
    (a6 : PySem.W.nsIn K mainGlobals "inner_parts" = some (some (.ref f6))) (l6 : K.lookup f6 = some ⟨oc6, od6, .func (PySem.W.fnOf "inner_parts" "inner_parts" (defArgs s_inner_parts) (defBody s_inner_parts) (defScope s_inner_parts) .none kV6 dc6 pm6 an6 cd6 ct6), sl6⟩) (c6 : PySem.W.codeIn K cd6 "inner_parts" = true) (k6 : PySem.W.keepIn K (.ref f6) = true)
    {f7 : PySem.Addr} {oc7 kV7 dc7 pm7 cd7 ct7 : Value} {od7 an7 : Option PySem.Addr} {sl7 : Array (Option Value)}
    (a7 : PySem.W.nsIn K mainGlobals "_law_cell_at" = some (some (.ref f7))) (l7 : K.lookup f7 = some ⟨oc7, od7, .func (PySem.W.fnOf "_law_cell_at" "_law_cell_at" (defArgs s_l_cell_at) (defBody s_l_cell_at) (defScope s_l_cell_at) .none kV7 dc7 pm7 an7 cd7 ct7), sl7⟩) (c7 : PySem.W.codeIn K cd7 "_law_cell_at" = true) (k7 : PySem.W.keepIn K (.ref f7) = true)
    {f8 : PySem.Addr} {oc8 kV8 dc8 pm8 cd8 ct8 : Value} {od8 an8 : Option PySem.Addr} {sl8 : Array (Option Value)}
    (a8 : PySem.W.nsIn K mainGlobals "_law_pool" = some (some (.ref f8))) (l8 : K.lookup f8 = some ⟨oc8, od8, .func (PySem.W.fnOf "_law_pool" "_law_pool" (defArgs s_l_pool) (defBody s_l_pool) (defScope s_l_pool) .none kV8 dc8 pm8 an8 cd8 ct8), sl8⟩) (c8 : PySem.W.codeIn K cd8 "_law_pool" = true) (k8 : PySem.W.keepIn K (.ref f8) = true)
    {f9 : PySem.Addr} {oc9 kV9 dc9 pm9 cd9 ct9 : Value} {od9 an9 : Option PySem.Addr} {sl9 : Array (Option Value)}
    (a9 : PySem.W.nsIn K mainGlobals "_law_take" = some (some (.ref f9))) (l9 : K.lookup f9 = some ⟨oc9, od9, .func (PySem.W.fnOf "_law_take" "_law_take" (defArgs s_l_take) (defBody s_l_take) (defScope s_l_take) .none kV9 dc9 pm9 an9 cd9 ct9), sl9⟩) (c9 : PySem.W.codeIn K cd9 "_law_take" = true) (k9 : PySem.W.keepIn K (.ref f9) = true)
    {f10 : PySem.Addr} {oc10 kV10 dc10 pm10 cd10 ct10 : Value} {od10 an10 : Option PySem.Addr} {sl10 : Array (Option Value)}
    (a10 : PySem.W.nsIn K mainGlobals "_law_facts" = some (some (.ref f10))) (l10 : K.lookup f10 = some ⟨oc10, od10, .func (PySem.W.fnOf "_law_facts" "_law_facts" (defArgs s_l_facts) (defBody s_l_facts) (defScope s_l_facts) .none kV10 dc10 pm10 an10 cd10 ct10), sl10⟩) (c10 : PySem.W.codeIn K cd10 "_law_facts" = true) (k10 : PySem.W.keepIn K (.ref f10) = true)
    {f11 : PySem.Addr} {oc11 kV11 dc11 pm11 cd11 ct11 : Value} {od11 an11 : Option PySem.Addr} {sl11 : Array (Option Value)}
    (a11 : PySem.W.nsIn K mainGlobals "_law_key" = some (some (.ref f11))) (l11 : K.lookup f11 = some ⟨oc11, od11, .func (PySem.W.fnOf "_law_key" "_law_key" (defArgs s_l_key) (defBody s_l_key) (defScope s_l_key) .none kV11 dc11 pm11 an11 cd11 ct11), sl11⟩) (c11 : PySem.W.codeIn K cd11 "_law_key" = true) (k11 : PySem.W.keepIn K (.ref f11) = true)
    {f12 : PySem.Addr} {oc12 kV12 dc12 pm12 cd12 ct12 : Value} {od12 an12 : Option PySem.Addr} {sl12 : Array (Option Value)}
    (a12 : PySem.W.nsIn K mainGlobals "_law_outers" = some (some (.ref f12))) (l12 : K.lookup f12 = some ⟨oc12, od12, .func (PySem.W.fnOf "_law_outers" "_law_outers" (defArgs s_l_outers) (defBody s_l_outers) (defScope s_l_outers) .none kV12 dc12 pm12 an12 cd12 ct12), sl12⟩) (c12 : PySem.W.codeIn K cd12 "_law_outers" = true) (k12 : PySem.W.keepIn K (.ref f12) = true)
    {f13 : PySem.Addr} {oc13 kV13 dc13 pm13 cd13 ct13 : Value} {od13 an13 : Option PySem.Addr} {sl13 : Array (Option Value)}
    (a13 : PySem.W.nsIn K mainGlobals "_law_beneath" = some (some (.ref f13))) (l13 : K.lookup f13 = some ⟨oc13, od13, .func (PySem.W.fnOf "_law_beneath" "_law_beneath" (defArgs s_l_beneath) (defBody s_l_beneath) (defScope s_l_beneath) .none kV13 dc13 pm13 an13 cd13 ct13), sl13⟩) (c13 : PySem.W.codeIn K cd13 "_law_beneath" = true) (k13 : PySem.W.keepIn K (.ref f13) = true)
    {f14 : PySem.Addr} {oc14 kV14 dc14 pm14 cd14 ct14 : Value} {od14 an14 : Option PySem.Addr} {sl14 : Array (Option Value)}
    (a14 : PySem.W.nsIn K mainGlobals "_law_event" = some (some (.ref f14))) (l14 : K.lookup f14 = some ⟨oc14, od14, .func (PySem.W.fnOf "_law_event" "_law_event" (defArgs s_l_event) (defBody s_l_event) (defScope s_l_event) .none kV14 dc14 pm14 an14 cd14 ct14), sl14⟩) (c14 : PySem.W.codeIn K cd14 "_law_event" = true) (k14 : PySem.W.keepIn K (.ref f14) = true)
    {f15 : PySem.Addr} {oc15 kV15 dc15 pm15 cd15 ct15 : Value} {od15 an15 : Option PySem.Addr} {sl15 : Array (Option Value)}
    (a15 : PySem.W.nsIn K mainGlobals "_law_drawn" = some (some (.ref f15))) (l15 : K.lookup f15 = some ⟨oc15, od15, .func (PySem.W.fnOf "_law_drawn" "_law_drawn" (defArgs s_l_drawn) (defBody s_l_drawn) (defScope s_l_drawn) .none kV15 dc15 pm15 an15 cd15 ct15), sl15⟩) (c15 : PySem.W.codeIn K cd15 "_law_drawn" = true) (k15 : PySem.W.keepIn K (.ref f15) = true)
    {f16 : PySem.Addr} {oc16 kV16 dc16 pm16 cd16 ct16 : Value} {od16 an16 : Option PySem.Addr} {sl16 : Array (Option Value)}
    (a16 : PySem.W.nsIn K mainGlobals "_law_kept" = some (some (.ref f16))) (l16 : K.lookup f16 = some ⟨oc16, od16, .func (PySem.W.fnOf "_law_kept" "_law_kept" (defArgs s_l_kept) (defBody s_l_kept) (defScope s_l_kept) .none kV16 dc16 pm16 an16 cd16 ct16), sl16⟩) (c16 : PySem.W.codeIn K cd16 "_law_kept" = true) (k16 : PySem.W.keepIn K (.ref f16) = true)
    {f17 : PySem.Addr} {oc17 kV17 dc17 pm17 cd17 ct17 : Value} {od17 an17 : Option PySem.Addr} {sl17 : Array (Option Value)}
    (a17 : PySem.W.nsIn K mainGlobals "_law_stands" = some (some (.ref f17))) (l17 : K.lookup f17 = some ⟨oc17, od17, .func (PySem.W.fnOf "_law_stands" "_law_stands" (defArgs s_l_stands) (defBody s_l_stands) (defScope s_l_stands) .none kV17 dc17 pm17 an17 cd17 ct17), sl17⟩) (c17 : PySem.W.codeIn K cd17 "_law_stands" = true) (k17 : PySem.W.keepIn K (.ref f17) = true)
    {f18 : PySem.Addr} {oc18 kV18 dc18 pm18 cd18 ct18 : Value} {od18 an18 : Option PySem.Addr} {sl18 : Array (Option Value)}
    (a18 : PySem.W.nsIn K mainGlobals "_law_shown" = some (some (.ref f18))) (l18 : K.lookup f18 = some ⟨oc18, od18, .func (PySem.W.fnOf "_law_shown" "_law_shown" (defArgs s_l_shown) (defBody s_l_shown) (defScope s_l_shown) .none kV18 dc18 pm18 an18 cd18 ct18), sl18⟩) (c18 : PySem.W.codeIn K cd18 "_law_shown" = true) (k18 : PySem.W.keepIn K (.ref f18) = true)
    {f19 : PySem.Addr} {oc19 kV19 dc19 pm19 cd19 ct19 : Value} {od19 an19 : Option PySem.Addr} {sl19 : Array (Option Value)}
    (a19 : PySem.W.nsIn K mainGlobals "_law_inner" = some (some (.ref f19))) (l19 : K.lookup f19 = some ⟨oc19, od19, .func (PySem.W.fnOf "_law_inner" "_law_inner" (defArgs s_l_inner) (defBody s_l_inner) (defScope s_l_inner) .none kV19 dc19 pm19 an19 cd19 ct19), sl19⟩) (c19 : PySem.W.codeIn K cd19 "_law_inner" = true) (k19 : PySem.W.keepIn K (.ref f19) = true)
    {f20 : PySem.Addr} {oc20 kV20 dc20 pm20 cd20 ct20 : Value} {od20 an20 : Option PySem.Addr} {sl20 : Array (Option Value)}
    (a20 : PySem.W.nsIn K mainGlobals "_law_shown_right" = some (some (.ref f20))) (l20 : K.lookup f20 = some ⟨oc20, od20, .func (PySem.W.fnOf "_law_shown_right" "_law_shown_right" (defArgs s_l_shown_right) (defBody s_l_shown_right) (defScope s_l_shown_right) .none kV20 dc20 pm20 an20 cd20 ct20), sl20⟩) (c20 : PySem.W.codeIn K cd20 "_law_shown_right" = true) (k20 : PySem.W.keepIn K (.ref f20) = true)
    {f21 : PySem.Addr} {oc21 kV21 dc21 pm21 cd21 ct21 : Value} {od21 an21 : Option PySem.Addr} {sl21 : Array (Option Value)}
    (a21 : PySem.W.nsIn K mainGlobals "_law_inner_right" = some (some (.ref f21))) (l21 : K.lookup f21 = some ⟨oc21, od21, .func (PySem.W.fnOf "_law_inner_right" "_law_inner_right" (defArgs s_l_inner_right) (defBody s_l_inner_right) (defScope s_l_inner_right) .none kV21 dc21 pm21 an21 cd21 ct21), sl21⟩) (c21 : PySem.W.codeIn K cd21 "_law_inner_right" = true) (k21 : PySem.W.keepIn K (.ref f21) = true)
    {f22 : PySem.Addr} {oc22 kV22 dc22 pm22 cd22 ct22 : Value} {od22 an22 : Option PySem.Addr} {sl22 : Array (Option Value)}
    (a22 : PySem.W.nsIn K mainGlobals "law" = some (some (.ref f22))) (l22 : K.lookup f22 = some ⟨oc22, od22, .func (PySem.W.fnOf "law" "law" (defArgs s_law) (defBody s_law) (defScope s_law) .none kV22 dc22 pm22 an22 cd22 ct22), sl22⟩) (c22 : PySem.W.codeIn K cd22 "law" = true) (k22 : PySem.W.keepIn K (.ref f22) = true) (z_sorted : PySem.W.nsIn K mainGlobals "sorted" = some none) (z_len : PySem.W.nsIn K mainGlobals "len" = some none) (z_abs : PySem.W.nsIn K mainGlobals "abs" = some none) (z_range : PySem.W.nsIn K mainGlobals "range" = some none) (z_min : PySem.W.nsIn K mainGlobals "min" = some none) (z_list : PySem.W.nsIn K mainGlobals "list" = some none) (z_max : PySem.W.nsIn K mainGlobals "max" = some none) (z_isinstance : PySem.W.nsIn K mainGlobals "isinstance" = some none)
    {m_MAIN : PySem.Addr} {md_MAIN : Option PySem.Addr} {mi_MAIN : Array Value} {mn_MAIN : Nat} {ms_MAIN : Array (Option Value)} (ma_MAIN : PySem.W.nsIn K mainGlobals "MAIN" = some (some (.ref m_MAIN))) (ml_MAIN : K.lookup m_MAIN = some ⟨.type "tuple", md_MAIN, .seq mi_MAIN mn_MAIN, ms_MAIN⟩) (mv_MAIN : mi_MAIN.size ≤ sizeLine ∧ L2.Vals [(V.str ""), (V.int 0)] mi_MAIN.toList) :
    ∃ fd : FuncData, (∀ (s : Shared) (v : Value), BindsTo s fd ⟨[v], []⟩ [("_law_script", v)]) ∧ ∀ base : Heap, K.In base → base.Ns mainGlobals mg → FnOk l.prog w K mg base CX0 6 fa fd ["_law_script"] (spG K w f_law) := by
  have e := hfa.symm.trans (PySem.W.mg_of X G a22)
  cases e
  have F0 := fun_mk (st := s_places_by) l0 c0 k0
  have b0 := F0.binds (ps := ["facts"]) fun _ _ _ _ _ _ us hl => match us, hl with | [_], _ => rfl
  have F1 := fun_mk (st := s_round_of) l1 c1 k1
  have b1 := F1.binds (ps := ["places", "seen", "part"]) fun _ _ _ _ _ _ us hl => match us, hl with | [_, _, _], _ => rfl
  have F2 := fun_mk (st := s_outers_of) l2 c2 k2
  have b2 := F2.binds (ps := ["places"]) fun _ _ _ _ _ _ us hl => match us, hl with | [_], _ => rfl
  have F3 := fun_mk (st := s_stands_in) l3 c3 k3
  have b3 := F3.binds (ps := ["facts"]) fun _ _ _ _ _ _ us hl => match us, hl with | [_], _ => rfl
  have F4 := fun_mk (st := s_shown_by) l4 c4 k4
  have b4 := F4.binds (ps := ["facts", "inner"]) fun _ _ _ _ _ _ us hl => match us, hl with | [_, _], _ => rfl
  have F5 := fun_mk (st := s_shown_parts) l5 c5 k5
  have b5 := F5.binds (ps := ["facts"]) fun _ _ _ _ _ _ us hl => match us, hl with | [_], _ => rfl
  have F6 := fun_mk (st := s_inner_parts) l6 c6 k6
  have b6 := F6.binds (ps := ["facts", "part"]) fun _ _ _ _ _ _ us hl => match us, hl with | [_, _], _ => rfl
  have F7 := fun_mk (st := s_l_cell_at) l7 c7 k7
  have b7 := F7.binds (ps := ["_law_script", "_law_k"]) fun _ _ _ _ _ _ us hl => match us, hl with | [_, _], _ => rfl
  have F8 := fun_mk (st := s_l_pool) l8 c8 k8
  have b8 := F8.binds (ps := ["_law_script", "_law_k"]) fun _ _ _ _ _ _ us hl => match us, hl with | [_, _], _ => rfl
  have F9 := fun_mk (st := s_l_take) l9 c9 k9
  have b9 := F9.binds (ps := ["_law_pool_here", "_law_many"]) fun _ _ _ _ _ _ us hl => match us, hl with | [_, _], _ => rfl
  have F10 := fun_mk (st := s_l_facts) l10 c10 k10
  have b10 := F10.binds (ps := []) fun _ _ _ _ _ _ us hl => match us, hl with | [], _ => rfl
  have F11 := fun_mk (st := s_l_key) l11 c11 k11
  have b11 := F11.binds (ps := ["_law_last", "_law_name", "_law_hand", "_law_named"]) fun _ _ _ _ _ _ us hl => match us, hl with | [_, _, _, _], _ => rfl
  have F12 := fun_mk (st := s_l_outers) l12 c12 k12
  have b12 := F12.binds (ps := ["_law_facts_here"]) fun _ _ _ _ _ _ us hl => match us, hl with | [_], _ => rfl
  have F13 := fun_mk (st := s_l_beneath) l13 c13 k13
  have b13 := F13.binds (ps := ["_law_facts_here", "_law_one", "_law_part"]) fun _ _ _ _ _ _ us hl => match us, hl with | [_, _, _], _ => rfl
  have F14 := fun_mk (st := s_l_event) l14 c14 k14
  have b14 := F14.binds (ps := ["_law_facts_here", "_law_pool_here", "_law_k", "_law_last", "_law_rounds"]) fun _ _ _ _ _ _ us hl => match us, hl with | [_, _, _, _, _], _ => rfl
  have F15 := fun_mk (st := s_l_drawn) l15 c15 k15
  have b15 := F15.binds (ps := ["_law_script", "_law_rounds"]) fun _ _ _ _ _ _ us hl => match us, hl with | [_, _], _ => rfl
  have F16 := fun_mk (st := s_l_kept) l16 c16 k16
  have b16 := F16.binds (ps := ["_law_facts_here"]) fun _ _ _ _ _ _ us hl => match us, hl with | [_], _ => rfl
  have F17 := fun_mk (st := s_l_stands) l17 c17 k17
  have b17 := F17.binds (ps := ["_law_facts_here"]) fun _ _ _ _ _ _ us hl => match us, hl with | [_], _ => rfl
  have F18 := fun_mk (st := s_l_shown) l18 c18 k18
  have b18 := F18.binds (ps := ["_law_facts_here"]) fun _ _ _ _ _ _ us hl => match us, hl with | [_], _ => rfl
  have F19 := fun_mk (st := s_l_inner) l19 c19 k19
  have b19 := F19.binds (ps := ["_law_facts_here", "_law_stands_here", "_law_seen", "_law_part"]) fun _ _ _ _ _ _ us hl => match us, hl with | [_, _, _, _], _ => rfl
  have F20 := fun_mk (st := s_l_shown_right) l20 c20 k20
  have b20 := F20.binds (ps := ["_law_facts_here"]) fun _ _ _ _ _ _ us hl => match us, hl with | [_], _ => rfl
  have F21 := fun_mk (st := s_l_inner_right) l21 c21 k21
  have b21 := F21.binds (ps := ["_law_facts_here", "_law_most"]) fun _ _ _ _ _ _ us hl => match us, hl with | [_, _], _ => rfl
  have F22 := fun_mk (st := s_law) l22 c22 k22
  have b22 := F22.binds (ps := ["_law_script"]) fun _ _ _ _ _ _ us hl => match us, hl with | [_], _ => rfl
  refine ⟨PySem.W.fnOf "law" "law" (defArgs s_law) (defBody s_law) (defScope s_law) .none kV22 dc22 pm22 an22 cd22 ct22, fun s v => .of_eq rfl, fun base _ _ => ?_⟩
  have X_MAIN : mg "MAIN" = some (.ref m_MAIN) ∧ L2.RelV (.ref m_MAIN) (.ref m_MAIN) ∧ ∀ H, Rv K H c_MAIN (.ref m_MAIN) := ⟨PySem.W.mg_of X G ma_MAIN, rfl, rv_ktup ml_MAIN rfl rfl mv_MAIN.1 mv_MAIN.2 fun H => .cons (.str _ (by unfold okS; decide)) (.cons (.int _) .nil)⟩
  have b_sorted := PySem.W.mg_none_of X G z_sorted
  have b_len := PySem.W.mg_none_of X G z_len
  have b_abs := PySem.W.mg_none_of X G z_abs
  have b_range := PySem.W.mg_none_of X G z_range
  have b_min := PySem.W.mg_none_of X G z_min
  have b_list := PySem.W.mg_none_of X G z_list
  have b_max := PySem.W.mg_none_of X G z_max
  have b_isinstance := PySem.W.mg_none_of X G z_isinstance
  have G_places_by := ok_places_by (mg := mg) (P := l.prog) (w := w) (base := base) F0
  have G_round_of := ok_round_of (mg := mg) (P := l.prog) (w := w) (base := base) F1
  have G_outers_of := ok_outers_of (mg := mg) (P := l.prog) (w := w) (base := base) F2 X_MAIN G_round_of (PySem.W.mg_of X G a1) F1.kp b1
  have G_stands_in := ok_stands_in (mg := mg) (P := l.prog) (w := w) (base := base) F3 X_MAIN G_places_by (PySem.W.mg_of X G a0) F0.kp b0 G_outers_of (PySem.W.mg_of X G a2) F2.kp b2
  have G_shown_by := ok_shown_by (mg := mg) (P := l.prog) (w := w) (base := base) F4 X_MAIN
  have G_shown_parts := ok_shown_parts (mg := mg) (P := l.prog) (w := w) (base := base) F5 b_sorted G_stands_in (PySem.W.mg_of X G a3) F3.kp b3 G_shown_by (PySem.W.mg_of X G a4) F4.kp b4
  have G_inner_parts := ok_inner_parts (mg := mg) (P := l.prog) (w := w) (base := base) F6 b_sorted G_stands_in (PySem.W.mg_of X G a3) F3.kp b3 G_shown_by (PySem.W.mg_of X G a4) F4.kp b4 G_places_by (PySem.W.mg_of X G a0) F0.kp b0
  have G_l_cell_at := ok_l_cell_at (mg := mg) (P := l.prog) (w := w) (base := base) F7 b_len
  have G_l_pool := ok_l_pool (mg := mg) (P := l.prog) (w := w) (base := base) F8 b_abs G_l_cell_at (PySem.W.mg_of X G a7) F7.kp b7
  have G_l_take := ok_l_take (mg := mg) (P := l.prog) (w := w) (base := base) F9
  have G_l_facts := ok_l_facts (mg := mg) (P := l.prog) (w := w) (base := base) F10
  have G_l_key := ok_l_key (mg := mg) (P := l.prog) (w := w) (base := base) F11 b_len
  have G_l_outers := ok_l_outers (mg := mg) (P := l.prog) (w := w) (base := base) F12
  have G_l_beneath := ok_l_beneath (mg := mg) (P := l.prog) (w := w) (base := base) F13 G_l_outers (PySem.W.mg_of X G a12) F12.kp b12
  have G_l_event := ok_l_event (mg := mg) (P := l.prog) (w := w) (base := base) F14 b_len G_l_take (PySem.W.mg_of X G a9) F9.kp b9 G_l_key (PySem.W.mg_of X G a11) F11.kp b11 G_l_beneath (PySem.W.mg_of X G a13) F13.kp b13
  have G_l_drawn := ok_l_drawn (mg := mg) (P := l.prog) (w := w) (base := base) F15 b_range b_len b_min G_l_facts (PySem.W.mg_of X G a10) F10.kp b10 G_l_pool (PySem.W.mg_of X G a8) F8.kp b8 G_l_event (PySem.W.mg_of X G a14) F14.kp b14
  have G_l_kept := ok_l_kept (mg := mg) (P := l.prog) (w := w) (base := base) F16 b_list
  have G_l_stands := ok_l_stands (mg := mg) (P := l.prog) (w := w) (base := base) F17 b_max G_l_outers (PySem.W.mg_of X G a12) F12.kp b12
  have G_l_shown := ok_l_shown (mg := mg) (P := l.prog) (w := w) (base := base) F18 b_sorted G_l_stands (PySem.W.mg_of X G a17) F17.kp b17
  have G_l_inner := ok_l_inner (mg := mg) (P := l.prog) (w := w) (base := base) F19 b_sorted G_l_outers (PySem.W.mg_of X G a12) F12.kp b12
  have G_l_shown_right := ok_l_shown_right (mg := mg) (P := l.prog) (w := w) (base := base) F20 b_isinstance b_list G_l_shown (PySem.W.mg_of X G a18) F18.kp b18 G_shown_parts (PySem.W.mg_of X G a5) F5.kp b5 G_l_facts (PySem.W.mg_of X G a10) F10.kp b10
  have G_l_inner_right := ok_l_inner_right (mg := mg) (P := l.prog) (w := w) (base := base) F21 b_isinstance b_list G_l_shown (PySem.W.mg_of X G a18) F18.kp b18 G_l_stands (PySem.W.mg_of X G a17) F17.kp b17 G_inner_parts (PySem.W.mg_of X G a6) F6.kp b6 G_l_inner (PySem.W.mg_of X G a19) F19.kp b19
  have G_law := ok_law (mg := mg) (P := l.prog) (w := w) (base := base) F22 b_sorted G_l_drawn (PySem.W.mg_of X G a15) F15.kp b15 G_l_kept (PySem.W.mg_of X G a16) F16.kp b16 G_l_shown_right (PySem.W.mg_of X G a20) F20.kp b20 G_l_inner_right (PySem.W.mg_of X G a21) F21.kp b21 G_l_outers (PySem.W.mg_of X G a12) F12.kp b12
  exact G_law
end K29
open PySem PySem.W PyProof.Rows
local instance : G.Tb := G.tb0
set_option maxHeartbeats 0 in
theorem PySem.Challenge.cw_pagefolk_k29_parts_shown_holds : PySem.Challenge.rw_pagefolk_k29_parts_shown.Holds := by
  w_on; o_law; k_head; (case hw => w_witness2)
  k_fill
  refine L2.walk_of (l := PySem.Challenge.rw_pagefolk_k29_parts_shown) (n := 63) (k := 6) (x := "_law_script") (CX := fun _ => L2.CX0) (sp := fun w => G.spG _ w K29.f_law) rfl (by decide) rfl ⟨rfl, by decide, by decide⟩ (fun w h Y => PySem.W.kIn_of Y) ?F (fun w H a ns hl ho hS => G.sp_law0 K29.law_holds H a ns hl ho hS) (fun _ _ _ _ _ h => h)
  case F =>
    intro w mg fa h KX G hmg
    refine' K29.all_mk KX G hmg ?a0 ?l0 ?c0 ?k0 ?a1 ?l1 ?c1 ?k1 ?a2 ?l2 ?c2 ?k2 ?a3 ?l3 ?c3 ?k3 ?a4 ?l4 ?c4 ?k4 ?a5 ?l5 ?c5 ?k5 ?a6 ?l6 ?c6 ?k6 ?a7 ?l7 ?c7 ?k7 ?a8 ?l8 ?c8 ?k8 ?a9 ?l9 ?c9 ?k9 ?a10 ?l10 ?c10 ?k10 ?a11 ?l11 ?c11 ?k11 ?a12 ?l12 ?c12 ?k12 ?a13 ?l13 ?c13 ?k13 ?a14 ?l14 ?c14 ?k14 ?a15 ?l15 ?c15 ?k15 ?a16 ?l16 ?c16 ?k16 ?a17 ?l17 ?c17 ?k17 ?a18 ?l18 ?c18 ?k18 ?a19 ?l19 ?c19 ?k19 ?a20 ?l20 ?c20 ?k20 ?a21 ?l21 ?c21 ?k21 ?a22 ?l22 ?c22 ?k22 ?z_sorted ?z_len ?z_abs ?z_range ?z_min ?z_list ?z_max ?z_isinstance ?ma_MAIN ?ml_MAIN ?mv_MAIN
    (case a0 => k_is); (case l0 => k_is); (case c0 => k_is); (case k0 => k_is); (case a1 => k_is); (case l1 => k_is); (case c1 => k_is); (case k1 => k_is); (case a2 => k_is); (case l2 => k_is); (case c2 => k_is); (case k2 => k_is); (case a3 => k_is); (case l3 => k_is); (case c3 => k_is); (case k3 => k_is); (case a4 => k_is); (case l4 => k_is); (case c4 => k_is); (case k4 => k_is); (case a5 => k_is); (case l5 => k_is); (case c5 => k_is); (case k5 => k_is); (case a6 => k_is); (case l6 => k_is); (case c6 => k_is); (case k6 => k_is); (case a7 => k_is); (case l7 => k_is); (case c7 => k_is); (case k7 => k_is); (case a8 => k_is); (case l8 => k_is); (case c8 => k_is); (case k8 => k_is); (case a9 => k_is); (case l9 => k_is); (case c9 => k_is); (case k9 => k_is); (case a10 => k_is); (case l10 => k_is); (case c10 => k_is); (case k10 => k_is); (case a11 => k_is); (case l11 => k_is); (case c11 => k_is); (case k11 => k_is); (case a12 => k_is); (case l12 => k_is); (case c12 => k_is); (case k12 => k_is); (case a13 => k_is); (case l13 => k_is); (case c13 => k_is); (case k13 => k_is); (case a14 => k_is); (case l14 => k_is); (case c14 => k_is); (case k14 => k_is); (case a15 => k_is); (case l15 => k_is); (case c15 => k_is); (case k15 => k_is); (case a16 => k_is); (case l16 => k_is); (case c16 => k_is); (case k16 => k_is); (case a17 => k_is); (case l17 => k_is); (case c17 => k_is); (case k17 => k_is); (case a18 => k_is); (case l18 => k_is); (case c18 => k_is); (case k18 => k_is); (case a19 => k_is); (case l19 => k_is); (case c19 => k_is); (case k19 => k_is); (case a20 => k_is); (case l20 => k_is); (case c20 => k_is); (case k20 => k_is); (case a21 => k_is); (case l21 => k_is); (case c21 => k_is); (case k21 => k_is); (case a22 => k_is); (case l22 => k_is); (case c22 => k_is); (case k22 => k_is); (case z_sorted => k_is); (case z_len => k_is); (case z_abs => k_is); (case z_range => k_is); (case z_min => k_is); (case z_list => k_is); (case z_max => k_is); (case z_isinstance => k_is); (case ma_MAIN => k_is); (case ml_MAIN => k_is); (case mv_MAIN => exact ⟨by decide, .cons ⟨_, rfl⟩ (.cons ⟨_, rfl⟩ .nil)⟩)
end
