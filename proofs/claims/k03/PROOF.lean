import PyProof.Rows.All
import KE.KxText
import PyProof.Rows.All
import Wide.All
import OpenK.AllK
import Wide.FinOn
import KE.KStateDown
import KE.KNestM
import KE.HD2
import PySem.Challenge.RW_pagefolk_k03_whole_sets
import PySem.Str
import PySem.Builtin.Str.Common
import KE.KeyNested
import PyProof.DictFindH
import PyProof.DictMoreH
import PyProof.DictRoadsH
import KE.KDictPairs
import HandS.ForMost
import KE.SortData
import KE.SortKeyHeap
import HandS.Lambda
import HandS.Nested
import HandS.TupAny
import HandS.Wide
import HandS.Flow
import KE.DataEq
import KE.DataCmp
import KE.DataMinMax
import HandS.Style
import HandS.IsInst
import HandS.More
import HandS.Text
import HandS.RaiseMore
import HandS.EndTab
import HandS.SortKw
import HandS.Conv
import KE.KIndexOf
import KE.KEqNest
import KE.DataFind
import PyProof.Rows.TupDisplay
import HandS.SortOrd
import KE.KDictWalk
import HandS.Zip
import HandS.Defaults
import KE.KDictCopyH
import KE.KTupSum
import KE.KDictZip
import HandS.TupSets
import HandS.SetBool
import PyProof.StrLawsIn
set_option Elab.async false
section
set_option Elab.async false
set_option linter.all false
set_option maxRecDepth 100000
set_option maxHeartbeats 4000000
namespace G
open PySem PySem.W PyProof.Rows
/-- what the head tells: the tables, and K -/
def kmK (K : Params → Frag) (ts : List PySem.Addr) : Params → Frag := fun P => ts.map (fun a => (a, tabObj #[])) ++ K P
theorem lookup_tabs {K : Frag} {a : PySem.Addr} : ∀ {ts : List PySem.Addr}, a ∈ ts → ((ts.map fun a => (a, tabObj #[])) ++ K).lookup a = some (tabObj #[])
  | t :: ts, h => by
    show ((t, tabObj #[]) :: ((ts.map fun a => (a, tabObj #[])) ++ K)).lookup a = _
    by_cases e : a = t
    · subst e; simp [List.lookup]
    · have e' : (a == t) = false := by simpa using e
      simp only [List.lookup, e']
      exact lookup_tabs ((List.mem_cons.mp h).resolve_left e)
theorem lookup_past {K : Frag} {a : PySem.Addr} {o : Obj} (hK : K.lookup a = some o) : ∀ {ts : List PySem.Addr}, (ts.all fun t => (K.lookup t).isNone) = true → ((ts.map fun a => (a, tabObj #[])) ++ K).lookup a = some o
  | [], _ => hK
  | t :: ts, h => by
    simp only [List.all_cons, Bool.and_eq_true] at h
    show ((t, tabObj #[]) :: ((ts.map fun a => (a, tabObj #[])) ++ K)).lookup a = _
    have e' : (a == t) = false := by
      by_cases e : a = t
      · subst e; rw [hK] at h; simp at h
      · simpa using e
    simp only [List.lookup, e']
    exact lookup_past hK h.2
theorem kmK_tabs {K : Params → Frag} {ts as : List PySem.Addr} {e : ∀ P, as = (kmK K ts P).map (·.1)} {w : World} {h : Heap} (Y : (kHook (kmK K ts) as e).says w h) : ∀ P ∈ ts, h.get? P = some (tabObj #[]) :=
  fun P hP => (Y : (kmK K ts w.params).In h) P _ (lookup_tabs hP)
theorem kmK_in {K : Params → Frag} {ts as : List PySem.Addr} {e : ∀ P, as = (kmK K ts P).map (·.1)} {w : World} {h : Heap} (hd : ∀ P, (ts.all fun t => ((K P).lookup t).isNone) = true) (Y : (kHook (kmK K ts) as e).says w h) : (K w.params).In h :=
  fun a o q => (Y : (kmK K ts w.params).In h) a o (lookup_past q (hd _))
open HeadRun PySem.Calls
theorem h_three {α β γ δ : Type} {x : Option α} {f : α → β} {g : α → γ} {h : α → δ} {b : β} {c : γ} {d : δ} (h1 : x.map f = some b) (h2 : x.map g = some c) (h3 : x.map h = some d) : x.map (fun s => (f s, g s, h s)) = some (b, c, d) := by
  cases x with
  | none => cases h1
  | some s => cases h1; cases h2; cases h3; rfl
/-- the looks behind the top -/
def Run1 (p : Program) (M : Nat) : Prop := ∀ (w : World) (os : OsState), (endF (stepQ (denQ tabQ) p w) M p w os).map (fun s => looksF p (boot_heap w.params) s.abs) = some true
/-- what the view sees -/
def Run2 (r : OpenRow) (q : Program) (M : Nat) (loose : List PySem.Str) : Prop := ∀ (w : World) (os : OsState), (endF (stepQ (denQ tabQ) r.prog w) M r.prog w os).map (fun s => seenQ q loose (importedModules r.prog.main.body) (fun s => xlAt q [] s && recOk r.toRowW.records s) s.abs) = some (openGood q loose)
/-- the head of a law by three kernel runs; K as the kit's head writes it -/
theorem head_k {r : OpenRow} {q : Program} {K : Params → Frag} {as : List PySem.Addr} {ek : ∀ P, as = (K P).map (·.1)} {M : Nat} {loose : List PySem.Str} {d : DefRec} {kwd : List (PySem.Str × PySem.Expr)}
    (e : opening r.prog = plainProg r.prog.main.scope.names) (f : ∀ s, fenceModules? r.prog s = some s) (run1 : Run1 r.prog M) (run2 : Run2 r q M loose)
    (run3 : ∀ (w : World) (os : OsState), (endF (stepQ (denQ tabQ) r.prog w) M r.prog w os).map (fun s => as.map (getT s)) = some ((K w.params).map fun x => some x.2))
    (hdef : defOf q r.name = some (d, kwd)) (hp : r.prog.theDef r.name = some (d.params, d.body, d.scope)) (hk : kwWritten? d.params.kwonlyargs d.params.kw_defaults = some kwd)
    (hwr : (!r.writes || r.records.isEmpty) = true) (k1 : r.wellSaid = true) (ok : (chainsOk q && opensWell r.prog && (frees r.toRowW && r.within.isEmpty)) = true) (hb : r.prog.bare) (hw : r.toRowW.promised)
    (call : WalkO q loose (XL q []) (kHook K as ek).says r.toRowW d kwd fun f vs => PySem.call f vs) : r.Holds :=
  head_any (r := r) (q := q) (H := kHook K as ek) (ob := fun s => as.map (getT s)) (M := M) (loose := loose) (d := d) (kwd := kwd)
    (fun s => List.map_congr_left fun a _ => getT_eq s a) e f (fun w os => h_three (run1 w os) (run2 w os) (run3 w os)) hdef hp hk hwr k1 ok hb hw call
end G
end
section
set_option Elab.async false
set_option linter.all false
set_option maxRecDepth 100000
set_option maxHeartbeats 0
namespace K03.Hd
open PySem PySem.W PyProof.Rows
abbrev R : OpenRow := OpenLaw.row PySem.Challenge.rw_pagefolk_k03_whole_sets
abbrev qv : Program := view PySem.Challenge.pw_pagefolk_k03_whole_sets [30]
def n0 : List PySem.Str := ["name_of", "FolkError", "NoSet", "are_no_less", "table_of", "Folk", "_law_draws", "_law_word", "_law_roll", "_law_name", "_law_part", "_law_sign_name", "_law_side", "_law_sign", "_law_signs", "_law_sign_names", "_law_what_of_signs", "_law_what_of_marks", "_law_what", "_law_branch", "_law_house", "_law_mixed_up", "_law_is_past", "_law_heights", "_law_key", "_law_right"]
def names : List PySem.Str := n0
theorem run1 : G.Run1 R.prog 60000 := by intro w os; kernel_rfl
theorem run2 : G.Run2 R qv 60000 names := by intro w os; kernel_rfl
local macro_rules
  | `(tactic| o_head ($f:term $K:term $A:term $E:term $ts:term)) => do
    let hw := Lean.mkIdent `hw
    let hc := Lean.mkIdent `hc
    `(tactic| refine _root_.G.head_k (r := K03.Hd.R) (K := _root_.G.kmK $K $ts) (as := $ts ++ $A) (ek := fun _ => by kernel_rfl) (q := K03.Hd.qv) (loose := K03.Hd.names) (M := 60000) (d := HeadRun.topDef PySem.Challenge.pw_pagefolk_k03_whole_sets 30) (kwd := []) (by kernel_rfl) (fun s => by kernel_rfl) K03.Hd.run1 K03.Hd.run2 (by intro w os; kernel_rfl) (by kernel_rfl) (by kernel_rfl) (by kernel_rfl) (by rfl) (by first | assumption | decide +kernel) (by decide +kernel) ⟨rfl, rfl, rfl, rfl, rfl, by decide +kernel⟩ ?$hw:ident ?$hc:ident)
  | `(tactic| o_head ($f:term $K:term $A:term $E:term)) => do
    let hw := Lean.mkIdent `hw
    let hc := Lean.mkIdent `hc
    `(tactic| refine _root_.G.head_k (r := K03.Hd.R) (K := $K) (as := $A) (ek := fun _ => by kernel_rfl) (q := K03.Hd.qv) (loose := K03.Hd.names) (M := 60000) (d := HeadRun.topDef PySem.Challenge.pw_pagefolk_k03_whole_sets 30) (kwd := []) (by kernel_rfl) (fun s => by kernel_rfl) K03.Hd.run1 K03.Hd.run2 (by intro w os; kernel_rfl) (by kernel_rfl) (by kernel_rfl) (by kernel_rfl) (by rfl) (by first | assumption | decide +kernel) (by decide +kernel) ⟨rfl, rfl, rfl, rfl, rfl, by decide +kernel⟩ ?$hw:ident ?$hc:ident)
open_top hd for PySem.Challenge.rw_pagefolk_k03_whole_sets
end K03.Hd
end
section
set_option linter.all false
set_option autoImplicit false
namespace G
open PySem (Str)
abbrev Addr := Nat
/-- a value: tuples (and lists, dicts that are only read) by value, what may change by its address -/
inductive D where
  | non | bl (b : Bool) | int (i : Int) | str (x : Str) | tup (ds : List D) | rl (ds : List D) | rd (ks vs : List D) | ref (a : Addr)
deriving Inhabited
mutual
def D.beq : D → D → Bool
  | .non, .non => true
  | .bl a, .bl b => a == b
  | .int a, .int b => decide (a = b)
  | .str a, .str b => decide (a = b)
  | .tup a, .tup b => D.beqL a b
  | .rl a, .rl b => D.beqL a b
  | .rd a b, .rd c d => D.beqL a c && D.beqL b d
  | .ref a, .ref b => decide (a = b)
  | _, _ => false
def D.beqL : List D → List D → Bool
  | [], [] => true
  | a :: as, b :: bs => D.beq a b && D.beqL as bs
  | _, _ => false
end
mutual
theorem D.beq_self : ∀ a : D, D.beq a a = true
  | .non => rfl
  | .bl a => by simp [D.beq]
  | .int a => by simp [D.beq]
  | .str a => by simp [D.beq]
  | .tup a => by rw [D.beq]; exact D.beqL_self a
  | .rl a => by rw [D.beq]; exact D.beqL_self a
  | .rd a b => by rw [D.beq, D.beqL_self a, D.beqL_self b]; rfl
  | .ref a => by simp [D.beq]
theorem D.beqL_self : ∀ a : List D, D.beqL a a = true
  | [] => rfl
  | a :: as => by rw [D.beqL, D.beq_self a, D.beqL_self as]; rfl
end
mutual
theorem D.eq_of_beq : ∀ a b : D, D.beq a b = true → a = b
  | .non, b, h => by cases b <;> simp_all [D.beq]
  | .bl _, b, h => by cases b <;> simp_all [D.beq]
  | .int _, b, h => by cases b <;> simp_all [D.beq]
  | .str _, b, h => by cases b <;> simp_all [D.beq]
  | .ref _, b, h => by cases b <;> simp_all [D.beq]
  | .tup xs, b, h => by
    cases b with
    | tup ys => rw [D.beq] at h; rw [D.eq_of_beqL xs ys h]
    | _ => simp [D.beq] at h
  | .rl xs, b, h => by
    cases b with
    | rl ys => rw [D.beq] at h; rw [D.eq_of_beqL xs ys h]
    | _ => simp [D.beq] at h
  | .rd xs us, b, h => by
    cases b with
    | rd ys ws =>
      rw [D.beq, Bool.and_eq_true] at h
      rw [D.eq_of_beqL xs ys h.1, D.eq_of_beqL us ws h.2]
    | _ => simp [D.beq] at h
theorem D.eq_of_beqL : ∀ a b : List D, D.beqL a b = true → a = b
  | [], b, h => by cases b <;> simp_all [D.beqL]
  | x :: xs, b, h => by
    cases b with
    | nil => simp [D.beqL] at h
    | cons y ys =>
      rw [D.beqL, Bool.and_eq_true] at h
      rw [D.eq_of_beq x y h.1, D.eq_of_beqL xs ys h.2]
end
instance : DecidableEq D := fun a b => if h : D.beq a b = true then .isTrue (D.eq_of_beq a b h) else .isFalse fun e => h (e ▸ D.beq_self a)
mutual
/-- plain data of depth n at most: None, ints, texts and tuples of such -/
def pl : Nat → D → Bool
  | _, .non => true
  | _, .int _ => true
  | _, .str _ => true
  | n + 1, .tup ds => plL n ds
  | _, _ => false
def plL : Nat → List D → Bool
  | _, [] => true
  | n, d :: ds => pl n d && plL n ds
end
mutual
/-- a < b, of data that are alike -/
def dlt : D → D → Bool
  | .int a, .int b => decide (a < b)
  | .str a, .str b => decide (a.cps.toList < b.cps.toList)
  | .bl a, .bl b => !a && b
  | .tup a, .tup b => dltL a b
  | _, _ => false
def dltL : List D → List D → Bool
  | [], [] => false
  | [], _ :: _ => true
  | _ :: _, [] => false
  | x :: xs, y :: ys => dlt x y || (decide (x = y) && dltL xs ys)
end
mutual
/-- the two can be compared, place by place -/
def alk : D → D → Bool
  | .non, .non => true
  | .bl _, .bl _ => true
  | .int _, .int _ => true
  | .str _, .str _ => true
  | .tup a, .tup b => alkL a b
  | _, _ => false
def alkL : List D → List D → Bool
  | x :: xs, y :: ys => alk x y && alkL xs ys
  | [], _ => true
  | _ :: _, [] => true
end
def dle (rev : Bool) (a b : D) : Bool := if rev then !dlt a b else !dlt b a
mutual
/-- data of depth n at most: None, truths, ints, texts and tuples of such -/
def dat : Nat → D → Bool
  | _, .non => true
  | _, .bl _ => true
  | _, .int _ => true
  | _, .str _ => true
  | n + 1, .tup ds => datL n ds
  | _, _ => false
def datL : Nat → List D → Bool
  | _, [] => true
  | n, d :: ds => dat n d && datL n ds
end
mutual
/-- Python's == of data by value -/
def deqv : D → D → Bool
  | .non, .non => true
  | .bl a, .bl b => a == b
  | .bl a, .int j => (if a then 1 else 0) == j
  | .int i, .bl b => i == (if b then 1 else 0)
  | .int a, .int b => a == b
  | .str a, .str b => a == b
  | .tup a, .tup b => deqvL a b
  | .rl a, .rl b => deqvL a b
  | _, _ => false
def deqvL : List D → List D → Bool
  | [], [] => true
  | x :: xs, y :: ys => deqv x y && deqvL xs ys
  | _, _ => false
end
inductive O where
  | lst (ds : List D) | dic (kvs : List (D × D)) | ins (C : Addr) (fs : List (Str × D))
abbrev AH := Addr → Option O
def up (h : AH) (a : Addr) (o : O) : AH := fun b => if b = a then some o else h b
@[simp] theorem up_same {h : AH} {a : Addr} {o : O} : up h a o a = some o := by simp [up]
theorem up_ne {h : AH} {a b : Addr} {o : O} (e : b ≠ a) : up h a o b = h b := by simp [up, e]
@[simp] theorem up_up {h : AH} {a : Addr} {o u : O} : up (up h a o) a u = up h a u := by funext b; unfold up; split <;> rfl
theorem up_none {h : AH} {a b : Addr} {o : O} : up h a o b = none ↔ b ≠ a ∧ h b = none := by
  unfold up; by_cases e : b = a <;> simp [e]
theorem up_self {h : AH} {a : Addr} {o : O} (e : h a = some o) : up h a o = h := by
  funext c; unfold up; by_cases h1 : c = a <;> simp_all
/-- h0 is a part of h -/
def Sb (h0 h : AH) : Prop := ∀ a o, h0 a = some o → h a = some o
theorem Sb.refl (h : AH) : Sb h h := fun _ _ e => e
theorem Sb.trans {a b c : AH} (x : Sb a b) (y : Sb b c) : Sb a c := fun p o e => y p o (x p o e)
theorem Sb.upn {h0 h : AH} {a : Addr} {o : O} (x : Sb h0 h) (e : h a = none) : Sb h0 (up h a o) := fun p u q => by
  have q' := x p u q
  have : p ≠ a := fun z => by rw [z, e] at q'; cases q'
  rw [up_ne this]; exact q'
theorem Sb.both {h0 h : AH} {a : Addr} {o : O} (x : Sb h0 h) : Sb (up h0 a o) (up h a o) := fun p u q => by
  by_cases e : p = a
  · subst e; rw [up_same] at q; rw [up_same]; exact q
  · rw [up_ne e] at q; rw [up_ne e]; exact x p u q
theorem ne_of {h : AH} {a b : Addr} {o : O} (x : h a = some o) (y : h b = none) : a ≠ b := fun e => by rw [e, y] at x; cases x
theorem ne_of' {h : AH} {a b : Addr} {o : O} (x : h a = some o) (y : h b = none) : b ≠ a := fun e => by rw [← e, y] at x; cases x
/-- P of a part of h -/
def Pt (P : AH → Prop) (h : AH) : Prop := ∃ h0, Sb h0 h ∧ P h0
theorem Pt.of {P : AH → Prop} {h : AH} (x : P h) : Pt P h := ⟨h, Sb.refl h, x⟩
/-- the largest number of items -/
def SZ : Nat := 16777216
/-- a list's items, whatever it is held by -/
def lsOf (h : AH) : D → Option (List D)
  | .rl ds => some ds
  | .ref a => match h a with
    | some (.lst ds) => some ds
    | _ => none
  | _ => none
/-- the items of a list or a tuple -/
def sqOf (h : AH) : D → Option (List D)
  | .tup ds => some ds
  | d => lsOf h d
/-- a dict's entries -/
def dcOf (h : AH) : D → Option (List (D × D))
  | .rd ks vs => some (ks.zip vs)
  | .ref a => match h a with
    | some (.dic kvs) => some kvs
    | _ => none
  | _ => none
def mapO {α β : Type} (f : α → Option β) : List α → Option (List β)
  | [] => some []
  | d :: ds => match f d, mapO f ds with
    | some e, some es => some (e :: es)
    | _, _ => none
/-- lists at addresses put by value, n levels of lists and tuples at most -/
def rei (h : AH) : Nat → D → Option D
  | _, .non => some .non
  | _, .bl b => some (.bl b)
  | _, .int i => some (.int i)
  | _, .str x => some (.str x)
  | n + 1, .tup ds => (mapO (rei h n) ds).map .tup
  | n + 1, .rl ds => (mapO (rei h n) ds).map .rl
  | n + 1, .ref a => match h a with
    | some (.lst ds) => (mapO (rei h n) ds).map .rl
    | _ => none
  | _, _ => none
def dget : List (D × D) → D → Option D
  | [], _ => none
  | (a, b) :: r, k => if a = k then some b else dget r k
def dput : List (D × D) → D → D → List (D × D)
  | [], k, v => [(k, v)]
  | (a, b) :: r, k, v => if a = k then (a, v) :: r else (a, b) :: dput r k v
abbrev Lo := List (Option D)
abbrev KD := D → AH → Prop
abbrev DE := Lo → AH → KD → Prop
abbrev DT := Lo → AH → (Bool → AH → Prop) → Prop
abbrev DA := Lo → AH → (List D → AH → Prop) → Prop
structure Fin where
  nx : Lo → AH → Prop
  rt : KD
  bk : Lo → AH → Prop := fun _ _ => False
  ct : Lo → AH → Prop := fun _ _ => False
abbrev DS := Fin → Lo → AH → Prop
/-- a def, from its arguments -/
abbrev FS := List D → AH → KD → Prop
def onV : Option (Option D) → (D → Prop) → Prop
  | some (some d), Q => Q d
  | _, _ => False
def onB : Option Bool → (Bool → Prop) → Prop
  | some b, Q => Q b
  | none, _ => False
def onT (b : Bool) (p q : Prop) : Prop := match b with
  | true => p
  | false => q
def isBl : D → (Bool → Prop) → Prop
  | .bl b, Q => Q b
  | _, _ => False
def isInt : D → (Int → Prop) → Prop
  | .int i, Q => Q i
  | _, _ => False
def isTup : D → (List D → Prop) → Prop
  | .tup ds, Q => Q ds
  | _, _ => False
def isCons : List D → (D → List D → Prop) → Prop
  | d :: ds, Q => Q d ds
  | [], _ => False
def isNil : List D → Prop → Prop
  | [], Q => Q
  | _, _ => False
def dVar (i : Nat) : DE := fun ρ h Q => onV ρ[i]? fun d => Q d h
def dC (d : D) : DE := fun _ h Q => Q d h
abbrev dInt (i : Int) : DE := dC (.int i)
abbrev dStr (x : Str) : DE := dC (.str x)
abbrev dNon : DE := dC .non
abbrev dBl (b : Bool) : DE := dC (.bl b)
def daNil : DA := fun _ h Q => Q [] h
def daCons (a : DE) (r : DA) : DA := fun ρ h Q => a ρ h fun x h1 => r ρ h1 fun xs h2 => Q (x :: xs) h2
def dTup (as : DA) : DE := fun ρ h Q => as ρ h fun ds h1 => ds.length ≤ SZ ∧ Q (.tup ds) h1
@[irreducible] def newL (ds : List D) (h : AH) (Q : KD) : Prop := ∀ p, h p = none → Q (.ref p) (up h p (.lst ds))
@[irreducible] def newD (kvs : List (D × D)) (h : AH) (Q : KD) : Prop := ∀ p, h p = none → Q (.ref p) (up h p (.dic kvs))
theorem newL.go {ds : List D} {h : AH} {Q : KD} (q : newL ds h Q) : ∀ p, h p = none → Q (.ref p) (up h p (.lst ds)) := by unfold newL at q; exact q
theorem newD.go {ds : List (D × D)} {h : AH} {Q : KD} (q : newD ds h Q) : ∀ p, h p = none → Q (.ref p) (up h p (.dic ds)) := by unfold newD at q; exact q
def dLst (as : DA) : DE := fun ρ h Q => as ρ h fun ds h1 => ds.length ≤ SZ ∧ newL ds h1 Q
/-- two expressions and what is made of their values -/
def d2 (f : D → D → AH → KD → Prop) (a b : DE) : DE := fun ρ h Q => a ρ h fun x h1 => b ρ h1 fun y h2 => f x y h2 Q
def d1 (f : D → AH → KD → Prop) (a : DE) : DE := fun ρ h Q => a ρ h fun x h1 => f x h1 Q
def mulOk (i j : Int) : Prop := (-(2 ^ 64) < i ∧ i < 2 ^ 64) ∨ (-(2 ^ 64) < j ∧ j < 2 ^ 64) ∨ (i.natAbs < 2 ^ 8000 ∧ j.natAbs < 2 ^ 8000)
@[irreducible] def addR (a b : Addr) (h : AH) (Q : KD) : Prop := match h a, h b with
  | some (.lst xs), some (.lst ys) => xs.length + ys.length ≤ SZ ∧ newL (xs ++ ys) h Q
  | _, _ => False
def oAdd : D → D → AH → KD → Prop
  | .int i, .int j, h, Q => Q (.int (i + j)) h
  | .str x, .str y, h, Q => x.length + y.length ≤ SZ ∧ Q (.str (x ++ y)) h
  | .tup x, .tup y, h, Q => x.length + y.length ≤ SZ ∧ Q (.tup (x ++ y)) h
  | .ref a, .ref b, h, Q => addR a b h Q
  | _, _, _, _ => False
def oSub : D → D → AH → KD → Prop
  | .int i, .int j, h, Q => Q (.int (i - j)) h
  | _, _, _, _ => False
/-- a list times an int -/
@[irreducible] def mulR (a : Addr) (k : Int) (h : AH) (Q : KD) : Prop := match h a with
  | some (.lst xs) => (-(2 ^ 62) ≤ k ∧ k < 2 ^ 62) ∧ xs.length * k.toNat ≤ SZ ∧ newL (List.replicate k.toNat xs).flatten h Q
  | _ => False
def oMul : D → D → AH → KD → Prop
  | .int i, .int j, h, Q => mulOk i j ∧ Q (.int (i * j)) h
  | .ref a, .int k, h, Q => mulR a k h Q
  | _, _, _, _ => False
/-- a text times 0 or 1 -/
def oMulS : D → D → AH → KD → Prop
  | .str x, .int k, h, Q => (0 ≤ k ∧ k ≤ 1) ∧ Q (.str (if k = 1 then x else PySem.Str.empty)) h
  | _, _, _, _ => False
def oDiv : D → D → AH → KD → Prop
  | .int i, .int j, h, Q => 0 < j ∧ j < 2 ^ 64 ∧ Q (.int (i / j)) h
  | _, _, _, _ => False
def oMod : D → D → AH → KD → Prop
  | .int i, .int j, h, Q => 0 < j ∧ Q (.int (i % j)) h
  | _, _, _, _ => False
def oPow : D → D → AH → KD → Prop
  | .int i, .int j, h, Q => 0 ≤ j ∧ j ≤ 1000000 ∧ i.natAbs < 2 ^ 64 ∧ Q (.int (i ^ j.toNat)) h
  | _, _, _, _ => False
/-- dicts of plain values -/
def dOkE (h : AH) (kvs : List (D × D)) : Prop := ∀ p ∈ kvs, ∃ z, rei h 10 p.2 = some z
/-- one dict's entry is in the other -/
def hitE (h : AH) (kb : List (D × D)) (p : D × D) : Bool := match dget kb p.1 with
  | none => false
  | some v => match rei h 10 p.2, rei h 10 v with
    | some a, some b => deqv a b
    | _, _ => false
/-- == of two dicts -/
def dEqB (h : AH) (a b : Addr) (Q : Bool → Prop) : Prop := match h a, h b with
  | some (.dic ka), some (.dic kb) => dOkE h ka ∧ dOkE h kb ∧ Q (ka.length == kb.length && ka.all (hitE h kb))
  | _, _ => False
/-- == of the two, as the heap has them -/
def oEqB (x y : D) (h : AH) (Q : Bool → Prop) : Prop := match rei h 12 x, rei h 12 y with
  | some x', some y' => Q (deqv x' y')
  | _, _ => match x, y with
    | .ref a, .ref b => dEqB h a b Q
    | _, _ => False
structure oEq (x y : D) (h : AH) (Q : KD) : Prop where
  un : oEqB x y h fun b => Q (.bl b) h
structure oNe (x y : D) (h : AH) (Q : KD) : Prop where
  un : oEqB x y h fun b => Q (.bl (!b)) h
/-- a < b -/
def oLtB : D → D → (Bool → Prop) → Prop
  | .int i, .int j, Q => Q (decide (i < j))
  | .str x, .str y, Q => Q (decide (x.cps.toList < y.cps.toList))
  | .tup x, .tup y, Q => alkL x y = true ∧ datL 12 x = true ∧ datL 12 y = true ∧ Q (dltL x y)
  | _, _, _ => False
def oLt (x y : D) (h : AH) (Q : KD) : Prop := oLtB x y fun b => Q (.bl b) h
def oGt (x y : D) (h : AH) (Q : KD) : Prop := oLtB y x fun b => Q (.bl b) h
def oLe : D → D → AH → KD → Prop
  | .int i, .int j, h, Q => Q (.bl (decide (i ≤ j))) h
  | .tup x, .tup y, h, Q => (alkL x y = true ∧ datL 12 x = true ∧ datL 12 y = true) ∧ Q (.bl (!dltL y x)) h
  | _, _, _, _ => False
def oGe : D → D → AH → KD → Prop
  | .int i, .int j, h, Q => Q (.bl (decide (j ≤ i))) h
  | .tup x, .tup y, h, Q => (alkL x y = true ∧ datL 12 x = true ∧ datL 12 y = true) ∧ Q (.bl (!dltL x y)) h
  | _, _, _, _ => False
def tru (h : AH) : D → Option Bool
  | .non => some false
  | .bl b => some b
  | .int i => some (i != 0)
  | .str x => some (x.length != 0)
  | .tup ds => some (!ds.isEmpty)
  | .rl ds => some (!ds.isEmpty)
  | .ref a => match h a with
    | some (.lst ds) => some (!ds.isEmpty)
    | _ => none
  | _ => none
/-- an expression as a test -/
def tV (e : DE) : DT := fun ρ h Q => e ρ h fun d h1 => onB (tru h1 d) fun b => Q b h1
/-- a comparison as a test -/
def tQ (e : DE) : DT := fun ρ h Q => e ρ h fun d h1 => isBl d fun b => Q b h1
def tNot (t : DT) : DT := fun ρ h Q => t ρ h fun b h1 => Q (!b) h1
def tAnd (s t : DT) : DT := fun ρ h Q => s ρ h fun b h1 => onT b (t ρ h1 Q) (Q false h1)
def tOr (s t : DT) : DT := fun ρ h Q => s ρ h fun b h1 => onT b (Q true h1) (t ρ h1 Q)
/-- the place that an index names -/
def ixN (n : Nat) (i : Int) : Option Nat := if 0 ≤ i then (if i < n then some i.toNat else none) else if -(n : Int) ≤ i then some (i + n).toNat else none
def atI {α : Type} (xs : List α) (i : Int) : Option α := (ixN xs.length i).bind fun j => xs[j]?
structure oIx (x y : D) (h : AH) (Q : KD) : Prop where
  un : match dcOf h x with
    | some kvs => pl 8 y = true ∧ ∃ v, dget kvs y = some v ∧ Q v h
    | none => match y with
      | .int i => match x with
        | .str s => ∃ c, atI s.cps.toList i = some c ∧ Q (.str ⟨#[c]⟩) h
        | _ => match sqOf h x with
          | some ds => ∃ d, atI ds i = some d ∧ Q d h
          | none => False
      | _ => False
/-- x in y -/
def oInB (x y : D) (h : AH) (Q : Bool → Prop) : Prop := match dcOf h y with
  | some kvs => pl 8 x = true ∧ Q (decide (x ∈ kvs.map (·.1)))
  | none => match y with
    | .str s => match x with
      | .str t => ∃ c, t.cps.toList = [c] ∧ Q (decide (c ∈ s.cps.toList))
      | _ => False
    | _ => match rei h 12 x, (sqOf h y).bind (mapO (rei h 12)) with
      | some x', some ys => Q (ys.any fun y' => deqv y' x')
      | _, _ => False
structure oIn (x y : D) (h : AH) (Q : KD) : Prop where
  un : oInB x y h fun b => Q (.bl b) h
structure oNotIn (x y : D) (h : AH) (Q : KD) : Prop where
  un : oInB x y h fun b => Q (.bl (!b)) h
def dSeq (s t : DS) : DS := fun F => s { F with nx := t F }
def dNx : DS := fun F ρ h => F.nx ρ h
def dExp (e : DE) : DS := fun F ρ h => e ρ h fun _ h1 => F.nx ρ h1
def dRet (e : DE) : DS := fun F ρ h => e ρ h F.rt
def dIf (t : DT) (a b : DS) : DS := fun F ρ h => t ρ h fun c h1 => onT c (a F ρ h1) (b F ρ h1)
def dDead : DS := fun _ _ _ => False
/-- targets -/
abbrev DG := D → Lo → AH → (Lo → AH → Prop) → Prop
abbrev DGs := List D → Lo → AH → (Lo → AH → Prop) → Prop
def gVar (i : Nat) : DG := fun d ρ h Q => Q (ρ.set i (some d)) h
def gNil : DGs := fun ds ρ h Q => isNil ds (Q ρ h)
def gCons (g : DG) (r : DGs) : DGs := fun ds ρ h Q => isCons ds fun d ds => g d ρ h fun ρ1 h1 => r ds ρ1 h1 Q
def gTup (n : Nat) (gs : DGs) : DG := fun d ρ h Q => isTup d fun ds => ds.length = n ∧ gs ds ρ h Q
/-- xs[i] = v, d[k] = v -/
structure oPut (x y v : D) (h : AH) (Q : AH → Prop) : Prop where
  un : match x with
    | .ref a => match h a with
      | some (.lst ds) => match y with
        | .int i => ∃ k, ixN ds.length i = some k ∧ Q (up h a (.lst (ds.set k v)))
        | _ => False
      | some (.dic kvs) => pl 8 y = true ∧ kvs.length < SZ ∧ Q (up h a (.dic (dput kvs y v)))
      | _ => False
    | _ => False
def gSub (o i : DE) : DG := fun d ρ h Q => o ρ h fun x h1 => i ρ h1 fun y h2 => oPut x y d h2 fun h3 => Q ρ h3
def dAsg (e : DE) (g : DG) : DS := fun F ρ h => e ρ h fun d h1 => g d ρ h1 F.nx
abbrev dSet (i : Nat) (e : DE) : DS := dAsg e (gVar i)
/-- what a loop walks: the items, and what must be so of the heap meanwhile -/
structure Src where
  ds : List D
  ok : AH → Prop
abbrev DI := Lo → AH → (Src → AH → Prop) → Prop
def dFor (it : DI) (g : DG) (b : DS) : DS := fun F ρ h => it ρ h fun S h1 => ∃ I : Nat → Lo → AH → Prop, I 0 ρ h1 ∧ (∀ i ρ h, i ≤ S.ds.length → I i ρ h → S.ok h) ∧
  (∀ i ρ h d, I i ρ h → S.ds[i]? = some d → g d ρ h fun ρ1 h1 => b { nx := fun ρ' h' => Pt (I (i + 1) ρ') h', ct := fun ρ' h' => Pt (I (i + 1) ρ') h', bk := F.nx, rt := F.rt } ρ1 h1) ∧
  ∀ ρ h, I S.ds.length ρ h → F.nx ρ h
def wipe (ρ : Lo) : List Nat → Lo
  | [] => ρ
  | v :: vs => (wipe ρ vs).set v none
/-- [e for g in it if t] -/
def dComp (it : DI) (g : DG) (t : DT) (e : DE) (own : List Nat) : DE := fun ρ h Q => it ρ h fun S h1 => ∀ p, h1 p = none → ∃ I : Nat → List D → AH → Prop, I 0 [] (up h1 p (.lst [])) ∧
  (∀ i acc h, i ≤ S.ds.length → I i acc h → S.ok h ∧ h p = some (.lst acc)) ∧
  (∀ i acc h d, I i acc h → S.ds[i]? = some d → g d (wipe ρ own) h fun ρ1 h1 => t ρ1 h1 fun b h2 =>
    onT b (e ρ1 h2 fun y h3 => acc.length < SZ ∧ h3 p = some (.lst acc) ∧ Pt (I (i + 1) (acc ++ [y])) (up h3 p (.lst (acc ++ [y])))) (Pt (I (i + 1) acc) h2)) ∧
  ∀ acc h, I S.ds.length acc h → Q (.ref p) h
def tYes : DT := fun _ h Q => Q true h
def srcL (a : Addr) (ds : List D) : Src := ⟨ds, fun h => h a = some (.lst ds)⟩
def srcV (ds : List D) : Src := ⟨ds, fun _ => True⟩
/-- a dict's keys: it may get other values meanwhile -/
def srcK (a : Addr) (ks : List D) : Src := ⟨ks, fun h => ∃ kvs, h a = some (.dic kvs) ∧ kvs.map (·.1) = ks⟩
/-- what is walked of a list or tuple by value or at an address -/
@[irreducible] def walkD (h : AH) (x : D) (R : Src → AH → Prop) : Prop := match x with
  | .tup ds => R (srcV ds) h
  | .rl ds => R (srcV ds) h
  | .ref a => match h a with
    | some (.lst ds) => R (srcL a ds) h
    | some (.dic kvs) => R (srcK a (kvs.map (·.1))) h
    | _ => False
  | _ => False
/-- a dict's entries, as pairs: it stays as it is meanwhile -/
def srcI (a : Addr) (kvs : List (D × D)) : Src := ⟨kvs.map fun p => .tup [p.1, p.2], fun h => h a = some (.dic kvs)⟩
@[irreducible] def walkI (h : AH) (x : D) (R : Src → AH → Prop) : Prop := match x with
  | .ref a => match h a with
    | some (.dic kvs) => R (srcI a kvs) h
    | _ => False
  | _ => False
def iSeq (e : DE) : DI := fun ρ h R => e ρ h fun x h1 => walkD h1 x R
def rng (lo : Int) (n : Nat) : List D := (List.range n).map fun i => .int (lo + (i : Nat))
def iRng1 (as : DA) : DI := fun ρ h R => as ρ h fun xs h1 => match xs with
  | [.int j] => -(2 ^ 62) ≤ j ∧ j < 2 ^ 62 ∧ R (srcV (rng 0 j.toNat)) h1
  | _ => False
def enumD (i : Nat) : List D → List D
  | [] => []
  | d :: ds => .tup [.int i, d] :: enumD (i + 1) ds
/-- a list alone, by value or at an address -/
@[irreducible] def walkL (h : AH) (x : D) (R : Src → AH → Prop) : Prop := match x with
  | .rl ds => R (srcV ds) h
  | .ref a => match h a with
    | some (.lst ds) => R (srcL a ds) h
    | _ => False
  | _ => False
def iEnum (as : DA) : DI := fun ρ h R => as ρ h fun xs h1 => match xs with
  | [x] => walkL h1 x fun S h2 => R ⟨enumD 0 S.ds, S.ok⟩ h2
  | _ => False
def zipD : List D → List D → List D
  | x :: xs, y :: ys => .tup [x, y] :: zipD xs ys
  | _, _ => []
def start (n : Nat) (ds : List D) : Lo := ds.map some ++ List.replicate (n - ds.length) none
/-- a def of n names and k parameters: what is no longer asked of the heap is forgotten at its end -/
def fnOf (n k : Nat) (b : DS) : FS := fun ds h Q => ds.length = k ∧ b { nx := fun _ h' => Pt (Q .non) h', rt := fun d h' => Pt (Q d) h' } (start n ds) h
def dCall (f : FS) (as : DA) : DE := fun ρ h Q => as ρ h fun ds h1 => f ds h1 Q
/-- how far a slice goes -/
def sIx (n : Nat) (dflt : Nat) : Option Int → Nat
  | none => dflt
  | some i => if i < 0 then (i + (n : Int)).toNat else min i.toNat n
def cut {α : Type} (xs : List α) (lo hi : Option Int) : List α := (xs.drop (sIx xs.length 0 lo)).take (sIx xs.length xs.length hi - sIx xs.length 0 lo)
abbrev DO := Lo → AH → (Option Int → AH → Prop) → Prop
def doNone : DO := fun _ h Q => Q none h
def doSome (e : DE) : DO := fun ρ h Q => e ρ h fun d h1 => isInt d fun i => Q (some i) h1
@[irreducible] def oSl (x : D) (lo hi : Option Int) (h : AH) (Q : KD) : Prop := match x with
  | .str s => Q (.str ⟨(cut s.cps.toList lo hi).toArray⟩) h
  | .tup ds => Q (.tup (cut ds lo hi)) h
  | x => match lsOf h x with
    | some ds => newL (cut ds lo hi) h Q
    | none => False
def dSl (e : DE) (lo hi : DO) : DE := fun ρ h Q => e ρ h fun x h1 => lo ρ h1 fun l h2 => hi ρ h2 fun u h3 => oSl x l u h3 Q
/-- xs[::-1] -/
@[irreducible] def oRevSl (x : D) (h : AH) (Q : KD) : Prop := match lsOf h x with
  | some ds => newL ds.reverse h Q
  | none => False
/-- the places that a slice of step k picks -/
def stepIx (n : Nat) (k : Int) : List Nat := (List.range (if (0 : Int) < n then ((n : Int) - 0 + k - 1) / k else 0).toNat).map fun (j : Nat) => (0 + k * (j : Int)).toNat
def stepD (k : Int) (ds : List D) : List D := (stepIx ds.length k).filterMap fun i => ds[i]?
/-- lists put together, whatever holds them -/
structure oAddL (x y : D) (h : AH) (Q : KD) : Prop where
  un : match lsOf h x, lsOf h y with
    | some xs, some ys => xs.length + ys.length ≤ SZ ∧ newL (xs ++ ys) h Q
    | _, _ => False
/-- xs[::k], k positive -/
structure oStep (x y : D) (h : AH) (Q : KD) : Prop where
  un : match lsOf h x with
    | some ds => match y with
      | .int k => 0 < k ∧ newL (stepD k ds) h Q
      | _ => False
    | none => False
@[irreducible] def bLen : FS
  | [x], h, Q => match x with
    | .str s => Q (.int s.length) h
    | _ => match sqOf h x with
      | some ds => Q (.int ds.length) h
      | none => False
  | _, _, _ => False
def intsOf : List D → Option (List Int)
  | [] => some []
  | .int i :: r => (intsOf r).map (i :: ·)
  | _ => none
@[irreducible] def bSum : FS
  | [x], h, Q => match (lsOf h x).bind intsOf with
    | some ns => Q (.int ns.sum) h
    | none => False
  | _, _, _ => False
/-- list(x) -/
@[irreducible] def bList : FS
  | [x], h, Q => match sqOf h x with
    | some ds => newL ds h Q
    | none => match dcOf h x with
      | some kvs => newL (kvs.map (·.1)) h Q
      | none => False
  | _, _, _ => False
/-- what dict(pairs) holds -/
def pairsOf : List D → Option (List (D × D))
  | [] => some []
  | .tup [k, v] :: r => (pairsOf r).map ((k, v) :: ·)
  | _ => none
def dputs (kvs : List (D × D)) (ps : List (D × D)) : List (D × D) := ps.foldl (fun m p => dput m p.1 p.2) kvs
@[irreducible] def bDict : FS
  | [x], h, Q => match (lsOf h x).bind pairsOf with
    | some ps => (∀ p ∈ ps, pl 8 p.1 = true) ∧ newD (dputs [] ps) h Q
    | none => False
  | _, _, _ => False
/-- what may be sorted: all alike, tuples none of which is empty, or no tuples and no None -/
def sortable (ds : List D) : Prop := (∀ a ∈ ds, ∀ b ∈ ds, alk a b = true) ∧ (∀ a ∈ ds, dat 12 a = true) ∧ ((∀ d ∈ ds, ∃ x r, d = .tup (x :: r)) ∨ ∀ d ∈ ds, d ≠ .non ∧ ∀ xs, d ≠ .tup xs)
@[irreducible] def bSorted (rev : Bool) : FS
  | [x], h, Q => match lsOf h x with
    | some ds => sortable ds ∧ newL (ds.mergeSort (dle rev)) h Q
    | none => False
  | _, _, _ => False
/-- sorted(xs), or of a dict's keys -/
@[irreducible] def bSortD : FS
  | [x], h, Q => match lsOf h x with
    | some ds => sortable ds ∧ newL (ds.mergeSort (dle false)) h Q
    | none => match dcOf h x with
      | some kvs => sortable (kvs.map (·.1)) ∧ newL ((kvs.map (·.1)).mergeSort (dle false)) h Q
      | none => False
  | _, _, _ => False
/-- isinstance(x, T) of the built-in T -/
def isT (T : String) (h : AH) : D → Option Bool
  | .non => some (T == "NoneType")
  | .bl _ => some (T == "bool" || T == "int")
  | .int _ => some (T == "int")
  | .str _ => some (T == "str")
  | .tup _ => some (T == "tuple")
  | .rl _ => some (T == "list")
  | .rd _ _ => some (T == "dict")
  | .ref a => match h a with
    | some (.lst _) => some (T == "list")
    | some (.dic _) => some (T == "dict")
    | _ => none
@[irreducible] def oIsT (T : String) (x : D) (h : AH) (Q : KD) : Prop := match isT T h x with
  | some b => Q (.bl b) h
  | none => False
/-- o.m(as), o of the built-in type T -/
def dMeth (T : String) (m : D → List D → AH → KD → Prop) (o : DE) (as : DA) : DE := fun ρ h Q => o ρ h fun x h1 => isT T h1 x = some true ∧ as ρ h1 fun ds h2 => m x ds h2 Q
@[irreducible] def mAppend (x : D) (as : List D) (h : AH) (Q : KD) : Prop := match x, as with
  | .ref a, [d] => match h a with
    | some (.lst ds) => ds.length < SZ ∧ Q .non (up h a (.lst (ds ++ [d])))
    | _ => False
  | _, _ => False
/-- d.get(k), d.get(k, x) -/
@[irreducible] def mGet (x : D) (as : List D) (h : AH) (Q : KD) : Prop := match x with
  | .ref a => match h a with
    | some (.dic kvs) => match as with
      | [k] => pl 8 k = true ∧ Q ((dget kvs k).getD .non) h
      | [k, d] => pl 8 k = true ∧ Q ((dget kvs k).getD d) h
      | _ => False
    | _ => False
  | _ => False
@[irreducible] def mSetDef (x : D) (as : List D) (h : AH) (Q : KD) : Prop := match x, as with
  | .ref a, [k, d] => match h a with
    | some (.dic kvs) => pl 8 k = true ∧ kvs.length < SZ ∧ match dget kvs k with
      | some v => Q v h
      | none => Q d (up h a (.dic (dput kvs k d)))
    | _ => False
  | _, _ => False
@[irreducible] def mExtend (x : D) (as : List D) (h : AH) (Q : KD) : Prop := match x, as with
  | .ref a, [.ref b] => match h a, h b with
    | some (.lst xs), some (.lst ys) => xs.length + ys.length ≤ SZ ∧ Q .non (up h a (.lst (xs ++ ys)))
    | _, _ => False
  | _, _ => False
@[irreducible] def mPop (x : D) (as : List D) (h : AH) (Q : KD) : Prop := match x with
  | .ref a => match h a with
    | some (.lst xs) => match as with
      | [] => ∃ y, xs[xs.length - 1]? = some y ∧ Q y (up h a (.lst xs.dropLast))
      | [.int i] => -(2 ^ 63) ≤ i ∧ i < 2 ^ 63 ∧ ∃ k y, ixN xs.length i = some k ∧ xs[k]? = some y ∧ Q y (up h a (.lst (xs.eraseIdx k)))
      | _ => False
    | _ => False
  | _ => False
@[irreducible] def mInsert (x : D) (as : List D) (h : AH) (Q : KD) : Prop := match x, as with
  | .ref a, [.int i, d] => match h a with
    | some (.lst xs) => xs.length < SZ ∧ 0 ≤ i ∧ i < 2 ^ 63 ∧ Q .non (up h a (.lst (xs.take i.toNat ++ [d] ++ xs.drop i.toNat)))
    | _ => False
  | _, _ => False
@[irreducible] def mClear (x : D) (as : List D) (h : AH) (Q : KD) : Prop := match x, as with
  | .ref a, [] => match h a with
    | some (.lst _) => Q .non (up h a (.lst []))
    | _ => False
  | _, _ => False
def hid (h : AH) (a : Addr) : AH := fun b => if b = a then none else h b
@[irreducible] def mDClear (x : D) (as : List D) (h : AH) (Q : KD) : Prop := match x, as with
  | .ref a, [] => match h a with
    | some (.dic _) => Q .non (hid h a)
    | _ => False
  | _, _ => False
def strsOf : List D → Option (List Str)
  | [] => some []
  | .str x :: r => (strsOf r).map (x :: ·)
  | _ => none
@[irreducible] def mJoin (x : D) (as : List D) (h : AH) (Q : KD) : Prop := match x, as with
  | .str a, [y] => match (sqOf h y).bind strsOf with
    | some ys => (ys.map (·.length)).sum + ys.length * a.length ≤ SZ ∧ Q (.str (PySem.Str.join a ys)) h
    | none => False
  | _, _ => False
/-- the first least one -/
def dmin (d : D) (ds : List D) : D := ds.foldl (fun a y => if dlt y a then y else a) d
@[irreducible] def bMin : FS
  | [.int i, .int j], h, Q => Q (.int (if j < i then j else i)) h
  | [x], h, Q => match lsOf h x with
    | some (d :: ds) => ((∀ a ∈ d :: ds, ∀ b ∈ d :: ds, alk a b = true) ∧ ∀ a ∈ d :: ds, dat 12 a = true ∧ a ≠ .non) ∧ Q (dmin d ds) h
    | _ => False
  | _, _, _ => False
/-- the first greatest one -/
def dmax (d : D) (ds : List D) : D := ds.foldl (fun a y => if dlt a y then y else a) d
@[irreducible] def bMax : FS
  | [.int i, .int j], h, Q => Q (.int (if j > i then j else i)) h
  | [x], h, Q => match lsOf h x with
    | some (d :: ds) => ((∀ a ∈ d :: ds, ∀ b ∈ d :: ds, alk a b = true) ∧ ∀ a ∈ d :: ds, dat 12 a = true ∧ a ≠ .non) ∧ Q (dmax d ds) h
    | _ => False
  | _, _, _ => False
def bInt : FS
  | [.int i], h, Q => Q (.int i) h
  | [.bl b], h, Q => Q (.int (if b then 1 else 0)) h
  | _, _, _ => False
@[irreducible] def bTuple : FS
  | [x], h, Q => match sqOf h x with
    | some ds => Q (.tup ds) h
    | none => False
  | _, _, _ => False
@[irreducible] def bStr : FS
  | [.int i], h, Q => i.natAbs.log2 < 1920 ∧ Q (.str (PySem.Str.ofString (toString i))) h
  | [.str x], h, Q => Q (.str x) h
  | _, _, _ => False
/-- a field of an f-string -/
@[irreducible] def oFmt (x : D) (h : AH) (Q : KD) : Prop := match x with
  | .str y => Q (.str y) h
  | .int i => i.natAbs.log2 < 1920 ∧ Q (.str (PySem.Str.ofString (toString i))) h
  | _ => False
@[irreducible] def oCat (acc : Str) (x : D) (h : AH) (Q : Str → AH → Prop) : Prop := match x with
  | .str y => (acc ++ y).length ≤ SZ ∧ Q (acc ++ y) h
  | _ => False
def dDic0 : DE := fun _ h Q => newD [] h Q
def kAt (i : Nat) : D → D
  | .tup xs => xs[i]?.getD .non
  | _ => .non
/-- sorted(xs, key=lambda x: x[i]), xs tuples -/
@[irreducible] def oSortK (i : Nat) (x : D) (h : AH) (Q : KD) : Prop := match lsOf h x with
  | some ds => (∀ d ∈ ds, ∃ xs y, d = .tup xs ∧ xs[i]? = some y) ∧ sortable (ds.map (kAt i)) ∧ newL (ds.mergeSort fun a b => dle false (kAt i a) (kAt i b)) h Q
  | none => False
/-- xs.index(v), v in xs -/
@[irreducible] def mIndex (x : D) (as : List D) (h : AH) (Q : KD) : Prop := match as with
  | [v] => match lsOf h x with
    | some ds => (∀ d ∈ ds, pl 8 d = true) ∧ pl 8 v = true ∧ ∃ j : Nat, ds[j]? = some v ∧ (∀ i, i < j → ds[i]? ≠ some v) ∧ Q (.int j) h
    | none => False
  | _ => False
/-- xs.count(v) -/
@[irreducible] def mCount (x : D) (as : List D) (h : AH) (Q : KD) : Prop := match as with
  | [v] => match (lsOf h x).bind (mapO (rei h 12)), rei h 12 v with
    | some ys, some v' => Q (.int ((ys.countP fun y => deqv y v' : Nat) : Int)) h
    | _, _ => False
  | _ => False
structure fillD (d : D) (ps : List (D × D)) (h : AH) (Q : KD) : Prop where
  un : match d with
    | .ref p => h p = some (.dic []) ∧ ps.length ≤ 15 ∧ (∀ q ∈ ps, pl 8 q.1 = true) ∧ Q (.ref p) (up h p (.dic (dputs [] ps)))
    | _ => False
/-- tuples whose first places are rising tuples of ints, whatever stands behind -/
def kIn : D → List Int
  | .tup (.tup xs :: _) => (intsOf xs).getD []
  | _ => []
structure incK (ds : List D) : Prop where
  el : ∀ d ∈ ds, ∃ (ns : List Int) (r : List D), d = .tup (.tup (ns.map .int) :: r)
  up : ds.Pairwise fun a b => kIn a < kIn b
/-- sorted(xs) of such -/
@[irreducible] def bSortI : FS
  | [x], h, Q => match lsOf h x with
    | some ds => incK ds ∧ newL ds h Q
    | none => False
  | _, _, _ => False
/-- i // j, j great -/
def oDivW : D → D → AH → KD → Prop
  | .int i, .int j, h, Q => (0 < j ∧ j < 2 ^ 200) ∧ Q (.int (i / j)) h
  | _, _, _, _ => False
/-- a text's signs -/
def chrs (z : Str) : List D := z.cps.toList.map fun c => .str ⟨#[c]⟩
def iTxt (e : DE) : DI := fun ρ h R => e ρ h fun x h1 => match x with
  | .str z => R (srcV (chrs z)) h1
  | _ => False
def blsOf : List D → Option (List Bool)
  | [] => some []
  | .bl b :: r => (blsOf r).map (b :: ·)
  | _ => none
@[irreducible] def bAll : FS
  | [x], h, Q => match (lsOf h x).bind blsOf with
    | some bs => Q (.bl (bs.all id)) h
    | none => False
  | _, _, _ => False
/-- zip of two tuples -/
def iZipT (as : DA) : DI := fun ρ h R => as ρ h fun xs h1 => match xs with
  | [.tup a, .tup b] => R (srcV (zipD a b)) h1
  | _ => False
end G
end
section
set_option linter.all false
set_option autoImplicit false
namespace G
open PySem (Str)
/-- a text, k times -/
def strN (x : Str) (k : Int) : Str := if k < 1 then PySem.Str.empty else if (k == 1 || x.length == 0) = true then x else ⟨(List.replicate k.toNat x.cps).foldl (· ++ ·) #[]⟩
def oMulN : D → D → AH → KD → Prop
  | .str x, .int k, h, Q => (-1000 ≤ k ∧ k ≤ 1000 ∧ x.length ≤ 1000) ∧ Q (.str (strN x k)) h
  | _, _, _, _ => False
theorem mulN_s {h : AH} {x : Str} {k : Int} {Q : KD} (q : (-1000 ≤ k ∧ k ≤ 1000 ∧ x.length ≤ 1000) ∧ Q (.str (strN x k)) h) : oMulN (.str x) (.int k) h Q := by unfold oMulN; exact q
end G
end
section
set_option linter.all false
set_option autoImplicit false
namespace G
open PySem (Str)
/-- an instance of the class at C -/
def insOf (h : AH) (d : D) (C : Addr) (R : Addr → List (Str × D) → Prop) : Prop := match d with
  | .ref p => match h p with
    | some (.ins C' fs) => C' = C ∧ R p fs
    | _ => False
  | _ => False
def putD (f : Str) (v : D) : List (Str × D) → List (Str × D)
  | [] => [(f, v)]
  | (g, x) :: r => if g = f then (g, v) :: r else (g, x) :: putD f v r
structure oFld (C : Addr) (f : Str) (d : D) (h : AH) (Q : KD) : Prop where
  un : insOf h d C fun _ fs => ∃ v, fs.lookup f = some v ∧ Q v h
structure oMtc (C : Addr) (m : Str) (d : D) (h : AH) (R : Addr → Prop) : Prop where
  un : insOf h d C fun p fs => fs.lookup m = none ∧ R p
structure oSetF (C : Addr) (f : Str) (d v : D) (h : AH) (Q : AH → Prop) : Prop where
  un : insOf h d C fun p fs => fs.length < 999 ∧ Q (up h p (.ins C (putD f v fs)))
structure oMake (C : Addr) (f : FS) (ds : List D) (h : AH) (Q : KD) : Prop where
  un : ∀ x, h x = none → f (.ref x :: ds) (up h x (.ins C [])) fun d h2 => d = .non ∧ Q (.ref x) h2
/-- a.f -/
def dFld (C : Addr) (f : Str) (a : DE) : DE := d1 (oFld C f) a
/-- a.m(..) -/
def dMtc (C : Addr) (m : Str) (f : FS) (a : DE) (as : DA) : DE := fun ρ h Q => a ρ h fun d h1 => oMtc C m d h1 fun p => as ρ h1 fun ds h2 => f (.ref p :: ds) h2 Q
/-- C(..) -/
def dMake (C : Addr) (f : FS) (as : DA) : DE := fun ρ h Q => as ρ h fun ds h1 => oMake C f ds h1 Q
/-- a.f = v -/
def dSetF (C : Addr) (f : Str) (a v : DE) : DS := fun F ρ h => v ρ h fun y h1 => a ρ h1 fun d h2 => oSetF C f d y h2 fun h3 => F.nx ρ h3
/-- an item of ints summed -/
def sumAt (i : Nat) : D → Int
  | .tup xs => match xs[i]? with
    | some (.tup ns) => match intsOf ns with
      | some l => l.sum
      | none => 0
    | _ => 0
  | _ => 0
/-- sorted(d.values(), key=lambda x: sum(x[i])) -/
structure oSortVS (i : Nat) (d : D) (h : AH) (Q : KD) : Prop where
  un : match dcOf h d with
    | some kvs => (∀ v ∈ kvs.map (·.2), ∃ xs ns, v = .tup xs ∧ xs[i]? = some (.tup (List.map D.int ns))) ∧ newL ((kvs.map (·.2)).mergeSort fun a b => decide (sumAt i a ≤ sumAt i b)) h Q
    | none => False
def dAt (kv : List (D × D)) (k : D) : D := (dget kv k).getD .non
/-- sorted(d, key=lambda x: s.f[x]) -/
structure oSortKF (C : Addr) (f : Str) (d s : D) (h : AH) (Q : KD) : Prop where
  un : match dcOf h d with
    | some kvs => insOf h s C fun p fs => ∃ r kv, fs.lookup f = some (.ref r) ∧ h r = some (.dic kv) ∧ (∀ k ∈ kvs.map (·.1), ∃ v, dget kv k = some v) ∧ sortable ((kvs.map (·.1)).map (dAt kv)) ∧
        newL ((kvs.map (·.1)).mergeSort fun a b => dle false (dAt kv a) (dAt kv b)) h Q
    | none => False
end G
end
section
set_option Elab.async false
set_option linter.all false
namespace G
open PySem
/-- zip of a list and a tuple -/
def iZipM (as : DA) : DI := fun ρ h R => as ρ h fun xs h1 => match xs with
  | [x, .tup b] => walkL h1 x fun S h3 => R ⟨zipD S.ds b, S.ok⟩ h3
  | _ => False
/-- dict(zip(a list, a tuple)) -/
structure oDicZ (xs : List D) (h : AH) (Q : KD) : Prop where
  un : match xs with
    | [x, .tup b] => match lsOf h x with
      | some ds => (∀ k ∈ ds, pl 8 k = true) ∧ newD (dputs [] (ds.zip b)) h Q
      | none => False
    | _ => False
/-- list(d.values()) -/
structure oListV (d : D) (h : AH) (Q : KD) : Prop where
  un : match dcOf h d with
    | some kvs => newL (kvs.map (·.2)) h Q
    | none => False
def intTups (l : List (List Int)) : List D := l.map fun k => .tup (k.map .int)
/-- len(set(a list of tuples of ints, no two alike)) -/
structure oLenSet (x : D) (h : AH) (Q : KD) : Prop where
  un : match lsOf h x with
    | some ds => ∃ l : List (List Int), ds = intTups l ∧ l.Nodup ∧ l.length < 64 ∧ Q (.int l.length) h
    | none => False
end G
end
section
set_option Elab.async false
set_option linter.all false
namespace G
open PySem
/-- a truth is this truth -/
structure oIsB (b : Bool) (x : D) (h : AH) (Q : KD) : Prop where
  un : match x with
    | .bl a => Q (.bl (a == b)) h
    | _ => False
structure oNotB (b : Bool) (x : D) (h : AH) (Q : KD) : Prop where
  un : match x with
    | .bl a => Q (.bl (!(a == b))) h
    | _ => False
structure mReverse (x : D) (as : List D) (h : AH) (Q : KD) : Prop where
  un : match x, as with
    | .ref a, [] => match h a with
      | some (.lst ds) => Q .non (up h a (.lst ds.reverse))
      | _ => False
    | _, _ => False
end G
end
section
set_option Elab.async false
set_option linter.all false
namespace G
open PySem
/-- a tuple, or a list -/
@[irreducible] def walkT (h : AH) (x : D) (R : Src → AH → Prop) : Prop := match x with
  | .tup ds => R (srcV ds) h
  | x => walkL h x R
theorem walkT_tup {h : AH} {ds : List D} {R : Src → AH → Prop} (q : R (srcV ds) h) : walkT h (.tup ds) R := by unfold walkT; exact q
theorem walkT_lst {h : AH} {a : Addr} {ds : List D} {R : Src → AH → Prop} (e : h a = some (.lst ds)) (q : R (srcL a ds) h) : walkT h (.ref a) R := by
  unfold walkT walkL
  dsimp only
  rw [e]
  exact q
end G
end
section
set_option Elab.async false
set_option linter.all false
namespace G
open PySem
end G
end
section
set_option Elab.async false
set_option linter.all false
namespace G
open PySem
end G
end
section
set_option Elab.async false
set_option linter.all false
namespace G
open PySem
end G
end
section
set_option Elab.async false
set_option linter.all false
namespace G
open PySem
end G
end
section
set_option Elab.async false
set_option linter.all false
namespace G
open PySem
structure oDicZB (xs : List D) (h : AH) (Q : KD) : Prop where
  un : match xs with
    | [x, y] => match lsOf h x with
      | some ds => match sqOf h y with
        | some es => (∀ k ∈ ds, pl 8 k = true) ∧ newD (dputs [] (ds.zip es)) h Q
        | none => False
      | none => False
    | _ => False
end G
end
section
set_option Elab.async false
set_option linter.all false
namespace G
open PySem
end G
end
section
set_option Elab.async false
set_option linter.all false
namespace G
open PySem
@[irreducible] def bDictC : FS
  | [x], h, Q => match dcOf h x with
    | some kvs => newD kvs h Q
    | none => False
  | _, _, _ => False
end G
end
section
set_option Elab.async false
set_option linter.all false
namespace G
open PySem
end G
end
section
set_option Elab.async false
set_option linter.all false
namespace G
open PySem
end G
end
section
set_option Elab.async false
set_option linter.all false
namespace G
open PySem
end G
end
section
set_option Elab.async false
set_option linter.all false
namespace G
open PySem
/-- how many unlike ones there are -/
def boolN (l : List Bool) : Int := (if true ∈ l then 1 else 0) + if false ∈ l then 1 else 0
structure oLenSetB (x : D) (h : AH) (Q : KD) : Prop where
  un : match lsOf h x with
    | some ds => ∃ l : List Bool, ds = l.map .bl ∧ l.length < 64 ∧ Q (.int (boolN l)) h
    | none => False
end G
end
section
set_option Elab.async false
set_option linter.all false
namespace G
open PySem
/-- how often b stands in a -/
def cntT (a b : Str) : Nat := (PySem.Builtin.Str.occurrences a b 0 a.length (a.length + 1)).length
@[irreducible] def mSCount (x : D) (as : List D) (h : AH) (Q : KD) : Prop := match x, as with
  | .str a, [.str b] => Q (.int (cntT a b)) h
  | _, _ => False
end G
end
section
set_option Elab.async false
set_option linter.all false
namespace G
open PySem
/-- ds by the keys ks -/
def sortBy (ds ks : List D) : List D := ((ds.zip ks).mergeSort fun a b => dle false a.2 b.2).map (·.1)
structure SortL (ds : List D) (ρ : Lo) (caps : List Nat) (fb : DE) (h : AH) (Q : KD) : Prop where
  un : ∃ ks : List D, ks.length = ds.length ∧ sortable ks ∧ (∀ (i : Nat) (d k : D), ds[i]? = some d → ks[i]? = some k → fb (some d :: caps.map fun j => (ρ[j]?).join) h fun y h2 => y = k ∧ Sb h h2) ∧ newL (sortBy ds ks) h Q
/-- sorted(a list, key=lambda x: ..) -/
def dSortL (f : DE) (caps : List Nat) (fb : DE) : DE := fun ρ h Q => f ρ h fun x h1 => match lsOf h1 x with
  | some ds => SortL ds ρ caps fb h1 Q
  | none => False
end G
end
section
set_option Elab.async false
set_option linter.all false
set_option maxRecDepth 100000
set_option maxHeartbeats 4000000
namespace GR
open PySem
open Sem (wp)
section
variable {prog : Program} {w : World} {A : Around} {E : Value → Shared → Prop} {s : Shared}
/-- the entries es have the keys ks -/
structure Ks (w : World) (h : Heap) (ks : List NestedKey) (es : Array DictEntry) : Prop where
  sz : es.size = ks.length
  at_ : ∀ (j : Nat) (k : NestedKey), ks[j]? = some k → ∃ e : DictEntry, es[j]? = some e ∧ e.hash = k.hash w ∧ NestedIs h k e.key ∧ k.depth ≤ 8
  nd : ks.Nodup
theorem Ks.mem {h : Heap} {ks : List NestedKey} {es : Array DictEntry} (x : Ks w h ks es) {j : Nat} {e : DictEntry} (he : es[j]? = some e) : ∃ k, ks[j]? = some k ∧ e.hash = k.hash w ∧ NestedIs h k e.key ∧ k.depth ≤ 8 := by
  have hj : j < ks.length := by rw [← x.sz]; exact (Array.getElem?_eq_some_iff.mp he).1
  obtain ⟨e', h1, h2⟩ := x.at_ j _ (List.getElem?_eq_getElem hj)
  rw [he] at h1; cases h1
  exact ⟨_, List.getElem?_eq_getElem hj, h2⟩
theorem Ks.uniq {h : Heap} {ks : List NestedKey} {es : Array DictEntry} (x : Ks w h ks es) {i j : Nat} {k : NestedKey} (h1 : ks[i]? = some k) (h2 : ks[j]? = some k) : i = j :=
  (List.getElem?_inj (List.getElem?_eq_some_iff.mp h1).1 x.nd).mp (h1.trans h2.symm)
theorem eqBool_key {x y : NestedKey} {u v : Value} {Q : Bool → Shared → Prop} (hx : NestedIs s.heap x u) (hy : NestedIs s.heap y v) (hu : A.units + 8 < cLine) (d : x.depth ≤ 8) (h : Q (decide (x = y)) s) : wpAny (model prog w) A (eqBool u v) Q E s :=
  eqAt_key x y A s u v hx hy (by omega) _ _ _ _ (by rw [← NestedKey.decide_eq]; exact h)
theorem tells_quiet {k : NestedKey} {u : Value} {stored : List Value} {Q : Bool → Shared → Prop} (hkey : NestedIs s.heap k u) (hd : k.depth ≤ 8)
    (hst : ∀ v ∈ stored, ∃ k', NestedIs s.heap k' v ∧ k'.depth ≤ 8) (h : Q false s) : wpAny (model prog w) A (tableMayTell u stored) Q E s := by
  unfold tableMayTell
  split
  · exact wpAny_pure h
  · refine wpAny_bind (quiet_key k u 8 s hkey hd A E _ ?_)
    simp only [Bool.not_true, Bool.false_eq_true, if_false]
    refine wpAny_bind ?_
    refine wpAny_forIn_list _ (fun rest r s' => s' = s ∧ r = (none, ()) ∧ ∀ v ∈ rest, ∃ k', NestedIs s.heap k' v ∧ k'.depth ≤ 8) _ ?_ ?_ _ _ ⟨rfl, rfl, hst⟩
    · rintro x rest r s' ⟨rfl, rfl, hr⟩
      obtain ⟨k', hb, hd'⟩ := hr x List.mem_cons_self
      refine wpAny_bind (quiet_key k' x 8 s' hb hd' A E _ ?_)
      simp only [Bool.not_true, Bool.false_eq_true, if_false]
      exact wpAny_pure ⟨rfl, rfl, fun v hv => hr v (List.mem_cons_of_mem _ hv)⟩
    · rintro r s' ⟨rfl, rfl, _⟩
      exact wpAny_pure h
theorem find_any {d : Addr} {o : Obj} {es ep} {ks : List NestedKey} {k : NestedKey} {u : Value} {Q : Option Nat → Shared → Prop} (hu : A.units + 8 < cLine) (hkey : NestedIs s.heap k u) (hdp : k.depth ≤ 8)
    (ho : s.heap.get? d = some o) (hd : o.data = .dict es ep) (hK : Ks w s.heap ks es)
    (hnone : k ∉ ks → Q none s) (hsome : ∀ j, ks[j]? = some k → Q (some j) s) :
    wpAny (model prog w) A (dictFind d u (k.hash w)) Q E s := by
  have haskey : ∀ (j : Nat), ks[j]? = some k → ((es[j]?.map (·.hash)) == some (k.hash w)) = true := by
    intro j hj
    obtain ⟨e, h1, h2, _⟩ := hK.at_ j k hj
    rw [h1]; simp [h2]
  have hst : ∀ v ∈ (placesWithHash es.size (fun i => es[i]?.map (·.hash)) (k.hash w)).filterMap (fun i => es[i]?.map (·.key)), ∃ k', NestedIs s.heap k' v ∧ k'.depth ≤ 8 := by
    intro v hv
    obtain ⟨i, _, hi⟩ := List.mem_filterMap.mp hv
    cases hei : es[i]? with
    | none => rw [hei] at hi; cases hi
    | some e =>
      rw [hei] at hi
      obtain rfl : e.key = v := by simpa using hi
      obtain ⟨k', _, _, h3, h4⟩ := hK.mem hei
      exact ⟨k', h3, h4⟩
  have notin : ∀ (P : Nat → Prop), (∀ j, ks[j]? ≠ some k) → k ∉ ks := fun _ hno hm => by
    obtain ⟨j, hj⟩ := List.mem_iff_getElem?.mp hm
    exact hno j hj
  have hplain : wpAny (model prog w) A (dictWalkPlain d u (k.hash w) es (placesWithHash es.size (fun i => es[i]?.map (·.hash)) (k.hash w))) Q E s := by
    refine wpAny_bind ?_
    refine wpAny_forIn_list _
      (fun rest b s' => s' = s ∧ b = (none, ()) ∧ ∃ i, rest = (List.range' i (es.size - i)).filter (fun i => (es[i]?.map (·.hash)) == some (k.hash w)) ∧ i ≤ es.size ∧
        ∀ j, j < i → ks[j]? ≠ some k) _ ?_ ?_ _ _
      ⟨rfl, rfl, 0, by rw [placesWithHash, List.range_eq_range', Nat.sub_zero], Nat.zero_le _, fun _ h => absurd h (Nat.not_lt_zero _)⟩
    · rintro x rest b s' ⟨rfl, rfl, i, hr, hi, hno⟩
      obtain ⟨hix, hxn, hpx, hskip, hrest⟩ := filter_range'_cons _ _ _ _ _ hr.symm
      have hlt : x < es.size := by omega
      obtain ⟨k', hk1, hk2, hk3, hk4⟩ := hK.mem (Array.getElem?_eq_getElem hlt)
      have hnext : ¬ k' = k → ∃ i, rest = (List.range' i (es.size - i)).filter (fun i => (es[i]?.map (·.hash)) == some (k.hash w)) ∧ i ≤ es.size ∧ ∀ j, j < i → ks[j]? ≠ some k := fun hne =>
        ⟨x + 1, by rw [hrest]; congr 2; omega, hlt, fun j hji hj => by
          rcases Nat.lt_or_ge j i with h | h
          · exact hno j h hj
          · rcases Nat.lt_or_ge j x with h' | h'
            · have := hskip j h h'
              rw [haskey j hj] at this
              exact absurd this (by decide)
            · have : j = x := by omega
              subst this
              rw [hk1] at hj; cases hj; exact hne rfl⟩
      simp only [Array.getElem?_eq_getElem hlt]
      by_cases hh : (es[x].hash == k.hash w) = true
      · rw [if_pos hh]
        refine wpAny_bind (wpAny_dictEpoch ho hd (wpAny_bind (eqBool_key hk3 hkey hu hk4 (wpAny_bind (wpAny_dictEpoch ho hd ?_)))))
        show wpAny _ _ (if (ep != ep) = true then _ else _) _ E _
        rw [if_neg (by simp)]
        by_cases hkk : k' = k
        · rw [decide_eq_true hkk]
          subst hkk
          exact wpAny_bind (wpAny_rule (wpAny_pure (wpAny_pure (hsome x hk1))))
        · rw [decide_eq_false hkk]
          exact wpAny_bind (wpAny_rule (wpAny_pure ⟨rfl, rfl, hnext hkk⟩))
      · rw [if_neg hh]
        refine wpAny_pure ⟨rfl, rfl, hnext ?_⟩
        intro hkk
        rw [hk2, hkk] at hh; simp at hh
    · rintro b s' ⟨rfl, rfl, i, hr, hi, hno⟩
      refine wpAny_pure (hnone (notin (fun _ => True) fun j hj => ?_))
      rcases Nat.lt_or_ge j i with h | h
      · exact hno j h hj
      · have hjl : j < es.size := by rw [hK.sz]; exact (List.getElem?_eq_some_iff.mp hj).1
        have := List.filter_eq_nil_iff.mp hr.symm j (List.mem_range'_1.mpr ⟨h, by omega⟩)
        exact this (haskey j hj)
  -- the general road
  have hany : ∀ a, u = .ref a → ¬ (es.any fun e => e.key == u && e.hash != k.hash w) = true := by
    intro a hua
    rw [← Array.any_toList, List.any_eq_true]
    rintro ⟨e, hin, hc⟩
    obtain ⟨j, hj⟩ := Array.mem_iff_getElem?.mp (Array.mem_toList_iff.mp hin)
    obtain ⟨k', h1, h2, h3, _⟩ := hK.mem hj
    simp only [Bool.and_eq_true, beq_iff_eq, bne_iff_ne, ne_eq] at hc
    obtain ⟨hxa, hne⟩ := hc
    rw [hxa] at h3
    exact hne (by rw [h2, NestedIs.inj _ _ _ h3 hkey])
  unfold dictFind
  try with_reducible refine wpAny_holding ?_
  refine wpAny_bind (wpAny_dictEntries ho hd ?_)
  dsimp only
  by_cases hall : ((u :: (placesWithHash es.size (fun i => es[i]?.map (·.hash)) (k.hash w)).filterMap (fun i => es[i]?.map (·.key))).all carriedByValue) = true
  · rw [if_pos hall]
    split
    next x t =>
      split
      next hstrs =>
        have kx : k = .text x := by cases hkey; rfl
        unfold foundByValue
        cases hf : es.findIdx? (fun e => e.key.isStr x) with
        | none =>
          refine wpAny_pure (hnone fun hm => ?_)
          obtain ⟨j, hj⟩ := List.mem_iff_getElem?.mp hm
          obtain ⟨e, h1, _, h3, _⟩ := hK.at_ j k hj
          rw [kx] at h3
          have := Array.findIdx?_eq_none_iff.mp hf e (Array.mem_of_getElem? h1)
          cases he : e.key with
          | str y u =>
            rw [he] at h3 this
            cases h3
            simp [Value.isStr] at this
          | _ => rw [he] at h3; cases h3
        | some i =>
          obtain ⟨hlt, hi, _⟩ := Array.findIdx?_eq_some_iff_getElem.mp hf
          obtain ⟨k', h1, h2, h3, h4⟩ := hK.mem (Array.getElem?_eq_getElem hlt)
          have hkk : k' = k := by
            rw [kx]
            cases he : es[i].key with
            | str y u =>
              rw [he] at h3 hi
              cases h3
              simp [Value.isStr] at hi
              rw [hi]
            | _ => rw [he] at hi; simp [Value.isStr] at hi
          simp only [Array.getElem?_eq_getElem hlt]
          refine wpAny_bind (wpAny_dictEpoch ho hd (wpAny_bind (eqBool_key h3 hkey hu h4 (wpAny_bind (wpAny_dictEpoch ho hd ?_)))))
          show wpAny _ _ (if (ep != ep) = true then _ else _) _ E _
          rw [if_neg (by simp), decide_eq_true hkk]
          exact wpAny_bind (wpAny_rule (wpAny_pure (hsome i (by rw [h1, hkk]))))
      next => exact hplain
    next => exact hplain
  · rw [if_neg hall]
    have strs_no : ∀ x t, u = .str x t → ¬ (es.all fun e => isExactStrKey e.key) = true := by
      intro x t hu' hstrs
      apply hall
      rw [List.all_cons, Bool.and_eq_true]
      refine ⟨by rw [hu']; rfl, List.all_eq_true.mpr fun v hv => ?_⟩
      obtain ⟨i, _, hi⟩ := List.mem_filterMap.mp hv
      cases hei : es[i]? with
      | none => rw [hei] at hi; cases hi
      | some e =>
        rw [hei] at hi
        obtain rfl : e.key = v := by simpa using hi
        have := Array.all_eq_true_iff_forall_mem.mp hstrs e (Array.mem_of_getElem? hei)
        cases he : e.key <;> rw [he] at this <;> simp [isExactStrKey] at this <;> rfl
    have ho2 := Bool.eq_false_or_eq_true (((placesWithHash es.size (fun i => es[i]?.map (·.hash)) (k.hash w)).filterMap (fun i => es[i]?.map (·.key))) == [u])
    rcases (show (∃ x t, u = .str x t) ∨ (∃ a, u = .ref a) ∨ (∃ b, u = .bool b) ∨ (∃ i t, u = .int i t) ∨ u = .none by
      cases hkey <;> simp) with ⟨x, t, hu'⟩ | ⟨a, hu'⟩ | ⟨b, hu'⟩ | ⟨i, t, hu'⟩ | hu'
    all_goals subst hu'
    all_goals dsimp only
    all_goals first | rw [if_neg (strs_no _ _ rfl)] | rw [if_neg (hany _ rfl)] | skip
    all_goals rcases ho2 with hone | hone
    all_goals first | rw [if_pos hone] | rw [if_neg (by rw [hone]; exact Bool.false_ne_true)]
    all_goals first | refine wpAny_bind (wpAny_pure ?_) | refine wpAny_bind (tells_quiet hkey hdp hst ?_)
    all_goals rw [if_neg (by simp)]
    all_goals refine wpAny_bind ?_
    all_goals refine wpAny_forIn_list _ (fun rest b s' => s' = s ∧ ∃ i hit, b = (none, hit) ∧ rest = (List.range' i (es.size - i)).filter (fun i => (es[i]?.map (·.hash)) == some (k.hash w)) ∧ i ≤ es.size ∧
        ((hit = none ∧ ∀ j, j < i → ks[j]? ≠ some k) ∨ ∃ j, hit = some j ∧ j < i ∧ ks[j]? = some k)) _ ?_ ?_ _ _ ⟨rfl, 0, none, rfl, by rw [placesWithHash, List.range_eq_range', Nat.sub_zero], Nat.zero_le _, .inl ⟨rfl, fun _ h => absurd h (Nat.not_lt_zero _)⟩⟩
    all_goals first
      | (rintro b s' ⟨rfl, i, hit, rfl, hr, hi, hH⟩
         have hallz : ∀ j, i ≤ j → j < es.size → ((es[j]?.map (·.hash)) == some (k.hash w)) = false := by
           intro j h1 h2
           have := List.filter_eq_nil_iff.mp hr.symm j (List.mem_range'_1.mpr ⟨h1, by omega⟩)
           simpa using this
         rcases hH with ⟨rfl, hno⟩ | ⟨j, rfl, _, hj⟩
         · refine wpAny_pure (hnone (notin (fun _ => True) fun j hj => ?_))
           rcases Nat.lt_or_ge j i with h | h
           · exact hno j h hj
           · have hjl : j < es.size := by rw [hK.sz]; exact (List.getElem?_eq_some_iff.mp hj).1
             have := hallz j h hjl
             rw [haskey j hj] at this
             exact absurd this (by decide)
         · exact wpAny_pure (hsome j hj))
      | (rintro x rest b s' ⟨rfl, i, hit, rfl, hr, hi, hH⟩
         obtain ⟨hix, hxn, hpx, hskip, hrest⟩ := filter_range'_cons _ _ _ _ _ hr.symm
         have hlt : x < es.size := by omega
         have hrest' : rest = (List.range' (x + 1) (es.size - (x + 1))).filter (fun i => (es[i]?.map (·.hash)) == some (k.hash w)) := by rw [hrest]; congr 2; omega
         obtain ⟨k', hk1, hk2, hk3, hk4⟩ := hK.mem (Array.getElem?_eq_getElem hlt)
         have hHx : (hit = none ∧ ∀ j, j < x → ks[j]? ≠ some k) ∨ ∃ j, hit = some j ∧ j < x ∧ ks[j]? = some k := by
           rcases hH with ⟨h0, hno⟩ | ⟨j, h1, hji, hj⟩
           · refine .inl ⟨h0, fun j hjx hj => ?_⟩
             rcases Nat.lt_or_ge j i with h | h
             · exact hno j h hj
             · have := hskip j h hjx
               rw [haskey j hj] at this
               exact absurd this (by decide)
           · exact .inr ⟨j, h1, by omega, hj⟩
         have hstay : ¬ k' = k → ((hit = none ∧ ∀ j, j < x + 1 → ks[j]? ≠ some k) ∨ ∃ j, hit = some j ∧ j < x + 1 ∧ ks[j]? = some k) := by
           intro hne
           rcases hHx with ⟨h0, hno⟩ | ⟨j, h1, hjx, hj⟩
           · refine .inl ⟨h0, fun j hjx hj => ?_⟩
             rcases Nat.lt_or_ge j x with h | h
             · exact hno j h hj
             · have hjx' : j = x := by omega
               subst hjx'
               rw [hk1] at hj; cases hj; exact hne rfl
           · exact .inr ⟨j, h1, by omega, hj⟩
         simp only [Array.getElem?_eq_getElem hlt]
         by_cases hh : (es[x].hash == k.hash w) = true
         · rw [if_pos hh]
           refine wpAny_bind (wpAny_dictEpoch ho hd (wpAny_bind (eqBool_key hk3 hkey hu hk4 (wpAny_bind (wpAny_dictEpoch ho hd ?_)))))
           show wpAny _ _ (if (ep != ep) = true then _ else _) _ E _
           rw [if_neg (by simp)]
           by_cases hkk : k' = k
           · rw [decide_eq_true hkk]
             subst hkk
             rcases hHx with ⟨rfl, _⟩ | ⟨j, _, hjx, hj⟩
             · first | rw [if_pos rfl] | skip
               simp only [Option.isSome_none, Bool.false_eq_true, if_false]
               first | refine wpAny_bind (wpAny_pure ?_) | skip
               refine wpAny_bind (wpAny_rule ?_)
               split
               · exact wpAny_pure (wpAny_pure (hsome x hk1))
               · exact wpAny_pure ⟨rfl, x + 1, some x, rfl, hrest', hlt, .inr ⟨x, rfl, Nat.lt_succ_self x, hk1⟩⟩
             · exact absurd (hK.uniq hj hk1) (by omega)
           · rw [decide_eq_false hkk]
             simp only [Bool.false_eq_true, if_false]
             refine wpAny_bind (wpAny_rule ?_)
             first | rw [if_neg (by simp)] | skip
             first
               | exact wpAny_pure ⟨rfl, x + 1, hit, rfl, hrest', hlt, hstay hkk⟩
               | exact wpAny_bind (wpAny_pure (wpAny_pure ⟨rfl, x + 1, hit, rfl, hrest', hlt, hstay hkk⟩))
         · rw [if_neg hh]
           refine wpAny_pure ⟨rfl, x + 1, hit, rfl, hrest', hlt, hstay ?_⟩
           intro hkk
           rw [hk2, hkk] at hh; simp at hh)
/-- the dict d of the heap h, as it is -/
def Dic (h : Heap) (d : Addr) (es : Array DictEntry) (ep : Nat) : Prop := ∃ o, h.get? d = some o ∧ o.ExactDict ∧ o.data = .dict es ep
theorem Dic.typeIs {d : Addr} {es ep} (x : Dic s.heap d es ep) : s.TypeIs (.ref d) "dict" := let ⟨o, h1, h2, _⟩ := x; ⟨o, h1, h2.1⟩
theorem Dic.noDict {h : Heap} {d : Addr} {es ep} (x : Dic h d es ep) : ∀ a, Value.ref d = .ref a → ∃ o, h.get? a = some o ∧ o.dict = none := fun a e => by
  cases e
  obtain ⟨o, h1, h2, _⟩ := x
  exact ⟨o, h1, h2.2.1⟩
/-- key j is k -/
def At (w : World) (ks : List NestedKey) (k : NestedKey) : Option Nat := ks.findIdx? fun x => decide (x = k)
theorem get_any {d : Addr} {es ep} {ks : List NestedKey} {k : NestedKey} {u : Value} {Q : Option Value → Shared → Prop} (hu : A.units + 8 < cLine) (hkey : NestedIs s.heap k u) (hdp : k.depth ≤ 8)
    (hD : Dic s.heap d es ep) (hK : Ks w s.heap ks es) (hnone : k ∉ ks → Q none { s with toks := s.toks + k.draws })
    (hsome : ∀ (j : Nat) (e : DictEntry), ks[j]? = some k → es[j]? = some e → Q (some e.val) { s with toks := s.toks + k.draws }) : wpAny (model prog w) A (dictGet d u) Q E s := by
  obtain ⟨o, ho, _, hd⟩ := hD
  unfold dictGet
  try with_reducible refine wpAny_holding ?_
  refine wpAny_bind (pyHash_key k u A s _ hkey (by omega) (wpAny_bind (find_any (s := { s with toks := s.toks + k.draws }) hu hkey hdp ho hd hK (fun h => wpAny_pure (hnone h)) fun j hj => ?_)))
  obtain ⟨e, h1, _⟩ := hK.at_ j k hj
  refine wpAny_bind (wpAny_dictEntries (s := { s with toks := s.toks + k.draws }) ho hd ?_)
  rw [h1]
  exact wpAny_pure (hsome j e hj h1)
theorem set_any {d : Addr} {es ep} {ks : List NestedKey} {k : NestedKey} {u v : Value} {Q : Unit → Shared → Prop} (hu : A.units + 8 < cLine) (hkey : NestedIs s.heap k u) (hdp : k.depth ≤ 8)
    (hD : Dic s.heap d es ep) (hK : Ks w s.heap ks es) (hz : ks.length ≤ sizeLine)
    (hnew : k ∉ ks → ∀ h', Dic h' d (es.push ⟨k.hash w, u, v⟩) (ep + 1) → Heap.SameBut d s.heap h' → Q () { s with heap := h', toks := s.toks + k.draws })
    (hold : ∀ (j : Nat), ks[j]? = some k → ∀ h', Dic h' d (es.modify j fun e => { e with val := v }) ep → Heap.SameBut d s.heap h' → Q () { s with heap := h', toks := s.toks + k.draws }) : wpAny (model prog w) A (dictSet d u v) Q E s := by
  obtain ⟨o, ho, hc, hd⟩ := hD
  unfold dictSet
  try with_reducible refine wpAny_holding ?_
  refine wpAny_bind (pyHash_key k u A s _ hkey (by omega) ?_)
  unfold dictSetHashed
  try with_reducible refine wpAny_holding ?_
  have hsz : es.size ≤ sizeLine := by rw [hK.sz]; exact hz
  refine wpAny_bind (find_any (s := { s with toks := s.toks + k.draws }) hu hkey hdp ho hd hK (fun hn => ?_) fun j hj => ?_)
  · exact wpAny_bind (wpAny_rule (wpAny_updateDictKeys (hz := by omega) (s := { s with toks := s.toks + k.draws }) ho hd
      (hnew hn _ ⟨_, Heap.get?_update_self _ ho (Obj.isFreed_of_dict (Obj.data_mapDictKeys hd _)), hc.mapDictKeys _, Obj.data_mapDictKeys hd _⟩ (Heap.SameBut.update ..))))
  · exact wpAny_bind (wpAny_rule (wpAny_bind (wpAny_updateDict (s := { s with toks := s.toks + k.draws }) ho hd
      (wpAny_point (hold j hj _ ⟨_, Heap.get?_update_self _ ho (Obj.isFreed_of_dict (Obj.data_mapDict hd _)), hc.mapDict _, Obj.data_mapDict hd _⟩ (Heap.SameBut.update ..))))))
theorem getItem_any {d : Addr} {es ep} {ks : List NestedKey} {k : NestedKey} {u : Value} {Q : Value → Shared → Prop} (hu : A.units + 9 < cLine) (hkey : NestedIs s.heap k u) (hdp : k.depth ≤ 8)
    (hD : Dic s.heap d es ep) (hK : Ks w s.heap ks es) (hin : k ∈ ks)
    (hsome : ∀ (j : Nat) (e : DictEntry), ks[j]? = some k → es[j]? = some e → Q e.val { s with toks := s.toks + k.draws }) : wpAny (model prog w) A (getItem (.ref d) u) Q E s := by
  unfold getItem
  try with_reducible refine wpAny_holding ?_
  refine wpAny_bind (wpAny_sequenceKey hD.typeIs (by decide) ?_)
  refine wpAny_bind (wpAny_callSpecial?_slot (name := Str.ofString "__getitem__") hD.typeIs slot_dict_getitem
    (wpAny_call_entry slot_dict_getitem hD.typeIs entry_dict_getitem ?_ (args_dict_getitem _ _)))
  show wpAny _ _ (dictGet d u >>= _) _ _ s
  refine wpAny_bind (get_any (by rw [Around.in1_units]; omega) hkey hdp hD hK (fun h => absurd hin h) fun j e h1 h2 => ?_)
  exact wpAny_pure ⟨e.val, rfl, wpAny_pure (hsome j e h1 h2)⟩
theorem contains_any {d : Addr} {es ep} {ks : List NestedKey} {k : NestedKey} {u : Value} {Q : Bool → Shared → Prop} (hu : A.units + 9 < cLine) (hkey : NestedIs s.heap k u) (hdp : k.depth ≤ 8) (hs : (d == sysModules) = false)
    (hD : Dic s.heap d es ep) (hK : Ks w s.heap ks es) (h : Q (decide (k ∈ ks)) { s with toks := s.toks + k.draws }) : wpAny (model prog w) A (contains (.ref d) u) Q E s := by
  unfold contains
  try with_reducible refine wpAny_holding ?_
  refine wpAny_bind (wpAny_specialOf hD.typeIs slot_dict_contains.lookup ?_)
  show wpAny _ _ (if (some (Value.builtin "dict.__contains__") == some Value.none) = true then _ else _) _ E s
  rw [if_neg (by rw [beq_builtin_none]; exact Bool.false_ne_true)]
  refine wpAny_bind (wpAny_callSpecialUnlessNone?_slot (name := Str.ofString "__contains__") hD.typeIs slot_dict_contains
    (wpAny_call_entry slot_dict_contains hD.typeIs entry_dict_contains ?_ (args_dict_contains _ _)))
  show wpAny _ _ (dictGet d u >>= _) _ _ s
  refine wpAny_bind (get_any (by rw [Around.in1_units]; omega) hkey hdp hD hK (fun hn => ?_) fun j e h1 h2 => ?_)
  · rw [decide_eq_false hn] at h
    show wpAny _ _ (Builtin.Dict.pendingKey? d u >>= _) _ _ _
    exact wpAny_bind (wpAny_pendingKey_other hs (wpAny_pure ⟨_, rfl, wpAny_truthy_bool h⟩))
  · rw [decide_eq_true (List.mem_of_getElem? h1)] at h
    show wpAny _ _ (ret (.bool true)) _ _ _
    exact wpAny_pure ⟨_, rfl, wpAny_truthy_bool h⟩
theorem in_any {d : Addr} {es ep} {ks : List NestedKey} {k : NestedKey} {u : Value} {Q : Value → Shared → Prop} (hu : A.units + 9 < cLine) (hkey : NestedIs s.heap k u) (hdp : k.depth ≤ 8) (hs : (d == sysModules) = false)
    (hD : Dic s.heap d es ep) (hK : Ks w s.heap ks es) (h : Q (.bool (decide (k ∈ ks))) { s with toks := s.toks + k.draws }) : wpAny (model prog w) A (compareOp .In u (.ref d)) Q E s := by
  show wpAny _ _ (do return .bool (← contains (.ref d) u)) Q E s
  exact wpAny_bind (contains_any hu hkey hdp hs hD hK (wpAny_pure h))
theorem notIn_any {d : Addr} {es ep} {ks : List NestedKey} {k : NestedKey} {u : Value} {Q : Value → Shared → Prop} (hu : A.units + 9 < cLine) (hkey : NestedIs s.heap k u) (hdp : k.depth ≤ 8) (hs : (d == sysModules) = false)
    (hD : Dic s.heap d es ep) (hK : Ks w s.heap ks es) (h : Q (.bool (!decide (k ∈ ks))) { s with toks := s.toks + k.draws }) : wpAny (model prog w) A (compareOp .NotIn u (.ref d)) Q E s := by
  show wpAny _ _ (do return .bool (!(← contains (.ref d) u))) Q E s
  exact wpAny_bind (contains_any hu hkey hdp hs hD hK (wpAny_pure h))
theorem setItem_any {d : Addr} {es ep} {ks : List NestedKey} {k : NestedKey} {u v : Value} {Q : Unit → Shared → Prop} (hu : A.units + 9 < cLine) (hkey : NestedIs s.heap k u) (hdp : k.depth ≤ 8)
    (hD : Dic s.heap d es ep) (hK : Ks w s.heap ks es) (hz : ks.length ≤ sizeLine)
    (hnew : k ∉ ks → ∀ h', Dic h' d (es.push ⟨k.hash w, u, v⟩) (ep + 1) → Heap.SameBut d s.heap h' → Q () { s with heap := h', toks := s.toks + k.draws })
    (hold : ∀ (j : Nat), ks[j]? = some k → ∀ h', Dic h' d (es.modify j fun e => { e with val := v }) ep → Heap.SameBut d s.heap h' → Q () { s with heap := h', toks := s.toks + k.draws }) :
    wpAny (model prog w) A (setItem (.ref d) u v) Q E s := by
  unfold setItem
  try with_reducible refine wpAny_holding ?_
  refine wpAny_bind (wpAny_sequenceKey hD.typeIs (by decide) ?_)
  refine wpAny_bind (wpAny_callSpecial?_slot (name := Str.ofString "__setitem__") hD.typeIs slot_dict_setitem
    (wpAny_call_entry slot_dict_setitem hD.typeIs entry_dict_setitem ?_ (args_dict_setitem _ _ _)))
  show wpAny _ _ (Builtin.Dict.notOrdered "__setitem__" ⟨[.ref d, u, v], []⟩ >>= _) _ _ s
  refine wpAny_bind (wpAny_notOrdered_dict hD.typeIs ?_)
  show wpAny _ _ (dictSet d u v >>= _) _ _ s
  exact wpAny_bind (set_any (by rw [Around.in1_units]; omega) hkey hdp hD hK hz (fun a b c e => wpAny_pure ⟨.none, rfl, wpAny_pure (hnew a b c e)⟩) fun a b c d e => wpAny_pure ⟨.none, rfl, wpAny_pure (hold a b c d e)⟩)
/-- d.get(u), d.get(u, x) -/
theorem dget_any {d : Addr} {es ep} {ks : List NestedKey} {k : NestedKey} {u : Value} {dflt : Value} {more : List Value} {R : Result → Shared → Prop} (hm : more = [] ∧ dflt = .none ∨ more = [dflt]) (hu : A.units + 8 < cLine) (hkey : NestedIs s.heap k u) (hdp : k.depth ≤ 8) (hs : (d == sysModules) = false)
    (hD : Dic s.heap d es ep) (hK : Ks w s.heap ks es) (hnone : k ∉ ks → R (.ok (.ret dflt)) { s with toks := s.toks + k.draws })
    (hsome : ∀ (j : Nat) (e : DictEntry), ks[j]? = some k → es[j]? = some e → R (.ok (.ret e.val)) { s with toks := s.toks + k.draws }) :
    wpAny (model prog w) A (Builtin.«dict.get» ⟨.ref d :: u :: more, []⟩) (fun f s' => ∃ v, f = .done (.ret v) ∧ R (.ok (.ret v)) s') (fun e s' => R (.error e) s') s := by
  rcases hm with ⟨rfl, rfl⟩ | rfl
  all_goals show wpAny _ _ (dictGet d u >>= _) _ _ s
  all_goals refine wpAny_bind (get_any hu hkey hdp hD hK (fun hn => ?_) fun j e h1 h2 => wpAny_pure ⟨e.val, rfl, hsome j e h1 h2⟩)
  all_goals show wpAny _ _ (Builtin.Dict.missed d u >>= _) _ _ _
  all_goals exact wpAny_bind (wpAny_missed_other hs (wpAny_pure ⟨_, rfl, hnone hn⟩))
abbrev RE := NestedKey × Value × Value
def ent (w : World) (x : RE) : DictEntry := ⟨x.1.hash w, x.2.1, x.2.2⟩
def rput : List RE → NestedKey → Value → Value → List RE
  | [], k, u, v => [(k, u, v)]
  | x :: r, k, u, v => if x.1 = k then (x.1, x.2.1, v) :: r else x :: rput r k u v
theorem rput_new : ∀ {L : List RE} {k : NestedKey} {u v : Value}, k ∉ L.map (·.1) → rput L k u v = L ++ [(k, u, v)]
  | [], _, _, _, _ => rfl
  | x :: r, k, u, v, h => by
    have h1 : ¬ x.1 = k := fun e => h (by simp [e])
    rw [rput, if_neg h1, rput_new (fun z => h (List.mem_cons_of_mem _ z))]; rfl
theorem rput_keys_old : ∀ {L : List RE} {k : NestedKey} {u v : Value}, k ∈ L.map (·.1) → (rput L k u v).map (·.1) = L.map (·.1)
  | [], _, _, _, h => by simp at h
  | x :: r, k, u, v, h => by
    rw [rput]
    by_cases e : x.1 = k
    · rw [if_pos e]; rfl
    · rw [if_neg e]
      have : k ∈ r.map (·.1) := by
        rcases List.mem_cons.mp h with z | z
        · exact absurd z.symm e
        · exact z
      show x.1 :: _ = x.1 :: _
      rw [rput_keys_old this]
theorem rput_nodup {L : List RE} {k : NestedKey} {u v : Value} (h : (L.map (·.1)).Nodup) : ((rput L k u v).map (·.1)).Nodup := by
  by_cases e : k ∈ L.map (·.1)
  · rw [rput_keys_old e]; exact h
  · rw [rput_new e, List.map_append, List.nodup_append]
    refine ⟨h, by simp, fun x hx y hy => ?_⟩
    simp only [List.map_cons, List.map_nil, List.mem_singleton] at hy
    subst hy
    exact fun z => e (z ▸ hx)
theorem rput_mem : ∀ {L : List RE} {k : NestedKey} {u v : Value} {x : RE}, x ∈ rput L k u v → (∃ y ∈ L, x.1 = y.1 ∧ x.2.1 = y.2.1) ∨ x = (k, u, v)
  | [], _, _, _, x, h => by
    rw [rput, List.mem_singleton] at h
    exact .inr h
  | y :: r, k, u, v, x, h => by
    rw [rput] at h
    split at h
    · rcases List.mem_cons.mp h with z | z
      · exact .inl ⟨y, List.mem_cons_self, by rw [z], by rw [z]⟩
      · exact .inl ⟨x, List.mem_cons_of_mem _ z, rfl, rfl⟩
    · rcases List.mem_cons.mp h with z | z
      · exact .inl ⟨y, List.mem_cons_self, by rw [z], by rw [z]⟩
      · rcases rput_mem z with ⟨y', h1, h2⟩ | h2
        · exact .inl ⟨y', List.mem_cons_of_mem _ h1, h2⟩
        · exact .inr h2
theorem modify_cons {α : Type} (x : α) (xs : List α) (j : Nat) (f : α → α) : (x :: xs).modify (j + 1) f = x :: xs.modify j f := by simp
theorem rput_ent : ∀ {L : List RE} {k : NestedKey} {u v : Value} {j : Nat}, (L.map (·.1)).Nodup → (L.map (·.1))[j]? = some k → (L.map (ent w)).modify j (fun e => { e with val := v }) = (rput L k u v).map (ent w)
  | [], _, _, _, _, _, h => by simp at h
  | x :: r, k, u, v, 0, _, h => by
    have e : x.1 = k := by simpa using h
    rw [rput, if_pos e]; rfl
  | x :: r, k, u, v, j + 1, hn, h => by
    have h' : (r.map (·.1))[j]? = some k := by simpa using h
    rw [List.map_cons, List.nodup_cons] at hn
    have e : ¬ x.1 = k := fun z => hn.1 (z ▸ List.mem_of_getElem? h')
    rw [rput, if_neg e, List.map_cons, modify_cons, rput_ent hn.2 h']; rfl
/-- at d stands a dict of the entries L -/
structure Rw (w : World) (h : Heap) (d : Addr) (L : List RE) (es : Array DictEntry) (ep : Nat) : Prop where
  dic : Dic h d es ep
  ents : es.toList = L.map (ent w)
  nd : (L.map (·.1)).Nodup
  keys : ∀ x ∈ L, NestedIs h x.1 x.2.1 ∧ x.1.depth ≤ 8
  ver : ep = es.size
theorem Rw.at_ {h : Heap} {d : Addr} {L : List RE} {es ep} (x : Rw w h d L es ep) (j : Nat) : es[j]? = (L[j]?).map (ent w) := by
  rw [← Array.getElem?_toList, x.ents, List.getElem?_map]
theorem Rw.ks {h : Heap} {d : Addr} {L : List RE} {es ep} (x : Rw w h d L es ep) : Ks w h (L.map (·.1)) es where
  sz := by rw [← Array.length_toList, x.ents, List.length_map, List.length_map]
  at_ := fun j k hj => by
    rw [List.getElem?_map] at hj
    cases e : L[j]? with
    | none => rw [e] at hj; cases hj
    | some y =>
      rw [e] at hj; cases hj
      obtain ⟨h1, h2⟩ := x.keys y (List.mem_of_getElem? e)
      exact ⟨ent w y, by rw [x.at_ j, e]; rfl, rfl, h1, h2⟩
  nd := x.nd
theorem same_nested {h h' : Heap} {d : Addr} {es ep} (hD : Dic h d es ep) (hs : Heap.SameBut d h h') {k : NestedKey} {u : Value} (hk : NestedIs h k u) : NestedIs h' k u := by
  obtain ⟨o, ho, _, hd⟩ := hD
  refine NestedIs.at (fun b ob vs n hb hc => (hs.2 b fun e => ?_).trans hb) k u hk
  subst e
  rw [ho] at hb; cases hb
  rw [hd] at hc; cases hc
end
end GR
end
section
set_option Elab.async false
set_option linter.all false
set_option maxRecDepth 100000
set_option maxHeartbeats 4000000
namespace G
open PySem PySem.Spec PyProof.Rows L2
theorem sz_eq : sizeLine = SZ := by first | rfl | decide
/-- a text as the model lays it -/
def okS (x : Str) : Prop := x.length ≤ sizeLine
/-- a list that nobody writes -/
def RoL (K : PySem.W.Frag) (H : Hp) (a : Addr) (xs : List V) : Prop :=
  (∃ o, H a = some (.frz o (.lst xs))) ∨
    ∃ (o : Obj) (its : Array Value) (n : Nat), K.lookup a = some o ∧ o.cls = .type "list" ∧ o.dict = none ∧ o.data = .seq its n ∧ its.size ≤ sizeLine ∧ Vals xs its.toList
theorem RoL.sq {K : PySem.W.Frag} {H : Hp} {a : Addr} {xs : List V} (h : RoL K H a xs) : SqL K H a xs := by
  rcases h with h | h
  · exact .inl (.inr h)
  · exact .inr h
mutual
/-- the value v stands for d -/
inductive Rv (K : PySem.W.Frag) (H : Hp) : D → V → Prop
  | non : Rv K H .non .non
  | bl (b : Bool) : Rv K H (.bl b) (.bl b)
  | int (i : Int) : Rv K H (.int i) (.int i)
  | str (x : Str) : okS x → Rv K H (.str x) (.str x)
  | ref (a : Addr) : Rv K H (.ref a) (.ref a)
  | tup {a : Addr} {vs : List V} {ds : List D} : SqT K H a vs → RvL K H ds vs → Rv K H (.tup ds) (.ref a)
  | rl {a : Addr} {vs : List V} {ds : List D} : RoL K H a vs → RvL K H ds vs → Rv K H (.rl ds) (.ref a)
inductive RvL (K : PySem.W.Frag) (H : Hp) : List D → List V → Prop
  | nil : RvL K H [] []
  | cons {d : D} {v : V} {ds : List D} {vs : List V} : Rv K H d v → RvL K H ds vs → RvL K H (d :: ds) (v :: vs)
end
/-- what never changes stays -/
structure Kp (H H' : Hp) : Prop where
  tup : ∀ a xs, H a = some (.tup xs) → H' a = some (.tup xs)
  frz : ∀ a o u, H a = some (.frz o u) → H' a = some (.frz o u)
  cod : ∀ a q, H a = some (LamX.CodeO a q) → H' a = some (LamX.CodeO a q)
  fno : ∀ a F, H a = some (NdefX.FnO a F) → H' a = some (NdefX.FnO a F)
theorem Kp.refl (H : Hp) : Kp H H := ⟨fun _ _ e => e, fun _ _ _ e => e, fun _ _ e => e, fun _ _ e => e⟩
theorem Kp.trans {H H1 H2 : Hp} (x : Kp H H1) (y : Kp H1 H2) : Kp H H2 := ⟨fun a xs e => y.tup a xs (x.tup a xs e), fun a o u e => y.frz a o u (x.frz a o u e), fun a q e => y.cod a q (x.cod a q e), fun a q e => y.fno a q (x.fno a q e)⟩
theorem Kp.of {H H' : Hp} (h : ∀ a o, H a = some o → H' a = some o) : Kp H H' := ⟨fun a _ e => h a _ e, fun a _ _ e => h a _ e, fun a _ e => h a _ e, fun a _ e => h a _ e⟩
theorem Kp.new {H : Hp} {p : Addr} {o : HO} (n : H p = none) : Kp H (upd H p o) := Kp.of fun a xs e => by rw [upd_ne (L2.ne_of_none e n)]; exact e
theorem Kp.wr {H : Hp} {p : Addr} {o u : HO} (e : H p = some u) (m : Mut (some u)) (hc : ∀ q, u ≠ LamX.CodeO p q := by intro q z; unfold LamX.CodeO at z; cases z) (hf : ∀ F, u ≠ NdefX.FnO p F := by intro q z; unfold NdefX.FnO at z; cases z) : Kp H (upd H p o) := by
  refine ⟨fun a xs q => ?_, fun a w x q => ?_, fun a x q => ?_, fun a x q => ?_⟩
  · have : a ≠ p := fun z => by subst z; rw [q] at e; cases e; exact m
    rw [upd_ne this]; exact q
  · have : a ≠ p := fun z => by subst z; rw [q] at e; cases e; exact m
    rw [upd_ne this]; exact q
  · have : a ≠ p := fun z => by subst z; rw [q] at e; exact hc _ (Option.some.inj e).symm
    rw [upd_ne this]; exact q
  · have : a ≠ p := fun z => by subst z; rw [q] at e; exact hf _ (Option.some.inj e).symm
    rw [upd_ne this]; exact q
theorem SqT.kp {K : PySem.W.Frag} {H H' : Hp} {a : Addr} {xs : List V} (k : Kp H H') (h : SqT K H a xs) : SqT K H' a xs := by
  rcases h with (h | ⟨o, h⟩) | h
  · exact .inl (.inl (k.tup _ _ h))
  · exact .inl (.inr ⟨o, k.frz _ _ _ h⟩)
  · exact .inr h
theorem RoL.kp {K : PySem.W.Frag} {H H' : Hp} {a : Addr} {xs : List V} (k : Kp H H') (h : RoL K H a xs) : RoL K H' a xs := by
  rcases h with ⟨o, h⟩ | h
  · exact .inl ⟨o, k.frz _ _ _ h⟩
  · exact .inr h
mutual
theorem Rv.kp {K : PySem.W.Frag} {H H' : Hp} (k : Kp H H') : ∀ {d : D} {v : V}, Rv K H d v → Rv K H' d v
  | _, _, .non => .non
  | _, _, .bl b => .bl b
  | _, _, .int i => .int i
  | _, _, .str x h => .str x h
  | _, _, .ref a => .ref a
  | _, _, .tup h r => .tup (SqT.kp k h) (RvL.kp k r)
  | _, _, .rl h r => .rl (RoL.kp k h) (RvL.kp k r)
theorem RvL.kp {K : PySem.W.Frag} {H H' : Hp} (k : Kp H H') : ∀ {ds : List D} {vs : List V}, RvL K H ds vs → RvL K H' ds vs
  | _, _, .nil => .nil
  | _, _, .cons h r => .cons (Rv.kp k h) (RvL.kp k r)
end
section
variable {K : PySem.W.Frag} {H : Hp}
theorem RvL.length : ∀ {ds : List D} {vs : List V}, RvL K H ds vs → ds.length = vs.length
  | _, _, .nil => rfl
  | _, _, .cons _ r => congrArg (· + 1) (RvL.length r)
theorem RvL.get : ∀ {ds : List D} {vs : List V} {i : Nat} {d : D}, RvL K H ds vs → ds[i]? = some d → ∃ v, vs[i]? = some v ∧ Rv K H d v
  | _, _, _, _, .nil, e => by simp at e
  | _, _, 0, _, .cons r _, e => by simp at e; subst e; exact ⟨_, rfl, r⟩
  | _, _, i + 1, d, .cons _ t, e => by
    obtain ⟨u, h1, h2⟩ := RvL.get (i := i) (d := d) t (by simpa using e)
    exact ⟨u, by simpa using h1, h2⟩
theorem RvL.get' : ∀ {ds : List D} {vs : List V} {i : Nat} {v : V}, RvL K H ds vs → vs[i]? = some v → ∃ d, ds[i]? = some d ∧ Rv K H d v
  | _, _, _, _, .nil, e => by simp at e
  | _, _, 0, _, .cons r _, e => by simp at e; subst e; exact ⟨_, rfl, r⟩
  | _, _, i + 1, d, .cons _ t, e => by
    obtain ⟨u, h1, h2⟩ := RvL.get' (i := i) (v := d) t (by simpa using e)
    exact ⟨u, by simpa using h1, h2⟩
theorem RvL.append : ∀ {ds es : List D} {vs us : List V}, RvL K H ds vs → RvL K H es us → RvL K H (ds ++ es) (vs ++ us)
  | _, _, _, _, .nil, s => s
  | _, _, _, _, .cons r t, s => .cons r (RvL.append t s)
theorem RvL.set {d : D} {v : V} (r : Rv K H d v) : ∀ {ds : List D} {vs : List V} (i : Nat), RvL K H ds vs → RvL K H (ds.set i d) (vs.set i v)
  | _, _, _, .nil => .nil
  | _, _, 0, .cons _ t => .cons r t
  | _, _, i + 1, .cons q t => .cons q (RvL.set r i t)
theorem RvL.take : ∀ {ds : List D} {vs : List V} (n : Nat), RvL K H ds vs → RvL K H (ds.take n) (vs.take n)
  | _, _, 0, _ => .nil
  | _, _, _ + 1, .nil => .nil
  | _, _, n + 1, .cons r t => .cons r (RvL.take n t)
theorem RvL.drop : ∀ {ds : List D} {vs : List V} (n : Nat), RvL K H ds vs → RvL K H (ds.drop n) (vs.drop n)
  | _, _, 0, r => r
  | _, _, _ + 1, .nil => .nil
  | _, _, n + 1, .cons _ t => RvL.drop n t
theorem RvL.one {d : D} {v : V} (r : Rv K H d v) : RvL K H [d] [v] := .cons r .nil
end
/-- the raw dict at a: its entries as they are -/
def RawD (a : Addr) (es : Array DictEntry) (ep : Nat) : Heap → Prop := fun h => GR.Dic h a es ep
mutual
/-- a key, as the library's -/
def nk : D → NestedKey
  | .int i => .num i
  | .str x => .text x
  | .tup ds => .tup (nkL ds)
  | _ => .none
def nkL : List D → List NestedKey
  | [] => []
  | d :: ds => nk d :: nkL ds
end
/-- an entry stands for a key and a value -/
def EntR (K : PySem.W.Frag) (w : World) (H : Hp) (p : D × D) (e : DictEntry) : Prop :=
  e.hash = (nk p.1).hash w ∧ pl 8 p.1 = true ∧ (∃ v, Rv K H p.1 v ∧ RelV v e.key) ∧ ∃ v, Rv K H p.2 v ∧ RelV v e.val
theorem raw_noC {a : Addr} {es : Array DictEntry} {ep : Nat} {h : Heap} (r : RawD a es ep h) : ∀ q, HO.ext (RawD a es ep) ≠ LamX.CodeO a q := fun q z => by
  have z3 : ∃ (oc : Obj) (vs : Array Value) (t : Tok), h.get? a = some oc ∧ oc.data = .fields vs ∧ vs[1]? = some (.str q t) := by
    have := congrArg (fun o => match o with | HO.ext f => f h | _ => False) z
    exact this.mp r
  obtain ⟨oc, vs, t, r1, r2, _⟩ := z3
  obtain ⟨o, q1, _, q2⟩ := r
  rw [r1] at q1; cases q1
  rw [r2] at q2; cases q2
theorem raw_noF {a : Addr} {es : Array DictEntry} {ep : Nat} {h : Heap} (r : RawD a es ep h) : ∀ F, HO.ext (RawD a es ep) ≠ NdefX.FnO a F := fun F z => by
  have z3 : ∃ (od : Option Addr) (sl : Array (Option Value)) (doc pm ctv : Value), h.get? a = some (⟨.type "function", od, .func (F.fd doc pm ctv), sl⟩ : Obj) := by
    have := congrArg (fun o => match o with | HO.ext f => f h | _ => False) z
    exact this.mp r
  obtain ⟨od, sl, doc, pm, ctv, r1⟩ := z3
  obtain ⟨o, q1, _, q2⟩ := r
  rw [r1] at q1; cases q1
  cases q2
/-- what stands at an address -/
def RO (K : PySem.W.Frag) (w : World) (H : Hp) (a : Addr) : O → Prop
  | .lst ds => ∃ vs, H a = some (.lst vs) ∧ RvL K H ds vs
  | .dic kvs => kvs.length ≤ sizeLine ∧ (a == sysModules) = false ∧ (kvs.map (·.1)).Nodup ∧ ∃ (es : Array DictEntry) (ep : Nat), H a = some (.ext (RawD a es ep)) ∧ Paired (EntR K w H) kvs es.toList ∧ ep = es.size
  | .ins C fs => ∃ dx vs, H a = some (.ins C dx vs) ∧ fs.map (·.1) = vs.map (·.1) ∧ RvL K H (fs.map (·.2)) (vs.map (·.2))
/-- the tables of code objects that a program with lambdas has -/
class Tb where
  T : List (PySem.Addr × Str)
variable [Tb]
structure Abs (K : PySem.W.Frag) (w : World) (h : AH) (H : Hp) : Prop where
  at_ : ∀ a o, h a = some o → RO K w H a o
  tabs : LamX.Tabs Tb.T H
instance {K : PySem.W.Frag} {w : World} {h : AH} {H : Hp} : CoeFun (Abs K w h H) (fun _ => ∀ a o, h a = some o → RO K w H a o) := ⟨Abs.at_⟩
theorem tabs_wr {T : List (PySem.Addr × Str)} {H : Hp} {p : Addr} {u u' : HO} (t : LamX.Tabs T H) (e : H p = some u) (m : Mut (some u)) (hx : ∀ q, u ≠ LamX.CodeO p q) : LamX.Tabs T (upd H p u') := fun z hz => by
  obtain ⟨ps, h1, h2, h3⟩ := t z hz
  have n1 : z.1 ≠ p := fun y => by rw [y, e] at h1; cases h1; exact m
  refine ⟨ps, by rw [upd_ne n1]; exact h1, h2, fun pos cv hc => ?_⟩
  obtain ⟨c, e1, e2⟩ := h3 pos cv hc
  refine ⟨c, e1, ?_⟩
  have n2 : c ≠ p := fun y => by subst y; rw [e] at e2; cases e2; exact hx _ rfl
  rw [upd_ne n2]; exact e2
theorem pImp {α β : Type} {F G : α → β → Prop} (f : ∀ a b, F a b → G a b) : ∀ {l₁ : List α} {l₂ : List β}, Paired F l₁ l₂ → Paired G l₁ l₂
  | _, _, .nil => .nil
  | _, _, .cons r t => .cons (f _ _ r) (pImp f t)
section
variable {K : PySem.W.Frag} {w : World} {H H' : Hp} {h : AH} {a p : Addr} {o : O}
theorem EntR.kp (k : Kp H H') {q : D × D} {e : DictEntry} (r : EntR K w H q e) : EntR K w H' q e := by
  obtain ⟨h1, h2, ⟨v, r1, r2⟩, u, s1, s2⟩ := r
  exact ⟨h1, h2, ⟨v, r1.kp k, r2⟩, u, s1.kp k, s2⟩
theorem RO.some (r : RO K w H a o) : ∃ u, H a = some u ∧ Mut (some u) := by
  cases o with
  | lst ds => obtain ⟨vs, e, _⟩ := r; exact ⟨_, e, trivial⟩
  | dic kvs => obtain ⟨_, _, _, es, ep, e, _⟩ := r; exact ⟨_, e, trivial⟩
  | ins C fs => obtain ⟨dx, vs, e, _⟩ := r; exact ⟨_, e, trivial⟩
theorem RO.kp (k : Kp H H') (e : H' a = H a) (r : RO K w H a o) : RO K w H' a o := by
  cases o with
  | lst ds => obtain ⟨vs, q, s⟩ := r; exact ⟨vs, e.trans q, s.kp k⟩
  | dic kvs => obtain ⟨h1, h2, h3, es, ep, q, s, vv⟩ := r; exact ⟨h1, h2, h3, es, ep, e.trans q, pImp (fun _ _ x => x.kp k) s, vv⟩
  | ins C fs => obtain ⟨dx, vs, q, s1, s2⟩ := r; exact ⟨dx, vs, e.trans q, s1, s2.kp k⟩
theorem Abs.nil (A : Abs K w h H) (n : H p = .none) : h p = .none := by
  cases e : h p with
  | none => rfl
  | some o =>
    obtain ⟨u, q, _⟩ := (A p o e).some
    rw [n] at q; cases q
/-- a new object -/
theorem Abs.new {u : HO} (A : Abs K w h H) (n : H p = none) (r : RO K w (upd H p u) p o) : Abs K w (up h p o) (upd H p u) := ⟨fun a o' e => by
  by_cases z : a = p
  · subst z; rw [up_same] at e; cases e; exact r
  · rw [up_ne z] at e
    exact (A a o' e).kp (Kp.new n) (upd_ne z), A.tabs.ext fun b o e => by rw [upd_ne (L2.ne_of_none e n)]; exact e⟩
/-- something new that is not told of -/
theorem Abs.newH {u : HO} (A : Abs K w h H) (n : H p = none) : Abs K w h (upd H p u) := ⟨fun a o' e => by
  have z : a ≠ p := fun z => by subst z; rw [A.nil n] at e; cases e
  exact (A a o' e).kp (Kp.new n) (upd_ne z), A.tabs.ext fun b o e => by rw [upd_ne (L2.ne_of_none e n)]; exact e⟩
/-- a store -/
theorem Abs.wr {u u' : HO} (A : Abs K w h H) (e : H p = some u) (m : Mut (some u)) (r : RO K w (upd H p u') p o) (hx : ∀ q, u ≠ LamX.CodeO p q := by intro q z; unfold LamX.CodeO at z; cases z) (hf : ∀ F, u ≠ NdefX.FnO p F := by intro q z; unfold NdefX.FnO at z; cases z) : Abs K w (up h p o) (upd H p u') := ⟨fun a o' q => by
  by_cases z : a = p
  · subst z; rw [up_same] at q; cases q; exact r
  · rw [up_ne z] at q
    exact (A a o' q).kp (Kp.wr e m hx hf) (upd_ne z), tabs_wr A.tabs e m hx⟩
theorem Abs.sub {h0 : AH} (A : Abs K w h H) (s : Sb h0 h) : Abs K w h0 H := ⟨fun a o e => A a o (s a o e), A.tabs⟩
end
/-- the slots -/
def RS (K : PySem.W.Frag) (H : Hp) (ρ : Lo) (σ : L2.St) : Prop := ρ.length = σ.length ∧ ∀ (i : Nat) (d : D), ρ[i]? = some (some d) → ∃ v, σ[i]? = some (some v) ∧ Rv K H d v
theorem RS.kp {K : PySem.W.Frag} {H H' : Hp} {ρ : Lo} {σ : L2.St} (k : Kp H H') (r : RS K H ρ σ) : RS K H' ρ σ := ⟨r.1, fun i d e => let ⟨v, h1, h2⟩ := r.2 i d e; ⟨v, h1, h2.kp k⟩⟩
theorem RS.set {K : PySem.W.Frag} {H : Hp} {ρ : Lo} {σ : L2.St} {d : D} {v : V} {i : Nat} (r : RS K H ρ σ) (x : Rv K H d v) : RS K H (ρ.set i (some d)) (σ.set i (some v)) := by
  refine ⟨by simp [r.1], fun j e q => ?_⟩
  by_cases z : i = j
  · subst z
    by_cases hl : i < ρ.length
    · rw [List.getElem?_set_self hl] at q
      cases q
      exact ⟨v, by rw [List.getElem?_set_self (by rw [← r.1]; exact hl)], x⟩
    · rw [List.getElem?_eq_none (by simp; omega)] at q; cases q
  · rw [List.getElem?_set_ne z] at q
    obtain ⟨u, h1, h2⟩ := r.2 j e q
    exact ⟨u, by rw [List.getElem?_set_ne z]; exact h1, h2⟩
theorem RS.wipe {K : PySem.W.Frag} {H : Hp} {ρ : Lo} {σ : L2.St} (r : RS K H ρ σ) : ∀ vs : List Nat, RS K H (wipe ρ vs) (L2.wipe σ vs)
  | [] => r
  | i :: vs => by
    have ih := RS.wipe r vs
    unfold G.wipe L2.wipe
    refine ⟨by simp [ih.1], fun j e q => ?_⟩
    by_cases z : i = j
    · subst z
      by_cases hl : i < (G.wipe ρ vs).length
      · rw [List.getElem?_set_self hl] at q; cases q
      · rw [List.getElem?_eq_none (by simp; omega)] at q; cases q
    · rw [List.getElem?_set_ne z] at q
      obtain ⟨u, h1, h2⟩ := ih.2 j e q
      exact ⟨u, by rw [List.getElem?_set_ne z]; exact h1, h2⟩
/-- Q0 of the domain is enough for Q -/
def KQ (K : PySem.W.Frag) (w : World) (H : Hp) (Q0 : KD) (Q : VK) : Prop := ∀ d h' v H', Q0 d h' → Kp H H' → Rv K H' d v → Abs K w h' H' → Q v H'
def tE (K : PySem.W.Frag) (w : World) (f : DE) : TE := fun σ H Q => ∃ ρ h Q0, RS K H ρ σ ∧ Abs K w h H ∧ f ρ h Q0 ∧ KQ K w H Q0 Q
def tT (K : PySem.W.Frag) (w : World) (f : DT) : TT := fun σ H Q => ∃ ρ h Q0, RS K H ρ σ ∧ Abs K w h H ∧ f ρ h Q0 ∧ ∀ b h' H', Q0 b h' → Kp H H' → Abs K w h' H' → Q b H'
def tA (K : PySem.W.Frag) (w : World) (f : DA) : TA := fun σ H Q => ∃ ρ h Q0, RS K H ρ σ ∧ Abs K w h H ∧ f ρ h Q0 ∧ ∀ ds h' vs H', Q0 ds h' → Kp H H' → RvL K H' ds vs → Abs K w h' H' → Q vs H'
structure KF (K : PySem.W.Frag) (w : World) (H : Hp) (F : Fin) (D : Ends) : Prop where
  nx : ∀ ρ h σ H', F.nx ρ h → Kp H H' → RS K H' ρ σ → Abs K w h H' → D.nx σ H'
  rt : KQ K w H F.rt D.rt
  bk : ∀ ρ h σ H', F.bk ρ h → Kp H H' → RS K H' ρ σ → Abs K w h H' → D.bk σ H'
  ct : ∀ ρ h σ H', F.ct ρ h → Kp H H' → RS K H' ρ σ → Abs K w h H' → D.ct σ H'
theorem KF.kp {K : PySem.W.Frag} {w : World} {H H1 : Hp} {F : Fin} {D : Ends} (k : Kp H H1) (x : KF K w H F D) : KF K w H1 F D :=
  ⟨fun ρ h σ H' a b => x.nx ρ h σ H' a (k.trans b), fun d h v H' a b => x.rt d h v H' a (k.trans b), fun ρ h σ H' a b => x.bk ρ h σ H' a (k.trans b), fun ρ h σ H' a b => x.ct ρ h σ H' a (k.trans b)⟩
def tS (K : PySem.W.Frag) (w : World) (f : DS) : TS := fun D σ H => ∃ ρ h F, RS K H ρ σ ∧ Abs K w h H ∧ f F ρ h ∧ KF K w H F D
/-- the two differ at sl alone -/
def Sm (sl : List Nat) (σ σ' : L2.St) : Prop := σ'.length = σ.length ∧ ∀ i, i ∉ sl → σ'[i]? = σ[i]?
theorem Sm.refl (sl : List Nat) (σ : L2.St) : Sm sl σ σ := ⟨rfl, fun _ _ => rfl⟩
theorem Sm.trans {a b : List Nat} {σ σ' σ'' : L2.St} (x : Sm a σ σ') (y : Sm b σ' σ'') : Sm (a ++ b) σ σ'' :=
  ⟨y.1.trans x.1, fun i n => (y.2 i fun z => n (List.mem_append_right _ z)).trans (x.2 i fun z => n (List.mem_append_left _ z))⟩
theorem Sm.one {i : Nat} {σ : L2.St} {x : Option V} : Sm [i] σ (σ.set i x) := ⟨by simp, fun j n => by
  have : i ≠ j := fun e => n (by simp [e])
  rw [List.getElem?_set_ne this]⟩
theorem wipe_get (σ : L2.St) (i : Nat) : ∀ vs : List Nat, (L2.wipe σ vs)[i]? = if i ∈ vs then (if i < σ.length then some none else none) else σ[i]?
  | [] => by simp [L2.wipe]
  | v :: vs => by
    have ih := wipe_get σ i vs
    unfold L2.wipe
    by_cases e : v = i
    · subst e
      rw [if_pos List.mem_cons_self]
      by_cases hl : v < σ.length
      · rw [if_pos hl, List.getElem?_set_self (by rw [wipe_length]; exact hl)]
      · rw [if_neg hl, List.getElem?_eq_none (by rw [List.length_set, wipe_length]; omega)]
    · rw [List.getElem?_set_ne e, ih]
      have : (i ∈ v :: vs) ↔ i ∈ vs := by
        simp only [List.mem_cons]
        exact ⟨fun h => h.resolve_left (fun z => e z.symm), .inr⟩
      simp only [this]
theorem Sm.wipe {own : List Nat} {σ σ' : L2.St} (x : Sm own (L2.wipe σ own) σ') : L2.wipe σ' own = L2.wipe σ own := by
  apply List.ext_getElem?
  intro i
  rw [wipe_get, wipe_get]
  have e := x.1
  rw [wipe_length] at e
  by_cases hi : i ∈ own
  · rw [if_pos hi, if_pos hi, e]
  · rw [if_neg hi, if_neg hi, x.2 i hi, wipe_get, if_neg hi]
def tG (K : PySem.W.Frag) (w : World) (sl : List Nat) (g : DG) : TG := fun v σ H Q => ∃ d ρ h Q0, Rv K H d v ∧ RS K H ρ σ ∧ Abs K w h H ∧ g d ρ h Q0 ∧ ∀ ρ' h' σ' H', Q0 ρ' h' → Kp H H' → RS K H' ρ' σ' → Abs K w h' H' → Sm sl σ σ' → Q σ' H'
def tGs (K : PySem.W.Frag) (w : World) (sl : List Nat) (g : DGs) : TGs := fun vs σ H Q => ∃ ds ρ h Q0, RvL K H ds vs ∧ RS K H ρ σ ∧ Abs K w h H ∧ g ds ρ h Q0 ∧ ∀ ρ' h' σ' H', Q0 ρ' h' → Kp H H' → RS K H' ρ' σ' → Abs K w h' H' → Sm sl σ σ' → Q σ' H'
abbrev GE (X : Cx) (e : Expr) (f : DE) : Prop := PE X e (tE X.K X.w f)
abbrev GT (X : Cx) (e : Expr) (f : DT) : Prop := PT X e (tT X.K X.w f)
abbrev GW (X : Cx) (e : Expr) (f : DT) : Prop := PW X e (tT X.K X.w f)
abbrev GA (X : Cx) (es : List Expr) (f : DA) : Prop := PA X es (tA X.K X.w f)
abbrev GS (X : Cx) (st : Stmt) (f : DS) : Prop := PS X st (tS X.K X.w f)
abbrev GSs (X : Cx) (st : List Stmt) (f : DS) : Prop := PSs X st (tS X.K X.w f)
abbrev GG (X : Cx) (tg : Expr) (sl : List Nat) (g : DG) : Prop := PG X tg (tG X.K X.w sl g)
abbrev GGs (X : Cx) (tgs : List Expr) (sl : List Nat) (g : DGs) : Prop := PGs X tgs (tGs X.K X.w sl g)
theorem pe_imp {X : Cx} {e : Expr} {t t' : TE} (h : PE X e t) (f : ∀ σ H Q, t' σ H Q → t σ H Q) : PE X e t' := ⟨fun pins s σ H Q I q => h.run pins s σ H Q I (f _ _ _ q)⟩
theorem pt_imp {X : Cx} {e : Expr} {t t' : TT} (h : PT X e t) (f : ∀ σ H Q, t' σ H Q → t σ H Q) : PT X e t' := ⟨fun pins s σ H Q I q => h.run pins s σ H Q I (f _ _ _ q)⟩
theorem pw_imp {X : Cx} {e : Expr} {t t' : TT} (h : PW X e t) (f : ∀ σ H Q, t' σ H Q → t σ H Q) : PW X e t' := ⟨fun w pins s σ H Q I q => h.run w pins s σ H Q I (f _ _ _ q)⟩
theorem pa_imp {X : Cx} {e : List Expr} {t t' : TA} (h : PA X e t) (f : ∀ σ H Q, t' σ H Q → t σ H Q) : PA X e t' := ⟨fun p pins s σ H Q I q => h.run p pins s σ H Q I (f _ _ _ q)⟩
theorem ps_imp {X : Cx} {e : Stmt} {t t' : TS} (h : PS X e t) (f : ∀ D σ H, t' D σ H → t D σ H) : PS X e t' := ⟨fun pins s σ H D I q => h.run pins s σ H D I (f _ _ _ q)⟩
theorem pss_imp {X : Cx} {e : List Stmt} {t t' : TS} (h : PSs X e t) (f : ∀ D σ H, t' D σ H → t D σ H) : PSs X e t' := ⟨fun pins s σ H D I q => h.run pins s σ H D I (f _ _ _ q)⟩
section
variable {X : Cx} {e : Expr} {tg : Expr} {pos : Pos}
theorem ge_var (i : Nat) {x : Str} (hN : X.N[i]? = some x := by rfl) (hv : Vis X.env.scope x := by first | exact Or.inl rfl | exact Or.inr (Or.inl rfl) | exact Or.inr (Or.inr rfl)) (hd : (x == ("__debug__" : Str)) = false := by decide)
    (hcd : (x == ("__classdict__" : Str)) = false := by decide) : GE X (.Name x pos) (dVar i) :=
  pe_imp (pv i hN hv hd hcd) fun σ H Q ⟨ρ, h, Q0, R, A, q, k⟩ => by
    unfold dVar onV at q
    split at q
    · rename_i d e
      obtain ⟨v, e1, r⟩ := R.2 i d e
      exact ⟨v, e1, k _ _ _ _ q (Kp.refl _) r A⟩
    · exact q.elim
theorem ge_c {d : D} {v : V} (h : PE X e (tC v)) (r : ∀ H, Rv X.K H d v) : GE X e (dC d) :=
  pe_imp h fun σ H Q ⟨ρ, h, Q0, R, A, q, k⟩ => k _ _ _ _ q (Kp.refl _) (r H) A
theorem ge_int {i : Int} {j pos} : GE X (.Constant (.int i) j pos) (dInt i) := ge_c pe_int fun _ => .int _
theorem ge_bl {b j pos} : GE X (.Constant (.bool b) j pos) (dBl b) := ge_c pe_bl fun _ => .bl _
theorem ge_non {j pos} : GE X (.Constant .none j pos) dNon := ge_c pe_non fun _ => .non
theorem ge_str {x : String} {j pos} (ok : okS (Str.ofString x) := by unfold okS; decide) : GE X (.Constant (.str x) j pos) (dStr (Str.ofString x)) := ge_c pe_str fun _ => .str _ ok
theorem ga_nil : GA X [] daNil := pa_imp pa_nil fun σ H Q ⟨ρ, h, Q0, R, A, q, k⟩ => k _ _ _ _ q (Kp.refl _) .nil A
theorem ga_cons {es : List Expr} {f : DE} {g : DA} (ha : GE X e f) (hr : GA X es g) (hs : starEach (e :: es) X.env = (false, eval e X.env) :: starEach es X.env := by rfl) : GA X (e :: es) (daCons f g) :=
  pa_imp (pa_cons ha hr hs) fun σ H Q ⟨ρ, h, Q0, R, A, q, k⟩ =>
    ⟨ρ, h, _, R, A, q, fun d h1 v H1 q1 k1 r1 A1 => ⟨ρ, h1, _, R.kp k1, A1, q1, fun ds h2 vs H2 q2 k2 r2 A2 => k _ _ _ _ q2 (k1.trans k2) (.cons (r1.kp k2) r2) A2⟩⟩
theorem ge_tup {es : List Expr} {x1} {f : DA} (h : GA X es f) : GE X (.Tuple es x1 pos) (dTup f) :=
  pe_imp (pe_tup h) fun σ H Q ⟨ρ, h, Q0, R, A, q, k⟩ =>
    ⟨ρ, h, _, R, A, q, fun ds h1 vs H1 ⟨z, q1⟩ k1 r1 A1 => ⟨by rw [← r1.length, sz_eq]; exact z, fun p n =>
      k _ _ _ _ q1 (k1.trans (Kp.new n)) (.tup (SqT.of upd_same) (r1.kp (Kp.new n))) (A1.newH n)⟩⟩
theorem newL_ok {ds : List D} {vs : List V} {h : AH} {H H1 : Hp} {Q0 : KD} {Q : VK} {K : PySem.W.Frag} {w : World} {p : Addr} (q : newL ds h Q0) (A : Abs K w h H1) (r : RvL K H1 ds vs) (n : H1 p = none) (k1 : Kp H H1) (k : KQ K w H Q0 Q) : Q (.ref p) (upd H1 p (.lst vs)) :=
  k _ _ _ _ (q.go p (A.nil n)) (k1.trans (Kp.new n)) (.ref p) (A.new (o := .lst ds) n ⟨vs, upd_same, r.kp (Kp.new n)⟩)
theorem ge_lst {es : List Expr} {f : DA} (h : GA X es f) : GE X (.List es pos) (dLst f) :=
  pe_imp (pe_lst h) fun σ H Q ⟨ρ, h, Q0, R, A, q, k⟩ =>
    ⟨ρ, h, _, R, A, q, fun ds h1 vs H1 ⟨z, q1⟩ k1 r1 A1 => ⟨by rw [← r1.length, sz_eq]; exact z, fun p n => newL_ok q1 A1 r1 n k1 k⟩⟩
/-- f of the domain is enough for r of the hand layer -/
def R2ok (K : PySem.W.Frag) (w : World) (f : D → D → AH → KD → Prop) : R2 := fun x y H Q => ∃ d e h Q0, Rv K H d x ∧ Rv K H e y ∧ Abs K w h H ∧ f d e h Q0 ∧ KQ K w H Q0 Q
abbrev GO (X : Cx) (op : Operator) (f : D → D → AH → KD → Prop) : Prop := OpR X (binaryOp op) (R2ok X.K X.w f)
abbrev GC (X : Cx) (op : CmpOp) (f : D → D → AH → KD → Prop) : Prop := OpR X (compareOp op) (R2ok X.K X.w f)
theorem KQ.kp {K : PySem.W.Frag} {w : World} {H H1 : Hp} {Q0 : KD} {Q : VK} (k : Kp H H1) (x : KQ K w H Q0 Q) : KQ K w H1 Q0 Q := fun d h v H' a b => x d h v H' a (k.trans b)
theorem d2_ok {K : PySem.W.Frag} {w : World} {f : D → D → AH → KD → Prop} {a b : DE} {σ : L2.St} {H : Hp} {Q : VK} (x : tE K w (d2 f a b) σ H Q) : tOp (R2ok K w f) (tE K w a) (tE K w b) σ H Q := by
  obtain ⟨ρ, h, Q0, R, A, q, k⟩ := x
  exact ⟨ρ, h, _, R, A, q, fun d h1 v H1 q1 k1 r1 A1 => ⟨ρ, h1, _, R.kp k1, A1, q1, fun e h2 u H2 q2 k2 r2 A2 => ⟨d, e, h2, Q0, r1.kp k2, r2, A2, q2, k.kp (k1.trans k2)⟩⟩⟩
theorem ge_op {op : Operator} {a b : Expr} {f : D → D → AH → KD → Prop} {fa fb : DE} (ho : GO X op f) (ha : GE X a fa) (hb : GE X b fb) : GE X (.BinOp a op b pos) (d2 f fa fb) :=
  pe_imp (pe_op ho ha hb) fun _ _ _ x => d2_ok x
theorem ge_cmp {op : CmpOp} {a b : Expr} {f : D → D → AH → KD → Prop} {fa fb : DE} (ho : GC X op f) (ha : GE X a fa) (hb : GE X b fb) (hm : behindInMarks op b = false := by first | exact nobehind _ (by decide) (by decide) | rfl) : GE X (.Compare a [op] [b] pos) (d2 f fa fb) :=
  pe_imp (pe_cmpR ho ha hb hm) fun _ _ _ x => d2_ok x
/-- from int rules -/
theorem op_use {f : Value → Value → Sem Value} {r : R2} {g : D → D → AH → KD → Prop} (ho : OpR X f r) (h : ∀ x y H Q, R2ok X.K X.w g x y H Q → r x y H Q) : OpR X f (R2ok X.K X.w g) :=
  fun pins s σ H x y v u Q I rx ry q => ho pins s σ H x y v u Q I rx ry (h _ _ _ _ q)
end
end G
end
section
set_option Elab.async false
set_option linter.all false
set_option maxRecDepth 100000
set_option maxHeartbeats 4000000
namespace G
open PySem PySem.Spec PyProof.Rows L2
variable [Tb]
section
variable {X : Cx}
theorem go_add : GO X .Add oAdd := fun pins s σ H x y v u Q I rx ry ⟨d, e, h, Q0, rd, re, A, q, k⟩ => by
  cases d with
  | int i =>
    cases e with
    | int j =>
      cases rd; cases re
      exact op_add pins s σ H _ _ v u Q I rx ry ⟨i, j, rfl, rfl, k _ _ _ _ q (Kp.refl _) (.int _) A⟩
    | _ => exact q.elim
  | str i =>
    cases e with
    | str j =>
      obtain ⟨z, q⟩ := q
      cases rd; cases re
      exact op_add_str pins s σ H _ _ v u Q I rx ry ⟨i, j, rfl, rfl, by rw [sz_eq]; exact z, k _ _ _ _ q (Kp.refl _) (.str _ (by
        show (i ++ j).length ≤ sizeLine
        have e : (i ++ j).length = i.length + j.length := by
          show (Str.append i j).length = _
          simp [Str.append, Str.length]
        rw [e, sz_eq]; exact z)) A⟩
    | _ => exact q.elim
  | tup ds =>
    cases e with
    | tup es =>
      obtain ⟨z, q⟩ := q
      cases rd with
      | tup h1 r1 =>
      cases re with
      | tup h2 r2 =>
      have l1 := r1.length
      have l2 := r2.length
      refine op_catA pins s σ H _ _ v u Q I rx ry ⟨_, _, _, _, rfl, rfl, h1, h2, by rw [sz_eq]; omega, fun e => ?_, fun e1 e2 => ?_, fun e1 e2 p n => ?_⟩
      · subst e
        have : ds = [] := List.eq_nil_of_length_eq_zero l1
        subst this
        exact k _ _ _ _ q (Kp.refl _) (.tup h2 r2) A
      · subst e2
        have : es = [] := List.eq_nil_of_length_eq_zero l2
        subst this
        rw [List.append_nil] at q
        exact k _ _ _ _ q (Kp.refl _) (.tup h1 r1) A
      · exact k _ _ _ _ q (Kp.new n) (.tup (SqT.of upd_same) ((r1.append r2).kp (Kp.new n))) (A.newH n)
    | _ => exact q.elim
  | ref a =>
    cases e with
    | ref b =>
      cases rd; cases re
      dsimp only [oAdd] at q
      unfold addR at q
      split at q
      · rename_i xs ys ea eb
        obtain ⟨z, q⟩ := q
        obtain ⟨vs, e1, r1⟩ := A a _ ea
        obtain ⟨us, e2, r2⟩ := A b _ eb
        have l1 := r1.length
        have l2 := r2.length
        exact op_cat pins s σ H _ _ v u Q I rx ry ⟨a, b, vs, us, rfl, rfl, e1, e2, by rw [sz_eq]; omega, fun p n => newL_ok q A (r1.append r2) n (Kp.refl _) k⟩
      · exact q.elim
    | _ => exact q.elim
  | _ => exact q.elim
theorem go_sub : GO X .Sub oSub := op_use op_sub fun x y H Q ⟨d, e, h, Q0, rd, re, A, q, k⟩ => by
  cases d <;> cases e <;> first | exact q.elim | skip
  cases rd; cases re
  exact ⟨_, _, rfl, rfl, k _ _ _ _ q (Kp.refl _) (.int _) A⟩
theorem rvL_rep {K : PySem.W.Frag} {H : Hp} {ds : List D} {vs : List V} (r : RvL K H ds vs) : ∀ n : Nat, RvL K H (List.replicate n ds).flatten (List.replicate n vs).flatten
  | 0 => .nil
  | n + 1 => by
    rw [List.replicate_succ, List.replicate_succ, List.flatten_cons, List.flatten_cons]
    exact r.append (rvL_rep r n)
theorem go_mul : GO X .Mult oMul := fun pins s σ H x y v u Q I rx ry ⟨d, e, h, Q0, rd, re, A, q, k⟩ => by
  cases d with
  | int i =>
    cases e with
    | int j =>
      cases rd; cases re
      obtain ⟨c | c | c, q⟩ := q
      · exact op_mul pins s σ H _ _ v u Q I rx ry ⟨_, _, rfl, rfl, .inl c, k _ _ _ _ q (Kp.refl _) (.int _) A⟩
      · exact op_mul pins s σ H _ _ v u Q I rx ry ⟨_, _, rfl, rfl, .inr c, k _ _ _ _ q (Kp.refl _) (.int _) A⟩
      · exact op_mulW pins s σ H _ _ v u Q I rx ry ⟨_, _, rfl, rfl, wide_mul c.1 c.2 (by decide) (by decide) (by decide), k _ _ _ _ q (Kp.refl _) (.int _) A⟩
    | _ => exact q.elim
  | ref a =>
    cases e with
    | int j =>
      cases rd; cases re
      dsimp only [oMul] at q
      unfold mulR at q
      split at q
      · rename_i xs ea
        obtain ⟨⟨b1, b2⟩, z, q⟩ := q
        obtain ⟨vs, e1, r1⟩ := A a _ ea
        have l1 := r1.length
        exact op_rep pins s σ H _ _ v u Q I rx ry ⟨a, j, vs, rfl, rfl, e1, by omega, by omega, by rw [sz_eq, ← l1]; exact z, fun p n => newL_ok q A (rvL_rep r1 _) n (Kp.refl _) k⟩
      · exact q.elim
    | _ => exact q.elim
  | _ => exact q.elim
theorem big_le : (2 : Int) ^ 64 ≤ 2 ^ 8000 := by
  have h : (2 : Nat) ^ 64 ≤ 2 ^ 8000 := Nat.pow_le_pow_right (by decide) (by decide)
  exact_mod_cast h
theorem div_lt {j : Int} (c : 0 < j) (c2 : j < 2 ^ 8000) : j.natAbs < 2 ^ 8000 := by
  have h1 : (j.natAbs : Int) = j := Int.natAbs_of_nonneg (Int.le_of_lt c)
  have h2 : (j.natAbs : Int) < ((2 ^ 8000 : Nat) : Int) := by
    rw [h1, Int.natCast_pow]
    exact c2
  exact Int.ofNat_lt.mp h2
theorem go_div : GO X .FloorDiv oDiv := op_use op_fdivW fun x y H Q ⟨d, e, h, Q0, rd, re, A, q, k⟩ => by
  cases d <;> cases e <;> first | exact q.elim | skip
  cases rd; cases re
  obtain ⟨c, c2, q⟩ := q
  refine ⟨_, _, rfl, rfl, wide_div (b := 8000) c (div_lt c (Int.lt_of_lt_of_le c2 big_le)) (by decide) (by decide), k _ _ _ _ q (Kp.refl _) (.int _) A⟩
theorem go_mod : GO X .Mod oMod := op_use op_mod fun x y H Q ⟨d, e, h, Q0, rd, re, A, q, k⟩ => by
  cases d <;> cases e <;> first | exact q.elim | skip
  cases rd; cases re
  obtain ⟨c, q⟩ := q
  exact ⟨_, _, rfl, rfl, c, k _ _ _ _ q (Kp.refl _) (.int _) A⟩
theorem go_pow : GO X .Pow oPow := op_use op_pow fun x y H Q ⟨d, e, h, Q0, rd, re, A, q, k⟩ => by
  cases d <;> cases e <;> first | exact q.elim | skip
  cases rd; cases re
  obtain ⟨c1, c2, c3, q⟩ := q
  exact ⟨_, _, rfl, rfl, ⟨c1, c2, c3⟩, k _ _ _ _ q (Kp.refl _) (.int _) A⟩
mutual
/-- the library's datum of data by value -/
def tp : D → PyData
  | .bl b => .bool b
  | .int i => .int i
  | .str x => .str x
  | .tup ds => .tuple (tpL ds)
  | .rl ds => .list (tpL ds)
  | _ => .none
def tpL : List D → List PyData
  | [] => []
  | d :: ds => tp d :: tpL ds
end
theorem tpL_map : ∀ ds : List D, tpL ds = ds.map tp
  | [] => rfl
  | d :: ds => by rw [tpL, tpL_map ds]; rfl
theorem mapO_some {α β : Type} {f : α → Option β} : ∀ {xs : List α} {ys : List β}, mapO f xs = some ys → Paired (fun x y => f x = some y) xs ys
  | [], ys, h => by unfold mapO at h; cases h; exact .nil
  | x :: xs, ys, h => by
    unfold mapO at h
    split at h
    · rename_i e es h1 h2
      cases h
      exact .cons h1 (mapO_some h2)
    · cases h
section
variable {pins : List (Addr × Obj)} {σ : L2.St} {H : Hp} {s : Shared} {h : AH}
theorem reads_list {f : D → Option D} (ih : ∀ d d' v u, f d = some d' → Rv X.K H d v → RelV v u → ∃ as, Reads s.heap u (tp d') as) : ∀ {ds ds' : List D} {vs : List V} {us : List Value}, mapO f ds = some ds' → RvL X.K H ds vs → Vals vs us → ∃ as, ReadsAll s.heap us (tpL ds') as
  | [], _, _, _, e, r, r2 => by
    unfold mapO at e; cases e
    cases r; cases r2
    exact ⟨[], .nil⟩
  | d :: ds, ds', _, _, e, r, r2 => by
    unfold mapO at e
    split at e
    · rename_i e1 es h1 h2
      cases e
      cases r with
      | cons ra rb =>
        cases r2 with
        | cons sa sb =>
          obtain ⟨as, q1⟩ := ih _ _ _ _ h1 ra sa
          obtain ⟨bs, q2⟩ := reads_list ih h2 rb sb
          exact ⟨as ++ bs, .cons q1 q2⟩
    · cases e
theorem reads (I : Inv X pins σ H s) (A : Abs X.K X.w h H) : ∀ (n : Nat) (d d' : D) (v : V) (u : Value), rei h n d = some d' → Rv X.K H d v → RelV v u → ∃ as, Reads s.heap u (tp d') as := by
  intro n
  induction n with
  | zero =>
    intro d d' v u e r r2
    cases d <;> simp [rei] at e
    all_goals (subst e; cases r)
    · cases r2; exact ⟨_, .none⟩
    · cases r2; exact ⟨_, .bool _⟩
    · obtain ⟨t, rfl⟩ := r2; exact ⟨_, .int _ t⟩
    · obtain ⟨t, rfl⟩ := r2; exact ⟨_, .str _ t⟩
  | succ n ih =>
    intro d d' v u e r r2
    cases d with
    | non => simp [rei] at e; subst e; cases r; cases r2; exact ⟨_, .none⟩
    | bl b => simp [rei] at e; subst e; cases r; cases r2; exact ⟨_, .bool _⟩
    | int i => simp [rei] at e; subst e; cases r; obtain ⟨t, rfl⟩ := r2; exact ⟨_, .int _ t⟩
    | str x => simp [rei] at e; subst e; cases r; obtain ⟨t, rfl⟩ := r2; exact ⟨_, .str _ t⟩
    | tup ds =>
      simp only [rei, Option.map_eq_some_iff] at e
      obtain ⟨ds', e, rfl⟩ := e
      cases r with
      | tup h1 h2 =>
        cases r2
        obtain ⟨its, rv, ⟨o, ho, hc, m, hd⟩, _⟩ := I.tuple h1
        obtain ⟨as, hr⟩ := reads_list (fun d d' v u => ih d d' v u) e h2 rv
        exact ⟨_, Reads.tuple ho hc hd hr⟩
    | rl ds =>
      simp only [rei, Option.map_eq_some_iff] at e
      obtain ⟨ds', e, rfl⟩ := e
      cases r with
      | rl h1 h2 =>
        cases r2
        obtain ⟨its, rv, ⟨o, m, ho, hc, _, hd⟩, _⟩ := I.list h1.sq
        obtain ⟨as, hr⟩ := reads_list (fun d d' v u => ih d d' v u) e h2 rv
        exact ⟨_, Reads.list ho hc hd hr⟩
    | ref a =>
      simp only [rei] at e
      split at e
      · rename_i ds ea
        simp only [Option.map_eq_some_iff] at e
        obtain ⟨ds', e, rfl⟩ := e
        cases r; cases r2
        obtain ⟨vs, q1, q2⟩ := A a _ ea
        obtain ⟨its, rv, ⟨o, m, ho, hc, _, hd⟩, _⟩ := I.list (SqL.of q1)
        obtain ⟨as, hr⟩ := reads_list (fun d d' v u => ih d d' v u) e q2 rv
        exact ⟨_, Reads.list ho hc hd hr⟩
      · cases e
    | rd _ _ => simp [rei] at e
end
/-- what is put by value has no address, and is as deep as told -/
inductive Dn : Nat → D → Prop
  | non (n) : Dn n .non
  | bl (n b) : Dn n (.bl b)
  | int (n i) : Dn n (.int i)
  | str (n x) : Dn n (.str x)
  | tup {n ds} : (∀ d ∈ ds, Dn n d) → Dn (n + 1) (.tup ds)
  | rl {n ds} : (∀ d ∈ ds, Dn n d) → Dn (n + 1) (.rl ds)
theorem pMem {α β : Type} {F : α → β → Prop} : ∀ {xs : List α} {ys : List β}, Paired F xs ys → ∀ y ∈ ys, ∃ x ∈ xs, F x y
  | _, _, .nil, y, h => by cases h
  | _, _, .cons r t, y, h => by
    rcases List.mem_cons.mp h with rfl | h
    · exact ⟨_, List.mem_cons_self, r⟩
    · obtain ⟨x, hx, q⟩ := pMem t y h
      exact ⟨x, List.mem_cons_of_mem _ hx, q⟩
theorem rei_dn {h : AH} : ∀ (n : Nat) (d d' : D), rei h n d = some d' → Dn n d' := by
  intro n
  induction n with
  | zero => intro d d' e; cases d <;> simp [rei] at e <;> subst e <;> constructor
  | succ n ih =>
    intro d d' e
    cases d with
    | tup ds =>
      simp only [rei, Option.map_eq_some_iff] at e
      obtain ⟨ds', e, rfl⟩ := e
      exact .tup fun y hy => let ⟨x, _, q⟩ := pMem (mapO_some e) y hy; ih _ _ q
    | rl ds =>
      simp only [rei, Option.map_eq_some_iff] at e
      obtain ⟨ds', e, rfl⟩ := e
      exact .rl fun y hy => let ⟨x, _, q⟩ := pMem (mapO_some e) y hy; ih _ _ q
    | ref a =>
      simp only [rei] at e
      split at e
      · simp only [Option.map_eq_some_iff] at e
        obtain ⟨ds', e, rfl⟩ := e
        exact .rl fun y hy => let ⟨x, _, q⟩ := pMem (mapO_some e) y hy; ih _ _ q
      · cases e
    | _ => simp [rei] at e <;> subst e <;> constructor
theorem depthAll_le {n : Nat} : ∀ {ps : List PyData}, (∀ p ∈ ps, p.depth ≤ n) → PyData.depthAll ps ≤ n
  | [], _ => Nat.zero_le _
  | p :: ps, h => by
    rw [PyData.depthAll]
    exact Nat.max_le.mpr ⟨h p List.mem_cons_self, depthAll_le fun q hq => h q (List.mem_cons_of_mem _ hq)⟩
theorem plainAll_of : ∀ {ps : List PyData}, (∀ p ∈ ps, p.plain = true) → PyData.plainAll ps = true
  | [], _ => by simp [PyData.plainAll]
  | p :: ps, h => by
    rw [PyData.plainAll, h p List.mem_cons_self, plainAll_of fun q hq => h q (List.mem_cons_of_mem _ hq)]; rfl
theorem Dn.tp : ∀ {n : Nat} {d : D}, Dn n d → (G.tp d).depth ≤ n ∧ (G.tp d).plain = true := by
  intro n d x
  induction x with
  | non => simp [G.tp, PyData.depth, PyData.plain]
  | bl => simp [G.tp, PyData.depth, PyData.plain]
  | int => simp [G.tp, PyData.depth, PyData.plain]
  | str => simp [G.tp, PyData.depth, PyData.plain]
  | tup hs ih =>
    rw [G.tp, tpL_map, PyData.depth, PyData.plain]
    exact ⟨Nat.succ_le_succ (depthAll_le fun p hp => let ⟨d, hd, e⟩ := List.mem_map.mp hp; e ▸ (ih d hd).1), plainAll_of fun p hp => let ⟨d, hd, e⟩ := List.mem_map.mp hp; e ▸ (ih d hd).2⟩
  | rl hs ih =>
    rw [G.tp, tpL_map, PyData.depth, PyData.plain]
    exact ⟨Nat.succ_le_succ (depthAll_le fun p hp => let ⟨d, hd, e⟩ := List.mem_map.mp hp; e ▸ (ih d hd).1), plainAll_of fun p hp => let ⟨d, hd, e⟩ := List.mem_map.mp hp; e ▸ (ih d hd).2⟩
mutual
theorem eqv_tp : ∀ (x y : D) (n m : Nat), Dn n x → Dn m y → PyData.eqv (tp x) (tp y) = deqv x y
  | .non, y, n, m, hx, hy => by cases y <;> first | (cases hy; done) | simp [tp, deqv, PyData.eqv]
  | .bl a, y, n, m, hx, hy => by cases y <;> first | (cases hy; done) | simp [tp, deqv, PyData.eqv]
  | .int a, y, n, m, hx, hy => by cases y <;> first | (cases hy; done) | simp [tp, deqv, PyData.eqv]
  | .str a, y, n, m, hx, hy => by cases y <;> first | (cases hy; done) | simp [tp, deqv, PyData.eqv]
  | .tup a, y, n, m, hx, hy => by
    cases y <;> first | (cases hy; done) | (simp [tp, deqv, PyData.eqv]; done) | skip
    rw [tp, tp, deqv, PyData.eqv]
    cases hx with
    | tup h1 =>
      cases hy with
      | tup h2 => exact eqv_tpL _ _ _ _ h1 h2
  | .rl a, y, n, m, hx, hy => by
    cases y <;> first | (cases hy; done) | (simp [tp, deqv, PyData.eqv]; done) | skip
    rw [tp, tp, deqv, PyData.eqv]
    cases hx with
    | rl h1 =>
      cases hy with
      | rl h2 => exact eqv_tpL _ _ _ _ h1 h2
  | .rd _ _, y, n, m, hx, hy => by cases hx
  | .ref _, y, n, m, hx, hy => by cases hx
theorem eqv_tpL : ∀ (x y : List D) (n m : Nat), (∀ d ∈ x, Dn n d) → (∀ d ∈ y, Dn m d) → PyData.eqvAll (tpL x) (tpL y) = deqvL x y
  | [], [], _, _, _, _ => by simp [tpL, deqvL, PyData.eqvAll]
  | [], _ :: _, _, _, _, _ => by simp [tpL, deqvL, PyData.eqvAll]
  | _ :: _, [], _, _, _, _ => by simp [tpL, deqvL, PyData.eqvAll]
  | x :: xs, y :: ys, n, m, h1, h2 => by
    rw [tpL, tpL, deqvL, PyData.eqvAll, eqv_tp x y n m (h1 x List.mem_cons_self) (h2 y List.mem_cons_self), eqv_tpL xs ys n m (fun d hd => h1 d (List.mem_cons_of_mem _ hd)) (fun d hd => h2 d (List.mem_cons_of_mem _ hd))]
end
end
end G
end
section
set_option Elab.async false
set_option linter.all false
set_option maxRecDepth 100000
set_option maxHeartbeats 4000000
namespace G
open PySem PySem.Spec PyProof.Rows L2
variable [Tb]
section
variable {X : Cx}
mutual
theorem dat_dn : ∀ (n : Nat) (d : D), dat n d = true → Dn n d
  | n, .non, _ => .non n
  | n, .bl b, _ => .bl n b
  | n, .int i, _ => .int n i
  | n, .str x, _ => .str n x
  | n + 1, .tup ds, h => .tup (datL_dn n ds (by simpa [dat] using h))
  | 0, .tup ds, h => by simp [dat] at h
  | n, .rl ds, h => by cases n <;> simp [dat] at h
  | n, .rd _ _, h => by cases n <;> simp [dat] at h
  | n, .ref _, h => by cases n <;> simp [dat] at h
theorem datL_dn : ∀ (n : Nat) (ds : List D), datL n ds = true → ∀ d ∈ ds, Dn n d
  | n, [], _, d, h => by cases h
  | n, x :: xs, h, d, hd => by
    rw [datL, Bool.and_eq_true] at h
    rcases List.mem_cons.mp hd with e | hd
    · rw [e]; exact dat_dn n x h.1
    · exact datL_dn n xs h.2 d hd
end
mutual
theorem rei_dat {h : AH} : ∀ (n : Nat) (d : D), dat n d = true → rei h n d = some d
  | n, .non, _ => by cases n <;> rfl
  | n, .bl b, _ => by cases n <;> rfl
  | n, .int i, _ => by cases n <;> rfl
  | n, .str x, _ => by cases n <;> rfl
  | n + 1, .tup ds, q => by rw [rei, mapO_dat n ds (by simpa [dat] using q)]; rfl
  | 0, .tup ds, h => by simp [dat] at h
  | n, .rl ds, h => by cases n <;> simp [dat] at h
  | n, .rd _ _, h => by cases n <;> simp [dat] at h
  | n, .ref _, h => by cases n <;> simp [dat] at h
theorem mapO_dat {h : AH} : ∀ (n : Nat) (ds : List D), datL n ds = true → mapO (rei h n) ds = some ds
  | n, [], _ => rfl
  | n, x :: xs, q => by
    rw [datL, Bool.and_eq_true] at q
    rw [mapO, rei_dat n x q.1, mapO_dat n xs q.2]
end
mutual
theorem alike_tp : ∀ (x y : D) (n m : Nat), Dn n x → Dn m y → alk x y = true → PySem.W.alike (tp x) (tp y) = true
  | .non, y, n, m, hx, hy, h => by cases y <;> first | (cases hy; done) | simp_all [tp, alk, PySem.W.alike]
  | .bl a, y, n, m, hx, hy, h => by cases y <;> first | (cases hy; done) | simp_all [tp, alk, PySem.W.alike]
  | .int a, y, n, m, hx, hy, h => by cases y <;> first | (cases hy; done) | simp_all [tp, alk, PySem.W.alike]
  | .str a, y, n, m, hx, hy, h => by cases y <;> first | (cases hy; done) | simp_all [tp, alk, PySem.W.alike]
  | .tup a, y, n, m, hx, hy, h => by
    cases y <;> first | (simp [alk] at h; done) | skip
    rw [tp, tp, PySem.W.alike]
    cases hx with
    | tup h1 =>
      cases hy with
      | tup h2 => exact alike_tpL _ _ _ _ h1 h2 (by simpa [alk] using h)
  | .rl a, y, n, m, hx, hy, h => by cases y <;> simp [alk] at h
  | .rd _ _, y, n, m, hx, hy, h => by cases hx
  | .ref _, y, n, m, hx, hy, h => by cases hx
theorem alike_tpL : ∀ (x y : List D) (n m : Nat), (∀ d ∈ x, Dn n d) → (∀ d ∈ y, Dn m d) → alkL x y = true → PySem.W.alikeAll (tpL x) (tpL y) = true
  | [], [], _, _, _, _, _ => by simp [tpL, PySem.W.alikeAll]
  | [], _ :: _, _, _, _, _, _ => by simp [tpL, PySem.W.alikeAll]
  | _ :: _, [], _, _, _, _, _ => by simp [tpL, PySem.W.alikeAll]
  | x :: xs, y :: ys, n, m, h1, h2, h => by
    rw [alkL, Bool.and_eq_true] at h
    rw [tpL, tpL, PySem.W.alikeAll, alike_tp x y n m (h1 x List.mem_cons_self) (h2 y List.mem_cons_self) h.1, alike_tpL xs ys n m (fun d hd => h1 d (List.mem_cons_of_mem _ hd)) (fun d hd => h2 d (List.mem_cons_of_mem _ hd)) h.2]
    rfl
end
mutual
theorem deqv_alk : ∀ (x y : D), alk x y = true → deqv x y = decide (x = y)
  | .non, y, h => by cases y <;> simp_all [alk, deqv]
  | .bl a, y, h => by cases y <;> simp_all [alk, deqv, Bool.beq_eq_decide_eq]
  | .int a, y, h => by cases y <;> simp_all [alk, deqv, Bool.beq_eq_decide_eq]
  | .str a, y, h => by cases y <;> simp_all [alk, deqv, Bool.beq_eq_decide_eq]
  | .tup a, y, h => by
    cases y <;> first | (simp [alk] at h; done) | skip
    rw [deqv, deqvL_alk _ _ (by simpa [alk] using h)]
    simp
  | .rl a, y, h => by cases y <;> simp [alk] at h
  | .rd _ _, y, h => by cases y <;> simp [alk] at h
  | .ref _, y, h => by cases y <;> simp [alk] at h
theorem deqvL_alk : ∀ (x y : List D), alkL x y = true → deqvL x y = decide (x = y)
  | [], [], _ => by simp [deqvL]
  | [], _ :: _, _ => by simp [deqvL]
  | _ :: _, [], _ => by simp [deqvL]
  | x :: xs, y :: ys, h => by
    rw [alkL, Bool.and_eq_true] at h
    rw [deqvL, deqv_alk x y h.1, deqvL_alk xs ys h.2]
    by_cases e : x = y <;> simp [e]
end
mutual
theorem dlt_tp : ∀ (x y : D) (n m : Nat), Dn n x → Dn m y → alk x y = true → PySem.W.dataLt (tp x) (tp y) = dlt x y
  | .non, y, n, m, hx, hy, h => by
    cases y <;> first | (simp [alk] at h; done) | skip
    rfl
  | .bl a, y, n, m, hx, hy, h => by
    cases y <;> first | (simp [alk] at h; done) | skip
    rename_i b
    rw [tp, tp, PySem.W.dataLt_bool, dlt]
    cases a <;> cases b <;> rfl
  | .int a, y, n, m, hx, hy, h => by
    cases y <;> first | (simp [alk] at h; done) | skip
    rw [tp, tp, PySem.W.dataLt_int, dlt]
  | .str a, y, n, m, hx, hy, h => by
    cases y <;> first | (simp [alk] at h; done) | skip
    rw [tp, tp, PySem.W.dataLt_str, dlt]
  | .tup a, y, n, m, hx, hy, h => by
    cases y <;> first | (simp [alk] at h; done) | skip
    rw [tp, tp, PySem.W.dataLt_tuple, dlt]
    cases hx with
    | tup h1 =>
      cases hy with
      | tup h2 => exact dlt_tpL _ _ _ _ h1 h2 (by simpa [alk] using h)
  | .rl a, y, n, m, hx, hy, h => by cases y <;> simp [alk] at h
  | .rd _ _, y, n, m, hx, hy, h => by cases hx
  | .ref _, y, n, m, hx, hy, h => by cases hx
theorem dlt_tpL : ∀ (x y : List D) (n m : Nat), (∀ d ∈ x, Dn n d) → (∀ d ∈ y, Dn m d) → alkL x y = true → PyProof.Rows.lexLt itemOrd (PySem.W.keyToksAll (tpL x)) (PySem.W.keyToksAll (tpL y)) = dltL x y
  | [], [], _, _, _, _, _ => by simp [tpL, dltL, PySem.W.keyToksAll]; rfl
  | [], _ :: _, _, _, _, _, _ => by simp [tpL, dltL, PySem.W.keyToksAll]; rfl
  | _ :: _, [], _, _, _, _, _ => by simp [tpL, dltL, PySem.W.keyToksAll]; rfl
  | x :: xs, y :: ys, n, m, h1, h2, h => by
    rw [alkL, Bool.and_eq_true] at h
    have a1 := h1 x List.mem_cons_self
    have a2 := h2 y List.mem_cons_self
    have al := alike_tp x y n m a1 a2 h.1
    have ev := (eqv_tp x y n m a1 a2).trans (deqv_alk x y h.1)
    have ih := dlt_tpL xs ys n m (fun d hd => h1 d (List.mem_cons_of_mem _ hd)) (fun d hd => h2 d (List.mem_cons_of_mem _ hd)) h.2
    have ix := dlt_tp x y n m a1 a2 h.1
    rw [tpL, tpL, dltL]
    by_cases e : x = y
    · subst e
      rw [PySem.W.dataLt_all_yes al (by rw [ev]; simp), ih]
      have : dlt x x = false := by
        rw [← ix]
        exact PyProof.Rows.lex_irrefl _
      simp [this]
    · rw [PySem.W.dataLt_all_no al (by rw [ev]; simp [e]), ix]
      simp [e]
end
theorem lt_ok {P : Bool → Prop} {d e : D} (q : oLtB d e P) : dat 13 d = true ∧ dat 13 e = true ∧ alk d e = true ∧ d ≠ .non ∧ e ≠ .non ∧ P (dlt d e) := by
  cases d with
  | int i =>
    cases e with
    | int j => exact ⟨rfl, rfl, rfl, by simp, by simp, q⟩
    | _ => exact q.elim
  | str i =>
    cases e with
    | str j => exact ⟨rfl, rfl, rfl, by simp, by simp, q⟩
    | _ => exact q.elim
  | tup i =>
    cases e with
    | tup j =>
      obtain ⟨z, d1, d2, q⟩ := q
      exact ⟨by rw [dat]; exact d1, by rw [dat]; exact d2, by rw [alk]; exact z, by simp, by simp, by rw [dlt]; exact q⟩
    | _ => exact q.elim
  | _ => exact q.elim
theorem tp_none {n : Nat} {d : D} (h : Dn n d) (e : d ≠ .non) : tp d ≠ .none := by
  cases h <;> simp [tp] at e ⊢
mutual
theorem alk_comm : ∀ x y : D, alk x y = alk y x
  | .non, y => by cases y <;> rfl
  | .bl a, y => by cases y <;> rfl
  | .int a, y => by cases y <;> rfl
  | .str a, y => by cases y <;> rfl
  | .tup a, y => by
    cases y <;> first | rfl | skip
    rw [alk, alk]; exact alkL_comm _ _
  | .rl a, y => by cases y <;> rfl
  | .rd _ _, y => by cases y <;> rfl
  | .ref _, y => by cases y <;> rfl
theorem alkL_comm : ∀ x y : List D, alkL x y = alkL y x
  | [], [] => rfl
  | [], _ :: _ => rfl
  | _ :: _, [] => rfl
  | x :: xs, y :: ys => by rw [alkL, alkL, alk_comm x y, alkL_comm xs ys]
end
theorem gc_lt (hu : X.A.units + 64 < cLine) : GC X .Lt oLt := fun pins s σ H x y v u Q I rx ry ⟨d, e, h, Q0, rd, re, A, q, k⟩ => by
  obtain ⟨d1, d2, al, n1, n2, q⟩ := lt_ok q
  obtain ⟨as, r1⟩ := reads I A 13 _ _ _ _ (rei_dat 13 _ d1) rd rx
  obtain ⟨bs, r2⟩ := reads I A 13 _ _ _ _ (rei_dat 13 _ d2) re ry
  have m1 := dat_dn _ _ d1
  have m2 := dat_dn _ _ d2
  have b1 := m1.tp.1
  refine PySem.W.lt_data r1 r2 (alike_tp _ _ _ _ m1 m2 al) (tp_none m1 n1) (by omega) ⟨.bl _, H, I, rfl, ?_⟩
  rw [dlt_tp _ _ _ _ m1 m2 al]
  exact k _ _ _ _ q (Kp.refl _) (.bl _) A
theorem gc_gt (hu : X.A.units + 64 < cLine) : GC X .Gt oGt := fun pins s σ H x y v u Q I rx ry ⟨d, e, h, Q0, rd, re, A, q, k⟩ => by
  obtain ⟨d2, d1, al, n2, n1, q⟩ := lt_ok q
  obtain ⟨as, r1⟩ := reads I A 13 _ _ _ _ (rei_dat 13 _ d1) rd rx
  obtain ⟨bs, r2⟩ := reads I A 13 _ _ _ _ (rei_dat 13 _ d2) re ry
  have m1 := dat_dn _ _ d1
  have m2 := dat_dn _ _ d2
  have b1 := m1.tp.1
  refine PySem.W.gt_data r1 r2 (alike_tp _ _ _ _ m1 m2 ((alk_comm _ _).trans al)) (tp_none m1 n1) (by omega) ⟨.bl _, H, I, rfl, ?_⟩
  rw [dlt_tp _ _ _ _ m2 m1 al]
  exact k _ _ _ _ q (Kp.refl _) (.bl _) A
theorem gc_le (hu : X.A.units + 64 < cLine) : GC X .LtE oLe := fun pins s σ H x y v u Q I rx ry ⟨d, e, h, Q0, rd, re, A, q, k⟩ => by
  cases d with
  | int i =>
    cases e with
    | int j =>
      cases rd; cases re
      exact op_le pins s σ H _ _ v u Q I rx ry ⟨i, j, rfl, rfl, k _ _ _ _ q (Kp.refl _) (.bl _) A⟩
    | _ => exact q.elim
  | tup xs =>
    cases e with
    | tup ys =>
      obtain ⟨⟨al, d1, d2⟩, q⟩ := q
      have d1' : dat 13 (.tup xs) = true := by rw [dat]; exact d1
      have d2' : dat 13 (.tup ys) = true := by rw [dat]; exact d2
      have al' : alk (.tup xs) (.tup ys) = true := by rw [alk]; exact al
      obtain ⟨as, r1⟩ := reads I A 13 _ _ _ _ (rei_dat 13 _ d1') rd rx
      obtain ⟨bs, r2⟩ := reads I A 13 _ _ _ _ (rei_dat 13 _ d2') re ry
      have m1 := dat_dn _ _ d1'
      have m2 := dat_dn _ _ d2'
      have b1 := m1.tp.1
      refine PySem.W.le_data r1 r2 (alike_tp _ _ _ _ m1 m2 al') (tp_none m1 (by simp)) (by omega) ⟨.bl _, H, I, rfl, ?_⟩
      rw [dlt_tp _ _ _ _ m2 m1 ((alk_comm _ _).trans al'), dlt]
      exact k _ _ _ _ q (Kp.refl _) (.bl _) A
    | _ => exact q.elim
  | _ => exact q.elim
theorem gc_ge (hu : X.A.units + 64 < cLine) : GC X .GtE oGe := fun pins s σ H x y v u Q I rx ry ⟨d, e, h, Q0, rd, re, A, q, k⟩ => by
  cases d with
  | int i =>
    cases e with
    | int j =>
      cases rd; cases re
      exact op_ge pins s σ H _ _ v u Q I rx ry ⟨i, j, rfl, rfl, k _ _ _ _ q (Kp.refl _) (.bl _) A⟩
    | _ => exact q.elim
  | tup xs =>
    cases e with
    | tup ys =>
      obtain ⟨⟨al, d1, d2⟩, q⟩ := q
      have d1' : dat 13 (.tup xs) = true := by rw [dat]; exact d1
      have d2' : dat 13 (.tup ys) = true := by rw [dat]; exact d2
      have al' : alk (.tup xs) (.tup ys) = true := by rw [alk]; exact al
      obtain ⟨as, r1⟩ := reads I A 13 _ _ _ _ (rei_dat 13 _ d1') rd rx
      obtain ⟨bs, r2⟩ := reads I A 13 _ _ _ _ (rei_dat 13 _ d2') re ry
      have m1 := dat_dn _ _ d1'
      have m2 := dat_dn _ _ d2'
      have b1 := m1.tp.1
      refine PySem.W.ge_data r1 r2 (alike_tp _ _ _ _ m1 m2 al') (tp_none m1 (by simp)) (by omega) ⟨.bl _, H, I, rfl, ?_⟩
      rw [dlt_tp _ _ _ _ m1 m2 al', dlt]
      exact k _ _ _ _ q (Kp.refl _) (.bl _) A
    | _ => exact q.elim
  | _ => exact q.elim
end
end G
end
section
set_option Elab.async false
set_option linter.all false
set_option maxRecDepth 100000
set_option maxHeartbeats 4000000
namespace G
open PySem PySem.Spec PyProof.Rows L2
variable [Tb]
section
variable {X : Cx} {a b c e : Expr} {pos : Pos}
theorem tru_ok' {K : PySem.W.Frag} {w : World} {h : AH} {H : Hp} {d : D} {v : V} {k : Bool} (A : Abs K w h H) (r : Rv K H d v) (t : tru h d = some k) : TruV K v H k := by
  cases r with
  | non => cases t; rfl
  | bl b => cases t; rfl
  | int i => cases t; rfl
  | str x o =>
    cases t
    refine ⟨o, ?_⟩
    by_cases z : x.length = 0
    · rw [z]; rfl
    · have : ((x.length : Int) != 0) = true := by simp; omega
      rw [this]; simp [z]
  | tup h1 h2 =>
    cases t
    refine .inr (.inl ⟨_, h1, ?_⟩)
    cases h2 <;> rfl
  | rl h1 h2 =>
    cases t
    refine .inl ⟨_, h1.sq, ?_⟩
    cases h2 <;> rfl
  | ref a =>
    dsimp only [tru] at t
    split at t
    · rename_i ds e
      cases t
      obtain ⟨vs, e1, r1⟩ := A _ _ e
      refine .inl ⟨_, SqL.of e1, ?_⟩
      cases r1 <;> rfl
    · cases t
theorem gt_val {f : DE} (ha : GE X a f) (he : ∀ whole, isTrue a X.env whole = (do let v ← whole; standAt a.pos; holding [v] (truthy v)) := by intro _; rfl) : GT X a (tV f) :=
  pt_imp (pt_truth ha he) fun σ H Q ⟨ρ, h, Q0, R, A, q, k⟩ => ⟨ρ, h, _, R, A, q, fun d h1 v H1 q1 k1 r1 A1 => by
    cases e : tru h1 d with
    | some t => rw [e] at q1; exact ⟨t, tru_ok' A1 r1 e, k _ _ _ q1 k1 A1⟩
    | none => rw [e] at q1; exact q1.elim⟩
/-- a comparison as a test: what it hands back must be a truth -/
theorem gt_cmp {op : CmpOp} {f : D → D → AH → KD → Prop} {fa fb : DE} (ho : GC X op f) (ha : GE X a fa) (hb : GE X b fb) (hm : behindInMarks op b = false := by first | exact nobehind _ (by decide) (by decide) | rfl) :
    GT X (.Compare a [op] [b] pos) (tQ (d2 f fa fb)) :=
  pt_imp (pt_cmpR ho ha hb hm) fun σ H Q ⟨ρ, h, Q0, R, A, q, k⟩ => d2_ok (f := f) (a := fa) (b := fb) ⟨ρ, h, _, R, A, q, fun d h1 v H1 q1 k1 r1 A1 => by
    cases d with
    | bl b => cases r1; exact ⟨_, rfl, k _ _ _ q1 k1 A1⟩
    | _ => exact q1.elim⟩
theorem gt_not {f : DT} (ha : GT X a f) : GT X (.UnaryOp .Not a pos) (tNot f) :=
  pt_imp (pt_not ha) fun σ H Q ⟨ρ, h, Q0, R, A, q, k⟩ => ⟨ρ, h, _, R, A, q, fun d h1 H1 q1 k1 A1 => k _ _ _ q1 k1 A1⟩
theorem gw_and1 {f : DT} (ha : GT X a f) : GW X (.BoolOp .And [a] pos) f := pw_and1 ha
theorem gw_or1 {f : DT} (ha : GT X a f) : GW X (.BoolOp .Or [a] pos) f := pw_or1 ha
theorem gw_and {rest : List Expr} {f g : DT} (ha : GT X a f) (hb : GW X (.BoolOp .And (b :: rest) pos) g) : GW X (.BoolOp .And (a :: b :: rest) pos) (G.tAnd f g) :=
  pw_imp (pw_and ha hb) fun σ H Q ⟨ρ, h, Q0, R, A, q, k⟩ => ⟨ρ, h, _, R, A, q, fun t h1 H1 q1 k1 A1 => by
    cases t with
    | true => rw [if_pos rfl]; exact ⟨ρ, h1, Q0, R.kp k1, A1, q1, fun t h2 H2 q2 k2 A2 => k _ _ _ q2 (k1.trans k2) A2⟩
    | false => rw [if_neg Bool.false_ne_true]; exact k _ _ _ q1 k1 A1⟩
theorem gw_or {rest : List Expr} {f g : DT} (ha : GT X a f) (hb : GW X (.BoolOp .Or (b :: rest) pos) g) : GW X (.BoolOp .Or (a :: b :: rest) pos) (G.tOr f g) :=
  pw_imp (pw_or ha hb) fun σ H Q ⟨ρ, h, Q0, R, A, q, k⟩ => ⟨ρ, h, _, R, A, q, fun t h1 H1 q1 k1 A1 => by
    cases t with
    | true => rw [if_pos rfl]; exact k _ _ _ q1 k1 A1
    | false => rw [if_neg Bool.false_ne_true]; exact ⟨ρ, h1, Q0, R.kp k1, A1, q1, fun t h2 H2 q2 k2 A2 => k _ _ _ q2 (k1.trans k2) A2⟩⟩
variable {st : Stmt} {rest : List Stmt}
theorem gss_nil : GSs X [] dNx := pss_imp pss_nil fun D σ H ⟨ρ, h, F, R, A, q, k⟩ => k.nx _ _ _ _ q (Kp.refl _) R A
theorem gss_cons {f g : DS} (h1 : GS X st f) (h2 : GSs X rest g) : GSs X (st :: rest) (dSeq f g) :=
  pss_imp (pss_cons h1 h2) fun D σ H ⟨ρ, h, F, R, A, q, k⟩ => ⟨ρ, h, _, R, A, q, ⟨fun ρ' h' σ' H' q' k' R' A' => ⟨ρ', h', F, R', A', q', k.kp k'⟩, k.rt, k.bk, k.ct⟩⟩
theorem gss_one {f : DS} (h1 : GS X st f) : GSs X [st] f := pss_one h1
theorem gs_exp {f : DE} (he : GE X e f) (hs : swapsWith e none pos.line X.env = pure false := by rfl) : GS X (.Expr e pos) (dExp f) :=
  ps_imp (ps_expr he hs) fun D σ H ⟨ρ, h, F, R, A, q, k⟩ => ⟨ρ, h, _, R, A, q, fun d h1 v H1 q1 k1 r1 A1 => k.nx _ _ _ _ q1 k1 (R.kp k1) A1⟩
theorem gs_ret {f : DE} (he : GE X e f) : GS X (.Return (some e) pos) (dRet f) := ps_imp (ps_ret he) fun D σ H ⟨ρ, h, F, R, A, q, k⟩ => ⟨ρ, h, _, R, A, q, k.rt⟩
theorem gs_if {t : DT} {f g : DS} {as bs : List Stmt} (hc : GT X c t) (ha : GSs X as f) (hb : GSs X bs g) : GS X (.If c as bs pos) (dIf t f g) :=
  ps_imp (ps_if hc ha hb) fun D σ H ⟨ρ, h, F, R, A, q, k⟩ => ⟨ρ, h, _, R, A, q, fun t h1 H1 q1 k1 A1 => by
    cases t with
    | true => rw [if_pos rfl]; exact ⟨ρ, h1, F, R.kp k1, A1, q1, k.kp k1⟩
    | false => rw [if_neg Bool.false_ne_true]; exact ⟨ρ, h1, F, R.kp k1, A1, q1, k.kp k1⟩⟩
theorem gs_dead : GS X st dDead := ⟨fun _ _ _ _ _ _ ⟨ρ, h, F, R, A, q, k⟩ => q.elim⟩
theorem gg_var {i : Nat} {x : Str} (hN : X.N.Nodup) (hi : X.N[i]? = some x := by rfl) (hx : Loc X.env.scope x := by first | exact Or.inl rfl | exact Or.inr rfl) (hf : X.fn x = true ∨ X.env.scope.names.lookup x = some .local := by first | exact .inl rfl | exact .inr rfl) : GG X (.Name x pos) [i] (gVar i) :=
  ⟨fun pins s σ H v u Q I r ⟨d, ρ, h, Q0, rd, R, A, q, k⟩ => (pg_name (i := i) hN hi hx hf).run pins s σ H v u Q I r (k _ _ _ _ q (Kp.refl _) (R.set rd) A Sm.one)⟩
theorem ggs_nil : GGs X [] [] G.gNil :=
  ⟨fun pins s σ H vs us Q I r ⟨ds, ρ, h, Q0, rd, R, A, q, k⟩ => by
    cases rd with
    | nil => exact pgs_nil.run pins s σ H [] us Q I r ⟨rfl, k _ _ _ _ q (Kp.refl _) R A (Sm.refl _ _)⟩
    | cons _ _ => exact q.elim⟩
theorem ggs_cons {es : List Expr} {g : DG} {r : DGs} {a b : List Nat} (h1 : GG X e a g) (h2 : GGs X es b r) (hs : (assignEach (e :: es) X.env).map (·.2) = assign e X.env :: (assignEach es X.env).map (·.2) := by rfl) : GGs X (e :: es) (a ++ b) (G.gCons g r) :=
  ⟨fun pins s σ H vs us Q I rr ⟨ds, ρ, h, Q0, rd, R, A, q, k⟩ => by
    cases rd with
    | nil => exact q.elim
    | cons ra rb =>
      refine (pgs_cons h1 h2 hs).run pins s σ H _ us Q I rr ⟨_, _, rfl, _, ρ, h, _, ra, R, A, q, fun ρ' h' σ' H' q' k' R' A' s' => ⟨_, ρ', h', Q0, rb.kp k', R', A', q', fun ρ2 h2 σ2 H2 q2 k2 R2 A2 s2 => k _ _ _ _ q2 (k'.trans k2) R2 A2 (s'.trans s2)⟩⟩⟩
theorem gg_tup {es : List Expr} {k n : Nat} {g : DGs} {sl : List Nat} (hc : X.calm = true) (h : GGs X es sl g) (hn : (assignEach es X.env).length = n := by rfl) (hst : (assignEach es X.env).findIdx? (·.1) = none := by rfl) : GG X (.Tuple es k pos) sl (G.gTup n g) :=
  ⟨fun pins s σ H v u Q I r ⟨d, ρ, h0, Q0, rd, R, A, q, k⟩ => by
    cases rd with
    | tup hT hL => exact (pg_tup hc h hn hst).run pins s σ H _ u Q I r ⟨_, _, rfl, hT, by rw [← hL.length]; exact q.1, _, ρ, h0, Q0, hL, R, A, q.2, k⟩
    | _ => exact q.elim⟩
theorem gs_asg {tg : Expr} {f : DE} {g : DG} {sl : List Nat} (he : GE X e f) (hg : GG X tg sl g) (hs : swapsWithSole [tg] e pos.line X.env = pure false := by rfl) (hw : swappedStores [tg] e X.env = pure none := by rfl) (h1 : (assignEach [tg] X.env).map (·.2) = [assign tg X.env] := by rfl) : GS X (.Assign [tg] e pos) (dAsg f g) :=
  ps_imp (ps_asg he hg hs hw h1) fun D σ H ⟨ρ, h, F, R, A, q, k⟩ => ⟨ρ, h, _, R, A, q, fun d h1 v H1 q1 k1 r1 A1 => ⟨d, ρ, h1, F.nx, r1, R.kp k1, A1, q1, fun ρ2 h2 σ2 H2 q2 k2 R2 A2 _ => k.nx _ _ _ _ q2 (k1.trans k2) R2 A2⟩⟩
theorem gs_set {i : Nat} {x : Str} {f : DE} {pos' : Pos} (hN : X.N.Nodup) (he : GE X e f) (hi : X.N[i]? = some x := by rfl) (hx : Loc X.env.scope x := by first | exact Or.inl rfl | exact Or.inr rfl) (hs : swapsWith e (some (.Name x pos')) pos.line X.env = pure false := by rfl) (hf : X.fn x = true ∨ X.env.scope.names.lookup x = some .local := by first | exact .inl rfl | exact .inr rfl) :
    GS X (.Assign [.Name x pos'] e pos) (dSet i f) :=
  ps_imp (ps_set (i := i) hN hi hx he hs hf) fun D σ H ⟨ρ, h, F, R, A, q, k⟩ => ⟨ρ, h, _, R, A, q, fun d h1 v H1 q1 k1 r1 A1 => k.nx _ _ _ _ q1 k1 ((R.kp k1).set r1) A1⟩
/-- the hand layer's walk is that of the items -/
def JS (K : PySem.W.Frag) (w : World) (H1 : Hp) (J : It) (S : Src) : Prop := ∀ (i : Nat) (h : AH) (H : Hp), Kp H1 H → Abs K w h H → S.ok h →
  (∀ d, S.ds[i]? = some d → J.go i H ∧ ∀ x H', J.yld i H x H' → Kp H H' ∧ Abs K w h H' ∧ Rv K H' d x) ∧ (S.ds.length ≤ i → J.stop i H)
def tI (K : PySem.W.Frag) (w : World) (it : DI) : TI := fun σ H R => ∃ ρ h R0, RS K H ρ σ ∧ Abs K w h H ∧ it ρ h R0 ∧ ∀ S h1 J H1, R0 S h1 → Kp H H1 → Abs K w h1 H1 → JS K w H1 J S → R J H1
abbrev GI (X : Cx) (tg iter : Expr) (it : DI) : Prop := PI X tg iter (tI X.K X.w it)
theorem pi_imp {tg iter : Expr} {t t' : TI} (h : PI X tg iter t) (f : ∀ σ H R, t' σ H R → t σ H R) : PI X tg iter t' := ⟨fun pins s σ H R I q => h.run pins s σ H R I (f _ _ _ q)⟩
theorem js_list {K : PySem.W.Frag} {w : World} {H : Hp} {a : Addr} {ds : List D} : JS K w H (Itl K a) (srcL a ds) := fun i h H1 k A ok => by
  obtain ⟨vs, e1, r1⟩ := A a _ ok
  refine ⟨fun d e => ?_, fun z => ⟨vs, SqL.of e1, by rw [← r1.length]; exact z⟩⟩
  obtain ⟨v, e2, r2⟩ := r1.get e
  refine ⟨⟨vs, v, SqL.of e1, e2⟩, fun x H' ⟨e3, f⟩ => ?_⟩
  subst e3
  have e4 := f vs (SqL.of e1)
  rw [e2] at e4; cases e4
  exact ⟨Kp.refl _, A, r2⟩
theorem js_listV {K : PySem.W.Frag} {w : World} {H : Hp} {a : Addr} {ds : List D} {vs : List V} (hr : RoL K H a vs) (r : RvL K H ds vs) : JS K w H (Itl K a) (srcV ds) := fun i h H1 k A ok => by
  have e1 : SqL K H1 a vs := (hr.kp k).sq
  refine ⟨fun d e => ?_, fun z => ⟨vs, e1, by rw [← r.length]; exact z⟩⟩
  obtain ⟨v, e2, r2⟩ := r.get e
  refine ⟨⟨vs, v, e1, e2⟩, fun x H' ⟨e3, f⟩ => ?_⟩
  subst e3
  have e4 := f vs e1
  rw [e2] at e4; cases e4
  exact ⟨Kp.refl _, A, r2.kp k⟩
theorem js_tup {K : PySem.W.Frag} {w : World} {H : Hp} {a : Addr} {ds : List D} {vs : List V} (hr : SqT K H a vs) (r : RvL K H ds vs) : JS K w H (Itt K a) (srcV ds) := fun i h H1 k A ok => by
  have e1 : SqT K H1 a vs := SqT.kp k hr
  refine ⟨fun d e => ?_, fun z => ⟨vs, e1, by rw [← r.length]; exact z⟩⟩
  obtain ⟨v, e2, r2⟩ := r.get e
  refine ⟨⟨vs, v, e1, e2⟩, fun x H' ⟨e3, f⟩ => ?_⟩
  subst e3
  have e4 := f vs e1
  rw [e2] at e4; cases e4
  exact ⟨Kp.refl _, A, r2.kp k⟩
theorem js_rng {K : PySem.W.Frag} {w : World} {H : Hp} {lo : Int} {n : Nat} : JS K w H (Itr lo n) (srcV (rng lo n)) := fun i h H1 k A ok => by
  have hl : (rng lo n).length = n := by simp [rng]
  refine ⟨fun d e => ?_, fun z => by rw [show (srcV (rng lo n)).ds = rng lo n from rfl, hl] at z; exact z⟩
  have hi : i < n := by
    have := (List.getElem?_eq_some_iff.mp e).1
    rw [show (srcV (rng lo n)).ds = rng lo n from rfl, hl] at this; exact this
  have ed : d = .int (lo + (i : Nat)) := by
    have e' : (rng lo n)[i]? = some d := e
    simp [rng, hi] at e'
    exact e'.symm
  subst ed
  exact ⟨hi, fun x H' ⟨e1, e2⟩ => by subst e1; subst e2; exact ⟨Kp.refl _, A, .int _⟩⟩
theorem gs_for {tg iter : Expr} {body : List Stmt} {it : DI} {g : DG} {b : DS} {sl : List Nat} (hp : PassesOwn (model X.prog X.w) X.A X.env X.xe) (hc : X.calm = true) (hi : GI X tg iter it) (hg : GG X tg sl g) (hb : GSs X body b)
    (hs : ∀ x, foldedSetIterable iter X.env x = pure x := by intro _; rfl) : GS X (.For tg iter body [] pos) (dFor it g b) :=
  ps_imp (ps_for hp hc hi hg hb hs) fun D σ H ⟨ρ, h, F, R, A, q, k⟩ => by
    refine ⟨ρ, h, _, R, A, q, fun S h1 J H1 q1 k1 A1 js => ?_⟩
    obtain ⟨W, w0, ok, turn, fin⟩ := q1
    refine ⟨fun i m σ' H' => i + m = S.ds.length ∧ ∃ ρ' h', RS X.K H' ρ' σ' ∧ Abs X.K X.w h' H' ∧ Kp H1 H' ∧ W i ρ' h', ⟨S.ds.length, by omega, ρ, h1, R.kp k1, A1, Kp.refl _, w0⟩, fun i m σ2 H2 ⟨em, ρ2, h2, R2, A2, k2, w2⟩ => ?_⟩
    obtain ⟨go, stop⟩ := js i h2 H2 k2 A2 (ok i ρ2 h2 (by omega) w2)
    by_cases hi : i < S.ds.length
    · obtain ⟨go1, go2⟩ := go _ (List.getElem?_eq_getElem hi)
      refine .inr ⟨go1, fun σ' H' => ∃ ρ' h', RS X.K H' ρ' σ' ∧ Abs X.K X.w h' H' ∧ Kp H1 H' ∧ W (i + 1) ρ' h', fun σ' H' w => ⟨m - 1, by omega, by omega, w⟩, fun x H' y => ?_⟩
      obtain ⟨k3, A3, r3⟩ := go2 x H' y
      have step : ∀ ρ' h' σ' H'', Pt (W (i + 1) ρ') h' → Kp H' H'' → RS X.K H'' ρ' σ' → Abs X.K X.w h' H'' → ∃ ρ' h', RS X.K H'' ρ' σ' ∧ Abs X.K X.w h' H'' ∧ Kp H1 H'' ∧ W (i + 1) ρ' h' := fun ρ' h' σ' H'' ⟨h0, sb, w⟩ k' R' A' => ⟨ρ', h0, R', A'.sub sb, k2.trans (k3.trans k'), w⟩
      refine ⟨_, ρ2, h2, _, r3, R2.kp k3, A3, turn i ρ2 h2 _ w2 (List.getElem?_eq_getElem hi), fun ρ4 h4 σ4 H4 q4 k4 R4 A4 _ => ⟨ρ4, h4, _, R4, A4, q4, ⟨?_, ?_, ?_, ?_⟩⟩⟩
      · exact fun ρ' h' σ' H'' a b c d => step ρ' h' σ' H'' a (k4.trans b) c d
      · exact k.rt.kp (k1.trans (k2.trans (k3.trans k4)))
      · exact fun ρ' h' σ' H'' a b c d => k.nx _ _ _ _ a (k1.trans (k2.trans (k3.trans (k4.trans b)))) c d
      · exact fun ρ' h' σ' H'' a b c d => step ρ' h' σ' H'' a (k4.trans b) c d
    · have ei : i = S.ds.length := by omega
      subst ei
      exact .inl ⟨stop (Nat.le_refl _), k.nx _ _ _ _ (fin _ _ w2) (k1.trans k2) R2 A2⟩
/-- at d stands a dict of the keys ks -/
def KR (K : PySem.W.Frag) (H : Hp) (d : Addr) (ks : List D) : Prop := (d == sysModules) = false ∧ ∃ es : Array DictEntry, H d = some (.ext (RawD d es es.size)) ∧ Paired (fun k e => ∃ v, Rv K H k v ∧ RelV v e.key) ks es.toList
/-- a walk over a dict's keys -/
def Itx (K : PySem.W.Frag) (d : Addr) (ks : List D) : It :=
  ⟨fun i H => i < ks.length ∧ KR K H d ks, fun i H x H' => H' = H ∧ ∃ k, ks[i]? = some k ∧ Rv K H k x, fun i H => ks.length ≤ i ∧ KR K H d ks⟩
theorem kr_of {K : PySem.W.Frag} {w : World} {h : AH} {H : Hp} {d : Addr} {kvs : List (D × D)} (A : Abs K w h H) (e : h d = some (.dic kvs)) : KR K H d (kvs.map (·.1)) := by
  obtain ⟨h1, h2, h3, es, ep, h4, h5, rfl⟩ := A d _ e
  refine ⟨h2, es, h4, ?_⟩
  generalize es.toList = l at h5
  clear e h1 h3 h4
  induction h5 with
  | nil => exact .nil
  | cons r _ ih => exact .cons r.2.2.1 ih
theorem js_keys {K : PySem.W.Frag} {w : World} {H : Hp} {d : Addr} {ks : List D} : JS K w H (Itx K d ks) (srcK d ks) := fun i h H1 k A ok => by
  obtain ⟨kvs, e1, rfl⟩ := ok
  have r := kr_of A e1
  refine ⟨fun x e => ⟨⟨(List.getElem?_eq_some_iff.mp e).1, r⟩, fun y H' ⟨e2, k', e3, r3⟩ => ?_⟩, fun z => ⟨z, r⟩⟩
  subst e2
  have e' : (kvs.map (·.1))[i]? = some x := e
  rw [e'] at e3; cases e3
  exact ⟨Kp.refl _, A, r3⟩
theorem walk_ok {K : PySem.W.Frag} {w : World} {h : AH} {H H1 : Hp} {x : D} {v : V} {R0 : Src → AH → Prop} {R : It → Hp → Prop} (A : Abs K w h H1) (r : Rv K H1 x v) (q : walkD h x R0) (k1 : Kp H H1) (k : ∀ S h1 J H1, R0 S h1 → Kp H H1 → Abs K w h1 H1 → JS K w H1 J S → R J H1) :
    ∃ a, v = .ref a ∧ ((∃ xs, SqL K H1 a xs) ∧ R (Itl K a) H1 ∨ (∃ xs, SqT K H1 a xs) ∧ R (Itt K a) H1 ∨ ∃ ks, KR K H1 a ks ∧ R (Itx K a ks) H1) := by
  unfold walkD at q
  cases r with
  | tup h1 h2 => exact ⟨_, rfl, .inr (.inl ⟨⟨_, h1⟩, k _ _ _ _ q k1 A (js_tup h1 h2)⟩)⟩
  | rl h1 h2 => exact ⟨_, rfl, .inl ⟨⟨_, h1.sq⟩, k _ _ _ _ q k1 A (js_listV h1 h2)⟩⟩
  | ref a =>
    dsimp only at q
    split at q
    · rename_i ds e
      obtain ⟨vs, e1, r1⟩ := A _ _ e
      exact ⟨a, rfl, .inl ⟨⟨vs, SqL.of e1⟩, k _ _ _ _ q k1 A js_list⟩⟩
    · rename_i kvs e
      exact ⟨a, rfl, .inr (.inr ⟨_, kr_of A e, k _ _ _ _ q k1 A js_keys⟩)⟩
    · exact q.elim
  | _ => exact q.elim
end
end G
end
section
set_option Elab.async false
set_option linter.all false
set_option maxRecDepth 100000
set_option maxHeartbeats 4000000
namespace G
open PySem PySem.Spec PyProof.Rows L2
variable [Tb]
section
variable {X : Cx} {a b c e tg : Expr} {pos : Pos}
/-- the dict at d as the raw heap has it -/
theorem kr_raw {pins : List (Addr × Obj)} {σ : L2.St} {H : Hp} {s : Shared} {d : Addr} {ks : List D} (I : L2.Inv X pins σ H s) (r : KR X.K H d ks) : ∃ (o : Obj) (es : Array DictEntry), s.heap.get? d = some o ∧ o.ExactDict ∧ o.data = .dict es ks.length ∧ es.size = ks.length ∧ Paired (fun k e => ∃ v, Rv X.K H k v ∧ RelV v e.key) ks es.toList := by
  obtain ⟨_, es, e1, e2⟩ := r
  obtain ⟨⟨o, o1, o2, o3⟩, _, _⟩ := I.hok d _ e1
  have hl : es.size = ks.length := by
    have := Paired.length e2
    rw [this, Array.length_toList]
  exact ⟨o, es, o1, o2, by rw [← hl]; exact o3, hl, e2⟩
theorem pair_at {α β : Type} {F : α → β → Prop} : ∀ {xs : List α} {ys : List β} {i : Nat} {x : α}, Paired F xs ys → xs[i]? = some x → ∃ y, ys[i]? = some y ∧ F x y
  | _, _, _, _, .nil, e => by simp at e
  | _, _, 0, _, .cons r _, e => by simp at e; subst e; exact ⟨_, rfl, r⟩
  | _, _, i + 1, x, .cons _ t, e => by
    obtain ⟨u, h1, h2⟩ := pair_at (i := i) (x := x) t (by simpa using e)
    exact ⟨u, by simpa using h1, h2⟩
theorem turn_keysX {P : Program} {w : World} {K : PySem.W.Frag} {d : Addr} {ks : List D} (it : Addr) : Turn P w K tg (Itx K d ks) [it] it (fun i h => h.IsKeyIter it d i ks.length ks.length) where
  mem := List.mem_singleton.mpr rfl
  obj := fun i h st b hb => by
    obtain ⟨oi, e, _, dd⟩ := st
    rw [List.mem_singleton.mp hb]
    exact ⟨oi, e, fun v z => by rw [dd] at z; cases z⟩
  keep := fun i h h' st k => let ⟨oi, e, c, dd⟩ := st; ⟨oi, k it (List.mem_singleton.mpr rfl) oi e, c, dd⟩
  item := by
    rintro X rfl rfl rfl hc i pins s σ H E I hf st ⟨hi, hr⟩
    obtain ⟨o, es, o1, o2, o3, hl, hp⟩ := kr_raw I hr
    have fp := hf it (List.mem_singleton.mpr rfl)
    obtain ⟨en, en1, v, rv1, rv2⟩ := pair_at hp (List.getElem?_eq_getElem hi)
    rw [Array.getElem?_toList] at en1
    refine next_key_item st o1 o3 hl en1 fun h' st' sb => ?_
    have I1 := I.turnedL (t' := s.toks) (ch := [it]) (h' := h') (fun b ob hb e => (sb.2 b (fun z => hb (List.mem_singleton.mpr z))).trans e) (fun b hb => by rw [List.mem_singleton.mp hb]; exact fp)
    obtain ⟨oi, e, c, dd⟩ := id st'
    exact ⟨en.key, rfl, go_of (s := { s with heap := h' }) e c dd (by decide) ⟨v, H, I1, rv2, ⟨rfl, _, List.getElem?_eq_getElem hi, rv1⟩, st', fun b hb => (hf b hb).1⟩⟩
  done := by
    rintro X rfl rfl rfl hc i pins s σ H E I hf st ⟨hi, hr⟩
    obtain ⟨o, es, o1, o2, o3, hl, _⟩ := kr_raw I hr
    have fp := hf it (List.mem_singleton.mpr rfl)
    refine next_key_end (I.ok.hd hc) st o1 o3 hl hi fun h' eb => ⟨rfl, ?_⟩
    exact I.turnedL (t' := s.toks) (ch := [it]) (fun b ob hb e => eb b ob (fun z => hb (List.mem_singleton.mpr z)) e) (fun b hb => by rw [List.mem_singleton.mp hb]; exact fp)
  self := fun A i s Q E st h => wpAny_pyIter_keyiter st h
theorem gi_seq {f : DE} (he : GE X e f) : GI X tg e (iSeq f) := by
  refine ⟨fun pins s σ H R I ⟨ρ, h, R0, RR, A, q, k⟩ => ?_⟩
  refine thn (he.run pins s σ H (fun v H1 => ∃ a, v = .ref a ∧ ((∃ xs, SqL X.K H1 a xs) ∧ R (Itl X.K a) H1 ∨ (∃ xs, SqT X.K H1 a xs) ∧ R (Itt X.K a) H1 ∨ ∃ ks, KR X.K H1 a ks ∧ R (Itx X.K a ks) H1)) I ⟨ρ, h, _, RR, A, q, fun d h1 v H1 q1 k1 r1 A1 => walk_ok A1 r1 q1 k1 k⟩) fun v s1 ⟨x, H1, I1, r1, q1⟩ => ?_
  obtain ⟨a, rfl, ⟨⟨xs, hq⟩, q⟩ | ⟨⟨xs, hq⟩, q⟩ | ⟨ks, hk, q⟩⟩ := q1
  · cases r1
    obtain ⟨its, rv, p, hz⟩ := I1.list hq
    refine wpAny_pyIter_list p.isList ?_
    refine ⟨s1.heap.objs.size, [s1.heap.objs.size], _, _, H1, rfl, I1.kept (t' := s1.toks) fun b o e => Heap.get?_push_of_some _ e, turn_list a _, ⟨_, Heap.get?_push_size _ rfl, rfl, rfl⟩, fun b hb => ?_, q⟩
    have e : b = s1.heap.objs.size := by simpa using hb
    subst e
    exact I1.fpOk (Nat.le_refl _) (I1.hok.fresh (Nat.le_refl _))
  · cases r1
    obtain ⟨its, rv, p, hz⟩ := I1.tuple hq
    refine wpAny_pyIter_tuple (show s1.heap.IsTuple a its.toArray from p) ?_
    refine ⟨s1.heap.objs.size, [s1.heap.objs.size], _, _, H1, rfl, I1.kept (t' := s1.toks) fun b o e => Heap.get?_push_of_some _ e, turn_tuple a _, ⟨_, Heap.get?_push_size _ rfl, rfl, rfl⟩, fun b hb => ?_, q⟩
    have e : b = s1.heap.objs.size := by simpa using hb
    subst e
    exact I1.fpOk (Nat.le_refl _) (I1.hok.fresh (Nat.le_refl _))
  · cases r1
    obtain ⟨o, es, o1, o2, o3, hl, _⟩ := kr_raw I1 hk
    refine iter_keys hk.1 o1 o2 o3 (pi_one (tk := s1.toks) I1 _ (turn_keysX _) ⟨_, Heap.get?_push_size _ rfl, rfl, ?_⟩ q)
    rw [hl] <;> rfl
theorem gi_rng1 {f : DA} {p : Pos} (hm : X.mg "range" = none) (ha : GA X [a] f) (hg : Gl X "range" := by rfl) (hs : starEach [a] X.env = [(false, eval a X.env)] := by rfl) : GI X tg (.Call (.Name "range" p) [a] [] pos) (iRng1 f) :=
  pi_imp (pi_range1 hg hm ha hs) fun σ H R ⟨ρ, h, R0, RR, A, q, k⟩ => ⟨ρ, h, _, RR, A, q, fun ds h1 vs H1 q1 k1 r1 A1 => by
    split at q1
    · rename_i j
      cases r1 with
      | cons ra rb =>
        cases rb; cases ra
        exact ⟨j, rfl, q1.1, q1.2.1, k _ _ _ _ q1.2.2 k1 A1 js_rng⟩
    · exact q1.elim⟩
theorem enumD_get : ∀ {ds : List D} {n i : Nat} {d : D}, (enumD n ds)[i]? = some d → ∃ x, ds[i]? = some x ∧ d = .tup [.int ((n + i : Nat)), x]
  | [], _, _, _, h => by simp [enumD] at h
  | x :: xs, n, 0, d, h => by
    simp [enumD] at h
    exact ⟨x, rfl, by rw [← h]; rfl⟩
  | x :: xs, n, i + 1, d, h => by
    have h' : (enumD (n + 1) xs)[i]? = some d := by simpa [enumD] using h
    obtain ⟨y, h1, h2⟩ := enumD_get h'
    exact ⟨y, by simpa using h1, by rw [h2, show n + 1 + i = n + (i + 1) by omega]⟩
theorem enumD_len : ∀ (ds : List D) (n : Nat), (enumD n ds).length = ds.length
  | [], _ => rfl
  | _ :: xs, n => congrArg (· + 1) (enumD_len xs (n + 1))
theorem zipD_get : ∀ {xs ys : List D} {i : Nat} {d : D}, (zipD xs ys)[i]? = some d → ∃ x y, xs[i]? = some x ∧ ys[i]? = some y ∧ d = .tup [x, y]
  | [], ys, _, _, h => by cases ys <;> simp [zipD] at h
  | x :: xs, [], _, _, h => by simp [zipD] at h
  | x :: xs, y :: ys, 0, d, h => by
    simp [zipD] at h
    exact ⟨x, y, rfl, rfl, h.symm⟩
  | x :: xs, y :: ys, i + 1, d, h => by
    have h' : (zipD xs ys)[i]? = some d := by simpa [zipD] using h
    obtain ⟨x, y, h1, h2, h3⟩ := zipD_get h'
    exact ⟨x, y, by simpa using h1, by simpa using h2, h3⟩
theorem zipD_len : ∀ (xs ys : List D), (zipD xs ys).length = min xs.length ys.length
  | [], ys => by cases ys <;> simp [zipD]
  | x :: xs, [] => by simp [zipD]
  | x :: xs, y :: ys => by simp [zipD, zipD_len xs ys]
/-- a list that is walked: its items are read wherever it still stands -/
def LRd (K : PySem.W.Frag) (w : World) (H1 : Hp) (a : Addr) (S : Src) : Prop := ∀ (h : AH) (H : Hp), Kp H1 H → Abs K w h H → S.ok h → ∃ vs, SqL K H a vs ∧ RvL K H S.ds vs
theorem walkL_ok {K : PySem.W.Frag} {w : World} {h : AH} {H1 : Hp} {x : D} {v : V} {R0 : Src → AH → Prop} (A : Abs K w h H1) (r : Rv K H1 x v) (q : walkL h x R0) : ∃ a S, v = .ref a ∧ LRd K w H1 a S ∧ S.ok h ∧ R0 S h := by
  unfold walkL at q
  cases r with
  | rl h1 h2 => exact ⟨_, _, rfl, fun h' H' k' A' _ => ⟨_, (h1.kp k').sq, h2.kp k'⟩, trivial, q⟩
  | ref a =>
    dsimp only at q
    split at q
    · rename_i ds e
      exact ⟨a, _, rfl, fun h' H' k' A' ok => let ⟨vs, e1, r1⟩ := A' a (.lst ds) ok; ⟨vs, SqL.of e1, r1⟩, e, q⟩
    · exact q.elim
  | _ => exact q.elim
theorem gi_enum {f : DA} {p tpos : Pos} {elts : List Expr} {kk : Nat} (hm : X.mg "enumerate" = none) (ha : GA X [e] f) (hg : Gl X "enumerate" := by rfl) (hs : starEach [e] X.env = [(false, eval e X.env)] := by rfl) : GI X (.Tuple elts kk tpos) (.Call (.Name "enumerate" p) [e] [] pos) (G.iEnum f) :=
  pi_imp (pi_enum hg hm ha hs) fun σ H R ⟨ρ, h, R0, RR, A, q, k⟩ => ⟨ρ, h, _, RR, A, q, fun ds h1 vs H1 q1 k1 r1 A1 => by
    split at q1
    · rename_i x
      cases r1 with
      | cons ra rb =>
        cases rb
        obtain ⟨a, S, rfl, rd, ok, q2⟩ := walkL_ok A1 ra q1
        obtain ⟨us, s1, s2⟩ := rd h1 H1 (Kp.refl _) A1 ok
        refine ⟨a, us, rfl, s1, k _ _ _ _ q2 k1 A1 fun i h2 H2 k2 A2 ok2 => ?_⟩
        obtain ⟨ws, w1, w2⟩ := rd h2 H2 k2 A2 ok2
        refine ⟨fun d ed => ?_, fun z => ⟨ws, w1, by rw [← w2.length]; rw [show (⟨enumD 0 S.ds, S.ok⟩ : Src).ds = enumD 0 S.ds from rfl, enumD_len] at z; exact z⟩⟩
        obtain ⟨y, ey, rfl⟩ := enumD_get ed
        obtain ⟨v, ev, rv⟩ := w2.get ey
        refine ⟨⟨ws, v, w1, ev⟩, fun u H' ⟨T, v', e1, nT, e2, f2⟩ => ?_⟩
        subst e1; subst e2
        have e3 := f2 ws w1
        rw [ev] at e3; cases e3
        exact ⟨Kp.new nT, A2.newH nT, .tup (SqT.of upd_same) (.cons (by rw [Nat.zero_add]; exact .int _) (.cons (rv.kp (Kp.new nT)) .nil))⟩
    · exact q1.elim⟩
abbrev GTs (X : Cx) (es : List Expr) (f : DT) : Prop := PTs X es (tT X.K X.w f)
theorem gts_nil : GTs X [] G.tYes := ⟨fun pins s σ H Q I ⟨ρ, h, Q0, R, A, q, k⟩ => pts_nil.run pins s σ H Q I (k _ _ _ q (Kp.refl _) A)⟩
theorem gts_one {t : DT} (h : GT X c t) : GTs X [c] t := pts_one h
theorem dComp_ok {K : PySem.W.Frag} {w : World} {it : DI} {g : DG} {t : DT} {f : DE} {own : List Nat} {σ : L2.St} {H : Hp} {Q : VK} (x : tE K w (dComp it g t f own) σ H Q) : tLc (tI K w it) (tG K w own g) (tT K w t) (tE K w f) own σ H Q := by
  obtain ⟨ρ, h, Q0, R, A, q, k⟩ := x
  refine ⟨ρ, h, _, R, A, q, fun S h1 J H1 q1 k1 A1 js D n => ?_⟩
  obtain ⟨W, w0, ok, turn, fin⟩ := q1 D (A1.nil n)
  have kD : Kp H1 (upd H1 D (.lst [])) := Kp.new n
  refine ⟨fun i m H' => i + m = S.ds.length ∧ ∃ acc h', Abs K w h' H' ∧ Kp H1 H' ∧ W i acc h', ⟨S.ds.length, by omega, [], _, A1.new n (o := .lst []) ⟨[], upd_same, .nil⟩, kD, w0⟩, fun i m H2 ⟨em, acc, h2, A2, k2, w2⟩ => ?_⟩
  obtain ⟨ok1, ok2⟩ := ok i acc h2 (by omega) w2
  obtain ⟨go, stop⟩ := js i h2 H2 k2 A2 ok1
  by_cases hi : i < S.ds.length
  · obtain ⟨go1, go2⟩ := go _ (List.getElem?_eq_getElem hi)
    refine .inr ⟨go1, fun H' => ∃ acc h', Abs K w h' H' ∧ Kp H1 H' ∧ W (i + 1) acc h', fun H' w => ⟨m - 1, by omega, by omega, w⟩, fun x H' y => ?_⟩
    obtain ⟨k3, A3, r3⟩ := go2 x H' y
    refine ⟨_, G.wipe ρ own, h2, _, r3, (R.kp (k1.trans (k2.trans k3))).wipe own, A3, turn i acc h2 _ w2 (List.getElem?_eq_getElem hi), fun ρ4 h4 σ4 H4 q4 k4 R4 A4 sm => ⟨sm.wipe, ρ4, h4, _, R4, A4, q4, fun b h5 H5 q5 k5 A5 => ?_⟩⟩
    have kk : Kp H1 H5 := k2.trans (k3.trans (k4.trans k5))
    cases b with
    | true =>
      dsimp only
      rw [if_pos rfl]
      refine ⟨ρ4, h5, _, R4.kp k5, A5, q5, fun y h6 v H6 ⟨z, e6, h0, sb, w6⟩ k6 r6 A6 => ?_⟩
      obtain ⟨vs, e7, r7⟩ := A6 _ _ e6
      have kw : Kp H6 (upd H6 D (.lst (vs ++ [v]))) := Kp.wr e7 trivial
      have A7 : Abs K w (up h6 D (.lst (acc ++ [y]))) (upd H6 D (.lst (vs ++ [v]))) := A6.wr (o := .lst (acc ++ [y])) e7 trivial ⟨_, upd_same, (r7.append (.one r6)).kp kw⟩
      exact ⟨vs, e7, by rw [← r7.length, sz_eq]; exact z, acc ++ [y], h0, A7.sub sb, kk.trans (k6.trans kw), w6⟩
    | false =>
      dsimp only
      rw [if_neg Bool.false_ne_true]
      obtain ⟨h0, sb, w6⟩ := q5
      exact ⟨acc, h0, A5.sub sb, kk, w6⟩
  · have ei : i = S.ds.length := by omega
    subst ei
    exact .inl ⟨stop (Nat.le_refl _), k _ _ _ _ (fin _ _ w2) (k1.trans k2) (.ref _) A2⟩
theorem ge_comp {elt iter : Expr} {ifs : List Expr} {scope : Scope} {own : List (Str × Nat)} {it : DI} {g : DG} {t : DT} {f : DE} (hc : X.calm = true) (hN : X.N.Nodup) (hi : GI X tg iter it) {N : List Str} {sc : Scope} (eN : X.N = N) (eS : X.env.scope = sc) (ok : blkC N sc scope own = true)
    (hg : ∀ (s : Shared) (H : Hp) (C : Addr) (cl : List (Str × Addr)) (fp : List Addr), GG (X.blk s H scope (compEnvC scope cl C X.env) fp) tg (own.map (·.2)) g)
    (ht : ∀ (s : Shared) (H : Hp) (C : Addr) (cl : List (Str × Addr)) (fp : List Addr), GTs (X.blk s H scope (compEnvC scope cl C X.env) fp) ifs t)
    (he : ∀ (s : Shared) (H : Hp) (C : Addr) (cl : List (Str × Addr)) (fp : List Addr), GE (X.blk s H scope (compEnvC scope cl C X.env) fp) elt f) (hs : ∀ x, foldedSetIterable iter X.env x = pure x := by intro _; rfl) :
    GE X (.ListComp elt [⟨tg, iter, ifs, 0⟩] scope pos) (dComp it g t f (own.map (·.2))) :=
  pe_imp (pe_lc hc hN hi (by rw [eN, eS]; exact blkOk_by ok) hg ht he hs) fun σ H Q x => dComp_ok x
theorem gs_setComp {i : Nat} {y : Str} {py spos : Pos} {elt iter : Expr} {ifs : List Expr} {scope : Scope} {own : List (Str × Nat)} {it : DI} {g : DG} {t : DT} {f : DE} (hc : X.calm = true) (hN : X.N.Nodup) (hi : GI X tg iter it) {N : List Str} {sc : Scope} (eN : X.N = N) (eS : X.env.scope = sc) (ok : blkC N sc scope own = true)
    (hg : ∀ (s : Shared) (H : Hp) (C : Addr) (cl : List (Str × Addr)) (fp : List Addr), GG (X.blk s H scope (compEnvC scope cl C X.env) fp) tg (own.map (·.2)) g)
    (ht : ∀ (s : Shared) (H : Hp) (C : Addr) (cl : List (Str × Addr)) (fp : List Addr), GTs (X.blk s H scope (compEnvC scope cl C X.env) fp) ifs t)
    (he : ∀ (s : Shared) (H : Hp) (C : Addr) (cl : List (Str × Addr)) (fp : List Addr), GE (X.blk s H scope (compEnvC scope cl C X.env) fp) elt f)
    (hsw : swapsWith (.ListComp elt [⟨tg, iter, ifs, 0⟩] scope pos) (some (.Name y py)) spos.line X.env = pure true) (hy : X.N[i]? = some y := by rfl) (hyl : X.env.scope.names.lookup y = some .local := by rfl) (hs : ∀ x, foldedSetIterable iter X.env x = pure x := by intro _; rfl) :
    GS X (.Assign [.Name y py] (.ListComp elt [⟨tg, iter, ifs, 0⟩] scope pos) spos) (dSet i (dComp it g t f (own.map (·.2)))) :=
  ps_imp (ps_setLc (i := i) hc hN hy hyl hsw hi (by rw [eN, eS]; exact blkOk_by ok) hg ht he hs) fun D σ H ⟨ρ, h, F, R, A, q, k⟩ => dComp_ok (K := X.K) (w := X.w) ⟨ρ, h, _, R, A, q, fun d h1 v H1 q1 k1 r1 A1 => k.nx _ _ _ _ q1 k1 ((R.kp k1).set r1) A1⟩
/-- the promise of a def, from its function of the domain -/
def spG (K : PySem.W.Frag) (w : World) (f : FS) : Sp := fun vs H Q _ => ∃ ds h Q0, RvL K H ds vs ∧ Abs K w h H ∧ f ds h Q0 ∧ KQ K w H Q0 Q
def FnG (P : Program) (w : World) (K : PySem.W.Frag) (mg : Str → Option Value) (base : Heap) (k : Nat) (f : Addr) (fd : FuncData) (ps : List Str) (sp : FS) : Prop := FnOk P w K mg base CX0 k f fd ps (spG K w sp)
theorem start_rs {K : PySem.W.Frag} {H : Hp} {N : List Str} {ds : List D} {vs : List V} (r : RvL K H ds vs) : RS K H (G.start N.length ds) (L2.start N vs) := by
  have hl := r.length
  refine ⟨by simp [G.start, L2.start, hl], fun i d e => ?_⟩
  unfold G.start at e
  by_cases hi : i < ds.length
  · rw [List.getElem?_append_left (by simpa using hi), List.getElem?_map] at e
    cases e2 : ds[i]? with
    | none => rw [e2] at e; cases e
    | some d' =>
      rw [e2] at e; cases e
      obtain ⟨v, e3, r3⟩ := r.get e2
      refine ⟨v, ?_, r3⟩
      unfold L2.start
      rw [List.getElem?_append_left (by simp; omega), List.getElem?_map, e3]; rfl
  · rw [List.getElem?_append_right (by simp; omega)] at e
    have := (List.getElem?_eq_some_iff.mp e)
    obtain ⟨h1, h2⟩ := this
    simp at h2
theorem fn_ok {P : Program} {w : World} {K : PySem.W.Frag} {mg : Str → Option Value} {base : Heap} {x qual : Str} {st : Stmt} {f : Addr} {fd : FuncData} {N ps : List Str} {k : Nat} {b : DS} (F : Fun K x qual st f fd) (S : FnScope N ps (defScope st))
    (body : ∀ (cdv : Value) (A : Around) (outer : List Env) (s : Shared) (H : Hp) (E : XK), Room k (A.deeper (envOfC qual (defScope st) s.heap.objs.size f cdv)) →
      GSs (cxOf CX0 P w K mg base N qual (defScope st) f cdv A outer s H E).nox (defBody st) b) : FnG P w K mg base (k + 1) f fd ps (fnOf N.length ps.length b) := by
  refine F.ok S (fun vs H Q E ⟨ds, h, Q0, r, A, q, _⟩ => by rw [← r.length]; exact q.1) fun cdv A outer s H vs Q E hr ⟨ds, h, Q0, r, Ab, q, kq⟩ => ?_
  refine ⟨_, body cdv A outer s H E hr, _, h, _, start_rs r, Ab, q.2, ⟨?_, ?_, ?_, ?_⟩⟩
  · intro ρ' h' σ' H' ⟨h0, sb, q'⟩ k' R' A'
    exact kq _ _ _ _ q' k' .non (A'.sub sb)
  · intro d h' v H' ⟨h0, sb, q'⟩ k' r' A'
    exact kq _ _ _ _ q' k' r' (A'.sub sb)
  · intro _ _ _ _ q'; exact q'.elim
  · intro _ _ _ _ q'; exact q'.elim
theorem ge_call {k : Nat} {f : Addr} {fd : FuncData} {ps : List Str} {sp : FS} {x : Str} {p : Pos} {es : List Expr} {fa : DA} (F : FnG X.prog X.w X.K X.mg X.base k f fd ps sp) (hr : Room k X.A) (hm : X.mg x = some (.ref f)) (hk : PySem.W.keepIn X.K (.ref f) = true) (hb : Binds X.K fd ps [])
    (ha : GA X (e :: es) fa) (hg : Gl X x := by rfl) (hdb : (x == ("__debug__" : Str)) = false := by decide) (he : starEach (e :: es) X.env = (false, eval e X.env) :: starEach es X.env := by rfl) (hpl : (backTo pos (starEach es X.env)).any (·.1) = false := by rfl) :
    GE X (.Call (.Name x p) (e :: es) [] pos) (dCall sp fa) :=
  pe_imp (pe_call F hr hg hm hk hb .nil pass0 ha hdb he hpl) fun σ H Q ⟨ρ, h, Q0, R, A, q, k⟩ => ⟨ρ, h, _, R, A, q, fun ds h1 vs H1 q1 k1 r1 A1 => ⟨ds, h1, Q0, by rw [List.append_nil]; exact r1, A1, q1, k.kp k1⟩⟩
end
end G
end
section
set_option Elab.async false
set_option linter.all false
set_option maxRecDepth 100000
set_option maxHeartbeats 4000000
namespace G
open PySem PySem.Spec PyProof.Rows L2
variable [Tb]
mutual
theorem nk_inj : ∀ (n m : Nat) (a b : D), pl n a = true → pl m b = true → nk a = nk b → a = b
  | n, m, .non, b, _, hb, e => by cases b <;> first | rfl | (simp [nk] at e; done) | (cases m <;> simp [pl] at hb)
  | n, m, .int i, b, _, hb, e => by cases b <;> simp [nk] at e; rw [e]
  | n, m, .str i, b, _, hb, e => by cases b <;> simp [nk] at e; rw [e]
  | n, m, .tup ds, b, ha, hb, e => by
    cases b <;> simp [nk] at e
    rename_i es
    cases n <;> simp [pl] at ha
    cases m <;> simp [pl] at hb
    rw [nkL_inj _ _ _ _ ha hb e]
  | n, m, .bl _, b, ha, hb, e => by cases n <;> simp [pl] at ha
  | n, m, .rl _, b, ha, hb, e => by cases n <;> simp [pl] at ha
  | n, m, .rd _ _, b, ha, hb, e => by cases n <;> simp [pl] at ha
  | n, m, .ref _, b, ha, hb, e => by cases n <;> simp [pl] at ha
theorem nkL_inj : ∀ (n m : Nat) (a b : List D), plL n a = true → plL m b = true → nkL a = nkL b → a = b
  | _, _, [], [], _, _, _ => rfl
  | _, _, [], _ :: _, _, _, e => by simp [nkL] at e
  | _, _, _ :: _, [], _, _, e => by simp [nkL] at e
  | n, m, x :: xs, y :: ys, ha, hb, e => by
    simp only [nkL, List.cons.injEq] at e
    rw [plL, Bool.and_eq_true] at ha hb
    rw [nk_inj n m x y ha.1 hb.1 e.1, nkL_inj n m xs ys ha.2 hb.2 e.2]
end
section
variable {X : Cx} {pins : List (PySem.Addr × Obj)} {σ : L2.St} {H : Hp} {s : Shared} {h : AH}
mutual
theorem nested_of (I : L2.Inv X pins σ H s) : ∀ (n : Nat) (d : D) (v : V) (u : Value), pl n d = true → Rv X.K H d v → L2.RelV v u → NestedIs s.heap (nk d) u ∧ (nk d).depth ≤ n
  | n, .non, v, u, _, r, q => by cases r; cases q; exact ⟨.none, by simp [nk, NestedKey.depth]⟩
  | n, .int i, v, u, _, r, q => by cases r; obtain ⟨t, rfl⟩ := q; exact ⟨.int _ _, by simp [nk, NestedKey.depth]⟩
  | n, .str i, v, u, _, r, q => by cases r; obtain ⟨t, rfl⟩ := q; exact ⟨.text _ _, by simp [nk, NestedKey.depth]⟩
  | n + 1, .tup ds, v, u, hp, r, q => by
    cases r with
    | tup h1 h2 =>
      cases q
      obtain ⟨its, rv, ⟨o, ho, hc, m, hd⟩, _⟩ := I.tuple h1
      obtain ⟨k1, k2⟩ := nestedL_of I n ds _ its (by simpa [pl] using hp) h2 rv
      exact ⟨.tup ho hc hd (by simpa using k1), by simp only [nk, NestedKey.depth]; omega⟩
  | 0, .tup ds, v, u, hp, r, q => by simp [pl] at hp
  | n, .bl _, v, u, hp, r, q => by cases n <;> simp [pl] at hp
  | n, .rl _, v, u, hp, r, q => by cases n <;> simp [pl] at hp
  | n, .rd _ _, v, u, hp, r, q => by cases n <;> simp [pl] at hp
  | n, .ref _, v, u, hp, r, q => by cases n <;> simp [pl] at hp
theorem nestedL_of (I : L2.Inv X pins σ H s) : ∀ (n : Nat) (ds : List D) (vs : List V) (us : List Value), plL n ds = true → RvL X.K H ds vs → L2.Vals vs us → NestedAll s.heap (nkL ds) us ∧ NestedKey.depthAll (nkL ds) ≤ n
  | n, [], vs, us, _, r, q => by cases r; cases q; exact ⟨.nil, by simp [nkL, NestedKey.depthAll]⟩
  | n, d :: ds, vs, us, hp, r, q => by
    rw [plL, Bool.and_eq_true] at hp
    cases r with
    | cons r1 r2 =>
      cases q with
      | cons q1 q2 =>
        obtain ⟨a1, a2⟩ := nested_of I n d _ _ hp.1 r1 q1
        obtain ⟨b1, b2⟩ := nestedL_of I n ds _ _ hp.2 r2 q2
        exact ⟨.cons a1 b1, by simp only [nkL, NestedKey.depthAll]; omega⟩
end
/-- an entry by its parts -/
def EP (K : PySem.W.Frag) (H : Hp) (p : D × D) (x : GR.RE) : Prop := x.1 = nk p.1 ∧ pl 8 p.1 = true ∧ (∃ v, Rv K H p.1 v ∧ L2.RelV v x.2.1) ∧ ∃ v, Rv K H p.2 v ∧ L2.RelV v x.2.2
theorem ent_list {K : PySem.W.Frag} {w : World} {H : Hp} : ∀ {kvs : List (D × D)} {l : List DictEntry}, Paired (EntR K w H) kvs l → ∃ L, l = L.map (GR.ent w) ∧ Paired (EP K H) kvs L
  | _, _, .nil => ⟨[], rfl, .nil⟩
  | p :: _, e :: _, .cons ⟨h1, h2, h3, h4⟩ t => by
    obtain ⟨L, e1, q⟩ := ent_list t
    refine ⟨(nk p.1, e.key, e.val) :: L, ?_, .cons ⟨rfl, h2, h3, h4⟩ q⟩
    rw [List.map_cons, ← e1]
    congr 1
    cases e
    simp only [GR.ent] at h1 ⊢
    rw [h1]
theorem list_ent {K : PySem.W.Frag} {w : World} {H : Hp} : ∀ {kvs : List (D × D)} {L : List GR.RE}, Paired (EP K H) kvs L → Paired (EntR K w H) kvs (L.map (GR.ent w))
  | _, _, .nil => .nil
  | p :: _, x :: _, .cons ⟨h1, h2, h3, h4⟩ t => .cons ⟨by show x.1.hash w = _; rw [h1], h2, h3, h4⟩ (list_ent t)
theorem EP.kp {K : PySem.W.Frag} {H H' : Hp} (k : Kp H H') {p : D × D} {x : GR.RE} (r : EP K H p x) : EP K H' p x := by
  obtain ⟨h1, h2, ⟨v, a, b⟩, u, c, d⟩ := r
  exact ⟨h1, h2, ⟨v, a.kp k, b⟩, u, c.kp k, d⟩
theorem ep_keys {K : PySem.W.Frag} {H : Hp} : ∀ {kvs : List (D × D)} {L : List GR.RE}, Paired (EP K H) kvs L → L.map (·.1) = (kvs.map (·.1)).map nk
  | _, _, .nil => rfl
  | p :: _, x :: _, .cons ⟨h1, _⟩ t => by rw [List.map_cons, List.map_cons, List.map_cons, ep_keys t, h1]
theorem ep_pl {K : PySem.W.Frag} {H : Hp} : ∀ {kvs : List (D × D)} {L : List GR.RE}, Paired (EP K H) kvs L → ∀ p ∈ kvs, pl 8 p.1 = true
  | _, _, .nil, p, h => by cases h
  | _, _, .cons ⟨_, h2, _⟩ t, p, h => by
    rcases List.mem_cons.mp h with e | h
    · rw [e]; exact h2
    · exact ep_pl t p h
theorem ep_put {K : PySem.W.Frag} {H : Hp} {k d : D} {u v : Value} (e : EP K H (k, d) (nk k, u, v)) : ∀ {kvs : List (D × D)} {L : List GR.RE}, Paired (EP K H) kvs L → Paired (EP K H) (dput kvs k d) (GR.rput L (nk k) u v)
  | _, _, .nil => .cons e .nil
  | (a, b) :: r, x :: _, .cons r1 t => by
    have h1 : x.1 = nk a := r1.1
    rw [dput, GR.rput]
    by_cases z : a = k
    · rw [if_pos z, if_pos (by rw [h1, z])]
      exact .cons ⟨r1.1, r1.2.1, r1.2.2.1, e.2.2.2⟩ t
    · rw [if_neg z, if_neg (fun q => z (nk_inj 8 8 _ _ r1.2.1 e.2.1 (h1.symm.trans q)))]
      exact .cons r1 (ep_put e t)
theorem dput_keys : ∀ (kvs : List (D × D)) (k v : D), (dput kvs k v).map (·.1) = if k ∈ kvs.map (·.1) then kvs.map (·.1) else kvs.map (·.1) ++ [k]
  | [], k, v => rfl
  | (a, b) :: r, k, v => by
    rw [dput]
    by_cases z : a = k
    · rw [if_pos z, if_pos (by simp [z])]; rfl
    · rw [if_neg z, List.map_cons, dput_keys r k v]
      have : (k ∈ ((a, b) :: r).map (·.1)) ↔ k ∈ r.map (·.1) := by
        simp only [List.map_cons, List.mem_cons]
        exact ⟨fun q => q.resolve_left fun e => z e.symm, .inr⟩
      simp only [this]
      split <;> rfl
theorem dput_nodup {kvs : List (D × D)} {k v : D} (h : (kvs.map (·.1)).Nodup) : ((dput kvs k v).map (·.1)).Nodup := by
  rw [dput_keys]
  split
  · exact h
  · rename_i n
    rw [List.nodup_append]
    exact ⟨h, by simp, fun x hx y hy => by simp at hy; subst hy; exact fun e => n (e ▸ hx)⟩
theorem dput_len (kvs : List (D × D)) (k v : D) : (dput kvs k v).length ≤ kvs.length + 1 := by
  have := congrArg List.length (dput_keys kvs k v)
  rw [List.length_map] at this
  split at this <;> simp at this <;> omega
theorem dget_of {kvs : List (D × D)} {L : List GR.RE} {K : PySem.W.Frag} {H : Hp} {k : D} {j : Nat} {x : GR.RE} (hk : pl 8 k = true) : Paired (EP K H) kvs L → (kvs.map (·.1)).Nodup → L[j]? = some x → x.1 = nk k → ∃ d v, dget kvs k = some d ∧ Rv K H d v ∧ L2.RelV v x.2.2 := by
  intro r
  induction r generalizing j with
  | nil => intro _ e; simp at e
  | @cons p y kvs L r1 t ih =>
    intro hn e ex
    obtain ⟨a, b⟩ := p
    rw [List.map_cons, List.nodup_cons] at hn
    cases j with
    | zero =>
      simp only [List.getElem?_cons_zero, Option.some.injEq] at e
      subst e
      have : a = k := nk_inj 8 8 _ _ r1.2.1 hk (r1.1.symm.trans ex)
      obtain ⟨v, h1, h2⟩ := r1.2.2.2
      exact ⟨b, v, by rw [dget, if_pos this], h1, h2⟩
    | succ j =>
      have e' : L[j]? = some x := by simpa using e
      obtain ⟨d, v, h1, h2⟩ := ih hn.2 e' ex
      have hm : k ∈ kvs.map (·.1) := by
        have e2 : (L.map (·.1))[j]? = some (nk k) := by rw [List.getElem?_map, e']; exact congrArg some ex
        rw [ep_keys t, List.getElem?_map] at e2
        cases e3 : (kvs.map (·.1))[j]? with
        | none => rw [e3] at e2; cases e2
        | some c =>
          rw [e3] at e2
          have hc := List.mem_of_getElem? e3
          obtain ⟨q, hq, rfl⟩ := List.mem_map.mp hc
          have : q.1 = k := nk_inj 8 8 _ _ (ep_pl t q hq) hk (Option.some.inj e2)
          rw [← this]; exact hc
      refine ⟨d, v, ?_, h2⟩
      rw [dget, if_neg (fun z => hn.1 (by rw [show (a, b).1 = a from rfl, z]; exact hm))]
      exact h1
theorem dget_none {kvs : List (D × D)} {k : D} : k ∉ kvs.map (·.1) → dget kvs k = none := by
  intro h
  induction kvs with
  | nil => rfl
  | cons p r ih =>
    obtain ⟨a, b⟩ := p
    rw [dget, if_neg (fun z => h (by simp [z]))]
    exact ih fun z => h (List.mem_cons_of_mem _ z)
theorem dget_mem {kvs : List (D × D)} {k v : D} (h : dget kvs k = some v) : k ∈ kvs.map (·.1) := by
  induction kvs with
  | nil => simp [dget] at h
  | cons p r ih =>
    obtain ⟨a, b⟩ := p
    rw [dget] at h
    split at h
    · rename_i e; simp [e]
    · exact List.mem_cons_of_mem _ (ih h)
theorem nk_mem {kvs : List (D × D)} {k : D} (hk : pl 8 k = true) (hp : ∀ p ∈ kvs, pl 8 p.1 = true) : nk k ∈ (kvs.map (·.1)).map nk ↔ k ∈ kvs.map (·.1) := by
  constructor
  · intro h
    obtain ⟨a, ha, e⟩ := List.mem_map.mp h
    obtain ⟨p, hp', rfl⟩ := List.mem_map.mp ha
    rw [← nk_inj 8 8 _ _ (hp p hp') hk e]; exact ha
  · exact fun h => List.mem_map.mpr ⟨k, h, rfl⟩
theorem nk_nodup {kvs : List (D × D)} (hp : ∀ p ∈ kvs, pl 8 p.1 = true) (hn : (kvs.map (·.1)).Nodup) : ((kvs.map (·.1)).map nk).Nodup := by
  induction kvs with
  | nil => simp
  | cons p r ih =>
    rw [List.map_cons, List.nodup_cons] at hn
    rw [List.map_cons, List.map_cons, List.nodup_cons]
    exact ⟨fun h => hn.1 ((nk_mem (hp p List.mem_cons_self) fun q hq => hp q (List.mem_cons_of_mem _ hq)).mp h), ih (fun q hq => hp q (List.mem_cons_of_mem _ hq)) hn.2⟩
/-- a dict of the abstract heap, in the raw heap -/
theorem dic_raw (I : L2.Inv X pins σ H s) (A : Abs X.K X.w h H) {a : Addr} {kvs : List (D × D)} (e : h a = some (.dic kvs)) : ∃ L es ep, GR.Rw X.w s.heap a L es ep ∧ Paired (EP X.K H) kvs L ∧ kvs.length ≤ sizeLine ∧ (a == sysModules) = false ∧ (kvs.map (·.1)).Nodup ∧ H a = some (.ext (RawD a es ep)) := by
  obtain ⟨h1, h2, h3, es, ep, h4, h5, hv⟩ := A a _ e
  obtain ⟨L, e1, q⟩ := ent_list h5
  have hx := I.hok a _ h4
  refine ⟨L, es, ep, ⟨hx.1, e1, ?_, ?_, hv⟩, q, h1, h2, h3, h4⟩
  · rw [ep_keys q]; exact nk_nodup (ep_pl q) h3
  · intro x hx
    obtain ⟨p, hp, r⟩ := pMem q x hx
    obtain ⟨v, a1, a2⟩ := r.2.2.1
    rw [r.1]
    exact nested_of I 8 p.1 v x.2.1 r.2.1 a1 a2
theorem raw_obj {P : Program} {w : World} {H : Hp} {h' : Heap} {a : Addr} {es : Array DictEntry} {ep : Nat} (x : GR.Dic h' a es ep) : ObjOk P w H h' a (.ext (RawD a es ep)) :=
  ⟨x, let ⟨o, h1, _⟩ := x; ⟨o, h1⟩, fun h1 h2 ⟨o, a1, a2⟩ k => ⟨o, k o a1, a2⟩⟩
end
end G
end
section
set_option Elab.async false
set_option linter.all false
set_option maxRecDepth 100000
set_option maxHeartbeats 4000000
namespace G
open PySem PySem.Spec PyProof.Rows L2
variable [Tb]
section
variable {X : Cx} {pins : List (PySem.Addr × Obj)} {σ : L2.St} {H : Hp} {s : Shared} {h : AH}
/-- behind a change of the dict at a -/
theorem dic_wr {kvs' : List (D × D)} {L' : List GR.RE} {es es' : Array DictEntry} {ep ep' : Nat} {a : Addr} {h' : Heap} {tk : Nat} (I : L2.Inv X pins σ H s) (A : Abs X.K X.w h H) (e4 : H a = some (.ext (RawD a es ep))) (hne : (a == sysModules) = false)
    (x : GR.Rw X.w h' a L' es' ep') (hs : Heap.SameBut a s.heap h') (r : Paired (EP X.K H) kvs' L') (hz : kvs'.length ≤ sizeLine) (hn : (kvs'.map (·.1)).Nodup) :
    L2.Inv X pins σ (upd H a (.ext (RawD a es' ep'))) { s with heap := h', toks := tk } ∧ Abs X.K X.w (up h a (.dic kvs')) (upd H a (.ext (RawD a es' ep'))) ∧ Kp H (upd H a (.ext (RawD a es' ep'))) := by
  have hr : RawD a es ep s.heap := (I.hok a _ e4).1
  have k1 : Kp H (upd H a (.ext (RawD a es' ep'))) := Kp.wr e4 trivial (raw_noC hr) (raw_noF hr)
  refine ⟨I.write (t' := tk) (x := a) (e := a) (by rw [e4]; trivial) (.inl rfl) (fun b u hb q => (hs.2 b hb).trans q) (let ⟨o, ho, _⟩ := x.dic; ⟨o, ho⟩) (raw_obj x.dic), A.wr e4 trivial ⟨hz, hne, hn, es', ep', upd_same, ?_⟩ (raw_noC hr) (raw_noF hr), k1⟩
  have q := list_ent (w := X.w) r
  rw [← x.ents] at q
  exact ⟨pImp (fun _ _ z => z.kp k1) q, x.ver⟩
theorem dic_new {a : Addr} {kvs : List (D × D)} {L : List GR.RE} {es : Array DictEntry} {ep : Nat} {h' : Heap} {tk : Nat} (I : L2.Inv X pins σ H s) (A : Abs X.K X.w h H) (ha : a = s.heap.objs.size) (x : GR.Rw X.w h' a L es ep) (kk : ∀ b o, s.heap.get? b = some o → h'.get? b = some o) (r : Paired (EP X.K H) kvs L) (hz : kvs.length ≤ sizeLine) (hn : (kvs.map (·.1)).Nodup) :
    L2.Inv X pins σ (upd H a (.ext (RawD a es ep))) { s with heap := h', toks := tk } ∧ Abs X.K X.w (up h a (.dic kvs)) (upd H a (.ext (RawD a es ep))) ∧ Kp H (upd H a (.ext (RawD a es ep))) ∧ H a = none := by
  have nn : H a = none := by rw [ha]; exact I.hok.fresh (Nat.le_refl _)
  have k1 : Kp H (upd H a (.ext (RawD a es ep))) := Kp.new nn
  refine ⟨I.laid (a := a) (t' := tk) kk (by rw [ha]; exact Nat.le_refl _) (raw_obj x.dic), A.new nn ⟨hz, beq_eq_false_iff_ne.mpr (Ne.symm (Nat.ne_of_lt (by rw [ha]; exact I.big))), hn, es, ep, upd_same, ?_⟩, k1, nn⟩
  have q := list_ent (w := X.w) r
  rw [← x.ents] at q
  exact ⟨pImp (fun _ _ z => z.kp k1) q, x.ver⟩
end
section
variable {X : Cx} {a b c e tg : Expr} {pos : Pos}
theorem ge_dic0 : GE X (.Dict [] [] pos) dDic0 := ⟨fun pins s σ H Q I ⟨ρ, h, Q0, R, A, q, k⟩ => by
  refine wpAny_Dict_empty ?_
  obtain ⟨I1, A1, k1, n1⟩ := dic_new (kvs := []) (L := []) (tk := s.toks) (h' := s.heap.push { cls := .type "dict", data := .dict #[] }) I A rfl ⟨⟨_, Heap.get?_push_size _ rfl, ⟨rfl, rfl, rfl⟩, rfl⟩, rfl, List.nodup_nil, (fun _ hx => by cases hx), rfl⟩ (fun b o e => Heap.get?_push_of_some _ e) .nil (Nat.zero_le _) List.nodup_nil
  exact ⟨.ref s.heap.objs.size, _, I1, rfl, k _ _ _ _ (newD.go q _ (A.nil n1)) k1 (.ref _) A1⟩⟩
abbrev GX (X : Cx) (f : D → D → AH → KD → Prop) : Prop := IxR X (R2ok X.K X.w f)
theorem dcOf_some {h : AH} {x : D} {kvs : List (D × D)} (e : dcOf h x = some kvs) : (∃ a, x = .ref a ∧ h a = some (.dic kvs)) ∨ ∃ ks vs, x = .rd ks vs := by
  cases x with
  | ref a =>
    dsimp only [dcOf] at e
    split at e
    · rename_i q; cases e; exact .inl ⟨a, rfl, q⟩
    · cases e
  | rd ks vs => exact .inr ⟨ks, vs, rfl⟩
  | _ => cases e
theorem sqOf_some {K : PySem.W.Frag} {w : World} {h : AH} {H : Hp} {x : D} {v : V} {ds : List D} (A : Abs K w h H) (r : Rv K H x v) (e : sqOf h x = some ds) : ∃ a vs, v = .ref a ∧ (SqL K H a vs ∨ SqT K H a vs) ∧ RvL K H ds vs := by
  cases r with
  | tup h1 h2 => cases e; exact ⟨_, _, rfl, .inr h1, h2⟩
  | rl h1 h2 => cases e; exact ⟨_, _, rfl, .inl h1.sq, h2⟩
  | ref a =>
    dsimp only [sqOf, lsOf] at e
    split at e
    · rename_i q; cases e
      obtain ⟨vs, e1, r1⟩ := A _ _ q
      exact ⟨a, vs, rfl, .inl (SqL.of e1), r1⟩
    · cases e
  | _ => cases e
theorem ixN_same (n : Nat) (i : Int) : G.ixN n i = L2.ixN n i := rfl
theorem atI_rv {K : PySem.W.Frag} {H : Hp} {ds : List D} {vs : List V} {i : Int} {d : D} (r : RvL K H ds vs) (e : G.atI ds i = some d) : ∃ v, L2.atI vs i = some v ∧ Rv K H d v := by
  unfold G.atI at e
  unfold L2.atI
  rw [← r.length, ← ixN_same]
  cases z : G.ixN ds.length i with
  | none => rw [z] at e; cases e
  | some k =>
    rw [z] at e
    exact r.get e
theorem gx_ix (hu : X.A.units + 64 < cLine) : GX X oIx := fun value slice pins s σ H x y v u Q I rx ry ⟨d, e, h, Q0, rd, re, A, q, k⟩ hs => by
  replace q := q.un
  split at q
  · rename_i kvs ekv
    obtain ⟨hp, w', eg, q⟩ := q
    rcases dcOf_some ekv with ⟨a, rfl, ea⟩ | ⟨ks, vs, rfl⟩
    · cases rd; cases rx
      obtain ⟨L, es, ep, hR, hP, hz, hne, hnd, e4⟩ := dic_raw I A ea
      obtain ⟨n1, n2⟩ := nested_of I 8 e y u hp re ry
      refine tail_any hR.dic.typeIs F.slot_dict_getitem.lookup (GR.getItem_any (by omega) n1 n2 hR.dic hR.ks ?_ fun j en hj he => ?_) hs
      · rw [ep_keys hP]
        exact (nk_mem hp (ep_pl hP)).mpr (dget_mem eg)
      · rw [hR.at_ j] at he
        cases e5 : L[j]? with
        | none => rw [e5] at he; cases he
        | some xx =>
          rw [e5] at he; cases he
          have ex : xx.1 = nk e := by
            rw [List.getElem?_map, e5] at hj
            exact Option.some.inj hj
          obtain ⟨d', v', g1, g2, g3⟩ := dget_of hp hP hnd e5 ex
          rw [eg] at g1; cases g1
          exact ⟨v', H, I.tok _, g3, k _ _ _ _ q (Kp.refl _) g2 A⟩
    · cases rd
  · cases e with
    | int i =>
      cases re
      cases d with
      | str z =>
        cases rd with
        | str _ oz =>
        obtain ⟨c, ec, q⟩ := q
        have hone : okS ⟨#[c]⟩ := by show 1 ≤ sizeLine; decide
        exact ix_str value slice pins s σ H _ _ v u Q I rx ry ⟨z, i, c, rfl, rfl, oz, ec, k _ _ _ _ q (Kp.refl _) (.str _ hone) A⟩ hs
      | tup ds =>
        obtain ⟨w', ew, q⟩ := q
        cases rd with
        | tup h1 h2 =>
          obtain ⟨v', e1, r1⟩ := atI_rv h2 ew
          exact ix_tup value slice pins s σ H _ _ v u Q I rx ry ⟨_, _, i, v', rfl, rfl, h1, e1, k _ _ _ _ q (Kp.refl _) r1 A⟩ hs
      | rl ds =>
        obtain ⟨w', ew, q⟩ := q
        cases rd with
        | rl h1 h2 =>
          obtain ⟨v', e1, r1⟩ := atI_rv h2 ew
          exact ix_list value slice pins s σ H _ _ v u Q I rx ry ⟨_, _, i, v', rfl, rfl, h1.sq, e1, k _ _ _ _ q (Kp.refl _) r1 A⟩ hs
      | ref a =>
        dsimp only [sqOf, lsOf] at q
        split at q
        · rename_i ds e1
          split at e1
          · rename_i ds' e2
            cases e1
            cases rd
            obtain ⟨w', ew, q⟩ := q
            obtain ⟨vs, e3, r3⟩ := A _ _ e2
            obtain ⟨v', e1, r1⟩ := atI_rv r3 ew
            exact ix_list value slice pins s σ H _ _ v u Q I rx ry ⟨_, _, i, v', rfl, rfl, SqL.of e3, e1, k _ _ _ _ q (Kp.refl _) r1 A⟩ hs
          · cases e1
        · exact q.elim
      | _ => exact q.elim
    | _ => exact q.elim
theorem ge_ix {f : D → D → AH → KD → Prop} {fa fb : DE} (hr : GX X f) (ha : GE X a fa) (hb : GE X b fb) (hs : PlainIx b := by exact fun _ _ => rfl) : GE X (.Subscript a b pos) (d2 f fa fb) :=
  pe_imp (pe_ix hr ha hb hs) fun _ _ _ x => d2_ok x
def R3ok (K : PySem.W.Frag) (w : World) (f : D → D → D → AH → (AH → Prop) → Prop) : TSet := fun x y z H Q => ∃ d e g h Q0, Rv K H d x ∧ Rv K H e y ∧ Rv K H g z ∧ Abs K w h H ∧ f d e g h Q0 ∧ ∀ h' H', Q0 h' → Kp H H' → Abs K w h' H' → Q H'
theorem set_ok (hu : X.A.units + 64 < cLine) : PSet X (R3ok X.K X.w oPut) := fun pins s σ H x y z xv yv zv Q I rx ry rz ⟨d, e, g, h, Q0, rd, re, rg, A, q, k⟩ => by
  replace q := q.un
  split at q
  · rename_i a
    cases rd; cases rx
    split at q
    · rename_i ds ea
      split at q
      · rename_i i
        obtain ⟨j, ej, q⟩ := q
        cases re
        obtain ⟨vs, e1, r1⟩ := A _ _ ea
        have kw : Kp H (upd H a (.lst (vs.set j z))) := Kp.wr e1 trivial
        exact set_list pins s σ H (.ref a) (.int i) z (.ref a) yv zv Q I rfl ry rz ⟨a, vs, i, j, rfl, rfl, e1, by rw [← r1.length, ← ixN_same]; exact ej, k _ _ q kw (A.wr (o := .lst (ds.set j g)) e1 trivial ⟨_, upd_same, (r1.set rg j).kp kw⟩)⟩
      · exact q.elim
    · rename_i kvs ea
      obtain ⟨hp, hlt, q⟩ := q
      obtain ⟨L, es, ep, hR, hP, hz, hne, hnd, e4⟩ := dic_raw I A ea
      obtain ⟨n1, n2⟩ := nested_of I 8 e y yv hp re ry
      have hlen : L.length = kvs.length := by
        have := congrArg List.length (ep_keys hP)
        simpa using this
      have hEP : EP X.K H (e, g) (nk e, yv, zv) := ⟨rfl, hp, ⟨y, re, ry⟩, z, rg, rz⟩
      have old : ∀ h', Heap.SameBut a s.heap h' → ∀ x ∈ GR.rput L (nk e) yv zv, NestedIs h' x.1 x.2.1 ∧ x.1.depth ≤ 8 := fun h' hs x hx => by
        rcases GR.rput_mem hx with ⟨y, hy, e1, e2⟩ | e'
        · rw [e1, e2]; exact ⟨GR.same_nested hR.dic hs (hR.keys y hy).1, (hR.keys y hy).2⟩
        · subst e'; exact ⟨GR.same_nested hR.dic hs n1, n2⟩
      have fin : ∀ h' es' ep' tk, GR.Rw X.w h' a (GR.rput L (nk e) yv zv) es' ep' → Heap.SameBut a s.heap h' → ∃ H', L2.Inv X pins σ H' { s with heap := h', toks := tk } ∧ Q H' := fun h' es' ep' tk x' hs' => by
        have := dput_len kvs e g
        obtain ⟨I1, A1, k1⟩ := dic_wr (tk := tk) I A e4 hne x' hs' (ep_put hEP hP) (by rw [sz_eq]; omega) (dput_nodup hnd)
        exact ⟨_, I1, k _ _ q k1 A1⟩
      refine GR.setItem_any (k := nk e) (by omega) n1 n2 hR.dic hR.ks (by rw [List.length_map]; omega) (fun hn h' hd' hs' => fin h' _ _ _ ⟨hd', ?_, GR.rput_nodup hR.nd, old h' hs', by rw [Array.size_push, ← hR.ver]⟩ hs') fun j hj h' hd' hs' => fin h' _ _ _ ⟨hd', ?_, GR.rput_nodup hR.nd, old h' hs', by rw [Array.size_modify, ← hR.ver]⟩ hs'
      · rw [GR.rput_new hn, Array.toList_push, hR.ents, List.map_append]; rfl
      · rw [Array.toList_modify, hR.ents]
        exact GR.rput_ent hR.nd hj
    · exact q.elim
  · exact q.elim
theorem gg_sub {o i : Expr} {fo fi : DE} (hp : PG X (.Subscript o i pos) (L2.gSub (tE X.K X.w fo) (tE X.K X.w fi) (R3ok X.K X.w oPut))) : GG X (.Subscript o i pos) [] (G.gSub fo fi) :=
  ⟨fun pins s σ H v u Q I r ⟨d, ρ, h, Q0, rd, R, A, q, k⟩ => by
    refine hp.run pins s σ H v u Q I r ⟨ρ, h, _, R, A, q, fun x h1 xv H1 q1 k1 r1 A1 => ⟨ρ, h1, _, R.kp k1, A1, q1, fun y h2 yv H2 q2 k2 r2 A2 => ?_⟩⟩
    exact ⟨x, y, d, h2, _, r1.kp k2, r2, rd.kp (k1.trans k2), A2, q2, fun h3 H3 q3 k3 A3 => k _ _ _ _ q3 (k1.trans (k2.trans k3)) (R.kp (k1.trans (k2.trans k3))) A3 (Sm.refl _ _)⟩⟩
end
end G
end
section
set_option Elab.async false
set_option linter.all false
set_option maxRecDepth 100000
set_option maxHeartbeats 4000000
namespace G
open PySem PySem.Spec PyProof.Rows L2
variable [Tb]
section
variable {X : Cx} {a b c e tg : Expr} {pos : Pos}
theorem any_tp {n : Nat} {x : D} (hx : Dn n x) : ∀ {ys : List D}, (∀ y ∈ ys, Dn n y) → ((tpL ys).any fun y => PyData.eqv y (tp x)) = ys.any fun y => deqv y x
  | [], _ => rfl
  | y :: ys, h => by
    rw [tpL, List.any_cons, List.any_cons, eqv_tp y x n n (h y List.mem_cons_self) hx, any_tp hx fun z hz => h z (List.mem_cons_of_mem _ hz)]
theorem in_ok (hu : X.A.units + 64 < cLine) {pins : List (PySem.Addr × Obj)} {s : Shared} {σ : L2.St} {H : Hp} {x y : V} {v u : Value} {P : Bool → Prop} {d e : D} {h : AH} (I : L2.Inv X pins σ H s) (rx : L2.RelV x v) (ry : L2.RelV y u) (rd : Rv X.K H d x) (re : Rv X.K H e y) (A : Abs X.K X.w h H) (q : oInB d e h P) :
    ∃ t, P t ∧ (∀ Q : VK, Q (.bl t) H → wpAny (model X.prog X.w) X.A (compareOp .In v u) (L2.EP X pins σ Q) X.xe s) ∧ ∀ Q : VK, Q (.bl (!t)) H → wpAny (model X.prog X.w) X.A (compareOp .NotIn v u) (L2.EP X pins σ Q) X.xe s := by
  unfold oInB at q
  split at q
  · rename_i kvs ekv
    obtain ⟨hp, q⟩ := q
    rcases dcOf_some ekv with ⟨a, rfl, ea⟩ | ⟨ks, vs, rfl⟩
    · cases re; cases ry
      obtain ⟨L, es, ep, hR, hP, hz, hne, hnd, e4⟩ := dic_raw I A ea
      obtain ⟨n1, n2⟩ := nested_of I 8 d x v hp rd rx
      have em : decide (nk d ∈ L.map (·.1)) = decide (d ∈ kvs.map (·.1)) := by
        rw [ep_keys hP]
        exact decide_eq_decide.mpr (nk_mem hp (ep_pl hP))
      refine ⟨_, q, fun Q hq => GR.in_any (by omega) n1 n2 hne hR.dic hR.ks ?_, fun Q hq => GR.notIn_any (by omega) n1 n2 hne hR.dic hR.ks ?_⟩
      · rw [em]; exact ⟨.bl _, H, I.tok _, rfl, hq⟩
      · rw [em]; exact ⟨.bl _, H, I.tok _, rfl, hq⟩
    · cases re
  · split at q
    · cases re
      split at q
      · rename_i t
        cases rd
        obtain ⟨c, ec, q⟩ := q
        have et : t = ⟨#[c]⟩ := by
          cases t with
          | mk cps =>
            have : cps.toList = [c] := ec
            congr 1
            exact Array.toList_inj.mp this
        subst et
        exact ⟨_, q, fun Q hq => op_in_sign pins s σ H _ _ _ _ Q I rx ry ⟨c, _, rfl, rfl, hq⟩, fun Q hq => op_notIn_sign pins s σ H _ _ _ _ Q I rx ry ⟨c, _, rfl, rfl, hq⟩⟩
      · exact q.elim
    · split at q
      · rename_i x' ys e1 e2
        obtain ⟨ds, e3, e4⟩ := Option.bind_eq_some_iff.mp e2
        obtain ⟨as, r1⟩ := reads I A _ _ _ _ _ e1 rd rx
        have n1 := rei_dn _ _ _ e1
        have nL : ∀ y ∈ ys, Dn 12 y := fun y hy => let ⟨z, _, q⟩ := pMem (mapO_some e4) y hy; rei_dn _ _ _ q
        have dL : PyData.depthAll (tpL ys) ≤ 12 := depthAll_le fun p hp => by
          rw [tpL_map] at hp
          obtain ⟨d, hd, e⟩ := List.mem_map.mp hp
          rw [← e]; exact (nL d hd).tp.1
        have pL : PyData.plainAll (tpL ys) = true := plainAll_of fun p hp => by
          rw [tpL_map] at hp
          obtain ⟨d, hd, e⟩ := List.mem_map.mp hp
          rw [← e]; exact (nL d hd).tp.2
        have b1 := n1.tp.1
        obtain ⟨a, vs, rfl, hq, rL⟩ := sqOf_some A re e3
        cases ry
        rcases hq with hq | hq
        · obtain ⟨its, rv, ⟨o, m, ho, hc, _, hd⟩, _⟩ := I.list hq
          obtain ⟨bs, r2⟩ := reads_list (fun d d' v u => reads I A 12 d d' v u) e4 rL rv
          refine ⟨_, q, fun Q hq => SeqAt.in_list_data (Reads.list ho hc hd r2) r1 pL n1.tp.2 (by omega) ?_, fun Q hq => SeqAt.notIn_list_data (Reads.list ho hc hd r2) r1 pL n1.tp.2 (by omega) ?_⟩
          · rw [any_tp n1 nL]; exact ⟨.bl _, H, I, rfl, hq⟩
          · rw [any_tp n1 nL]; exact ⟨.bl _, H, I, rfl, hq⟩
        · obtain ⟨its, rv, ⟨o, ho, hc, m, hd⟩, _⟩ := I.tuple hq
          obtain ⟨bs, r2⟩ := reads_list (fun d d' v u => reads I A 12 d d' v u) e4 rL rv
          refine ⟨_, q, fun Q hq => SeqAt.in_tuple_data (Reads.tuple ho hc hd r2) r1 pL n1.tp.2 (by omega) ?_, fun Q hq => SeqAt.notIn_tuple_data (Reads.tuple ho hc hd r2) r1 pL n1.tp.2 (by omega) ?_⟩
          · rw [any_tp n1 nL]; exact ⟨.bl _, H, I, rfl, hq⟩
          · rw [any_tp n1 nL]; exact ⟨.bl _, H, I, rfl, hq⟩
      · exact q.elim
theorem gc_in (hu : X.A.units + 64 < cLine) : GC X .In oIn := fun pins s σ H x y v u Q I rx ry ⟨d, e, h, Q0, rd, re, A, q, k⟩ => by
  replace q := q.un
  obtain ⟨t, q1, q2, _⟩ := in_ok hu I rx ry rd re A q
  exact q2 Q (k _ _ _ _ q1 (Kp.refl _) (.bl _) A)
theorem gc_notIn (hu : X.A.units + 64 < cLine) : GC X .NotIn oNotIn := fun pins s σ H x y v u Q I rx ry ⟨d, e, h, Q0, rd, re, A, q, k⟩ => by
  replace q := q.un
  obtain ⟨t, q1, _, q2⟩ := in_ok hu I rx ry rd re A q
  exact q2 Q (k _ _ _ _ q1 (Kp.refl _) (.bl _) A)
abbrev GM (X : Cx) (id : String) (m : D → List D → AH → KD → Prop) : Prop := MtR X id fun x vs H Q => ∃ d ds h Q0, Rv X.K H d x ∧ RvL X.K H ds vs ∧ Abs X.K X.w h H ∧ m d ds h Q0 ∧ KQ X.K X.w H Q0 Q
/-- the types that have methods here -/
abbrev mty (T : String) : Prop := T = "list" ∨ T = "dict" ∨ T = "str"
theorem ty_is {pins : List (PySem.Addr × Obj)} {s : Shared} {σ : L2.St} {H : Hp} {v : V} {u : Value} {d : D} {h : AH} {T : String} (I : L2.Inv X pins σ H s) (A : Abs X.K X.w h H) (rd : Rv X.K H d v) (r : L2.RelV v u) (hT : mty T) (t : isT T h d = some true) :
    s.TypeIs u T ∧ ∀ p, u = .ref p → ∃ o, s.heap.get? p = some o ∧ o.dict = none := by
  have lst : ∀ {p : Addr} {vs : List V}, SqL X.K H p vs → s.TypeIs (.ref p) "list" ∧ ∀ q, Value.ref p = .ref q → ∃ o, s.heap.get? q = some o ∧ o.dict = none := fun {p vs} hq => by
    obtain ⟨its, _, ⟨o, n, e, c, hd, _⟩, _⟩ := I.list hq
    exact ⟨⟨o, e, c⟩, fun q z => by cases z; exact ⟨o, e, hd⟩⟩
  cases rd with
  | non => rcases hT with rfl | rfl | rfl <;> simp [isT] at t
  | bl b => rcases hT with rfl | rfl | rfl <;> simp [isT] at t
  | int i => rcases hT with rfl | rfl | rfl <;> simp [isT] at t
  | tup h1 h2 => rcases hT with rfl | rfl | rfl <;> simp [isT] at t
  | str x o =>
    rcases hT with rfl | rfl | rfl <;> simp [isT] at t
    obtain ⟨tk, rfl⟩ := r
    exact ⟨typeIs_str s x tk, fun _ e => nomatch e⟩
  | rl h1 h2 =>
    rcases hT with rfl | rfl | rfl <;> simp [isT] at t
    cases r
    exact lst h1.sq
  | ref p =>
    cases r
    dsimp only [isT] at t
    split at t
    · rename_i ds e
      obtain ⟨vs, e1, r1⟩ := A _ _ e
      rcases hT with rfl | rfl | rfl <;> simp at t
      exact lst (SqL.of e1)
    · rename_i kvs e
      obtain ⟨L, es, ep, hR, _⟩ := dic_raw I A e
      rcases hT with rfl | rfl | rfl <;> simp at t
      exact ⟨hR.dic.typeIs, hR.dic.noDict⟩
    · cases t
theorem ge_meth {o : Expr} {es : List Expr} {name : Str} {apos cpos : Pos} {T id : String} {m : D → List D → AH → KD → Prop} {fo : DE} {fa : DA} (pa : PlainAttrs T) (slot : Slot T name id) (hty : typeOf (.builtin id) = pure (.type "method_descriptor")) (hm : GM X id m) (hT : mty T) (ho : GE X o fo) (ha : GA X (e :: es) fa)
    (hbase : attributeBase o name X.env (eval o X.env) = eval o X.env := by rfl)
    (hfew : ((backTo cpos (starEach (e :: es) X.env)).all (fun x => !x.1) && (backToKw cpos (keywordEach [] X.env)).all (fun x => x.1.isSome)
      && decide ((e :: es).length + ([] : List Keyword).length + (if ([] : List Keyword).isEmpty then 0 else 1) < 30)) = true := by rfl)
    (hline : (apos.endLine == cpos.line) = true := by rfl) (hs : starEach (e :: es) X.env = (false, eval e X.env) :: starEach es X.env := by rfl) (hplain : (backTo cpos (starEach es X.env)).any (·.1) = false := by rfl) :
    GE X (.Call (.Attribute o name apos) (e :: es) [] cpos) (dMeth T m fo fa) := by
  refine ⟨fun pins s σ H Q I ⟨ρ, h, Q0, R, A, q, k⟩ => ?_⟩
  refine wpAny_Call_method_late hbase hfew hline rfl (thn (ho.run pins s σ H (fun x H1 => ∃ d h1, Kp H H1 ∧ Rv X.K H1 d x ∧ Abs X.K X.w h1 H1 ∧ isT T h1 d = some true ∧ fa ρ h1 fun ds h2 => m d ds h2 Q0) I ⟨ρ, h, _, R, A, q, fun d h1 v H1 q1 k1 r1 A1 => ⟨d, h1, k1, r1, A1, q1.1, q1.2⟩⟩) fun v s1 ⟨x, H1, I1, r1, d, h1, k1, rd, A1, t, q1⟩ => ?_)
  obtain ⟨t1, t2⟩ := ty_is I1 A1 rd r1 hT t
  refine ⟨T, id, pa, slot, hty, t1, t2, ?_⟩
  have hA := ha.run cpos pins s1 σ H1 (fun vs H2 => ∃ ds h2, Kp H1 H2 ∧ RvL X.K H2 ds vs ∧ Abs X.K X.w h2 H2 ∧ m d ds h2 Q0) I1 ⟨ρ, h1, _, R.kp k1, A1, q1, fun ds h2 vs H2 q2 k2 r2 A2 => ⟨ds, h2, k2, r2, A2, q2⟩⟩
  rw [hs] at hA ⊢
  refine Calls.callWith_builtin (by show (false || (backTo cpos (starEach es X.env)).any (·.1)) = false; rw [hplain] <;> rfl) (Calls.evalArgs_plain ?_)
  exact thn hA fun us s2 ⟨vs, H2, I2, r2, ds, h2, k2, rL, A2, q2⟩ => hm pins s2 σ H2 x vs v us Q I2 r1 r2 ⟨d, ds, h2, Q0, rd.kp k2, rL, A2, q2, k.kp (k1.trans k2)⟩
theorem ge_meth0 {o : Expr} {name : Str} {apos cpos : Pos} {T id : String} {m : D → List D → AH → KD → Prop} {fo : DE} (pa : PlainAttrs T) (slot : Slot T name id) (hty : typeOf (.builtin id) = pure (.type "method_descriptor")) (hm : GM X id m) (hT : mty T) (ho : GE X o fo)
    (hbase : attributeBase o name X.env (eval o X.env) = eval o X.env := by rfl) (hline : (apos.endLine == cpos.line) = true := by rfl) : GE X (.Call (.Attribute o name apos) [] [] cpos) (dMeth T m fo daNil) := by
  refine ⟨fun pins s σ H Q I ⟨ρ, h, Q0, R, A, q, k⟩ => ?_⟩
  refine wpAny_Call_method0_late hbase hline (thn (ho.run pins s σ H (fun x H1 => ∃ d h1, Kp H H1 ∧ Rv X.K H1 d x ∧ Abs X.K X.w h1 H1 ∧ isT T h1 d = some true ∧ m d [] h1 Q0) I ⟨ρ, h, _, R, A, q, fun d h1 v H1 q1 k1 r1 A1 => ⟨d, h1, k1, r1, A1, q1.1, q1.2⟩⟩) fun v s1 ⟨x, H1, I1, r1, d, h1, k1, rd, A1, t, q1⟩ => ?_)
  obtain ⟨t1, t2⟩ := ty_is I1 A1 rd r1 hT t
  exact ⟨T, id, pa, slot, hty, t1, t2, Calls.callWith_builtin rfl (PySem.evalArgs_none (hm pins s1 σ H1 x [] v [] Q I1 r1 .nil ⟨d, [], h1, Q0, rd, .nil, A1, q1, k.kp k1⟩))⟩
theorem gm_append : GM X "list.append" mAppend := fun pins s σ H x vs v us Q I rx rv ⟨d, ds, h, Q0, rd, rL, A, q, k⟩ => by
  unfold mAppend at q
  split at q
  · rename_i a e
    split at q
    · rename_i ds' ea
      obtain ⟨z, q⟩ := q
      cases rd
      obtain ⟨xs, e1, r1⟩ := A _ _ ea
      cases rL with
      | @cons _ y _ _ ra rb =>
        cases rb
        have kw : Kp H (upd H a (.lst (xs ++ [y]))) := Kp.wr e1 trivial
        exact mt_append pins s σ H _ _ v us Q I rx rv ⟨a, xs, y, rfl, rfl, e1, by rw [← r1.length, sz_eq]; exact z, k _ _ _ _ q kw .non (A.wr (o := .lst (ds' ++ [e])) e1 trivial ⟨_, upd_same, (r1.append (.one ra)).kp kw⟩)⟩
    · exact q.elim
  · exact q.elim
end
end G
end
section
set_option Elab.async false
set_option linter.all false
set_option maxRecDepth 100000
set_option maxHeartbeats 4000000
namespace G
open PySem PySem.Spec PyProof.Rows L2
variable [Tb]
section
variable {X : Cx} {a b c e tg : Expr} {pos : Pos}
abbrev GB (X : Cx) (f : Value) (b : FS) : Prop := CallR X f fun vs H Q => ∃ ds h Q0, RvL X.K H ds vs ∧ Abs X.K X.w h H ∧ b ds h Q0 ∧ KQ X.K X.w H Q0 Q
theorem ge_callB {id : String} {x : Str} {p : Pos} {es : List Expr} {fb : FS} {fa : DA} (hc : GB X (.builtin id) fb) (hm : X.mg x = none) (hv : bootBuiltins x = some (.builtin id)) (ha : GA X (e :: es) fa) (hg : Gl X x := by rfl) (hn : x ≠ "__name__" := by decide) (hdb : (x == ("__debug__" : Str)) = false := by decide)
    (he : starEach (e :: es) X.env = (false, eval e X.env) :: starEach es X.env := by rfl) (hpl : (backTo pos (starEach es X.env)).any (·.1) = false := by rfl) : GE X (.Call (.Name x p) (e :: es) [] pos) (dCall fb fa) :=
  pe_imp (pe_callB hc hg hm hv ha hn hdb he hpl) fun σ H Q ⟨ρ, h, Q0, R, A, q, k⟩ => ⟨ρ, h, _, R, A, q, fun ds h1 vs H1 q1 k1 r1 A1 => ⟨ds, h1, Q0, r1, A1, q1, k.kp k1⟩⟩
theorem ge_callTy {T : String} {x : Str} {p : Pos} {es : List Expr} {fb : FS} {fa : DA} (hc : GB X (.type T) fb) (hm : X.mg x = none) (hv : bootBuiltins x = some (.type T)) (ha : GA X (e :: es) fa) (hg : Gl X x := by rfl) (hn : x ≠ "__name__" := by decide) (hdb : (x == ("__debug__" : Str)) = false := by decide)
    (he : starEach (e :: es) X.env = (false, eval e X.env) :: starEach es X.env := by rfl) (hpl : (backTo pos (starEach es X.env)).any (·.1) = false := by rfl) : GE X (.Call (.Name x p) (e :: es) [] pos) (dCall fb fa) :=
  pe_imp (pe_callTy hc hg hm hv ha hn hdb he hpl) fun σ H Q ⟨ρ, h, Q0, R, A, q, k⟩ => ⟨ρ, h, _, R, A, q, fun ds h1 vs H1 q1 k1 r1 A1 => ⟨ds, h1, Q0, r1, A1, q1, k.kp k1⟩⟩
theorem rvL_one {K : PySem.W.Frag} {H : Hp} {d : D} {vs : List V} (r : RvL K H [d] vs) : ∃ v, vs = [v] ∧ Rv K H d v := by
  cases r with
  | cons ra rb => cases rb; exact ⟨_, rfl, ra⟩
theorem gb_len : GB X (.builtin "len") bLen := fun pins s σ H vs us Q I r ⟨ds, h, Q0, rL, A, q, k⟩ => by
  unfold bLen at q
  split at q
  · rename_i x
    obtain ⟨v, rfl, rv⟩ := rvL_one rL
    split at q
    · rename_i z
      cases rv with
      | str _ o => exact call_len_str pins s σ H _ us Q I r ⟨z, rfl, o, k _ _ _ _ q (Kp.refl _) (.int _) A⟩
    · split at q
      · rename_i ds e1
        obtain ⟨a, vs, rfl, hq, rL'⟩ := sqOf_some A rv e1
        exact call_len_seq pins s σ H _ us Q I r ⟨a, vs, rfl, hq, by rw [← rL'.length]; exact k _ _ _ _ q (Kp.refl _) (.int _) A⟩
      · exact q.elim
  · exact q.elim
theorem intsOf_some {K : PySem.W.Frag} {H : Hp} : ∀ {ds : List D} {ns : List Int} {vs : List V}, intsOf ds = some ns → RvL K H ds vs → vs = ns.map V.int
  | [], ns, vs, e, r => by cases e; cases r; rfl
  | .int i :: ds, ns, vs, e, r => by
    simp only [intsOf, Option.map_eq_some_iff] at e
    obtain ⟨ms, e1, rfl⟩ := e
    cases r with
    | cons ra rb =>
      cases ra
      rw [intsOf_some e1 rb]; rfl
  | .non :: _, _, _, e, _ => by simp [intsOf] at e
  | .bl _ :: _, _, _, e, _ => by simp [intsOf] at e
  | .str _ :: _, _, _, e, _ => by simp [intsOf] at e
  | .tup _ :: _, _, _, e, _ => by simp [intsOf] at e
  | .rl _ :: _, _, _, e, _ => by simp [intsOf] at e
  | .rd _ _ :: _, _, _, e, _ => by simp [intsOf] at e
  | .ref _ :: _, _, _, e, _ => by simp [intsOf] at e
theorem lsOf_some {K : PySem.W.Frag} {w : World} {h : AH} {H : Hp} {x : D} {v : V} {ds : List D} (A : Abs K w h H) (r : Rv K H x v) (e : lsOf h x = some ds) : ∃ a vs, v = .ref a ∧ SqL K H a vs ∧ RvL K H ds vs := by
  cases r with
  | rl h1 h2 => cases e; exact ⟨_, _, rfl, h1.sq, h2⟩
  | ref a =>
    dsimp only [lsOf] at e
    split at e
    · rename_i q; cases e
      obtain ⟨vs, e1, r1⟩ := A _ _ q
      exact ⟨a, vs, rfl, SqL.of e1, r1⟩
    · cases e
  | _ => cases e
theorem gb_sum (hc : X.calm = true) : GB X (.builtin "sum") bSum := fun pins s σ H vs us Q I r ⟨ds, h, Q0, rL, A, q, k⟩ => by
  unfold bSum at q
  split at q
  · rename_i x
    obtain ⟨v, rfl, rv⟩ := rvL_one rL
    split at q
    · rename_i ns e1
      obtain ⟨ds, e2, e3⟩ := Option.bind_eq_some_iff.mp e1
      obtain ⟨a, vs, rfl, hq, rL'⟩ := lsOf_some A rv e2
      have := intsOf_some e3 rL'
      subst this
      exact cr_sum hc pins s σ H _ us Q I r ⟨a, ns, rfl, hq, k _ _ _ _ q (Kp.refl _) (.int _) A⟩
    · exact q.elim
  · exact q.elim
theorem each_of {α β γ : Type} {F : α → β → Prop} {G : β → γ → Prop} {R : γ → α × β → Prop} (f : ∀ a b c, F a b → G b c → R c (a, b)) : ∀ {xs : List α} {ys : List β} {zs : List γ}, Paired F xs ys → Paired G ys zs → PySem.W.EachIs R zs (xs.zip ys)
  | _, _, _, .nil, .nil => .nil
  | _, _, _, .cons a t, .cons b u => .cons (f _ _ _ a b) (each_of f t u)
theorem rvL_paired {K : PySem.W.Frag} {H : Hp} : ∀ {ds : List D} {vs : List V}, RvL K H ds vs → Paired (Rv K H) ds vs
  | _, _, .nil => .nil
  | _, _, .cons a t => .cons a (rvL_paired t)
theorem zip_fst {α β : Type} : ∀ {xs : List α} {ys : List β}, xs.length = ys.length → (xs.zip ys).map Prod.fst = xs
  | [], [], _ => rfl
  | x :: xs, y :: ys, h => by rw [List.zip_cons_cons, List.map_cons, zip_fst (by simpa using h)]
  | [], _ :: _, h => by simp at h
  | _ :: _, [], h => by simp at h
theorem each_out {K : PySem.W.Frag} {H : Hp} : ∀ {us : List Value} {ps : List (D × V)}, PySem.W.EachIs (fun u (p : D × V) => Rv K H p.1 p.2 ∧ L2.RelV p.2 u) us ps → RvL K H (ps.map Prod.fst) (ps.map Prod.snd) ∧ L2.Vals (ps.map Prod.snd) us
  | _, _, .nil => ⟨.nil, .nil⟩
  | _, _, .cons r t => ⟨.cons r.1 (each_out t).1, .cons r.2 (each_out t).2⟩
theorem dle_tp (rev : Bool) {n : Nat} {x y : D} (hx : Dn n x) (hy : Dn n y) (h : alk x y = true) : PySem.W.dataLe rev tp x y = dle rev x y := by
  have h1 : PyProof.Rows.lexLt itemOrd (PySem.W.keyToks (tp x)) (PySem.W.keyToks (tp y)) = dlt x y := dlt_tp x y n n hx hy h
  have h2 : PyProof.Rows.lexLt itemOrd (PySem.W.keyToks (tp y)) (PySem.W.keyToks (tp x)) = dlt y x := dlt_tp y x n n hy hx ((alk_comm _ _).trans h)
  cases rev with
  | false =>
    show (!PyProof.Rows.lexLt itemOrd (PySem.W.keyToks (tp y)) (PySem.W.keyToks (tp x))) = _
    rw [h2]; rfl
  | true =>
    show (!PyProof.Rows.lexLt itemOrd (PySem.W.keyToks (tp x)) (PySem.W.keyToks (tp y))) = _
    rw [h1]; rfl
theorem ge_isT {T : String} {p p2 : Pos} {f : DE} (hT : T = "int" ∨ T = "bool" ∨ T = "str" ∨ T = "list" ∨ T = "tuple" ∨ T = "dict") (ha : GE X a f) (hm : X.mg "isinstance" = none) (hm2 : X.mg T = none) (hv : bootBuiltins T = some (.type T)) (hg : Gl X "isinstance" := by rfl) (hg2 : Gl X T := by rfl) (hn : (T : Str) ≠ "__name__" := by decide) (hd : ((T : Str) == ("__debug__" : Str)) = false := by decide)
    (he : starEach [a, .Name T p2] X.env = (false, eval a X.env) :: starEach [.Name T p2] X.env := by rfl) (hpl : (backTo pos (starEach [.Name T p2] X.env)).any (·.1) = false := by rfl) (hs : starEach [.Name T p2] X.env = (false, eval (.Name T p2) X.env) :: starEach [] X.env := by rfl) : GE X (.Call (.Name "isinstance" p) [a, .Name T p2] [] pos) (d1 (oIsT T) f) := by
  have hc : CallR X (.builtin "isinstance") fun vs H Q => ∃ d v h Q0, vs = [v, .ty T] ∧ Rv X.K H d v ∧ Abs X.K X.w h H ∧ oIsT T d h Q0 ∧ KQ X.K X.w H Q0 Q := fun pins s σ H vs us Q I r ⟨d, v, h, Q0, ev, rd, A, q, k⟩ => by
    subst ev
    obtain ⟨u1, u2, rfl, r1, r2⟩ := vals2 r
    cases (show u2 = Value.type T from r2)
    unfold oIsT at q
    split at q
    · rename_i b eb
      have fin : ∀ {Tx : String} {P : Heap → Prop}, PySem.W.KitX X.K u1 (.type Tx) P → P s.heap → u1 ≠ .builtin "__main__.__loader__#opaque" → kitB Tx T = some b → wpAny (model X.prog X.w) X.A (call (.builtin "isinstance") [u1, .type T]) (L2.EP X pins σ Q) X.xe s := fun Z pp nn ek =>
        PySem.W.kia_one Z I.kIn pp (kit_ty ek) nn fun tk => ⟨.bl b, H, I.tok tk, rfl, k _ _ _ _ q (Kp.refl _) (.bl _) A⟩
      have lst : ∀ {p : PySem.Addr} {vs : List V}, SqL X.K H p vs → PySem.W.KitAt p "list" s.heap := fun {p vs} hq => by
        obtain ⟨its, _, ⟨o, n, e, c, hd, _⟩, _⟩ := I.list hq
        exact ⟨o, e, c⟩
      cases rd with
      | non => cases r1; exact fin PySem.W.kitx_none True.intro (fun z => nomatch z) (by rcases hT with rfl | rfl | rfl | rfl | rfl | rfl <;> (simp [isT] at eb; subst eb; decide +kernel))
      | bl y => cases r1; exact fin PySem.W.kitx_bool True.intro (fun z => nomatch z) (by rcases hT with rfl | rfl | rfl | rfl | rfl | rfl <;> (simp [isT] at eb; subst eb; decide +kernel))
      | int i => obtain ⟨t, rfl⟩ := r1; exact fin PySem.W.kitx_int True.intro (fun z => nomatch z) (by rcases hT with rfl | rfl | rfl | rfl | rfl | rfl <;> (simp [isT] at eb; subst eb; decide +kernel))
      | str x o => obtain ⟨t, rfl⟩ := r1; exact fin PySem.W.kitx_str True.intro (fun z => nomatch z) (by rcases hT with rfl | rfl | rfl | rfl | rfl | rfl <;> (simp [isT] at eb; subst eb; decide +kernel))
      | tup h1 h2 =>
        cases r1
        obtain ⟨its, rv, ⟨o, ho, hc, m, hd⟩, _⟩ := I.tuple h1
        exact fin PySem.W.kitx_tuple ⟨o, ho, hc⟩ (fun z => nomatch z) (by rcases hT with rfl | rfl | rfl | rfl | rfl | rfl <;> (simp [isT] at eb; subst eb; decide +kernel))
      | rl h1 h2 => cases r1; exact fin PySem.W.kitx_list (lst h1.sq) (fun z => nomatch z) (by rcases hT with rfl | rfl | rfl | rfl | rfl | rfl <;> (simp [isT] at eb; subst eb; decide +kernel))
      | ref p =>
        cases r1
        dsimp only [isT] at eb
        split at eb
        · rename_i ds e
          obtain ⟨vs, e1, r1⟩ := A _ _ e
          exact fin PySem.W.kitx_list (lst (SqL.of e1)) (fun z => nomatch z) (by rcases hT with rfl | rfl | rfl | rfl | rfl | rfl <;> (simp at eb; subst eb; decide +kernel))
        · rename_i kvs e
          obtain ⟨L, es, ep, hR, _⟩ := dic_raw I A e
          exact fin PySem.W.kitx_dict hR.dic.typeIs (fun z => nomatch z) (by rcases hT with rfl | rfl | rfl | rfl | rfl | rfl <;> (simp at eb; subst eb; decide +kernel))
        · cases eb
    · exact q.elim
  refine pe_imp (pe_callB hc hg hm boot_isinstance (pa_cons ha (pa_cons (pe_bltn (v := .ty T) hg2 hm2 hv rfl hn hd) pa_nil hs) he) (by decide) (by decide) he hpl) fun σ H Q ⟨ρ, h, Q0, R, A, q, k⟩ => ⟨ρ, h, _, R, A, q, fun d h1 v H1 q1 k1 r1 A1 => ⟨d, v, h1, Q0, rfl, r1, A1, q1, k.kp k1⟩⟩
def tO (K : PySem.W.Frag) (w : World) (f : DO) : TO := fun σ H Q => ∃ ρ h Q0, RS K H ρ σ ∧ Abs K w h H ∧ f ρ h Q0 ∧ ∀ i h' H', Q0 i h' → Kp H H' → Abs K w h' H' → Q i H'
abbrev GOp (X : Cx) (e : Option Expr) (f : DO) : Prop := PO X e (tO X.K X.w f)
theorem po_imp {o : Option Expr} {t t' : TO} (h : PO X o t) (f : ∀ σ H Q, t' σ H Q → t σ H Q) : PO X o t' := ⟨fun pins s σ H Q I q => h.run pins s σ H Q I (f _ _ _ q)⟩
theorem go_none : GOp X none doNone := po_imp po_none fun σ H Q ⟨ρ, h, Q0, R, A, q, k⟩ => k _ _ _ q (Kp.refl _) A
theorem go_some {f : DE} (h : GE X e f) : GOp X (some e) (doSome f) := po_imp (po_some h) fun σ H Q ⟨ρ, h, Q0, R, A, q, k⟩ => ⟨ρ, h, _, R, A, q, fun d h1 v H1 q1 k1 r1 A1 => by
  cases d <;> first | exact q1.elim | skip
  cases r1
  exact ⟨_, rfl, k _ _ _ q1 k1 A1⟩⟩
theorem cut_rv {K : PySem.W.Frag} {H : Hp} {ds : List D} {vs : List V} (r : RvL K H ds vs) (lo hi : Option Int) : RvL K H (cut ds lo hi) (cutV vs lo hi) := by
  unfold cut cutV
  rw [← r.length]
  exact (r.drop _).take _
theorem rvL_rev {K : PySem.W.Frag} {H : Hp} : ∀ {ds : List D} {vs : List V}, RvL K H ds vs → RvL K H ds.reverse vs.reverse
  | _, _, .nil => .nil
  | _, _, .cons r t => by rw [List.reverse_cons, List.reverse_cons]; exact (rvL_rev t).append (.one r)
theorem sl_ok : SlR X fun x lo hi H Q => ∃ d h Q0, Rv X.K H d x ∧ Abs X.K X.w h H ∧ oSl d lo hi h Q0 ∧ KQ X.K X.w H Q0 Q := fun pins s σ H x v vl vu lo hi sl Q I rx hs pl pu ⟨d, h, Q0, rd, A, q, k⟩ => by
  unfold oSl at q
  split at q
  · rename_i z
    cases rd with
    | str _ o =>
      have ok : okS (cutS z lo hi) := by
        show (cutS z lo hi).length ≤ sizeLine
        have : (cutS z lo hi).length ≤ z.length := by
          unfold cutS Str.length
          simp only [List.size_toArray, List.length_take, List.length_drop, Array.length_toList]
          omega
        exact Nat.le_trans this o
      exact sl_str pins s σ H _ v vl vu lo hi sl Q I rx hs pl pu ⟨z, rfl, o, k _ _ _ _ q (Kp.refl _) (.str _ ok) A⟩
  · rename_i ds
    cases rd with
    | tup h1 h2 =>
      refine sl_tupA pins s σ H _ v vl vu lo hi sl Q I rx hs pl pu ⟨_, _, rfl, h1, fun e => ?_, fun e p n => ?_⟩
      · have : cut ds lo hi = ds := by
          unfold cut
          rw [← h2.length] at e
          rw [show sIx ds.length 0 lo = 0 from e.1, show sIx ds.length ds.length hi = ds.length from e.2]
          simp
        rw [this] at q
        exact k _ _ _ _ q (Kp.refl _) (.tup h1 h2) A
      · exact k _ _ _ _ q (Kp.new n) (.tup (SqT.of upd_same) ((cut_rv h2 lo hi).kp (Kp.new n))) (A.newH n)
  · split at q
    · rename_i ds e1
      obtain ⟨a, vs, rfl, hq, rL⟩ := lsOf_some A rd e1
      exact sl_list pins s σ H _ v vl vu lo hi sl Q I rx hs pl pu ⟨a, vs, rfl, hq, fun p n => newL_ok q A (cut_rv rL lo hi) n (Kp.refl _) k⟩
    · exact q.elim
theorem ge_slice {lo hi : Option Expr} {p2 : Pos} {f : DE} {fl fh : DO} (he : GE X e f) (hl : GOp X lo fl) (hh : GOp X hi fh) : GE X (.Subscript e (.Slice lo hi none p2) pos) (dSl f fl fh) :=
  pe_imp (pe_slice sl_ok he hl hh) fun σ H Q ⟨ρ, h, Q0, R, A, q, k⟩ => ⟨ρ, h, _, R, A, q, fun d h1 v H1 q1 k1 r1 A1 => ⟨ρ, h1, _, R.kp k1, A1, q1, fun l h2 H2 q2 k2 A2 => ⟨ρ, h2, _, R.kp (k1.trans k2), A2, q2, fun u h3 H3 q3 k3 A3 =>
    ⟨d, h3, Q0, r1.kp (k2.trans k3), A3, q3, k.kp (k1.trans (k2.trans k3))⟩⟩⟩⟩
end
end G
end
section
set_option Elab.async false
set_option linter.all false
set_option maxRecDepth 100000
set_option maxHeartbeats 4000000
namespace G
open PySem PySem.Spec PyProof.Rows L2
variable [Tb]
section
variable {X : Cx} {a b c e : Expr} {pos : Pos}
theorem gm_get (hu : X.A.units + 64 < cLine) : GM X "dict.get" mGet := fun pins s σ H x vs v us Q I rx rv ⟨d, ds, h, Q0, rd, rL, A, q, k⟩ => by
  unfold mGet at q
  split at q
  · rename_i a
    split at q
    · rename_i kvs ea
      cases rd; cases rx
      obtain ⟨L, es, ep, hR, hP, hz, hne, hnd, e4⟩ := dic_raw I A ea
      have go : ∀ (e dfl : D) (y yd : V) (u ud : Value) (more : List Value), (more = [] ∧ ud = .none ∨ more = [ud]) → pl 8 e = true → Rv X.K H e y → L2.RelV y u → Rv X.K H dfl yd → L2.RelV yd ud → Q0 ((dget kvs e).getD dfl) h →
          argsOk "dict.get" ⟨.ref a :: u :: more, []⟩ → wpAny (model X.prog X.w) X.A (call (.builtin "dict.get") (.ref a :: u :: more)) (L2.EP X pins σ Q) X.xe s := fun e dfl y yd u ud more hm hp re ry rdf ryd q ok => by
        obtain ⟨n1, n2⟩ := nested_of I 8 e y u hp re ry
        refine call_meetsIn F.slot_dict_get hR.dic.typeIs F.entry_dict_get ok (.of_wp (S := fun A R s' => A.units + 9 < cLine ∧ s' = s ∧ (nk e ∉ L.map (·.1) → R (.ok (.ret ud)) { s with toks := s.toks + (nk e).draws }) ∧
            ∀ (j : Nat) (en : DictEntry), (L.map (·.1))[j]? = some (nk e) → es[j]? = some en → R (.ok (.ret en.val)) { s with toks := s.toks + (nk e).draws }) fun A' R s' ⟨hu', es', r1, r2⟩ => ?_) ⟨by omega, rfl, fun hn => ?_, fun j en hj he => ?_⟩
        · subst es'
          exact GR.dget_any hm (by rw [Around.in1_units]; omega) n1 n2 hne hR.dic hR.ks r1 r2
        · have hn' : e ∉ kvs.map (·.1) := fun z => hn (by rw [ep_keys hP]; exact (nk_mem hp (ep_pl hP)).mpr z)
          rw [dget_none hn'] at q
          exact ⟨yd, H, I.tok _, ryd, k _ _ _ _ q (Kp.refl _) rdf A⟩
        · rw [hR.at_ j] at he
          cases e5 : L[j]? with
          | none => rw [e5] at he; cases he
          | some xx =>
            rw [e5] at he; cases he
            have ex : xx.1 = nk e := by
              rw [List.getElem?_map, e5] at hj
              exact Option.some.inj hj
            obtain ⟨d', v', g1, g2, g3⟩ := dget_of hp hP hnd e5 ex
            rw [g1] at q
            exact ⟨v', H, I.tok _, g3, k _ _ _ _ q (Kp.refl _) g2 A⟩
      split at q
      · rename_i e
        obtain ⟨hp, q⟩ := q
        cases rL with
        | cons r1 r2 =>
          cases r2
          cases rv with
          | cons s1 s2 =>
            cases s2
            exact go e .non _ .non _ .none [] (.inl ⟨rfl, rfl⟩) hp r1 s1 .non rfl q (F.args_dict_get_2 _ _)
      · rename_i e dfl
        obtain ⟨hp, q⟩ := q
        cases rL with
        | cons r1 r2 =>
          cases r2 with
          | cons r3 r4 =>
            cases r4
            cases rv with
            | cons s1 s2 =>
              cases s2 with
              | cons s3 s4 =>
                cases s4
                exact go e dfl _ _ _ _ _ (.inr rfl) hp r1 s1 r3 s3 q (F.args_dict_get_3 _ _ _)
      · exact q.elim
    · exact q.elim
  · exact q.elim
theorem RvL.dropLast {K : PySem.W.Frag} {H : Hp} {ds : List D} {vs : List V} (r : RvL K H ds vs) : RvL K H ds.dropLast vs.dropLast := by
  rw [List.dropLast_eq_take, List.dropLast_eq_take, ← r.length]
  exact r.take _
theorem RvL.eraseIdx {K : PySem.W.Frag} {H : Hp} : ∀ {ds : List D} {vs : List V} (n : Nat), RvL K H ds vs → RvL K H (ds.eraseIdx n) (vs.eraseIdx n)
  | _, _, _, .nil => .nil
  | _, _, 0, .cons _ t => t
  | _, _, n + 1, .cons r t => .cons r (RvL.eraseIdx n t)
theorem gm_insert : GM X "list.insert" mInsert := fun pins s σ H x vs v us Q I rx rv ⟨d, ds, h, Q0, rd, rL, A, q, k⟩ => by
  unfold mInsert at q
  split at q
  · rename_i a i g
    split at q
    · rename_i xs ea
      obtain ⟨z, b1, b2, q⟩ := q
      cases rd
      obtain ⟨ws, e1, r1⟩ := A _ _ ea
      cases rL with
      | cons ra rL =>
      cases rL with
      | @cons _ y _ _ rg rL =>
      cases rL; cases ra
      have kw : Kp H (upd H a (.lst (ws.take i.toNat ++ [y] ++ ws.drop i.toNat))) := Kp.wr e1 trivial
      exact mt_insert pins s σ H _ _ v _ Q I rx rv ⟨a, ws, i, y, rfl, rfl, e1, by rw [← r1.length, sz_eq]; exact z, b1, b2, k _ _ _ _ q kw .non (A.wr (o := .lst (xs.take i.toNat ++ [g] ++ xs.drop i.toNat)) e1 trivial ⟨_, upd_same, (((r1.take _).append (.one rg)).append (r1.drop _)).kp kw⟩)⟩
    · exact q.elim
  · exact q.elim
theorem gm_clear : GM X "list.clear" mClear := fun pins s σ H x vs v us Q I rx rv ⟨d, ds, h, Q0, rd, rL, A, q, k⟩ => by
  unfold mClear at q
  split at q
  · rename_i a
    split at q
    · rename_i xs ea
      cases rd
      obtain ⟨ws, e1, r1⟩ := A _ _ ea
      cases rL
      have kw : Kp H (upd H a (.lst [])) := Kp.wr e1 trivial
      exact mt_clear pins s σ H _ _ v _ Q I rx rv ⟨a, ws, rfl, rfl, e1, k _ _ _ _ q kw .non (A.wr (o := .lst []) e1 trivial ⟨_, upd_same, .nil⟩)⟩
    · exact q.elim
  · exact q.elim
end
end G
end
section
set_option Elab.async false
set_option linter.all false
set_option maxRecDepth 100000
set_option maxHeartbeats 4000000
namespace G
open PySem PySem.Spec PyProof.Rows L2
variable [Tb]
section
variable {X : Cx} {a b c e : Expr} {pos : Pos}
theorem gb_int : GB X (.type "int") bInt := fun pins s σ H vs us Q I r ⟨ds, h, Q0, rL, A, q, k⟩ => by
  unfold bInt at q
  split at q
  · rename_i i
    cases rL with
    | cons r1 rL =>
    cases rL; cases r1
    exact call_int1 pins s σ H _ us Q I r (.inl ⟨i, rfl, k _ _ _ _ q (Kp.refl _) (.int _) A⟩)
  · rename_i i
    cases rL with
    | cons r1 rL =>
    cases rL; cases r1
    exact call_int1 pins s σ H _ us Q I r (.inr ⟨i, rfl, k _ _ _ _ q (Kp.refl _) (.int _) A⟩)
  · exact q.elim
theorem gb_tuple : GB X (.type "tuple") bTuple := fun pins s σ H vs us Q I r ⟨ds, h, Q0, rL, A, q, k⟩ => by
  unfold bTuple at q
  split at q
  · rename_i x
    split at q
    · rename_i es ex
      cases rL with
      | cons r1 rL =>
      cases rL
      obtain ⟨a, ws, rfl, h1, h2⟩ := sqOf_some A r1 ex
      rcases h1 with h1 | h1
      · exact call_tuple_of pins s σ H _ us Q I r ⟨a, ws, rfl, .inl ⟨h1, fun l nl => k _ _ _ _ q (Kp.new nl) (.tup (SqT.of upd_same) (h2.kp (Kp.new nl))) (A.newH nl)⟩⟩
      · exact call_tuple_of pins s σ H _ us Q I r ⟨a, ws, rfl, .inr ⟨h1, k _ _ _ _ q (Kp.refl _) (.tup h1 h2) A⟩⟩
    · exact q.elim
  · exact q.elim
end
end G
end
section
set_option Elab.async false
set_option linter.all false
set_option maxRecDepth 100000
set_option maxHeartbeats 4000000
namespace G
open PySem PySem.Spec PyProof.Rows L2
variable [Tb]
/-- a def with its code object -/
structure FunC (K : PySem.W.Frag) (x qual : Str) (st : Stmt) (f : Addr) (fd : FuncData) (c : Addr) : Prop where
  ex : ∃ (oc : Value) (od : Option Addr) (kV doc pm : Value) (an : Option Addr) (ct : Value) (osl : Array (Option Value)),
    fd = PySem.W.fnOf x qual (defArgs st) (defBody st) (defScope st) .none kV doc pm an (.ref c) ct ∧ K.lookup f = some ⟨oc, od, .func fd, osl⟩ ∧ PySem.W.codeIn K (.ref c) qual = true
theorem func_mk {K : PySem.W.Frag} {x qual : Str} {st : Stmt} {f c : Addr} {oc : Value} {od an : Option Addr} {osl : Array (Option Value)} {kV doc pm cdv ct : Value} (l : K.lookup f = some ⟨oc, od, .func (PySem.W.fnOf x qual (defArgs st) (defBody st) (defScope st) .none kV doc pm an cdv ct), osl⟩)
    (e : PySem.W.codeIn K cdv qual = true) (hc : cdv = .ref c) : FunC K x qual st f (PySem.W.fnOf x qual (defArgs st) (defBody st) (defScope st) .none kV doc pm an cdv ct) c := by
  subst hc
  exact ⟨oc, od, kV, doc, pm, an, ct, osl, rfl, l, e⟩
theorem fn_okC {P : Program} {w : World} {K : PySem.W.Frag} {mg : Str → Option Value} {base : Heap} {x qual : Str} {st : Stmt} {f c : Addr} {fd : FuncData} {N ps : List Str} {k : Nat} {b : DS} (F : FunC K x qual st f fd c) (S : FnScope N ps (defScope st))
    (body : ∀ (A : Around) (outer : List Env) (s : Shared) (H : Hp) (E : XK), Room k (A.deeper (envOfC qual (defScope st) s.heap.objs.size f (.ref c))) →
      GSs (cxOf CX0 P w K mg base N qual (defScope st) f (.ref c) A outer s H E).nox (defBody st) b) : FnG P w K mg base (k + 1) f fd ps (fnOf N.length ps.length b) := by
  obtain ⟨oc, od, kV, doc, pm, an, ct, osl, rfl, lk, hcd⟩ := F.ex
  refine fn_of lk hcd S (fun vs H Q E ⟨ds, h, Q0, r, A, q, _⟩ => by rw [← r.length]; exact q.1) fun A outer s H vs Q E hr ⟨ds, h, Q0, r, Ab, q, kq⟩ => ?_
  refine ⟨_, (body A outer s H E hr).nox, _, h, _, start_rs r, Ab, q.2, ⟨?_, ?_, ?_, ?_⟩⟩
  · intro ρ' h' σ' H' ⟨h0, sb, q'⟩ k' R' A'
    exact kq _ _ _ _ q' k' .non (A'.sub sb)
  · intro d h' v H' ⟨h0, sb, q'⟩ k' r' A'
    exact kq _ _ _ _ q' k' r' (A'.sub sb)
  · intro _ _ _ _ q'; exact q'.elim
  · intro _ _ _ _ q'; exact q'.elim
section
variable {X : Cx} {pins : List (Addr × Obj)} {σ : L2.St} {H : Hp} {s : Shared} {h : AH}
theorem reads0_list {n : Nat} (ih : ∀ d v u, dat n d = true → Rv X.K H d v → RelV v u → Reads s.heap u (tp d) []) : ∀ {ds : List D} {vs : List V} {us : List Value}, datL n ds = true → RvL X.K H ds vs → Vals vs us → ReadsAll s.heap us (tpL ds) []
  | [], _, _, _, r, r2 => by cases r; cases r2; exact .nil
  | d :: ds, _, _, e, r, r2 => by
    rw [datL, Bool.and_eq_true] at e
    cases r with
    | cons ra rb =>
      cases r2 with
      | cons sa sb => exact .cons (as := []) (bs := []) (ih _ _ _ e.1 ra sa) (reads0_list ih e.2 rb sb)
theorem reads0 (I : L2.Inv X pins σ H s) : ∀ (n : Nat) (d : D) (v : V) (u : Value), dat n d = true → Rv X.K H d v → RelV v u → Reads s.heap u (tp d) [] := by
  intro n
  induction n with
  | zero =>
    intro d v u e r r2
    cases d <;> simp [dat] at e
    all_goals cases r
    · cases r2; exact .none
    · cases r2; exact .bool _
    · obtain ⟨t, rfl⟩ := r2; exact .int _ t
    · obtain ⟨t, rfl⟩ := r2; exact .str _ t
  | succ n ih =>
    intro d v u e r r2
    cases d with
    | non => cases r; cases r2; exact .none
    | bl b => cases r; cases r2; exact .bool _
    | int i => cases r; obtain ⟨t, rfl⟩ := r2; exact .int _ t
    | str x => cases r; obtain ⟨t, rfl⟩ := r2; exact .str _ t
    | tup ds =>
      rw [dat] at e
      cases r with
      | tup h1 h2 =>
        cases r2
        obtain ⟨its, rv, ⟨o, ho, hc, m, hd⟩, _⟩ := I.tuple h1
        exact Reads.tuple ho hc hd (reads0_list ih e h2 rv)
    | _ => simp [dat] at e
theorem Abs.extN {K : PySem.W.Frag} {w : World} {h : AH} {H H' : Hp} (A : Abs K w h H) (e : LamX.ExtN H H') (t : LamX.Tabs Tb.T H') : Kp H H' ∧ Abs K w h H' := by
  have k : Kp H H' := ⟨fun a xs q => e a _ q (fun ps z => by cases z), fun a o u q => e a _ q (fun ps z => by cases z), fun a x q => e a _ q (fun ps z => by unfold LamX.CodeO at z; cases z), fun a x q => e a _ q (fun ps z => by unfold NdefX.FnO at z; cases z)⟩
  refine ⟨k, fun a o q => ?_, t⟩
  have r := A a o q
  obtain ⟨u, e1, m⟩ := r.some
  exact r.kp k ((e a u e1 fun ps z => by subst z; exact m).trans e1.symm)
end
end G
end
section
set_option Elab.async false
set_option linter.all false
set_option maxRecDepth 100000
set_option maxHeartbeats 4000000
namespace G
open PySem PySem.Spec PyProof.Rows L2
variable [Tb]
mutual
theorem tp_inj : ∀ (n m : Nat) (x y : D), dat n x = true → dat m y = true → tp x = tp y → x = y
  | _, _, .non, y, _, h, e => by cases y <;> simp_all [tp, dat]
  | _, _, .bl _, y, _, h, e => by cases y <;> simp_all [tp, dat]
  | _, _, .int _, y, _, h, e => by cases y <;> simp_all [tp, dat]
  | _, _, .str _, y, _, h, e => by cases y <;> simp_all [tp, dat]
  | n + 1, m, .tup xs, y, g, h, e => by
    cases y with
    | tup ys =>
      cases m with
      | zero => simp [dat] at h
      | succ m =>
        rw [dat] at g h
        simp only [tp, PyData.tuple.injEq] at e
        rw [tp_injL n m xs ys g h e]
    | _ => simp [tp] at e
  | 0, _, .tup xs, y, g, h, e => by simp [dat] at g
  | n, _, .rl _, _, g, _, _ => by cases n <;> simp [dat] at g
  | n, _, .rd _ _, _, g, _, _ => by cases n <;> simp [dat] at g
  | n, _, .ref _, _, g, _, _ => by cases n <;> simp [dat] at g
theorem tp_injL : ∀ (n m : Nat) (xs ys : List D), datL n xs = true → datL m ys = true → tpL xs = tpL ys → xs = ys
  | _, _, [], ys, _, _, e => by cases ys <;> simp_all [tpL]
  | _, _, _ :: _, [], _, _, e => by simp [tpL] at e
  | n, m, x :: xs, y :: ys, g, h, e => by
    rw [datL, Bool.and_eq_true] at g h
    simp only [tpL, List.cons.injEq] at e
    rw [tp_inj n m x y g.1 h.1 e.1, tp_injL n m xs ys g.2 h.2 e.2]
end
theorem datL_all {n : Nat} : ∀ {ds : List D}, (∀ d ∈ ds, dat n d = true) → datL n ds = true
  | [], _ => rfl
  | d :: ds, h => by rw [datL, h d List.mem_cons_self, datL_all fun a ha => h a (List.mem_cons_of_mem _ ha)]; rfl
theorem pget {α β : Type} {F : α → β → Prop} : ∀ {xs : List α} {ys : List β} {i : Nat} {y : β}, Paired F xs ys → ys[i]? = some y → ∃ x, xs[i]? = some x ∧ F x y
  | _, _, _, _, .nil, e => by simp at e
  | _, _, 0, _, .cons r _, e => by simp at e; subst e; exact ⟨_, rfl, r⟩
  | _, _, i + 1, y, .cons _ t, e => by
    obtain ⟨u, h1, h2⟩ := pget (i := i) (y := y) t (by simpa using e)
    exact ⟨u, by simpa using h1, h2⟩
theorem dmax_mem : ∀ (ds : List D) (d : D), dmax d ds ∈ d :: ds
  | [], d => by simp [dmax]
  | y :: ds, d => by
    show ds.foldl (fun a y => if dlt a y then y else a) (if dlt d y = true then y else d) ∈ d :: y :: ds
    have := dmax_mem ds (if dlt d y = true then y else d)
    unfold dmax at this
    rcases List.mem_cons.mp this with e | e
    · rw [e]; split <;> simp
    · exact List.mem_cons_of_mem _ (List.mem_cons_of_mem _ e)
theorem dmax_tp : ∀ (ds : List D) (d : D), (∀ a ∈ d :: ds, dat 12 a = true) → (∀ a ∈ d :: ds, ∀ b ∈ d :: ds, alk a b = true) → PySem.W.maxD (tp d) (tpL ds) = tp (dmax d ds)
  | [], d, _, _ => rfl
  | y :: ds, d, hd, ha => by
    have e : PySem.W.dataLt (tp d) (tp y) = dlt d y := dlt_tp d y 12 12 (dat_dn 12 _ (hd _ (by simp))) (dat_dn 12 _ (hd _ (by simp))) (ha _ (by simp) _ (by simp))
    show PySem.W.maxD (if PySem.W.dataLt (tp d) (tp y) then tp y else tp d) (tpL ds) = tp (dmax (if dlt d y then y else d) ds)
    rw [e]
    have sub : ∀ a ∈ (if dlt d y = true then y else d) :: ds, a ∈ d :: y :: ds := fun a h => by
      rcases List.mem_cons.mp h with h | h
      · rw [h]; split <;> simp
      · exact List.mem_cons_of_mem _ (List.mem_cons_of_mem _ h)
    have := dmax_tp ds (if dlt d y = true then y else d) (fun a h => hd a (sub a h)) (fun a h b h' => ha a (sub a h) b (sub b h'))
    rw [← this]
    split <;> rfl
section
variable {X : Cx}
theorem gb_max (hc : X.calm = true) (hu : X.A.units + 100 < cLine) : GB X (.builtin "max") bMax := fun pins s σ H vs us Q I r ⟨ds, h, Q0, rL, A, q, k⟩ => by
  unfold bMax at q
  split at q
  · rename_i i j
    cases rL with
    | cons r1 rL =>
    cases rL with
    | cons r2 rL =>
    cases rL; cases r1; cases r2
    exact call_max2 hc pins s σ H _ us Q I r ⟨i, j, rfl, k _ _ _ _ q (Kp.refl _) (.int _) A⟩
  · rename_i x _
    obtain ⟨v, rfl, rv⟩ := rvL_one rL
    split at q
    · rename_i d ds e1
      obtain ⟨⟨ha, hd⟩, q⟩ := q
      obtain ⟨a, vs, rfl, hq, rL'⟩ := lsOf_some A rv e1
      obtain ⟨u, rfl, ru⟩ := vals1 r
      cases ru
      obtain ⟨its, rits, hpl, hz⟩ := I.list hq
      have hdt : datL 12 (d :: ds) = true := datL_all fun a h => (hd a h).1
      have hr : ReadsAll s.heap its (tpL (d :: ds)) [] := reads0_list (fun d v u e r r2 => reads0 I 12 d v u e r r2) hdt rL' rits
      have hdn : ∀ a ∈ d :: ds, Dn 12 a := fun a h => dat_dn 12 _ (hd a h).1
      have hdep : PyData.depthAll (tpL (d :: ds)) ≤ 12 := by
        have := (Dn.tup hdn).tp.1
        simp only [tp, PyData.depth] at this
        omega
      refine PySem.W.max_list_data (x := tp d) (xs := tpL ds) (as := []) (I.ok.hd hc) hpl.isList (by rw [List.toList_toArray]; exact hr) ⟨?_, ?_⟩ (by rw [show tp d :: tpL ds = tpL (d :: ds) from rfl]; omega) fun i v h' tk bs hv hR kp => ?_
      · intro x hx y hy
        rw [show tp d :: tpL ds = tpL (d :: ds) from rfl, tpL_map] at hx hy
        obtain ⟨p, hp, rfl⟩ := List.mem_map.mp hx
        obtain ⟨p', hp', rfl⟩ := List.mem_map.mp hy
        exact alike_tp _ _ 12 12 (hdn _ hp) (hdn _ hp') (ha _ hp _ hp')
      · intro x hx
        rw [show tp d :: tpL ds = tpL (d :: ds) from rfl, tpL_map] at hx
        obtain ⟨p, hp, rfl⟩ := List.mem_map.mp hx
        exact tp_none (hdn _ hp) (hd _ hp).2
      · have hv' : its[i]? = some v := by simpa using hv
        obtain ⟨v0, e2, r2⟩ := pget rits hv'
        obtain ⟨y, e3, r3⟩ := rL'.get' e2
        have hym := List.mem_of_getElem? e3
        have hRy : Reads h' v (tp y) [] := PyProof.Rows.Reads.keeps kp (reads0 I 12 y _ _ (hd _ hym).1 r3 r2)
        rw [dmax_tp ds d (fun a h => (hd a h).1) ha] at hR
        have hmm := dmax_mem ds d
        have e4 : tp y = tp (dmax d ds) := by
          rw [← PySem.SeqAt.readOf_plain (hdn _ hym).tp.2 hRy, ← PySem.SeqAt.readOf_plain (hdn _ hmm).tp.2 hR]
        have e5 := tp_inj 12 12 _ _ (hd _ hym).1 (hd _ hmm).1 e4
        rw [← e5] at q
        exact ⟨v0, H, I.kept (t' := tk) kp, r2, k _ _ _ _ q (Kp.refl _) r3 A⟩
    · exact q.elim
  · exact q.elim
theorem ep_vals {K : PySem.W.Frag} {H : Hp} : ∀ {kvs : List (D × D)} {L : List GR.RE}, Paired (EP K H) kvs L → ∃ vs, RvL K H (kvs.map (·.1)) vs ∧ L2.Vals vs (L.map fun x => x.2.1)
  | _, _, .nil => ⟨[], .nil, .nil⟩
  | _, _, .cons r t => by
    obtain ⟨vs, h1, h2⟩ := ep_vals t
    obtain ⟨v, a1, a2⟩ := r.2.2.1
    exact ⟨v :: vs, .cons a1 h1, .cons a2 h2⟩
theorem gb_list (hc : X.calm = true) : GB X (.type "list") bList := fun pins s σ H vs us Q I r ⟨ds, h, Q0, rL, A, q, k⟩ => by
  unfold bList at q
  split at q
  · rename_i x
    obtain ⟨v, rfl, rv⟩ := rvL_one rL
    split at q
    · rename_i ds e1
      obtain ⟨a, vs, rfl, hq, rL'⟩ := sqOf_some A rv e1
      exact call_list_of pins s σ H _ us Q I r ⟨a, vs, rfl, hq, fun l n => newL_ok q A rL' n (Kp.refl _) k⟩
    · split at q
      · rename_i kvs e1
        rcases dcOf_some e1 with ⟨a, rfl, ea⟩ | ⟨ks, ws, rfl⟩
        · cases rv
          obtain ⟨u, rfl, ru⟩ := vals1 r
          cases ru
          obtain ⟨L, es, ep, hR, hP, hz, hne, hnd, e4⟩ := dic_raw I A ea
          obtain ⟨o, ho, hx, hd⟩ := hR.dic
          have hlen : L.length = kvs.length := by
            have := congrArg List.length (ep_keys hP)
            simpa using this
          have hes : es.size = L.length := by rw [← Array.length_toList, hR.ents, List.length_map]
          obtain ⟨vs, h1, h2⟩ := ep_vals hP
          refine PySem.W.kdl_call (kdl_raw (prog := X.prog) (w := X.w) hne hx hd) (I.ok.hd hc) ho (by omega) fun h' tk acc' c' hkeep hS hacc => ?_
          have hl1 := h1.length
          have eacc : acc'.toList = L.map fun x => x.2.1 := by
            apply List.ext_getElem?
            intro j
            by_cases hj : j < acc'.size
            · obtain ⟨en, g1, g2⟩ := hacc.2 j acc'[j] (Array.getElem?_eq_getElem hj)
              rw [hR.at_ j] at g1
              rw [Array.getElem?_toList, Array.getElem?_eq_getElem hj, List.getElem?_map]
              cases e5 : L[j]? with
              | none => rw [e5] at g1; cases g1
              | some x => rw [e5] at g1; cases g1; rw [g2]; rfl
            · have hn := hacc.1
              rw [List.getElem?_eq_none (by simpa using hj), List.getElem?_eq_none (by rw [List.length_map]; omega)]
          refine ⟨.ref s.heap.objs.size, upd H s.heap.objs.size (.lst vs), I.laid (t' := tk) hkeep (Nat.le_refl _) (show ObjOk X.prog X.w _ _ _ (.lst vs) from ⟨?_, acc'.toList, c', by rw [eacc]; exact h2, ?_⟩), rfl, newL_ok q A h1 (I.hok.fresh (Nat.le_refl _)) (Kp.refl _) k⟩
          · rw [← hl1, List.length_map]; exact hz
          · rw [Array.toArray_toList]; exact hS
        · cases rv
      · exact q.elim
  · exact q.elim
end
end G
end
section
set_option Elab.async false
set_option linter.all false
set_option maxRecDepth 100000
set_option maxHeartbeats 4000000
namespace G
open PySem PySem.Spec PyProof.Rows L2
variable [Tb]
theorem idxOf_at {α : Type} [DecidableEq α] {x : α} : ∀ {l : List α} {j : Nat}, l[j]? = some x → (∀ i, i < j → l[i]? ≠ some x) → l.idxOf x = j
  | [], _, h, _ => by simp at h
  | a :: l, 0, h, _ => by simp at h; subst h; simp
  | a :: l, j + 1, h, hn => by
    have e : ¬ a = x := fun z => hn 0 (by omega) (by simp [z])
    have ih := idxOf_at (l := l) (j := j) (by simpa using h) fun i hi z => hn (i + 1) (by omega) (by simpa using z)
    rw [List.idxOf_cons, ih]
    have : (a == x) = false := by simpa using e
    rw [this]; rfl
section
variable {X : Cx} {pins : List (Addr × Obj)} {σ : L2.St} {H : Hp} {s : Shared}
theorem nested_all (I : L2.Inv X pins σ H s) : ∀ {ds : List D} {vs : List V} {us : List Value}, (∀ d ∈ ds, pl 8 d = true) → RvL X.K H ds vs → Vals vs us → NestedAll s.heap (ds.map nk) us ∧ NestedKey.depthAll (ds.map nk) ≤ 8
  | [], _, _, _, r, r2 => by cases r; cases r2; exact ⟨.nil, by simp [NestedKey.depthAll]⟩
  | d :: ds, _, _, e, r, r2 => by
    cases r with
    | cons ra rb =>
      cases r2 with
      | cons sa sb =>
        obtain ⟨h1, h2⟩ := nested_of I 8 d _ _ (e d List.mem_cons_self) ra sa
        obtain ⟨h3, h4⟩ := nested_all I (fun x hx => e x (List.mem_cons_of_mem _ hx)) rb sb
        exact ⟨.cons h1 h3, by simp only [List.map_cons, NestedKey.depthAll]; omega⟩
theorem gm_index (hu : X.A.units + 100 < cLine) : GM X "list.index" mIndex := fun pins s σ H x vs v us Q I rx rv ⟨d, ds, h, Q0, rd, rL, A, q, k⟩ => by
  unfold mIndex at q
  split at q
  · rename_i y
    obtain ⟨yv, rfl, ry⟩ := rvL_one rL
    obtain ⟨u, rfl, ru⟩ := vals1 rv
    split at q
    · rename_i xs e1
      obtain ⟨hpl, hpy, j, hj, hn, q⟩ := q
      obtain ⟨a, ws, rfl, hq, rL'⟩ := lsOf_some A rd e1
      cases rx
      obtain ⟨its, rits, hpls, hz⟩ := I.list hq
      obtain ⟨n1, n2⟩ := nested_all I hpl rL' rits
      obtain ⟨n3, n4⟩ := nested_of I 8 y yv u hpy ry ru
      have hl := rL'.length
      have hjk : (xs.map nk)[j]? = some (nk y) := by rw [List.getElem?_map, hj]; rfl
      have hidx : (xs.map nk).idxOf (nk y) = j := idxOf_at hjk fun i hi z => by
        rw [List.getElem?_map] at z
        cases e2 : xs[i]? with
        | none => rw [e2] at z; cases z
        | some d' =>
          rw [e2] at z
          have z' : nk d' = nk y := Option.some.inj z
          have := nk_inj 8 8 d' y (hpl d' (List.mem_of_getElem? e2)) hpy z'
          subst this
          exact hn i hi e2
      refine PySem.SeqAt.call_list_index (ks := xs.map nk) (k := nk y) hpls.isList (PySem.SeqAt.ItemsEq.nested n1 n3 (by rw [Around.in1_units]; omega)) (by rw [List.length_map, hl]; exact hz) (List.mem_of_getElem? hjk) ?_
      rw [hidx]
      exact ⟨.int j, H, I.tok _, ⟨_, rfl⟩, k _ _ _ _ q (Kp.refl _) (.int _) A⟩
    · exact q.elim
  · exact q.elim
end
end G
end
section
set_option Elab.async false
set_option linter.all false
set_option maxRecDepth 100000
set_option maxHeartbeats 4000000
namespace G
open PySem PySem.Spec PyProof.Rows L2
variable [Tb]
theorem dget_val {kvs : List (D × D)} {k v : D} (h : dget kvs k = some v) : ∃ p ∈ kvs, p.2 = v := by
  induction kvs with
  | nil => simp [dget] at h
  | cons p r ih =>
    obtain ⟨a, b⟩ := p
    rw [dget] at h
    split at h
    · cases h; exact ⟨_, List.mem_cons_self, rfl⟩
    · obtain ⟨q, h1, h2⟩ := ih h; exact ⟨q, List.mem_cons_of_mem _ h1, h2⟩
/-- the entries la, looked for among lb -/
inductive RHits (prog : Program) (w : World) (A : Around) (s : Shared) (lb : List GR.RE) : List GR.RE → Bool → Prop
  | nil : RHits prog w A s lb [] true
  | miss {x : GR.RE} {r : List GR.RE} : x.1 ∉ lb.map (·.1) → RHits prog w A s lb (x :: r) false
  | hit {x y : GR.RE} {r : List GR.RE} {e b : Bool} : y ∈ lb → y.1 = x.1 → SeqAt.EqIn prog w A s x.2.2 y.2.2 e → RHits prog w A s lb r b → RHits prog w A s lb (x :: r) (e && b)
theorem RHits.inv {prog : Program} {w : World} {A : Around} {s : Shared} {lb : List GR.RE} {x : GR.RE} {r : List GR.RE} {b : Bool} (h : RHits prog w A s lb (x :: r) b) :
    (x.1 ∉ lb.map (·.1) ∧ b = false) ∨ ∃ y e b', y ∈ lb ∧ y.1 = x.1 ∧ SeqAt.EqIn prog w A s x.2.2 y.2.2 e ∧ RHits prog w A s lb r b' ∧ b = (e && b') := by
  cases h with
  | miss hn => exact .inl ⟨hn, rfl⟩
  | hit hy he hq hr => exact .inr ⟨_, _, _, hy, he, hq, hr, rfl⟩
section
variable {prog : Program} {w : World} {A : Around} {E : Value → Shared → Prop} {s : Shared}
theorem rw_pairs {nm : String} {a b : PySem.Addr} {la lb : List GR.RE} {es es' : Array DictEntry} {ep ep' : Nat} {r : Bool} {Q : Bool → Shared → Prop} (ha : (a == sysModules) = false) (hb : (b == sysModules) = false) (hu : A.units + 8 < cLine)
    (da : GR.Rw w s.heap a la es ep) (db : GR.Rw w s.heap b lb es' ep') (hits : la.length = lb.length → RHits prog w A s lb la r) (h : Q (la.length == lb.length && r) s) :
    wpAny (model prog w) A (Builtin.Dict.samePairs nm a b) Q E s := by
  obtain ⟨oa, hoa, _, hda⟩ := da.dic
  obtain ⟨ob, hob, _, hdb⟩ := db.dic
  have hla : la.length = es.size := by rw [← Array.length_toList, da.ents, List.length_map]
  have hlb : lb.length = es'.size := by rw [← Array.length_toList, db.ents, List.length_map]
  rw [hla, hlb] at h
  unfold Builtin.Dict.samePairs Builtin.Dict.showsAll
  rw [if_neg (show ¬ (a == sysModules) = true by rw [ha]; exact Bool.false_ne_true), if_neg (show ¬ (b == sysModules) = true by rw [hb]; exact Bool.false_ne_true)]
  refine wpAny_bind (wpAny_pure (wpAny_bind (wpAny_pure ?_)))
  refine wpAny_bind (wpAny_dictEntries hoa hda ?_)
  dsimp only
  refine wpAny_bind (wpAny_dictEntries hob hdb ?_)
  by_cases hsz : es.size = es'.size
  case neg =>
    rw [if_pos (by simpa using hsz)]
    have hbf : (es.size == es'.size) = false := by simpa using hsz
    rw [hbf, Bool.false_and] at h
    exact wpAny_bind (wpAny_rule (wpAny_pure h))
  case pos =>
    have h' : Q r s := by simpa [hsz] using h
    have hits' := hits (by rw [hla, hlb]; exact hsz)
    rw [if_neg (by rw [hsz]; simp)]
    refine wpAny_bind (wpAny_dictEpoch hoa hda ?_)
    refine wpAny_bind ?_
    rw [Std.Legacy.Range.forIn_eq_forIn_range']
    simp only [Std.Legacy.Range.size, Nat.sub_zero, Nat.add_sub_cancel, Nat.div_one]
    refine wpAny_forIn_list _
      (fun rest q s' => s' = s ∧ q = (none, ()) ∧ ∃ i, rest = List.range' i (es.size - i) ∧ i ≤ es.size ∧ RHits prog w A s lb (la.drop i) r)
      _ ?_ ?_ _ _ ⟨rfl, rfl, 0, by simp, Nat.zero_le _, hits'⟩
    · rintro x rest q s' ⟨rfl, rfl, i, hr, hi, hpre⟩
      have hlt : i < es.size := by
        rcases Nat.lt_or_ge i es.size with h | h
        · exact h
        · rw [Nat.sub_eq_zero_of_le h] at hr; simp at hr
      obtain ⟨rfl, hrest⟩ : x = i ∧ rest = List.range' (i + 1) (es.size - (i + 1)) := by
        have e : es.size - i = (es.size - (i + 1)) + 1 := by omega
        rw [e, List.range'_succ] at hr
        injection hr with h1 h2
        exact ⟨h1, h2⟩
      refine wpAny_bind (wpAny_dictEntries hoa hda ?_)
      have hlt' : x < la.length := by rw [hla]; exact hlt
      have hex : es[x]? = some (GR.ent w la[x]) := by rw [da.at_ x, List.getElem?_eq_getElem hlt']; rfl
      rw [hex]
      have hdrop : la.drop x = la[x] :: la.drop (x + 1) := List.drop_eq_getElem_cons hlt'
      obtain ⟨k1, k2⟩ := da.keys _ (List.getElem_mem hlt')
      rw [hdrop] at hpre
      generalize la[x] = p at hpre k1 k2 ⊢
      show wpAny _ _ (holding [p.2.1, p.2.2] _ >>= _) _ _ _
      refine wpAny_bind (wpAny_holding (wpAny_bind (GR.find_any hu k1 k2 hob hdb db.ks (fun hn => ?_) fun j hj => ?_)))
      · rcases hpre.inv with ⟨_, er⟩ | ⟨y, _, _, hy, ey, _⟩
        · rw [er] at h'
          refine wpAny_pure ?_
          show wpAny _ _ (if (!false) = true then _ else _) _ _ _
          rw [if_pos (by decide)]
          exact wpAny_pure (wpAny_pure h')
        · exact absurd (List.mem_map.mpr ⟨y, hy, ey⟩) hn
      · rw [List.getElem?_map] at hj
        obtain ⟨y0, ey0, ey1⟩ := Option.map_eq_some_iff.mp hj
        have hjx : es'[j]? = some (GR.ent w y0) := by rw [db.at_ j, ey0]; rfl
        refine wpAny_bind (wpAny_dictEntries hob hdb ?_)
        rw [hjx]
        rcases hpre.inv with ⟨hn, _⟩ | ⟨y, e, b', hy, ey, he, hrr, er⟩
        · exact absurd (List.mem_map.mpr ⟨y0, List.mem_of_getElem? ey0, ey1⟩) hn
        · have eyy : y = y0 := by
            obtain ⟨i', hi'⟩ := List.mem_iff_getElem?.mp hy
            have g1 : (lb.map (·.1))[i']? = some p.1 := by rw [List.getElem?_map, hi']; exact congrArg some ey
            have g2 : (lb.map (·.1))[j]? = some p.1 := by rw [List.getElem?_map, ey0]; exact congrArg some ey1
            have := db.ks.uniq g1 g2
            rw [this, ey0] at hi'
            exact (Option.some.inj hi').symm
          subst eyy
          refine wpAny_holding (he _ _ ?_)
          cases e with
          | false =>
            rw [er, Bool.false_and] at h'
            show wpAny _ _ (if (!false) = true then _ else _) _ _ _
            rw [if_pos (by decide)]
            exact wpAny_pure (wpAny_pure h')
          | true =>
            rw [Bool.true_and] at er
            rw [← er] at hrr
            show wpAny _ _ (if (!true) = true then _ else _) _ _ _
            rw [if_neg (by decide)]
            refine wpAny_bind (wpAny_dictEpoch hoa hda ?_)
            rw [if_neg (by simp)]
            exact wpAny_pure ⟨rfl, rfl, x + 1, hrest, hlt, hrr⟩
    · rintro q s' ⟨rfl, rfl, i, hr, hi, hpre⟩
      have hin : i = es.size := by
        rcases Nat.lt_or_ge i es.size with h | h
        · have e : es.size - i = (es.size - (i + 1)) + 1 := by omega
          rw [e, List.range'_succ] at hr; exact nomatch hr
        · exact Nat.le_antisymm hi h
      refine wpAny_pure ?_
      rw [hin, ← hla, List.drop_length] at hpre
      cases hpre
      exact h'
theorem rw_eq {a b : PySem.Addr} {la lb : List GR.RE} {es es' : Array DictEntry} {ep ep' : Nat} {r : Bool} {Q : Value → Shared → Prop} (ha : (a == sysModules) = false) (hb : (b == sysModules) = false) (hu : A.units + 10 < cLine)
    (da : GR.Rw w s.heap a la es ep) (db : GR.Rw w s.heap b lb es' ep') (hits : la.length = lb.length → RHits prog w A.in1 s lb la r) (h : Q (.bool (la.length == lb.length && r)) s) :
    wpAny (model prog w) A (compareOp .Eq (.ref a) (.ref b)) Q E s := by
  refine wpAny_richCompare_same_room (op := .Eq) da.dic.typeIs db.dic.typeIs PySem.F.slot_dict_eq (wpAny_call_entry PySem.F.slot_dict_eq da.dic.typeIs PySem.F.entry_dict_eq ?_ (PySem.F.args_dict_eq_2 _ _)) (by omega)
  show wpAny _ _ (Builtin.Dict.dictSlotArgs "__eq__" ⟨[.ref a, .ref b], []⟩ >>= _) _ _ s
  refine wpAny_bind ?_
  unfold Builtin.Dict.dictSlotArgs
  refine wpAny_bind (wpAny_notOrdered_dict da.dic.typeIs ?_)
  show wpAny _ _ (pure (Value.ref a, Value.ref b)) _ _ s
  refine wpAny_pure ?_
  refine wpAny_bind (wpAny_isInstance (T := "dict") db.dic.typeIs PySem.F.sub_dict_dict ?_)
  simp only [Bool.not_true, Bool.false_eq_true, if_false]
  refine wpAny_bind (wpAny_pure (wpAny_bind (wpAny_pure ?_)))
  refine wpAny_bind (rw_pairs ha hb (by show A.units + 1 + 8 < cLine; omega) da db hits ?_)
  refine wpAny_pure ⟨_, rfl, ?_, ?_⟩
  · exact fun x => nomatch x
  · simpa using h
theorem rw_ne {a b : PySem.Addr} {la lb : List GR.RE} {es es' : Array DictEntry} {ep ep' : Nat} {r : Bool} {Q : Value → Shared → Prop} (ha : (a == sysModules) = false) (hb : (b == sysModules) = false) (hu : A.units + 10 < cLine)
    (da : GR.Rw w s.heap a la es ep) (db : GR.Rw w s.heap b lb es' ep') (hits : la.length = lb.length → RHits prog w A.in1 s lb la r) (h : Q (.bool (!(la.length == lb.length && r))) s) :
    wpAny (model prog w) A (compareOp .NotEq (.ref a) (.ref b)) Q E s := by
  refine wpAny_richCompare_same_room (op := .NotEq) da.dic.typeIs db.dic.typeIs PySem.F.slot_dict_ne (wpAny_call_entry PySem.F.slot_dict_ne da.dic.typeIs PySem.F.entry_dict_ne ?_ (PySem.F.args_dict_ne_2 _ _)) (by omega)
  show wpAny _ _ (Builtin.Dict.dictSlotArgs "__ne__" ⟨[.ref a, .ref b], []⟩ >>= _) _ _ s
  refine wpAny_bind ?_
  unfold Builtin.Dict.dictSlotArgs
  refine wpAny_bind (wpAny_notOrdered_dict da.dic.typeIs ?_)
  show wpAny _ _ (pure (Value.ref a, Value.ref b)) _ _ s
  refine wpAny_pure ?_
  refine wpAny_bind (wpAny_isInstance (T := "dict") db.dic.typeIs PySem.F.sub_dict_dict ?_)
  simp only [Bool.not_true, Bool.false_eq_true, if_false]
  refine wpAny_bind (wpAny_pure (wpAny_bind (wpAny_pure ?_)))
  refine wpAny_bind (rw_pairs ha hb (by show A.units + 1 + 8 < cLine; omega) da db hits ?_)
  refine wpAny_pure ⟨_, rfl, ?_, ?_⟩
  · exact fun x => nomatch x
  · simpa using h
end
section
variable {X : Cx} {pins : List (PySem.Addr × Obj)} {σ : L2.St} {H : Hp} {s : Shared} {h : AH}
theorem ep_len {K : PySem.W.Frag} {H : Hp} {kvs : List (D × D)} {L : List GR.RE} (r : Paired (EP K H) kvs L) : L.length = kvs.length := by
  have := congrArg List.length (ep_keys r)
  simpa using this
theorem hits_of (I : L2.Inv X pins σ H s) (A : Abs X.K X.w h H) {B : Around} (hu : B.units + 16 < cLine) {kb : List (D × D)} {lb : List GR.RE} (rb : Paired (EP X.K H) kb lb) (nb : (kb.map (·.1)).Nodup) (ob : dOkE h kb) : ∀ {ka : List (D × D)} {la : List GR.RE}, Paired (EP X.K H) ka la → dOkE h ka → RHits X.prog X.w B s lb la (ka.all (hitE h kb))
  | _, _, .nil, _ => .nil
  | (k, d) :: r, x :: qs, .cons hq t, oa => by
    have ih := hits_of I A hu rb nb ob t fun p hp => oa p (List.mem_cons_of_mem _ hp)
    obtain ⟨z, hz⟩ := oa _ List.mem_cons_self
    obtain ⟨e1, e2, _, v, h1, h2⟩ := hq
    rw [List.all_cons]
    by_cases hm : k ∈ kb.map (·.1)
    · have hm' : nk k ∈ lb.map (·.1) := by rw [ep_keys rb]; exact (nk_mem e2 (ep_pl rb)).mpr hm
      obtain ⟨j, hj⟩ := List.mem_iff_getElem?.mp hm'
      rw [List.getElem?_map] at hj
      obtain ⟨y, ey, ek⟩ := Option.map_eq_some_iff.mp hj
      obtain ⟨d', v', g1, g2, g3⟩ := dget_of e2 rb nb ey ek
      obtain ⟨p, hp, rfl⟩ := dget_val g1
      obtain ⟨z', hz'⟩ := ob p hp
      have : hitE h kb (k, d) = deqv z z' := by
        have hz2 : rei h 10 d = some z := hz
        simp only [hitE, g1, hz2, hz']
      rw [this]
      obtain ⟨as, r1⟩ := reads I A _ _ _ _ _ hz h1 h2
      obtain ⟨bs, r2⟩ := reads I A _ _ _ _ _ hz' g2 g3
      have n1 := rei_dn _ _ _ hz
      have n2 := rei_dn _ _ _ hz'
      have := SeqAt.eqAt_plain _ _ B s _ _ as bs r1 r2 n1.tp.2 n2.tp.2 (by have := n1.tp.1; omega)
      rw [eqv_tp _ _ _ _ n1 n2] at this
      exact .hit (List.mem_of_getElem? ey) (ek.trans e1.symm) (this.inModel _ _) ih
    · have : hitE h kb (k, d) = false := by simp [hitE, dget_none hm]
      rw [this, Bool.false_and]
      refine .miss fun z => hm ?_
      rw [e1, ep_keys rb] at z
      exact (nk_mem e2 (ep_pl rb)).mp z
end
section
variable {X : Cx} {pins : List (PySem.Addr × Obj)} {σ : L2.St} {H : Hp} {s : Shared} {h : AH}
theorem dd_eq (I : L2.Inv X pins σ H s) (A : Abs X.K X.w h H) {B : Around} (hu : B.units + 30 < cLine) {a b : PySem.Addr} {Q0 : Bool → Prop} {E : Value → Shared → Prop} {Q : Value → Shared → Prop} (q : dEqB h a b Q0) (k : ∀ r, Q0 r → Q (.bool r) s) : wpAny (model X.prog X.w) B (compareOp .Eq (.ref a) (.ref b)) Q E s := by
  unfold dEqB at q
  split at q
  · rename_i ka kb ea eb
    obtain ⟨oa, ob, q⟩ := q
    obtain ⟨la, es, ep, d1, ra, _, sa, na, _⟩ := dic_raw I A ea
    obtain ⟨lb, es', ep', d2, rb, _, sb, nb, _⟩ := dic_raw I A eb
    refine rw_eq sa sb (by omega) d1 d2 (fun _ => hits_of I A (by show B.units + 1 + _ < _; omega) rb nb ob ra oa) (k _ ?_)
    rw [ep_len ra, ep_len rb]
    exact q
  · exact q.elim
theorem dd_ne (I : L2.Inv X pins σ H s) (A : Abs X.K X.w h H) {B : Around} (hu : B.units + 30 < cLine) {a b : PySem.Addr} {Q0 : Bool → Prop} {E : Value → Shared → Prop} {Q : Value → Shared → Prop} (q : dEqB h a b Q0) (k : ∀ r, Q0 r → Q (.bool (!r)) s) : wpAny (model X.prog X.w) B (compareOp .NotEq (.ref a) (.ref b)) Q E s := by
  unfold dEqB at q
  split at q
  · rename_i ka kb ea eb
    obtain ⟨oa, ob, q⟩ := q
    obtain ⟨la, es, ep, d1, ra, _, sa, na, _⟩ := dic_raw I A ea
    obtain ⟨lb, es', ep', d2, rb, _, sb, nb, _⟩ := dic_raw I A eb
    refine rw_ne sa sb (by omega) d1 d2 (fun _ => hits_of I A (by show B.units + 1 + _ < _; omega) rb nb ob ra oa) (k _ ?_)
    rw [ep_len ra, ep_len rb]
    exact q
  · exact q.elim
end
section
variable {X : Cx}
theorem gc_eq (hu : X.A.units + 64 < cLine) : GC X .Eq oEq := fun pins s σ H x y v u Q I rx ry ⟨d, e, h, Q0, rd, re, A, q, k⟩ => by
  replace q := q.un
  unfold oEqB at q
  split at q
  · rename_i x' y' e1 e2
    obtain ⟨as, r1⟩ := reads I A _ _ _ _ _ e1 rd rx
    obtain ⟨bs, r2⟩ := reads I A _ _ _ _ _ e2 re ry
    have n1 := rei_dn _ _ _ e1
    have n2 := rei_dn _ _ _ e2
    refine SeqAt.eq_plain r1 r2 n1.tp.2 n2.tp.2 (by have := n1.tp.1; omega) ⟨.bl _, H, I, rfl, ?_⟩
    rw [eqv_tp _ _ _ _ n1 n2]
    exact k _ _ _ _ q (Kp.refl _) (.bl _) A
  · split at q
    · cases rd; cases re; cases rx; cases ry
      exact dd_eq I A (by omega) q fun r hr => ⟨.bl _, H, I, rfl, k _ _ _ _ hr (Kp.refl _) (.bl _) A⟩
    · exact q.elim
theorem gc_ne (hu : X.A.units + 64 < cLine) : GC X .NotEq oNe := fun pins s σ H x y v u Q I rx ry ⟨d, e, h, Q0, rd, re, A, q, k⟩ => by
  replace q := q.un
  unfold oEqB at q
  split at q
  · rename_i x' y' e1 e2
    obtain ⟨as, r1⟩ := reads I A _ _ _ _ _ e1 rd rx
    obtain ⟨bs, r2⟩ := reads I A _ _ _ _ _ e2 re ry
    have n1 := rei_dn _ _ _ e1
    have n2 := rei_dn _ _ _ e2
    refine SeqAt.ne_plain r1 r2 n1.tp.2 n2.tp.2 (by have := n1.tp.1; omega) ⟨.bl _, H, I, rfl, ?_⟩
    rw [eqv_tp _ _ _ _ n1 n2]
    exact k _ _ _ _ q (Kp.refl _) (.bl _) A
  · split at q
    · cases rd; cases re; cases rx; cases ry
      exact dd_ne I A (by omega) q fun r hr => ⟨.bl _, H, I, rfl, k _ _ _ _ hr (Kp.refl _) (.bl _) A⟩
    · exact q.elim
end
end G
end
section
set_option Elab.async false
set_option linter.all false
set_option maxRecDepth 100000
set_option maxHeartbeats 4000000
namespace G
open PySem PySem.Spec PyProof.Rows L2
end G
end
section
set_option Elab.async false
set_option linter.all false
set_option maxRecDepth 100000
set_option maxHeartbeats 4000000
namespace G
open PySem PySem.Spec PyProof.Rows L2
variable [Tb]
/-- a tuple whose first place reads as a tuple of these ints -/
def KT (h : Heap) (u : Value) (ns : List Int) : Prop := ∃ a o xs n f r, u = .ref a ∧ h.get? a = some o ∧ o.cls = .type "tuple" ∧ o.data = .seq xs n ∧ xs.toList = f :: r ∧ Reads h f (tp (.tup (ns.map .int))) []
theorem alkL_ints : ∀ a b : List Int, alkL (a.map .int) (b.map .int) = true
  | [], _ => by simp [alkL]
  | _ :: _, [] => by simp [alkL]
  | x :: a, y :: b => by simp only [List.map_cons, alkL, alk, alkL_ints a b]; rfl
theorem dat_tints (ns : List Int) : dat 1 (.tup (ns.map .int)) = true := by
  rw [dat]
  induction ns with
  | nil => rfl
  | cons x r ih => simp only [List.map_cons, datL, ih, Bool.and_true]; rfl
theorem alike_ints (a b : List Int) : PySem.W.alike (tp (.tup (a.map .int))) (tp (.tup (b.map .int))) = true :=
  alike_tp _ _ 1 1 (dat_dn _ _ (dat_tints a)) (dat_dn _ _ (dat_tints b)) (by rw [alk]; exact alkL_ints a b)
theorem KT.keep {h h' : Heap} {u : Value} {ns : List Int} {l : Addr} (x : KT h u ns) (k : ∀ b o, b ≠ l → h.get? b = some o → h'.get? b = some o) (hl : ∀ o, h.get? l = some o → o.cls = .type "list") : KT h' u ns := by
  obtain ⟨a, o, xs, n, f, r, e, ho, hc, hd, hx, rd⟩ := x
  refine ⟨a, o, xs, n, f, r, e, k a o (fun z => ?_) ho, hc, hd, hx, PySem.W.Reads.keepBut k hl _ _ _ (alike_ints ns ns) rd (by simp)⟩
  subst z
  have := hl o ho
  rw [hc] at this
  exact absurd (Value.type.inj this) (by decide)
theorem ints_inj : ∀ a b : List Int, a.map D.int = b.map D.int → a = b
  | [], [], _ => rfl
  | [], _ :: _, e => by cases e
  | _ :: _, [], e => by cases e
  | x :: a, y :: b, e => by
    simp only [List.map_cons, List.cons.injEq, D.int.injEq] at e
    rw [e.1, ints_inj a b e.2]
theorem KT.uniq {h : Heap} {u : Value} {a b : List Int} (x : KT h u a) (y : KT h u b) : a = b := by
  obtain ⟨a1, o, xs, n, f, r, e, ho, hc, hd, hx, rd⟩ := x
  obtain ⟨a2, o', xs', n', f', r', e', ho', hc', hd', hx', rd'⟩ := y
  rw [e] at e'; cases e'
  rw [ho] at ho'; cases ho'
  rw [hd] at hd'; cases hd'
  rw [hx] at hx'; cases hx'
  have := PySem.W.alike_unique _ _ _ _ _ (alike_ints a b) rd rd'
  have h2 := tp_inj 1 1 _ _ (dat_tints a) (dat_tints b) this
  injection h2 with h3
  exact ints_inj a b h3
end G
end
section
set_option Elab.async false
set_option linter.all false
set_option maxRecDepth 100000
set_option maxHeartbeats 4000000
namespace G
open PySem PySem.Spec PyProof.Rows L2
variable [Tb]
/-- at d stands a dict of the entries kvs -/
def KI (K : PySem.W.Frag) (H : Hp) (d : Addr) (kvs : List (D × D)) : Prop := (d == sysModules) = false ∧ ∃ es : Array DictEntry, H d = some (.ext (RawD d es es.size)) ∧ Paired (fun (p : D × D) e => (∃ v, Rv K H p.1 v ∧ RelV v e.key) ∧ ∃ v, Rv K H p.2 v ∧ RelV v e.val) kvs es.toList
theorem ki_of {K : PySem.W.Frag} {w : World} {h : AH} {H : Hp} {d : Addr} {kvs : List (D × D)} (A : Abs K w h H) (e : h d = some (.dic kvs)) : KI K H d kvs := by
  obtain ⟨h1, h2, h3, es, ep, h4, h5, rfl⟩ := A d _ e
  refine ⟨h2, es, h4, ?_⟩
  generalize es.toList = l at h5
  clear e h1 h3 h4
  induction h5 with
  | nil => exact .nil
  | cons r _ ih => exact .cons ⟨r.2.2.1, r.2.2.2⟩ ih
section
variable {X : Cx} {e : Expr} {pos : Pos}
theorem ki_raw {pins : List (Addr × Obj)} {σ : L2.St} {H : Hp} {s : Shared} {d : Addr} {kvs : List (D × D)} (I : L2.Inv X pins σ H s) (r : KI X.K H d kvs) : ∃ (es : Array DictEntry), s.heap.DictRaw d es es.size ∧ es.size = kvs.length ∧ Paired (fun (p : D × D) e => (∃ v, Rv X.K H p.1 v ∧ RelV v e.key) ∧ ∃ v, Rv X.K H p.2 v ∧ RelV v e.val) kvs es.toList := by
  obtain ⟨_, es, e1, e2⟩ := r
  obtain ⟨⟨o, o1, o2, o3⟩, _, _⟩ := I.hok d _ e1
  have hl : es.size = kvs.length := by
    have := Paired.length e2
    rw [this, Array.length_toList]
  exact ⟨es, ⟨o, o1, o2, o3⟩, hl, e2⟩
end
end G
end
section
set_option Elab.async false
set_option linter.all false
set_option maxRecDepth 100000
set_option maxHeartbeats 4000000
namespace G
open PySem PySem.Spec PyProof.Rows L2
theorem step_range {n : Nat} {k : Int} (hk : 0 < k) : sliceRange 0 (n : Int) k = stepIx n k := by
  unfold sliceRange stepIx
  rw [if_pos hk]
theorem step_bounds {n : Nat} {k : Int} (hk : 0 < k) : sliceBounds none none (some k) n = (0, (n : Int), k) := by
  unfold sliceBounds
  simp [hk]
theorem rvL_at {K : PySem.W.Frag} {H : Hp} : ∀ {ds : List D} {vs : List V}, RvL K H ds vs → ∀ i : Nat, (ds[i]? = none ∧ vs[i]? = none) ∨ ∃ d v, ds[i]? = some d ∧ vs[i]? = some v ∧ Rv K H d v
  | _, _, .nil, i => .inl ⟨by simp, by simp⟩
  | _, _, .cons r t, 0 => .inr ⟨_, _, rfl, rfl, r⟩
  | _, _, .cons r t, i + 1 => by simpa using rvL_at t i
theorem rvL_pick {K : PySem.W.Frag} {H : Hp} {ds : List D} {vs : List V} (r : RvL K H ds vs) : ∀ is : List Nat, RvL K H (is.filterMap fun i => ds[i]?) (is.filterMap fun i => vs[i]?)
  | [] => .nil
  | i :: is => by
    rcases rvL_at r i with ⟨h1, h2⟩ | ⟨d, v, h1, h2, h3⟩
    · rw [List.filterMap_cons_none h1, List.filterMap_cons_none h2]; exact rvL_pick r is
    · rw [List.filterMap_cons_some h1, List.filterMap_cons_some h2]; exact .cons h3 (rvL_pick r is)
theorem vals_at {vs : List V} {us : List Value} (r : Vals vs us) (i : Nat) : (vs[i]? = none ∧ us[i]? = none) ∨ ∃ v u, vs[i]? = some v ∧ us[i]? = some u ∧ RelV v u := by
  cases e : vs[i]? with
  | none => exact .inl ⟨rfl, r.none_of e⟩
  | some v =>
    obtain ⟨u, h1, h2⟩ := r.get e
    exact .inr ⟨v, u, rfl, h1, h2⟩
theorem vals_pick {vs : List V} {us : List Value} (r : Vals vs us) : ∀ is : List Nat, Vals (is.filterMap fun i => vs[i]?) (is.filterMap fun i => us[i]?)
  | [] => .nil
  | i :: is => by
    rcases vals_at r i with ⟨h1, h2⟩ | ⟨d, v, h1, h2, h3⟩
    · rw [List.filterMap_cons_none h1, List.filterMap_cons_none h2]; exact vals_pick r is
    · rw [List.filterMap_cons_some h1, List.filterMap_cons_some h2]; exact .cons h3 (vals_pick r is)
theorem step_le {n : Nat} {k : Int} (hk : 0 < k) : (stepIx n k).length ≤ n := by
  unfold stepIx
  rw [List.length_map, List.length_range]
  split
  · rename_i h
    have := PySem.ceilDiv_le (n : Int) k (by omega) (by omega)
    rw [show (n : Int) - 0 + k - 1 = (n : Int) + k - 1 by omega]
    omega
  · simp
variable [Tb]
section
variable {X : Cx} {e st a b c tg : Expr}
def tStepL (K : PySem.W.Frag) (te ts : TE) : TE := fun σ H Q => te σ H fun x H1 => tPart ts σ H1 fun o H2 => ∃ a xs k, x = .ref a ∧ o = some k ∧ 0 < k ∧ SqL K H2 a xs ∧ ∀ p, H2 p = none → Q (.ref p) (upd H2 p (.lst ((stepIx xs.length k).filterMap fun i => xs[i]?)))
theorem pe_stepL {te ts : TE} {p3 pos : Pos} (he : PE X e te) (hst0 : PE X st ts) : PE X (.Subscript e (.Slice none none (some st) p3) pos) (tStepL X.K te ts) := by
  refine ⟨fun pins s σ H Q I h => ?_⟩
  refine Subscript_ (thn (he.run pins s σ H _ I h) fun v s1 ⟨x, H1, I1, r1, q1⟩ => ?_)
  have hst : PO X (some st) (tPart ts) := po_some hst0
  refine wpAny_Slice (thn (po_none.run pins s1 σ H1 (fun o H2 => o = none ∧ H2 = H1) I1 ⟨rfl, rfl⟩) fun vl s2 ⟨l, H2, I2, pl, el, e2⟩ => ?_)
  subst el e2
  refine thn (po_none.run pins s2 σ H2 (fun o H3 => o = none ∧ H3 = H2) I2 ⟨rfl, rfl⟩) fun vu s3 ⟨u, H3, I3, pu, eu, e3⟩ => ?_
  subst eu e3
  refine thn (hst.run pins s3 σ H3 _ I3 q1) fun vs s4 ⟨o, H4, I4, ps, a, xs, k, ex, eo, hk, hx, q⟩ => ?_
  subst eo ex
  cases r1
  have I5 : Inv X pins σ H4 { s4 with heap := s4.heap.push { cls := .type "slice", data := .fields #[vl, vu, vs] } } := I4.kept (t' := s4.toks) fun b ob q => Heap.get?_push_of_some _ q
  obtain ⟨its, r, ht, hz⟩ := I5.list hx
  have hlen := r.length
  show wpAny (model X.prog X.w) X.A (subscriptTail e (.Slice none none (some st) p3) (.ref a) (.ref s4.heap.objs.size)) (L2.EP X pins σ Q) X.xe { s4 with heap := s4.heap.push { cls := .type "slice", data := .fields #[vl, vu, vs] } }
  refine tail_any (ops := [.ref a, .ref s4.heap.objs.size]) ht.isList.typeIs (PySem.slot_list_getitem.lookup) ?_ (by with_unfolding_all rfl)
  refine wpAny_getItem_list_slice ht.isList (Heap.IsSliceOf.new _ vl vu vs) pl pu ps (by intro z; cases z; omega) ?_ (by rw [List.size_toArray]; omega)
  have ep : slicePick its.toArray none none (some k) = ((stepIx xs.length k).filterMap fun i => its[i]?).toArray := by
    unfold slicePick
    rw [step_bounds hk]
    show ((sliceRange 0 ((its.toArray.size : Nat) : Int) k).filterMap _).toArray = _
    rw [step_range hk, List.size_toArray, ← hlen]
    rw [show (fun i => its.toArray[i]?) = fun i => its[i]? from funext fun i => by simp]
  rw [ep]
  have l1 : ((stepIx xs.length k).filterMap fun i => xs[i]?).length ≤ sizeLine := Nat.le_trans (List.length_filterMap_le _ _) (Nat.le_trans (step_le hk) hz)
  refine ⟨.ref _, _, I5.laid (t' := s4.toks) (o := .lst ((stepIx xs.length k).filterMap fun i => xs[i]?)) (fun b ob q => Heap.get?_push_of_some _ q) (Nat.le_refl _) ?_, rfl, q _ (I5.hok.fresh (Nat.le_refl _))⟩
  exact ⟨l1, _, 0, vals_pick r _, Heap.get?_push_size _ rfl⟩
theorem ge_step {p3 pos : Pos} {f g : DE} (he : GE X e f) (hs : GE X st g) : GE X (.Subscript e (.Slice none none (some st) p3) pos) (d2 oStep f g) :=
  pe_imp (pe_stepL he hs) fun σ H Q ⟨ρ, h, Q0, R, A, q, k⟩ => ⟨ρ, h, _, R, A, q, fun d h1 v H1 q1 k1 r1 A1 => ⟨ρ, h1, _, R.kp k1, A1, q1, fun y h2 u H2 q2 k2 r2 A2 => by
    have q2 := q2.un
    split at q2
    · rename_i ds e1
      split at q2
      · rename_i kk _
        obtain ⟨hk, q2⟩ := q2
        obtain ⟨a, vs, rfl, hq, rL⟩ := lsOf_some A2 (r1.kp k2) e1
        cases r2
        refine ⟨kk, rfl, a, vs, kk, rfl, rfl, hk, hq, fun p n => newL_ok (ds := stepD kk ds) q2 A2 ?_ n (k1.trans k2) k⟩
        unfold stepD
        rw [← rL.length]
        exact rvL_pick rL _
      · exact q2.elim
    · exact q2.elim⟩⟩
theorem fits_of {i : Int} (a : -(2 ^ 63) ≤ i) (b : i < 2 ^ 63) : Builtin.Range.rangeFitsLong i = true := by
  unfold Builtin.Range.rangeFitsLong
  simp only [Bool.and_eq_true, decide_eq_true_eq]
  exact ⟨a, b⟩
end
end G
end
section
set_option Elab.async false
set_option linter.all false
set_option maxRecDepth 100000
set_option maxHeartbeats 4000000
namespace G
open PySem PySem.Spec PyProof.Rows L2
variable [Tb]
section
variable {X : Cx}
def rCatL (K : PySem.W.Frag) : R2 := fun x y H Q => ∃ l b xs zs, x = .ref l ∧ y = .ref b ∧ SqL K H l xs ∧ SqL K H b zs ∧ xs.length + zs.length ≤ sizeLine ∧ ∀ p, H p = none → Q (.ref p) (upd H p (.lst (xs ++ zs)))
theorem op_catL : OpR X (binaryOp .Add) (rCatL X.K) := by
  intro pins s σ H x y v u Q I rx ry h
  obtain ⟨l, b, xs, zs, rfl, rfl, hH, hB, hz, q⟩ := h
  cases rx
  cases ry
  obtain ⟨its, r, ⟨⟨cls, dd, data, sl⟩, n, ho, hc, hdn, hd⟩, hs⟩ := I.list hH
  obtain ⟨its2, r2, ⟨⟨cls2, dd2, data2, sl2⟩, n2, ho2, hc2, hdn2, hd2⟩, hs2⟩ := I.list hB
  simp only at hc hd hc2 hd2
  subst hc hd hc2 hd2
  have l1 := r.length
  have l2 := r2.length
  refine concat_meets ⟨_, ho, rfl⟩ ⟨_, ho2, rfl⟩ noFill_list_add seq_list_add PySem.F.slot_list_add PySem.F.entry_list_add (PySem.F.args_list_add_2 _ _) (list_addW l b its.toArray its2.toArray n n2 dd dd2 sl sl2 (by rw [List.size_toArray, List.size_toArray]; omega)) ⟨ho, ho2, ?_⟩
  have ea : its.toArray ++ its2.toArray = (its ++ its2).toArray := by simp
  rw [ea]
  exact ⟨.ref _, _, I.lnew (t' := s.toks) (r.append r2) (by rw [List.length_append]; omega), rfl, q _ I.fresh⟩
theorem go_addL : GO X .Add oAddL := fun pins s σ H x y v u Q I rx ry ⟨d, e, h, Q0, rd, re, A, q, k⟩ => by
  have q := q.un
  split at q
  · rename_i ds es e1 e2
    obtain ⟨z, q⟩ := q
    obtain ⟨a, vs, rfl, hq, r1⟩ := lsOf_some A rd e1
    obtain ⟨b, us, rfl, hq2, r2⟩ := lsOf_some A re e2
    have l1 := r1.length
    have l2 := r2.length
    exact op_catL pins s σ H _ _ v u Q I rx ry ⟨a, b, vs, us, rfl, rfl, hq, hq2, by rw [sz_eq]; omega, fun p n => newL_ok q A (r1.append r2) n (Kp.refl _) k⟩
  · exact q.elim
end
end G
end
section
set_option Elab.async false
set_option linter.all false
set_option maxRecDepth 100000
set_option maxHeartbeats 4000000
namespace G
open PySem PySem.Spec PyProof.Rows L2
variable [Tb]
section
variable {X : Cx} {a b c e tg : Expr} {pos : Pos}
theorem go_divW : GO X .FloorDiv oDivW := op_use op_fdivW fun x y H Q ⟨d, e, h, Q0, rd, re, A, q, k⟩ => by
  cases d <;> cases e <;> first | exact q.elim | skip
  cases rd; cases re
  obtain ⟨⟨c, c2⟩, q⟩ := q
  refine ⟨_, _, rfl, rfl, wide_div (b := 8000) c ?_ (by decide) (by decide), k _ _ _ _ q (Kp.refl _) (.int _) A⟩
  exact Nat.lt_trans (show _ < (2 : Nat) ^ 200 by omega) (Nat.pow_lt_pow_right (by decide) (by decide))
theorem js_txt {K : PySem.W.Frag} {w : World} {H : Hp} {z : Str} : JS K w H (Its z) (srcV (chrs z)) := fun i h H1 k A ok => by
  have hl : (chrs z).length = z.cps.size := by unfold chrs; rw [List.length_map, Array.length_toList]
  refine ⟨fun d e => ?_, fun y => ?_⟩
  · have e' : (chrs z)[i]? = some d := e
    unfold chrs at e'
    rw [List.getElem?_map] at e'
    obtain ⟨c, hc, rfl⟩ := Option.map_eq_some_iff.mp e'
    rw [Array.getElem?_toList] at hc
    have hi := (Array.getElem?_eq_some_iff.mp hc).1
    refine ⟨hi, fun x H' ⟨e3, c', hc', hx⟩ => ?_⟩
    subst e3
    rw [hc] at hc'; cases hc'
    subst hx
    exact ⟨Kp.refl _, A, .str _ (show 1 ≤ sizeLine by decide)⟩
  · show z.cps.size ≤ i
    rw [← hl]; exact y
theorem gi_txt {f : DE} (he : GE X e f) : GI X tg e (G.iTxt f) :=
  pi_imp (pi_str he) fun σ H R ⟨ρ, h, R0, RR, A, q, k⟩ => ⟨ρ, h, _, RR, A, q, fun d h1 v H1 q1 k1 r1 A1 => by
    cases d <;> first | exact q1.elim | skip
    cases r1
    exact ⟨_, rfl, k _ _ _ _ q1 k1 A1 js_txt⟩⟩
theorem blsOf_some {K : PySem.W.Frag} {H : Hp} : ∀ {ds : List D} {bs : List Bool} {vs : List V}, blsOf ds = some bs → RvL K H ds vs → vs = bs.map V.bl
  | [], bs, vs, e, r => by cases e; cases r; rfl
  | .bl i :: ds, bs, vs, e, r => by
    simp only [blsOf, Option.map_eq_some_iff] at e
    obtain ⟨ms, e1, rfl⟩ := e
    cases r with
    | cons ra rb =>
      cases ra
      rw [blsOf_some e1 rb]; rfl
  | .non :: _, _, _, e, _ => by simp [blsOf] at e
  | .int _ :: _, _, _, e, _ => by simp [blsOf] at e
  | .str _ :: _, _, _, e, _ => by simp [blsOf] at e
  | .tup _ :: _, _, _, e, _ => by simp [blsOf] at e
  | .rl _ :: _, _, _, e, _ => by simp [blsOf] at e
  | .rd _ _ :: _, _, _, e, _ => by simp [blsOf] at e
  | .ref _ :: _, _, _, e, _ => by simp [blsOf] at e
theorem gb_all (hc : X.calm = true) : GB X (.builtin "all") bAll := fun pins s σ H vs us Q I r ⟨ds, h, Q0, rL, A, q, k⟩ => by
  unfold bAll at q
  split at q
  · rename_i x
    obtain ⟨v, rfl, rv⟩ := rvL_one rL
    split at q
    · rename_i bs e1
      obtain ⟨ds, e2, e3⟩ := Option.bind_eq_some_iff.mp e1
      obtain ⟨a, vs, rfl, hq, rL'⟩ := lsOf_some A rv e2
      rw [blsOf_some e3 rL'] at hq
      exact cr_all hc pins s σ H _ us Q I r ⟨a, bs, rfl, hq, k _ _ _ _ q (Kp.refl _) (.bl _) A⟩
    · exact q.elim
  · exact q.elim
end
end G
end
section
set_option Elab.async false
set_option linter.all false
set_option maxRecDepth 100000
set_option maxHeartbeats 4000000
namespace G
open PySem PySem.Spec PyProof.Rows L2 RZ
variable [Tb]
/-- what the dict at p has at the keys -/
def KFdL (K : PySem.W.Frag) (w : World) (p : Addr) : List (Str × D) → Prop
  | [] => True
  | (z, d) :: r => (∃ v, KDct K w p z v ∧ ∀ H, Rv K H d v) ∧ KFdL K w p r
theorem KFdL.at {K : PySem.W.Frag} {w : World} {p : Addr} : ∀ {c : List (Str × D)} {z : Str} {d : D}, KFdL K w p c → c.lookup z = some d → ∃ v, KDct K w p z v ∧ ∀ H, Rv K H d v
  | [], _, _, _, e => by simp at e
  | (y, d') :: r, z, d, ⟨h, hr⟩, e => by
    rw [List.lookup_cons] at e
    split at e
    · rename_i hz
      have : z = y := by simpa using hz
      subst this
      cases e
      exact h
    · exact hr.at e
section
variable {X : Cx} {a b e tg : Expr} {pos : Pos}
theorem js_zipT {K : PySem.W.Frag} {w : World} {H : Hp} {a b : Addr} {ds es : List D} {vs us : List V} (hr : SqT K H a vs) (hr2 : SqT K H b us) (r : RvL K H ds vs) (r2 : RvL K H es us) : JS K w H (ItzT K a b) (srcV (zipD ds es)) := fun i h H1 k A ok => by
  have e1 : SqT K H1 a vs := SqT.kp k hr
  have e2 : SqT K H1 b us := SqT.kp k hr2
  refine ⟨fun d ed => ?_, fun z => ⟨vs, us, e1, e2, by
    have z' : (zipD ds es).length ≤ i := z
    rw [zipD_len] at z'
    rw [← r.length, ← r2.length]; omega⟩⟩
  obtain ⟨y1, y2, ey1, ey2, rfl⟩ := zipD_get ed
  obtain ⟨v1, ev1, rv1⟩ := r.get ey1
  obtain ⟨v2, ev2, rv2⟩ := r2.get ey2
  refine ⟨⟨vs, us, v1, v2, e1, e2, ev1, ev2⟩, fun u H' ⟨TT, v', v'', e3, nT, e4, f2, f3⟩ => ?_⟩
  subst e3; subst e4
  have e5 := f2 vs e1
  rw [ev1] at e5; cases e5
  have e6 := f3 us e2
  rw [ev2] at e6; cases e6
  exact ⟨Kp.new nT, A.newH nT, .tup (SqT.of upd_same) (.cons ((rv1.kp k).kp (Kp.new nT)) (.cons ((rv2.kp k).kp (Kp.new nT)) .nil))⟩
theorem gi_zipT {f : DA} {p tpos : Pos} {elts : List Expr} {kk : Nat} (hm : X.mg "zip" = none) (ha : GA X [a, b] f) (hg : Gl X "zip" := by rfl) (hs : starEach [a, b] X.env = (false, eval a X.env) :: starEach [b] X.env := by rfl) (hpl : (backTo pos (starEach [b] X.env)).any (·.1) = false := by rfl) : GI X (.Tuple elts kk tpos) (.Call (.Name "zip" p) [a, b] [] pos) (G.iZipT f) :=
  pi_imp (pi_zipA hg hm ha hs hpl) fun σ H R ⟨ρ, h, R0, RR, A, q, k⟩ => ⟨ρ, h, _, RR, A, q, fun ds h1 vs H1 q1 k1 r1 A1 => by
    split at q1
    · rename_i x y
      cases r1 with
      | cons ra rb =>
        cases rb with
        | cons rc rd' =>
          cases rd'
          cases ra with
          | tup h1' r1' =>
            cases rc with
            | tup h2' r2' =>
              exact ⟨_, _, _, _, rfl, .inr ⟨h1', h2', k _ _ _ _ q1 k1 A1 (js_zipT h1' h2' r1' r2')⟩⟩
    · exact q1.elim⟩
end
end G
end
section
set_option Elab.async false
set_option linter.all false
set_option maxRecDepth 100000
set_option maxHeartbeats 4000000
namespace G
open PySem PySem.Spec PyProof.Rows L2
end G
end
section
set_option Elab.async false
set_option linter.all false
set_option maxRecDepth 100000
set_option maxHeartbeats 4000000
namespace G
open PySem PySem.Spec PyProof.Rows L2
variable [Tb]
theorem look_rv {K : PySem.W.Frag} {H : Hp} {f : Str} : ∀ {fs : List (Str × D)} {vs : List (Str × V)}, fs.map (·.1) = vs.map (·.1) → RvL K H (fs.map (·.2)) (vs.map (·.2)) → (fs.lookup f = none → vs.lookup f = none) ∧ ∀ d, fs.lookup f = some d → ∃ v, vs.lookup f = some v ∧ Rv K H d v
  | [], [], _, _ => ⟨fun _ => rfl, fun d e => by cases e⟩
  | [], _ :: _, e, _ => by cases e
  | _ :: _, [], e, _ => by cases e
  | (g, d) :: fs, (g', v) :: vs, e, r => by
    simp only [List.map_cons, List.cons.injEq] at e r
    obtain ⟨rfl, e⟩ := e
    cases r with
    | cons ra rb =>
      obtain ⟨h1, h2⟩ := look_rv (f := f) e rb
      cases hb : (f == g) with
      | true =>
        refine ⟨fun z => ?_, fun d' z => ?_⟩
        · rw [List.lookup_cons, hb] at z; cases z
        · rw [List.lookup_cons, hb] at z; cases z
          exact ⟨v, by rw [List.lookup_cons, hb], ra⟩
      | false =>
        refine ⟨fun z => ?_, fun d' z => ?_⟩
        · rw [List.lookup_cons, hb] at z ⊢; exact h1 z
        · rw [List.lookup_cons, hb] at z
          obtain ⟨u, u1, u2⟩ := h2 d' z
          exact ⟨u, by rw [List.lookup_cons, hb]; exact u1, u2⟩
theorem put_rv {K : PySem.W.Frag} {H : Hp} {f : Str} {y : D} {u : V} (ry : Rv K H y u) : ∀ {fs : List (Str × D)} {vs : List (Str × V)}, fs.map (·.1) = vs.map (·.1) → RvL K H (fs.map (·.2)) (vs.map (·.2)) → (putD f y fs).map (·.1) = (L2.putF f u vs).map (·.1) ∧ RvL K H ((putD f y fs).map (·.2)) ((L2.putF f u vs).map (·.2))
  | [], [], _, _ => ⟨rfl, .cons ry .nil⟩
  | [], _ :: _, e, _ => by cases e
  | _ :: _, [], e, _ => by cases e
  | (g, d) :: fs, (g', v) :: vs, e, r => by
    simp only [List.map_cons, List.cons.injEq] at e r
    obtain ⟨rfl, e⟩ := e
    cases r with
    | cons ra rb =>
      obtain ⟨h1, h2⟩ := put_rv (f := f) ry e rb
      rw [putD, L2.putF]
      by_cases c : g = f
      · rw [if_pos c, if_pos c]
        exact ⟨by simp [e], .cons ry rb⟩
      · rw [if_neg c, if_neg c]
        exact ⟨by simp [h1], .cons ra h2⟩
theorem insOf_some {K : PySem.W.Frag} {w : World} {h : AH} {H : Hp} {d : D} {v : V} {C : Addr} {R : Addr → List (Str × D) → Prop} (A : Abs K w h H) (r : Rv K H d v) (q : insOf h d C R) :
    ∃ p fs dx vs, v = .ref p ∧ h p = some (.ins C fs) ∧ H p = some (.ins C dx vs) ∧ fs.map (·.1) = vs.map (·.1) ∧ RvL K H (fs.map (·.2)) (vs.map (·.2)) ∧ R p fs := by
  unfold insOf at q
  split at q
  · rename_i p
    split at q
    · rename_i C' fs e
      obtain ⟨rfl, q⟩ := q
      cases r
      obtain ⟨dx, vs, e1, e2, e3⟩ := A p _ e
      exact ⟨p, fs, dx, vs, rfl, e, e1, e2, e3, q⟩
    · exact q.elim
  · exact q.elim
section
variable {X : Cx} {k : Nat} {f C : Addr} {fd : FuncData} {ps : List Str} {sp : FS} {x m : Str} {p pos apos : Pos} {e o : Expr} {es : List Expr} {fa : DE} {fb : DA}
theorem ge_fld (he : GE X e fa) (c : L2.Cls X.K C) (n : L2.NoAttr X.K C m) (hb : attributeBase e m X.env (eval e X.env) = eval e X.env := by rfl) : GE X (.Attribute e m pos) (dFld C m fa) :=
  pe_imp (pe_fld he hb) fun σ H Q ⟨ρ, h, Q0, R, A, q, k⟩ => ⟨ρ, h, _, R, A, q, fun d h1 v H1 q1 k1 r1 A1 => by
    obtain ⟨p, fs, dx, vs, rfl, e1, e2, e3, e4, d', e5, q2⟩ := insOf_some A1 r1 q1.un
    obtain ⟨u, u1, u2⟩ := (look_rv (f := m) e3 e4).2 d' e5
    exact ⟨p, C, dx, vs, u, rfl, e2, c, n, u1, k _ _ _ _ q2 k1 u2 A1⟩⟩
theorem gs_fld {fv : DE} {value : Expr} {pos' : Pos} (ha : GE X o fa) (hv : GE X value fv) (c : L2.Cls X.K C) (n : L2.NoAttr X.K C m) (hs : swapsWith value (some (.Attribute o m pos')) pos.line X.env = pure false := by rfl) : GS X (.Assign [.Attribute o m pos'] value pos) (dSetF C m fa fv) :=
  ps_imp (ps_fld ha hv hs) fun D σ H ⟨ρ, h, F, R, A, q, k⟩ => ⟨ρ, h, _, R, A, q, fun y h1 u H1 q1 k1 r1 A1 => ⟨ρ, h1, _, R.kp k1, A1, q1, fun d h2 v H2 q2 k2 r2 A2 => by
    obtain ⟨p, fs, dx, vs, rfl, e1, e2, e3, e4, hl, q3⟩ := insOf_some A2 r2 q2.un
    have kw : Kp H2 (upd H2 p (.ins C dx (L2.putF m u vs))) := Kp.wr e2 trivial
    obtain ⟨g1, g2⟩ := put_rv (f := m) ((r1.kp k2).kp kw) e3 (e4.kp kw)
    have hl2 : vs.length < 1000 := by
      have := congrArg List.length e3
      simp only [List.length_map] at this
      omega
    exact ⟨p, C, dx, vs, rfl, e2, c, n, hl2, k.nx _ _ _ _ q3 ((k1.trans k2).trans kw) (((R.kp k1).kp k2).kp kw) (A2.wr e2 trivial ⟨dx, _, upd_same, g1, g2⟩)⟩⟩⟩
theorem ge_mtc {pl : Sem Bool} (he : GE X o fa) (c : L2.Cls X.K C) (hm : L2.Meth X.K C m f) (F : FnG X.prog X.w X.K X.mg X.base k f fd ps sp) (hr : Room k X.A) (hb : Binds X.K fd ps []) (ha : GA X (e :: es) fb)
    (hst : starEach (e :: es) X.env = (false, eval e X.env) :: starEach es X.env := by rfl) (hpl : (backTo pos (starEach es X.env)).any (·.1) = false := by rfl)
    (ht : eval (.Call (.Attribute o m apos) (e :: es) [] pos) X.env = (do
      let ov ← eval o X.env
      standAt apos.atName
      let (f, first) ← holding [ov] (getMethod ov m pl)
      callWith pos f first (backTo pos (starEach (e :: es) X.env)) (backToKw pos (keywordEach [] X.env))) := by rfl) : GE X (.Call (.Attribute o m apos) (e :: es) [] pos) (dMtc C m sp fa fb) :=
  pe_imp (pe_meth he c hm F hr hb .nil pass0 ha hst hpl ht) fun σ H Q ⟨ρ, h, Q0, R, A, q, k⟩ => ⟨ρ, h, _, R, A, q, fun d h1 v H1 q1 k1 r1 A1 => by
    obtain ⟨p, fs, dx, vs, rfl, e1, e2, e3, e4, e5, q2⟩ := insOf_some A1 r1 q1.un
    exact ⟨p, dx, vs, rfl, e2, (look_rv (f := m) e3 e4).1 e5, ρ, h1, _, R.kp k1, A1, q2, fun ds h2 us H2 q3 k2 r2 A2 => ⟨.ref p :: ds, h2, Q0, .cons (.ref p) (by rw [List.append_nil]; exact r2), A2, q3, k.kp (k1.trans k2)⟩⟩⟩
theorem ge_mtc0 {pl : Sem Bool} (he : GE X o fa) (c : L2.Cls X.K C) (hm : L2.Meth X.K C m f) (F : FnG X.prog X.w X.K X.mg X.base k f fd ps sp) (hr : Room k X.A) (hb : Binds X.K fd ps [])
    (ht : eval (.Call (.Attribute o m apos) [] [] pos) X.env = (do
      let ov ← eval o X.env
      standAt apos.atName
      let (f, first) ← holding [ov] (getMethod ov m pl)
      callWith pos f first (backTo pos (starEach [] X.env)) (backToKw pos (keywordEach [] X.env))) := by rfl) : GE X (.Call (.Attribute o m apos) [] [] pos) (dMtc C m sp fa daNil) :=
  pe_imp (pe_meth0 he c hm F hr hb .nil pass0 ht) fun σ H Q ⟨ρ, h, Q0, R, A, q, k⟩ => ⟨ρ, h, _, R, A, q, fun d h1 v H1 q1 k1 r1 A1 => by
    obtain ⟨p, fs, dx, vs, rfl, e1, e2, e3, e4, e5, q2⟩ := insOf_some A1 r1 q1.un
    exact ⟨p, dx, vs, rfl, e2, (look_rv (f := m) e3 e4).1 e5, ⟨[.ref p], h1, Q0, .cons (.ref p) .nil, A1, q2, k.kp k1⟩⟩⟩
theorem ge_make (M : L2.Mk X.K C f) (F : FnG X.prog X.w X.K X.mg X.base k f fd ps sp) (hr : Room (k + 1) X.A) (hm : X.mg x = some (.ref C)) (hb : Binds X.K fd ps []) (ha : GA X (e :: es) fb) (hg : Gl X x := by rfl)
    (hdb : (x == ("__debug__" : Str)) = false := by decide) (he : starEach (e :: es) X.env = (false, eval e X.env) :: starEach es X.env := by rfl) (hpl : (backTo pos (starEach es X.env)).any (·.1) = false := by rfl) : GE X (.Call (.Name x p) (e :: es) [] pos) (dMake C sp fb) :=
  pe_imp (pe_make M F hr hg hm hb .nil pass0 ha hdb he hpl) fun σ H Q ⟨ρ, h, Q0, R, A, q, k⟩ => ⟨ρ, h, _, R, A, q, fun ds h1 vs H1 q1 k1 r1 A1 => fun y dx ny ndx ne => by
    have n2 : upd H1 dx (.own y) y = none := by rw [upd_ne (Ne.symm ne)]; exact ny
    have k2 : Kp H1 (upd H1 dx (.own y)) := Kp.new ndx
    have k3 : Kp (upd H1 dx (.own y)) (upd (upd H1 dx (.own y)) y (.ins C dx [])) := Kp.new n2
    refine ⟨.ref y :: ds, _, _, .cons (.ref y) (by rw [List.append_nil]; exact (r1.kp k2).kp k3), (A1.newH ndx).new (o := .ins C []) n2 ⟨dx, [], upd_same, rfl, .nil⟩, q1.un y (A1.nil ny), fun d h' v H' ⟨q3, q4⟩ k4 r4 A4 => ?_⟩
    subst q3
    cases r4
    exact ⟨rfl, k _ _ _ _ q4 (((k1.trans k2).trans k3).trans k4) (.ref y) A4⟩⟩
end
end G
end
section
set_option Elab.async false
set_option linter.all false
set_option maxRecDepth 100000
set_option maxHeartbeats 4000000
namespace G
open PySem PySem.Spec PyProof.Rows L2
variable [Tb]
/-- sorted of what can be gathered, by a key whose calls keep the heap -/
theorem sorted_coll {X : Cx} {s : Shared} {T : String} {r d : Addr} {f : Value} {kw : List (Str × Value)} {n : Nat} {P : Nat → Value → Prop} {OK : Heap → Prop} {β : Type} {R : Value → β → Prop} {bs : List β} {Q : Value → Shared → Prop} {E : Value → Shared → Prop} (k : β → PyData)
    (K : PySem.W.KdlSrc X.prog X.w T r d n P OK) (hh : X.A.handled = none) (hok : OK s.heap) (hn : n ≤ sizeLine) (hv : ∀ its : List Value, its.length = n → (∀ j v, its[j]? = some v → P j v) → PySem.W.EachIs R its bs)
    (hal : PySem.W.AllAlike (bs.map k)) (hk : PySem.W.Sortable (bs.map k)) (hL : bs.length ≤ sizeLine) (hu : ∀ x ∈ bs, X.A.units + 3 + (k x).depth < cLine)
    (ha1 : PySem.argsOk "sorted" ⟨[.ref r], kw⟩) (ha2 : ∀ x, PySem.argsOk "list.sort" ⟨[.ref x], kw⟩) (ht : ∀ x, Builtin.«list.sort» ⟨[.ref x], kw⟩ = PyProof.Rows.ksk_tree x f false)
    (turn : ∀ (v : Value) (x : β), R v x → x ∈ bs → ∀ (h : Heap) (tk : Nat), (∀ b o, s.heap.get? b = some o → h.get? b = some o) → wpAny (model X.prog X.w) X.A.in1.in1 (call f [v]) (PySem.W.KeyPure (k x) { s with heap := h, toks := tk }) (fun _ _ => False) { s with heap := h, toks := tk })
    (h : ∀ (out : List Value) (c : Nat) (h1 h' : Heap) (tk : Nat), (∀ b o, s.heap.get? b = some o → h1.get? b = some o) → (∀ b o, h1.get? b = some o → h'.get? b = some o) → h'.get? h1.objs.size = some (seqObj "list" out.toArray c) → PySem.W.EachIs R out (bs.mergeSort (PySem.W.dataLe false k)) → Q (.ref h1.objs.size) { s with heap := h', toks := tk }) :
    wpAny (model X.prog X.w) X.A (call (.builtin "sorted") [.ref r] kw) Q E s := by
  refine PyProof.Rows.call_function_entry_kw PyProof.Rows.kind_sorted PyProof.Rows.plain_sorted PyProof.Rows.entry_sorted ha1 ?_
  unfold Builtin.«sorted»
  refine wpAny_bind (m := checkCount "sorted" 1 1 _) (wpAny_pure ?_)
  refine wpAny_bind (PySem.W.kdu_collect (A := X.A.in1) K hh hok hn fun h1 tk1 acc hkeep hacc => ?_)
  have hlen : acc.toList.length = n := by rw [Array.length_toList]; exact hacc.1
  have hE := hv acc.toList hlen fun j v e => hacc.2 j v (by rw [← Array.getElem?_toList]; exact e)
  generalize acc.toList = its at hlen hE ⊢
  clear hacc
  refine wpAny_bind (wpAny_newList ?_ (by omega))
  have hoL : (h1.push (seqObj "list" its.toArray 0)).get? h1.objs.size = some (seqObj "list" its.toArray 0) := Heap.get?_push_size _ rfl
  have up : ∀ {g : Heap}, PySem.W.KeepsBut h1.objs.size (h1.push (seqObj "list" its.toArray 0)) g → ∀ b o, s.heap.get? b = some o → g.get? b = some o := fun {g} kp b o q =>
    kp b o (Nat.ne_of_lt (Heap.lt_size (hkeep b o q))) (Heap.get?_push_of_some _ (hkeep b o q))
  show wpAny _ _ _ _ _ { s with heap := h1.push (seqObj "list" its.toArray 0), toks := tk1 }
  refine wpAny_bind (wpAny_holding (PySem.W.list_sort_key_data (s := { s with heap := h1.push (seqObj "list" its.toArray 0), toks := tk1 }) (b := false) k hoL hE hal hk hL (fun x hx => ?_) (ha2 _) (ht _) (fun v x hR hx g tk kp => turn v x hR hx g tk (up kp)) fun out c h2 tk2 kp hD hol eo => ?_))
  · have := hu x hx
    rw [Around.in1_units]
    omega
  · exact wpAny_pure ⟨_, rfl, h out c h1 h2 tk2 hkeep (fun b o q => kp b o (Nat.ne_of_lt (Heap.lt_size q)) (Heap.get?_push_of_some _ q)) hD eo⟩
end G
namespace G
open PySem PySem.Spec PyProof.Rows L2
variable [Tb]
section
variable {X : Cx} {pins : List (Addr × Obj)} {σ : L2.St} {H : Hp} {s : Shared} {h : AH}
/-- the call of lambda x: s.F[x] -/
theorem lamF_turn {A : Around} {f c' p : Addr} {C dx : Addr} {vs : List (Str × V)} {fl qual x sf : Str} {params : Arguments} {scope : Scope} {cl : List (Str × Addr)} {cc : Addr} {pm ctv u : Value} {p1 p2 p3 p4 : Pos} {r : Addr} {kv : List (D × D)} {kd y : D} {kvv : V} (I : L2.Inv X pins σ H s) (Ab : Abs X.K X.w h H)
    (hd : A.depth < recursionLimit) (hun : A.units + 20 < cLine) (ho : s.heap.get? f = some (PySem.W.kla_obj "<lambda>" qual params (.Subscript (.Attribute (.Name sf p1) fl p2) (.Name x p3) p4) scope cl pm c' ctv))
    (hc : ∃ (oc : Obj) (vs : Array Value) (tk : Tok), s.heap.get? c' = some oc ∧ oc.data = .fields vs ∧ vs[1]? = some (.str qual tk))
    (hk : scope.kind = .function) (hco : scope.isCoroutine = false) (hgen : scope.isGenerator = false) (hcell : ∀ y ∈ scope.names, y.2 ≠ .cell) (hloc : scope.names.lookup x = some .local) (hfre : scope.names.lookup sf = some .free)
    (hbind : ∀ v : Value, bindArgs (PySem.W.kla_fn "<lambda>" qual params (.Subscript (.Attribute (.Name sf p1) fl p2) (.Name x p3) p4) scope cl pm (.ref c') ctv) ⟨[v], []⟩ = pure [(x, v)])
    (hdx : (x == ("__debug__" : Str)) = false) (hds : (sf == ("__debug__" : Str)) = false) (hcd : (sf == ("__classdict__" : Str)) = false) (hcl : cl.lookup sf = some cc) (hcc : s.heap.IsCell cc (some (.ref p)))
    (eP : H p = some (.ins C dx vs)) (cls : L2.Cls X.K C) (na : L2.NoAttr X.K C fl) (hF : vs.lookup fl = some (.ref r)) (er : h r = some (.dic kv)) (hp : pl 8 kd = true) (rk : Rv X.K H kd kvv) (ru : L2.RelV kvv u) (hg : dget kv kd = some y) (hy : dat 12 y = true) :
    wpAny (model X.prog X.w) A (call (.ref f) [u]) (PySem.W.KeyPure (tp y) s) (fun _ _ => False) s := by
  obtain ⟨oc, ovs, tk, e1, e2, e3⟩ := hc
  have lim := I.nolimit
  have rc : codeAny (model X.prog X.w) A (.call (.ref f) ⟨[u], []⟩) (fun q s' => ∃ v, q = .ok (.ret v) ∧ PySem.W.KeyPure (tp y) s v s') s := by
    refine PySem.W.kla_callFunE hd ho rfl hco hgen rfl ⟨c', oc, ovs, tk, rfl, e1, e2, e3⟩ ?_
    rw [hbind]
    refine wpAny_pure (wpAny_newFunctionEnv hcell (fun y hy => ?_) (fun h₁ hns hsb => ⟨lim.fresh _ hsb, ?_⟩) hk)
    · simp only [List.mem_singleton] at hy
      subst hy; exact hloc
    · have kp : ∀ b o, s.heap.get? b = some o → h₁.get? b = some o := fun b o e => hsb.extBut b o (Nat.ne_of_lt (Heap.lt_size e)) (Heap.get?_push_of_some _ e)
      refine PySem.W.kla_codeExpr (Subscript_ (attr_of rfl (wpAny_Name (wpAny_loadName_free hk hfre hcl (hcc.keeps kp) ?_ hcd) hds)))
      have I1 := I.kept (t' := s.toks + 1) kp
      obtain ⟨mA, O, rr, _, _, _⟩ := ins_get I1.hok eP
      obtain ⟨u', hu', ru'⟩ := RelO.some_of (v := .ref r) (o := mA fl) (by rw [← hF]; exact rr fl)
      cases ru'
      refine get_map I1.kIn O (cls.get fl) cls.hd na hu' rfl (wpAny_Name (wpAny_loadName_local hk hloc hns (v := u) (by simp) ?_) hdx)
      have I2 := I.kept (t' := s.toks + 1 + 1) kp
      obtain ⟨L, es, ep, hR, hP, hz, hne, hnd, e4⟩ := dic_raw I2 Ab er
      obtain ⟨n1, n2⟩ := nested_of I2 8 kd kvv u hp rk ru
      refine tail_any (ops := [.ref r, u]) hR.dic.typeIs F.slot_dict_getitem.lookup (GR.getItem_any (by show A.units + 3 + 9 < cLine; omega) n1 n2 hR.dic hR.ks ?_ fun j en hj he => ?_) rfl
      · rw [ep_keys hP]
        exact (nk_mem hp (ep_pl hP)).mpr (dget_mem hg)
      · rw [hR.at_ j] at he
        cases e5 : L[j]? with
        | none => rw [e5] at he; cases he
        | some xx =>
          rw [e5] at he; cases he
          have ex : xx.1 = nk kd := by
            rw [List.getElem?_map, e5] at hj
            exact Option.some.inj hj
          obtain ⟨d', v', g1, g2, g3⟩ := dget_of hp hP hnd e5 ex
          rw [hg] at g1; cases g1
          exact ⟨_, rfl, _, _, rfl, kp, reads0 I2 12 y _ _ hy g2 g3⟩
  refine wpAny_call (codeAny_mono rc fun q s' hq => ?_)
  obtain ⟨v, rfl, hq⟩ := hq
  exact hq
end
end G
namespace G
open PySem PySem.Spec PyProof.Rows L2
variable [Tb]
section
variable {X : Cx} {pins : List (Addr × Obj)} {σ : L2.St} {H : Hp} {s : Shared} {h : AH}
/-- the call of lambda x: sum(x[i]) -/
theorem lamS_turn {A : Around} {f c' : Addr} {qual x : Str} {params : Arguments} {scope : Scope} {cl : List (Str × Addr)} {pm ctv u : Value} {i k : Nat} {p1 p2 p3 p4 p5 : Pos} {xs : List D} {ns : List Int} {v : V} (I : L2.Inv X pins σ H s)
    (hd : A.depth < recursionLimit) (hh : A.handled = none) (ho : s.heap.get? f = some (PySem.W.kla_obj "<lambda>" qual params (.Call (.Name "sum" p1) [.Subscript (.Name x p2) (.Constant (.int (i : Int)) k p3) p4] [] p5) scope cl pm c' ctv))
    (hc : ∃ (oc : Obj) (vs : Array Value) (tk : Tok), s.heap.get? c' = some oc ∧ oc.data = .fields vs ∧ vs[1]? = some (.str qual tk)) (hm : X.mg "sum" = none)
    (hk : scope.kind = .function) (hco : scope.isCoroutine = false) (hgen : scope.isGenerator = false) (hcell : ∀ y ∈ scope.names, y.2 ≠ .cell) (hloc : scope.names.lookup x = some .local) (hgl : scope.names.lookup ("sum" : Str) = some .globalImplicit)
    (hbind : ∀ v : Value, bindArgs (PySem.W.kla_fn "<lambda>" qual params (.Call (.Name "sum" p1) [.Subscript (.Name x p2) (.Constant (.int (i : Int)) k p3) p4] [] p5) scope cl pm (.ref c') ctv) ⟨[v], []⟩ = pure [(x, v)])
    (hdx : (x == ("__debug__" : Str)) = false) (hi2 : i < 2 ^ 63) (rk : Rv X.K H (.tup xs) v) (ru : L2.RelV v u) (hx : xs[i]? = some (.tup (ns.map .int))) (hs : ∀ o j, subscripted (.Constant (.int (i : Int)) k p3) false o j = operate [o, j] (getItem o j)) :
    wpAny (model X.prog X.w) A (call (.ref f) [u]) (PySem.W.KeyPure (.int ns.sum) s) (fun _ _ => False) s := by
  obtain ⟨oc, ovs, tk, e1, e2, e3⟩ := hc
  have lim := I.nolimit
  cases rk with
  | @tup ta tvs _ b1 b2 =>
  cases ru
  have rc : codeAny (model X.prog X.w) A (.call (.ref f) ⟨[.ref ta], []⟩) (fun q s' => ∃ v, q = .ok (.ret v) ∧ PySem.W.KeyPure (.int ns.sum) s v s') s := by
    refine PySem.W.kla_callFunE hd ho rfl hco hgen rfl ⟨c', oc, ovs, tk, rfl, e1, e2, e3⟩ ?_
    rw [hbind]
    refine wpAny_pure (wpAny_newFunctionEnv hcell (fun y hy => ?_) (fun h₁ hns hsb => ⟨lim.fresh _ hsb, ?_⟩) hk)
    · simp only [List.mem_singleton] at hy
      subst hy; exact hloc
    · have kp : ∀ b o, s.heap.get? b = some o → h₁.get? b = some o := fun b o e => hsb.extBut b o (Nat.ne_of_lt (Heap.lt_size e)) (Heap.get?_push_of_some _ e)
      obtain ⟨mb, g1, g2⟩ := I.mod.blt
      have I1 := I.kept (t' := s.toks + 1) kp
      obtain ⟨its, rv, ht, _⟩ := I1.tuple b1
      obtain ⟨v', f1, f2⟩ := b2.get hx
      obtain ⟨w2, f3, f4⟩ := rv.get f1
      cases f2 with
      | tup c1 c2 =>
      cases f4
      have hints : ∀ {ms : List Int} {us : List V} {ws : List Value}, RvL X.K H (ms.map D.int) us → L2.Vals us ws → IntsAre ws ms := by
        intro ms
        induction ms with
        | nil => intro us ws r r2; cases r; cases r2; exact .nil
        | cons m ms ih =>
          intro us ws r r2
          cases r with
          | cons ra rb =>
            cases ra
            cases r2 with
            | cons sa sb =>
              obtain ⟨t, rfl⟩ := sa
              exact .cons _ _ (ih rb sb)
      have hlt : i < its.length := (List.getElem?_eq_some_iff.mp f3).1
      have hlt2 : i < its.toArray.size := by simpa using hlt
      refine PySem.W.kla_codeExpr (Call_ (Calls.Name_function_global hk hgl (Calls.loadGlobal_builtin (I.mod.glob.keeps fun b o e => kp _ _ (I.bk b o e)) hm (g1.keeps fun b o e => kp _ _ (I.bk b o e)) ((g2 "sum" (by decide)).trans (show bootBuiltins "sum" = some (.builtin "sum") by decide +kernel)) ?_) (by decide)) rfl)
      refine PyProof.Rows.callWith_builtin1 (args_cons (Subscript_ (wpAny_Name (wpAny_loadName_local hk hloc hns (v := .ref ta) (by simp) (wpAny_Constant_int ?_)) hdx)) rfl) rfl rfl
      refine subscriptTail_builtinR ht.typeIs slot_tuple_getitem.lookup (getItem_tuple (j := i) ht (by omega) (by omega) ?_ (by simpa using f3) ⟨rfl, ?_⟩) (hs _ _)
      · unfold seqIndex?
        simp; omega
      · refine args_nil ?_
        have I2 := I.kept (t' := s.toks + 1 + 1) kp
        obtain ⟨its2, rv2, ht2, _⟩ := I2.tuple c1
        have hia := hints c2 rv2
        obtain ⟨xs2, hx2⟩ := hia.allInts.items
        have hn : numsOf its2.toArray.toList = ns := by rw [show its2.toArray.toList = its2 from rfl, hia.numsOf]
        have ht3 : Heap.IsTuple h₁ _ its2.toArray := ht2
        rw [hx2] at ht3 hn
        rw [nums_intItems] at hn
        refine PySem.W.ktm_sumG (xs := xs2) hh (show Heap.IsTuple h₁ _ _ from ht3) fun h' tk' t' hkk => ?_
        rw [preSum_eq, List.take_of_length_le (by simp), hn]
        exact ⟨_, rfl, _, _, rfl, fun b o e => hkk _ _ (kp _ _ e), .int _ _⟩
  refine wpAny_call (codeAny_mono rc fun q s' hq => ?_)
  obtain ⟨v, rfl, hq⟩ := hq
  exact hq
end
end G
namespace G
open PySem PySem.Spec PyProof.Rows L2
variable [Tb]
theorem dcOf_ref {h : AH} {x : D} {kvs : List (D × D)} {K : PySem.W.Frag} {H : Hp} {v : V} (r : Rv K H x v) (e : dcOf h x = some kvs) : ∃ a, x = .ref a ∧ v = .ref a ∧ h a = some (.dic kvs) := by
  rcases dcOf_some e with ⟨a, rfl, ea⟩ | ⟨ks, ws, rfl⟩
  · cases r; exact ⟨a, rfl, rfl, ea⟩
  · cases r
theorem ge_sortKF {i : Nat} {C c P : Addr} {fl x sf : Str} {params : Arguments} {scope : Scope} {X : Cx} {p p1 p2 p3 p4 lpos kpos pos : Pos} {e : Expr} {f : DE}
    (hc : X.calm = true) (hm : X.mg "sorted" = none) (TB : LamX.TabB X.base X.mg c P) (hcode : X.env.code = .ref c) (hmT : (P, X.env.qual ++ "<lambda>") ∈ Tb.T) (hu : ∀ p ∈ Tb.T, p.1 = P → p.2 = X.env.qual ++ "<lambda>") (hun : X.A.units + 100 < cLine) (hdep : X.A.in1.in1.depth < recursionLimit)
    (cls : L2.Cls X.K C) (na : L2.NoAttr X.K C fl) (ha : GE X e f) (hN : X.N[i]? = some sf := by rfl) (hcx : X.env.scope.names.lookup sf = some .cell := by rfl) (hk : scope.kind = .function := by rfl) (hco : scope.isCoroutine = false := by rfl) (hgen : scope.isGenerator = false := by rfl) (hcell : ∀ y ∈ scope.names, y.2 ≠ .cell := by decide) (hloc : scope.names.lookup x = some .local := by decide) (hfre : scope.names.lookup sf = some .free := by decide)
    (hfr0 : ∀ y ∈ scope.names, y.2 = .free → y.1 = sf := by decide) (hdef : defaultsOf params X.env = ([], []) := by rfl)
    (hbind : ∀ (q : Str) (cl : List (Str × Addr)) (pm cv ctv v : Value), bindArgs (PySem.W.kla_fn "<lambda>" q params (.Subscript (.Attribute (.Name sf p1) fl p2) (.Name x p3) p4) scope cl pm cv ctv) ⟨[v], []⟩ = pure [(x, v)] := by intro _ _ _ _ _ _; rfl)
    (hdx : (x == ("__debug__" : Str)) = false := by decide) (hds : (sf == ("__debug__" : Str)) = false := by decide) (hcd : (sf == ("__classdict__" : Str)) = false := by decide)
    (hv : bootBuiltins "sorted" = some (.builtin "sorted") := by decide +kernel) (hg : Gl X "sorted" := by rfl) (hn : ("sorted" : Str) ≠ "__name__" := by decide) (hdb : (("sorted" : Str) == ("__debug__" : Str)) = false := by decide)
    (he : backTo pos (starEach [e] X.env) = (false, eval e X.env) :: backTo pos (starEach [] X.env) := by rfl) (hpl : (backTo pos (starEach [e] X.env)).any (·.1) = false := by rfl) (hst : starEach [e] X.env = (false, eval e X.env) :: starEach [] X.env := by rfl) :
    GE X (.Call (.Name "sorted" p) [e] [⟨some "key", .Lambda params (.Subscript (.Attribute (.Name sf p1) fl p2) (.Name x p3) p4) scope lpos, kpos⟩] pos) (d2 (oSortKF C fl) f (dVar i)) := by
  refine ⟨fun pins s σ H Q I ⟨ρ, h, Q0, R, A, q, k⟩ => ?_⟩
  refine wpAny_Call_Name_kw (ld_blt I hg hm hv ?_ hn hdb)
  refine PyProof.Rows.callWith_kw (thn ((ga_cons ha ga_nil hst).run pos pins s σ H (fun vs H' => ∃ d h', dVar i ρ h' (fun sv h2 => oSortKF C fl d sv h2 Q0) ∧ Kp H H' ∧ RvL X.K H' [d] vs ∧ Abs X.K X.w h' H') I
    ⟨ρ, h, fun ds h1 => match ds with | [d] => dVar i ρ h1 (fun sv h2 => oSortKF C fl d sv h2 Q0) | _ => False, R, A, q, fun ds h' vs H' q1 k1 r1 A1 => ?_⟩) fun us s1 ⟨vs, H1, I1, r1, d, h1, q1, k1, rL, A1⟩ => ?_) he hpl (by rfl) (by rfl)
  · match ds, q1, r1 with
    | [d], q1, r1 => exact ⟨d, h', q1, k1, r1, A1⟩
    | [], q1, _ => exact q1.elim
    | _ :: _ :: _, q1, _ => exact q1.elim
  show wpAny _ _ (evalAll [do let v ← eval (.Lambda params (.Subscript (.Attribute (.Name sf p1) fl p2) (.Name x p3) p4) scope lpos) X.env; standAt pos; pure v]) _ _ s1
  have hfree : ∀ y ∈ scope.names, y.2 = .free → ∃ c, X.env.cells.lookup y.1 = some c := fun y hy e => I1.ok.has y.1 (.inl (by rw [hfr0 y hy e]; exact hcx))
  refine wpAny_evalAll_cons (wpAny_bind (LamX.lam_make2 I1 TB hcode hmT hu A1.tabs hdef hfree fun fo c' pm ctv H2 s2 I2 eN T2 hf hfn hfr hco' => wpAny_bind (wpAny_standAt (wpAny_pure ?_))))
  refine wpAny_evalAll_nil ?_
  obtain ⟨k12, A2⟩ := A1.extN eN T2
  obtain ⟨v, rfl, rv⟩ := rvL_one rL
  unfold dVar onV at q1
  split at q1
  · rename_i sv esv
    replace q1 := q1.un
    split at q1
    · rename_i kvs e1
      obtain ⟨a, rfl, rfl, ea⟩ := dcOf_ref rv e1
      obtain ⟨u, rfl, ru⟩ := vals1 r1
      cases ru
      obtain ⟨v', g1, g2⟩ := R.2 i _ esv
      obtain ⟨pp, fs, dx, fvs, rfl, ei, eI, ek, er, r, kv, eF, ekv, hall, ⟨hal, hdt, hsort⟩, q1⟩ := insOf_some A2 ((g2.kp k1).kp k12) q1
      obtain ⟨m, hns, hloc2⟩ := I2.loc
      obtain ⟨u', ru', hlook⟩ := hloc2 i sf (.ref pp) hN g1 (.inr (.inl hcx))
      cases ru'
      obtain ⟨cc, hcl, hcv⟩ : ∃ cc, X.env.cells.lookup sf = some cc ∧ s2.heap.IsCell cc (some (.ref pp)) := by
        rcases hlook with ⟨z, _⟩ | ⟨_, cc, z1, z2⟩
        · have z' : X.env.scope.names.lookup sf = some .local := z
          rw [hcx] at z'; cases z'
        · exact ⟨cc, z1, z2⟩
      have hcl2 : (cloFrom X.env.cells scope.names []).lookup sf = some cc := NdefX.clo_has hfree (PySem.mem_of_lookup hfre) hcl
      obtain ⟨fv, lF, rF⟩ := (look_rv (f := fl) ek er).2 _ eF
      cases rF
      obtain ⟨L, es, ep, hR, hP, hz, hne, hnd, e4⟩ := dic_raw I2 A2 ea
      obtain ⟨o, ho, hx, hd⟩ := hR.dic
      have hlen : L.length = kvs.length := by
        have := congrArg List.length (ep_keys hP)
        simpa using this
      have hes : es.size = L.length := by rw [← Array.length_toList, hR.ents, List.length_map]
      obtain ⟨kvv, h1', h2'⟩ := ep_vals hP
      have hl := h1'.length
      obtain ⟨⟨oc, cvs, tk0, z1, z2, z3⟩, _, _⟩ := I2.hok c' _ hco'
      have hpk : ∀ x ∈ kvs.map (·.1), pl 8 x = true := fun x hx => by
        obtain ⟨q', hq', rfl⟩ := List.mem_map.mp hx
        exact ep_pl hP q' hq'
      generalize hdsq : kvs.map (·.1) = ds at hall hal hdt hsort q1 h1' hl hpk
      have hlk : ds.length = L.length := by rw [← hdsq, List.length_map, hlen]
      have hmem : ∀ p ∈ ds.zip kvv, p.1 ∈ ds := fun p hp => (List.of_mem_zip (a := p.1) (b := p.2) hp).1
      have hmk : ∀ p ∈ ds.zip kvv, dAt kv p.1 ∈ ds.map (dAt kv) := fun p hp => List.mem_map_of_mem (hmem p hp)
      have hdn : ∀ p ∈ ds.zip kvv, Dn 12 (dAt kv p.1) := fun p hp => dat_dn 12 _ (hdt _ (hmk p hp))
      have hfst : ((ds.zip kvv).mergeSort (PySem.W.dataLe false fun p : D × V => tp (dAt kv p.1))).map Prod.fst = ds.mergeSort (fun a b => dle false (dAt kv a) (dAt kv b)) := by
        rw [List.map_mergeSort (s := fun a b => dle false (dAt kv a) (dAt kv b)), zip_fst hl]
        intro p hp p' hp'
        exact dle_tp (x := dAt kv p.1) (y := dAt kv p'.1) false (hdn p hp) (hdn p' hp') (hal _ (hmk p hp) _ (hmk p' hp'))
      refine sorted_coll (R := fun u (p : D × V) => Rv X.K H2 p.1 p.2 ∧ L2.RelV p.2 u) (bs := ds.zip kvv) (fun p : D × V => tp (dAt kv p.1)) (kdl_raw (prog := X.prog) (w := X.w) hne hx hd) (I2.ok.hd hc) ho (by omega) (fun its hits hP2 => ?_) ?_ ?_ ?_ ?_ (PyProof.Rows.ksk_s1 _ _) (fun _ => PyProof.Rows.ksk_l1 _ _) (fun _ => PyProof.Rows.ksk_t1 _ _) ?_ fun out cc2 g1' h' tk' kp1 kp2 hD eo => ?_
      · have eacc : its = L.map fun x => x.2.1 := by
          apply List.ext_getElem?
          intro j
          by_cases hj : j < its.length
          · obtain ⟨en, y1, y2⟩ := hP2 j its[j] (List.getElem?_eq_getElem hj)
            rw [hR.at_ j] at y1
            rw [List.getElem?_eq_getElem hj, List.getElem?_map]
            cases e5 : L[j]? with
            | none => rw [e5] at y1; cases y1
            | some x => rw [e5] at y1; cases y1; rw [y2]; rfl
          · rw [List.getElem?_eq_none (by omega), List.getElem?_eq_none (by rw [List.length_map]; omega)]
        rw [eacc]
        exact each_of (R := fun u (p : D × V) => Rv X.K H2 p.1 p.2 ∧ L2.RelV p.2 u) (fun a b c h1 h2 => ⟨h1, h2⟩) (rvL_paired h1') h2'
      · intro d hd d' hd'
        obtain ⟨p, hp, rfl⟩ := List.mem_map.mp hd
        obtain ⟨p', hp', rfl⟩ := List.mem_map.mp hd'
        exact alike_tp _ _ 12 12 (hdn p hp) (hdn p' hp') (hal _ (hmk p hp) _ (hmk p' hp'))
      · rcases hsort with hs | hs
        · refine .inl fun d hd => ?_
          obtain ⟨p, hp, rfl⟩ := List.mem_map.mp hd
          obtain ⟨x, r, e⟩ := hs _ (hmk p hp)
          exact ⟨tp x, tpL r, by rw [e, tp, tpL]⟩
        · refine .inr fun d hd => ?_
          obtain ⟨p, hp, rfl⟩ := List.mem_map.mp hd
          obtain ⟨n1, n2⟩ := hs _ (hmk p hp)
          have hd' := hdn p hp
          refine ⟨tp_none hd' n1, fun xs e => ?_⟩
          cases e3 : dAt kv p.1 <;> rw [e3] at e <;> simp [tp] at e
          exact n2 _ e3
      · rw [List.length_zip, hl, Nat.min_self]; omega
      · intro p hp
        have := (hdn p hp).tp.1
        omega
      · rintro v ⟨d, w'⟩ ⟨rd, rw'⟩ hx h' tk' kp
        obtain ⟨y, ey⟩ := hall d (hmem _ hx)
        have ed : dAt kv d = y := by unfold dAt; rw [ey]; rfl
        have hy : dat 12 y = true := by rw [← ed]; exact hdt _ (hmk _ hx)
        show wpAny _ _ _ (PySem.W.KeyPure (tp (dAt kv d)) _) _ _
        rw [ed]
        exact lamF_turn (s := { s2 with heap := h', toks := tk' }) (I2.kept kp) A2 hdep (by show X.A.units + 1 + 1 + 20 < cLine; omega) (kp _ _ hf) ⟨oc, cvs, tk0, kp _ _ z1, z2, z3⟩ hk hco hgen hcell hloc hfre (fun v => hbind _ _ _ _ _ v) hdx hds hcd hcl2 (hcv.keeps kp) eI cls na lF ekv (hpk d (hmem _ hx)) rd rw' ey hy
      · obtain ⟨y1, y2⟩ := each_out eo
        rw [hfst] at y1
        have I3 : L2.Inv X pins σ H2 { s2 with heap := g1', toks := tk' } := I2.kept kp1
        have nn : H2 g1'.objs.size = none := I3.hok.fresh (Nat.le_refl _)
        have hlen' : (((ds.zip kvv).mergeSort (PySem.W.dataLe false fun p : D × V => tp (dAt kv p.1))).map Prod.snd).length ≤ sizeLine := by
          rw [List.length_map, List.length_mergeSort, List.length_zip, hl, Nat.min_self]; omega
        exact ⟨.ref g1'.objs.size, _, I3.laid (t' := tk') (o := .lst (((ds.zip kvv).mergeSort (PySem.W.dataLe false fun p : D × V => tp (dAt kv p.1))).map Prod.snd)) kp2 (Nat.le_refl _) ⟨hlen', out, cc2, y2, hD⟩, rfl, newL_ok q1 A2 y1 nn (k1.trans k12) k⟩
    · exact q1.elim
  · exact q1.elim
end G
namespace G
open PySem PySem.Spec PyProof.Rows L2
variable [Tb]
theorem ep_vals2 {K : PySem.W.Frag} {H : Hp} : ∀ {kvs : List (D × D)} {L : List GR.RE}, Paired (EP K H) kvs L → ∃ vs, RvL K H (kvs.map (·.2)) vs ∧ L2.Vals vs (L.map fun x => x.2.2)
  | _, _, .nil => ⟨[], .nil, .nil⟩
  | _, _, .cons r t => by
    obtain ⟨vs, h1, h2⟩ := ep_vals2 t
    obtain ⟨v, a1, a2⟩ := r.2.2.2
    exact ⟨v :: vs, .cons a1 h1, .cons a2 h2⟩
/-- a view of a dict's values -/
def ViewO (r d : Addr) : HO := .ext fun h => h.IsValuesView r d
theorem viewO_obj {P : Program} {w : World} {H : Hp} {h' : Heap} {r d : Addr} (x : h'.IsValuesView r d) : ObjOk P w H h' r (ViewO r d) :=
  ⟨x, let ⟨o, ho, _⟩ := x; ⟨o, ho⟩, fun h1 h2 ⟨o, a1, a2⟩ k => ⟨o, k o a1, a2⟩⟩
section
variable {X : Cx} {e : Expr} {pos : Pos}
theorem pe_valsX {te : TE} {apos cpos : Pos} (he : PE X e te) (hbase : attributeBase e "values" X.env (eval e X.env) = eval e X.env := by rfl) (hline : (apos.endLine == cpos.line) = true := by rfl) :
    PE X (.Call (.Attribute e "values" apos) [] [] cpos) (fun σ H Q => te σ H fun x H1 => ∃ d kvs, x = .ref d ∧ KI X.K H1 d kvs ∧ ∀ r, H1 r = none → Q (.ref r) (upd H1 r (ViewO r d))) := by
  refine ⟨fun pins s σ H Q I q => ?_⟩
  refine wpAny_Call_method (T := "dict") (id := "dict.values") hbase rfl hline F.plainAttrs_dict F.slot_dict_values F.type_dict_values (thn (he.run pins s σ H _ I q) fun u s1 ⟨x, H1, I1, rx, d, kvs, ex, hk, q⟩ => ?_)
  subst ex
  obtain rfl : u = Value.ref d := rx
  obtain ⟨es, hD, hl, hp⟩ := ki_raw I1 hk
  have hs := hk.1
  have hnd : ∀ a, Value.ref d = .ref a → ∃ o, s1.heap.get? a = some o ∧ o.dict = none := fun a e => by
    cases e
    obtain ⟨o, o1, o2, _⟩ := hD
    exact ⟨o, o1, o2.2.1⟩
  refine ⟨hD.typeIs, hnd, ?_⟩
  have I2 : Inv X pins σ (upd H1 s1.heap.objs.size (ViewO s1.heap.objs.size d)) { s1 with heap := s1.heap.push { cls := .type "dict_values", data := .fields #[.ref d] } } :=
    I1.laid (a := s1.heap.objs.size) (t' := s1.toks) (fun b ob q => Heap.get?_push_of_some _ q) (Nat.le_refl _) (viewO_obj ⟨_, Heap.get?_push_size _ rfl, rfl, rfl⟩)
  show wpAny _ _ (callWith cpos (.builtin "dict.values") [.ref d] [] []) _ X.xe s1
  exact method_meetsIn F.slot_dict_values F.entry_dict_values rfl (PySem.evalArgs_none ⟨rfl, hD.typeIs, F.args_dict_values_1 _, _, meets_dict_values_raw d hs, ⟨⟨es, _, hD⟩, ⟨.ref s1.heap.objs.size, _, I2, rfl, q _ (I1.hok.fresh (Nat.le_refl _))⟩⟩⟩)
end
theorem ge_sortVS {i : Nat} {c P : Addr} {x : Str} {params : Arguments} {scope : Scope} {X : Cx} {k0 : Nat} {p p1 p2 p3 p4 p5 lpos kpos pos apos cpos : Pos} {e : Expr} {f : DE}
    (hc : X.calm = true) (hm : X.mg "sorted" = none) (hms : X.mg "sum" = none) (TB : LamX.TabB X.base X.mg c P) (hcode : X.env.code = .ref c) (hmT : (P, X.env.qual ++ "<lambda>") ∈ Tb.T) (hu : ∀ p ∈ Tb.T, p.1 = P → p.2 = X.env.qual ++ "<lambda>") (hun : X.A.units + 100 < cLine) (hdep : X.A.in1.in1.depth < recursionLimit)
    (ha : GE X e f) (hi2 : i < 2 ^ 63 := by decide) (hk : scope.kind = .function := by rfl) (hco : scope.isCoroutine = false := by rfl) (hgen : scope.isGenerator = false := by rfl) (hcell : ∀ y ∈ scope.names, y.2 ≠ .cell := by decide) (hloc : scope.names.lookup x = some .local := by decide) (hgl : scope.names.lookup ("sum" : Str) = some .globalImplicit := by decide)
    (hfr0 : ∀ y ∈ scope.names, y.2 ≠ .free := by decide) (hdef : defaultsOf params X.env = ([], []) := by rfl)
    (hbind : ∀ (q : Str) (cl : List (Str × Addr)) (pm cv ctv v : Value), bindArgs (PySem.W.kla_fn "<lambda>" q params (.Call (.Name "sum" p1) [.Subscript (.Name x p2) (.Constant (.int (i : Int)) k0 p3) p4] [] p5) scope cl pm cv ctv) ⟨[v], []⟩ = pure [(x, v)] := by intro _ _ _ _ _ _; rfl)
    (hdx : (x == ("__debug__" : Str)) = false := by decide) (hs : ∀ o j, subscripted (.Constant (.int (i : Int)) k0 p3) false o j = operate [o, j] (getItem o j) := by exact fun _ _ => rfl)
    (hbase : attributeBase e "values" X.env (eval e X.env) = eval e X.env := by rfl) (hline : (apos.endLine == cpos.line) = true := by rfl)
    (hv : bootBuiltins "sorted" = some (.builtin "sorted") := by decide +kernel) (hg : Gl X "sorted" := by rfl) (hn : ("sorted" : Str) ≠ "__name__" := by decide) (hdb : (("sorted" : Str) == ("__debug__" : Str)) = false := by decide)
    (he : backTo pos (starEach [.Call (.Attribute e "values" apos) [] [] cpos] X.env) = (false, eval (.Call (.Attribute e "values" apos) [] [] cpos) X.env) :: backTo pos (starEach [] X.env) := by rfl) (hpl : (backTo pos (starEach [.Call (.Attribute e "values" apos) [] [] cpos] X.env)).any (·.1) = false := by rfl) (hst : starEach [.Call (.Attribute e "values" apos) [] [] cpos] X.env = (false, eval (.Call (.Attribute e "values" apos) [] [] cpos) X.env) :: starEach [] X.env := by rfl) :
    GE X (.Call (.Name "sorted" p) [.Call (.Attribute e "values" apos) [] [] cpos] [⟨some "key", .Lambda params (.Call (.Name "sum" p1) [.Subscript (.Name x p2) (.Constant (.int (i : Int)) k0 p3) p4] [] p5) scope lpos, kpos⟩] pos) (d1 (oSortVS i) f) := by
  refine ⟨fun pins s σ H Q I ⟨ρ, h, Q0, R, A, q, k⟩ => ?_⟩
  refine wpAny_Call_Name_kw (ld_blt I hg hm hv ?_ hn hdb)
  refine PyProof.Rows.callWith_kw (thn ((pa_cons (pe_valsX ha hbase hline) pa_nil hst).run pos pins s σ H (fun vs H' => ∃ d h' H1 r, vs = [.ref r] ∧ H' = upd H1 r (ViewO r d) ∧ H1 r = none ∧ oSortVS i (.ref d) h' Q0 ∧ Kp H H1 ∧ Abs X.K X.w h' H1) I
    ⟨ρ, h, fun d h1 => oSortVS i d h1 Q0, R, A, q, fun d h' v H1 q1 k1 r1 A1 => ?_⟩) fun us s1 ⟨vs, H1, I1, r1, d, h1, H0, r, ev, eH, nr, q1, k1, A1⟩ => ?_) he hpl (by rfl) (by rfl)
  · have q1' := q1.un
    split at q1'
    · rename_i kvs e1
      obtain ⟨a, rfl, rfl, ea⟩ := dcOf_ref r1 e1
      exact ⟨a, kvs, rfl, ki_of A1 ea, fun r nr => ⟨a, h', H1, r, rfl, rfl, nr, q1, k1, A1⟩⟩
    · exact q1'.elim
  subst ev eH
  have A1' : Abs X.K X.w h1 (upd H0 r (ViewO r d)) := A1.newH nr
  have k1' : Kp H (upd H0 r (ViewO r d)) := k1.trans (Kp.new nr)
  show wpAny _ _ (evalAll [do let v ← eval (.Lambda params (.Call (.Name "sum" p1) [.Subscript (.Name x p2) (.Constant (.int (i : Int)) k0 p3) p4] [] p5) scope lpos) X.env; standAt pos; pure v]) _ _ s1
  refine wpAny_evalAll_cons (wpAny_bind (LamX.lam_make2 I1 TB hcode hmT hu A1'.tabs hdef (fun y hy e => absurd e (hfr0 y hy)) fun fo c' pm ctv H2 s2 I2 eN T2 hf hfn hfr hco' => wpAny_bind (wpAny_standAt (wpAny_pure ?_))))
  refine wpAny_evalAll_nil ?_
  obtain ⟨k12, A2⟩ := A1'.extN eN T2
  have eV : H2 r = some (ViewO r d) := eN r _ upd_same (fun ps z => by unfold ViewO at z; cases z)
  obtain ⟨hview, _, _⟩ := I2.hok r _ eV
  have hview : s2.heap.IsValuesView r d := hview
  replace q1 := q1.un
  split at q1
  · rename_i kvs e1
    obtain ⟨hall, q1⟩ := q1
    have ea : h1 d = some (.dic kvs) := by
      rcases dcOf_some e1 with ⟨a, ha', ea⟩ | ⟨ks, ws, z⟩
      · cases ha'; exact ea
      · cases z
    obtain ⟨u, rfl, ru⟩ := vals1 r1
    cases ru
    obtain ⟨L, es, ep, hR, hP, hz, hne, hnd, e4⟩ := dic_raw I2 A2 ea
    obtain ⟨o, ho, hx, hd⟩ := hR.dic
    have hlen : L.length = kvs.length := by
      have := congrArg List.length (ep_keys hP)
      simpa using this
    have hes : es.size = L.length := by rw [← Array.length_toList, hR.ents, List.length_map]
    obtain ⟨kvv, h1', h2'⟩ := ep_vals2 hP
    have hl := h1'.length
    obtain ⟨⟨oc, cvs, tk0, z1, z2, z3⟩, _, _⟩ := I2.hok c' _ hco'
    generalize hdsq : kvs.map (·.2) = ds at hall q1 h1' hl
    have hlk : ds.length = L.length := by rw [← hdsq, List.length_map, hlen]
    have hmem : ∀ p ∈ ds.zip kvv, p.1 ∈ ds := fun p hp => (List.of_mem_zip (a := p.1) (b := p.2) hp).1
    have hfst : ((ds.zip kvv).mergeSort (PySem.W.dataLe false fun p : D × V => tp (.int (sumAt i p.1)))).map Prod.fst = ds.mergeSort (fun a b => decide (sumAt i a ≤ sumAt i b)) := by
      rw [List.map_mergeSort (s := fun a b => decide (sumAt i a ≤ sumAt i b)), zip_fst hl]
      intro p hp p' hp'
      have := dle_tp (x := .int (sumAt i p.1)) (y := .int (sumAt i p'.1)) false (dat_dn 12 _ rfl) (dat_dn 12 _ rfl) rfl
      refine Eq.trans this ?_
      show (!decide (sumAt i p'.1 < sumAt i p.1)) = decide (sumAt i p.1 ≤ sumAt i p'.1)
      rw [Bool.eq_iff_iff]
      simp
    refine sorted_coll (R := fun u (p : D × V) => Rv X.K H2 p.1 p.2 ∧ L2.RelV p.2 u) (bs := ds.zip kvv) (fun p : D × V => tp (.int (sumAt i p.1))) (PySem.KdlSrc.rawValues (prog := X.prog) (w := X.w) (r := r) (d := d) (es := es) (ep := ep)) (I2.ok.hd hc) ⟨hview, ⟨o, ho, hx, hd⟩⟩ (by omega) (fun its hits hP2 => ?_) ?_ ?_ ?_ ?_ (PyProof.Rows.ksk_s1 _ _) (fun _ => PyProof.Rows.ksk_l1 _ _) (fun _ => PyProof.Rows.ksk_t1 _ _) ?_ fun out cc2 g1' h' tk' kp1 kp2 hD eo => ?_
    · have eacc : its = L.map fun x => x.2.2 := by
        apply List.ext_getElem?
        intro j
        by_cases hj : j < its.length
        · obtain ⟨y0, y2⟩ := hP2 j its[j] (List.getElem?_eq_getElem hj)
          have y1 := hR.at_ j
          rw [Array.getElem?_eq_getElem y0] at y1
          rw [List.getElem?_eq_getElem hj, List.getElem?_map, y2]
          cases e5 : L[j]? with
          | none => rw [e5] at y1; cases y1
          | some x =>
            rw [e5] at y1
            have := Option.some.inj y1
            rw [this]; rfl
        · rw [List.getElem?_eq_none (by omega), List.getElem?_eq_none (by rw [List.length_map]; omega)]
      rw [eacc]
      exact each_of (R := fun u (p : D × V) => Rv X.K H2 p.1 p.2 ∧ L2.RelV p.2 u) (fun a b c h1 h2 => ⟨h1, h2⟩) (rvL_paired h1') h2'
    · intro d hd d' hd'
      obtain ⟨p, hp, rfl⟩ := List.mem_map.mp hd
      obtain ⟨p', hp', rfl⟩ := List.mem_map.mp hd'
      rfl
    · refine .inr fun d hd => ?_
      obtain ⟨p, hp, rfl⟩ := List.mem_map.mp hd
      exact ⟨by simp [tp], fun xs e => by simp [tp] at e⟩
    · rw [List.length_zip, hl, Nat.min_self]; omega
    · intro p hp
      have := (dat_dn 12 (.int (sumAt i p.1)) rfl).tp.1
      omega
    · rintro v ⟨d, w'⟩ ⟨rd, rw'⟩ hx h' tk' kp
      obtain ⟨xs, ns, exs, hxs⟩ := hall d (hmem _ hx)
      dsimp only at rd rw' exs ⊢
      subst exs
      have es' : sumAt i (.tup xs) = ns.sum := by
        unfold sumAt
        dsimp only
        rw [hxs]
        dsimp only
        rw [show intsOf (ns.map D.int) = some ns from by
          clear hxs
          induction ns with
          | nil => rfl
          | cons n ns ih => show (intsOf (ns.map .int)).map (n :: ·) = _; rw [ih]; rfl]
      show wpAny _ _ _ (PySem.W.KeyPure (.int (sumAt i (.tup xs))) _) _ _
      rw [es']
      exact lamS_turn (s := { s2 with heap := h', toks := tk' }) (I2.kept kp) hdep (I2.ok.hd hc) (kp _ _ hf) ⟨oc, cvs, tk0, kp _ _ z1, z2, z3⟩ hms hk hco hgen hcell hloc hgl (fun v => hbind _ _ _ _ _ v) hdx hi2 rd rw' hxs hs
    · obtain ⟨y1, y2⟩ := each_out eo
      rw [hfst] at y1
      have I3 : L2.Inv X pins σ H2 { s2 with heap := g1', toks := tk' } := I2.kept kp1
      have nn : H2 g1'.objs.size = none := I3.hok.fresh (Nat.le_refl _)
      have hlen' : (((ds.zip kvv).mergeSort (PySem.W.dataLe false fun p : D × V => tp (.int (sumAt i p.1)))).map Prod.snd).length ≤ sizeLine := by
        rw [List.length_map, List.length_mergeSort, List.length_zip, hl, Nat.min_self]; omega
      exact ⟨.ref g1'.objs.size, _, I3.laid (t' := tk') (o := .lst (((ds.zip kvv).mergeSort (PySem.W.dataLe false fun p : D × V => tp (.int (sumAt i p.1)))).map Prod.snd)) kp2 (Nat.le_refl _) ⟨hlen', out, cc2, y2, hD⟩, rfl, newL_ok q1 A2 y1 nn (k1'.trans k12) k⟩
  · exact q1.elim
end G
end
section
set_option Elab.async false
set_option linter.all false
set_option maxRecDepth 100000
set_option maxHeartbeats 4000000
namespace G
open PySem PySem.Spec PyProof.Rows L2
/-- one leg of a zip: an iterator of its own over items that stay -/
structure Leg (it l : PySem.Addr) (xs : Array Value) (At : Nat → Heap → Prop) : Prop where
  keep : ∀ {k : Nat} {h h' : Heap}, At k h → (∀ c, c = it ∨ c = l → ∀ o, h.get? c = some o → h'.get? c = some o) → At k h'
  item : ∀ {P : Program} {w : World} {A : Around} {E : Value → Shared → Prop} {s : Shared} {k : Nat} {x : Value} {Q : Value → Shared → Prop}, At k s.heap → xs[k]? = some x → (∀ h', At (k + 1) h' → Heap.SameBut it s.heap h' → Q x { s with heap := h' }) → wpAny (model P w) A (Builtin.SmallTypes.nextOf (.ref it)) Q E s
  stop : ∀ {P : Program} {w : World} {A : Around} {E : Value → Shared → Prop} {s : Shared} {k : Nat} {Q : Value → Shared → Prop}, A.handled = none → At k s.heap → xs[k]? = none → (∀ h' e, Heap.ExtBut it s.heap h' → (∃ o, h'.get? e = some o ∧ o.cls = .type "StopIteration") → E (.ref e) { s with heap := h' }) → wpAny (model P w) A (Builtin.SmallTypes.nextOf (.ref it)) Q E s
  there : ∀ {k : Nat} {h : Heap}, At k h → ∃ o, h.get? it = some o ∧ ∀ v, o.data ≠ .cell v
theorem leg_list {it l : PySem.Addr} {xs : Array Value} (n : l ≠ it) : Leg it l xs fun k h => h.IsListIter it l k ∧ h.IsList l xs where
  keep := fun a e => ⟨a.1.at fun o => e it (.inl rfl) o, a.2.at fun o => e l (.inr rfl) o⟩
  item := fun a hx hQ => wpAny_nextOf_list_item a.1 a.2 hx fun h' a' sb => hQ h' ⟨a', a.2.extBut sb.extBut n⟩ sb
  stop := fun hh a hx hE => wpAny_nextOf_list_end hh a.1 a.2 hx hE
  there := fun a => by obtain ⟨o, e, _, d⟩ := a.1; exact ⟨o, e, fun v q => by rw [d] at q; cases q⟩
theorem leg_tuple {it l : PySem.Addr} {xs : Array Value} (n : l ≠ it) : Leg it l xs fun k h => h.IsTupleIter it l k ∧ h.IsTuple l xs where
  keep := fun a e => ⟨a.1.at fun o => e it (.inl rfl) o, a.2.at fun o => e l (.inr rfl) o⟩
  item := fun a hx hQ => RZ.nextOf_tuple_item a.1 a.2 hx fun h' a' sb => hQ h' ⟨a', a.2.extBut sb.extBut n⟩ sb
  stop := fun hh a hx hE => RZ.nextOf_tuple_end hh a.1 a.2 hx hE
  there := fun a => by obtain ⟨o, e, _, d⟩ := a.1; exact ⟨o, e, fun v q => by rw [d] at q; cases q⟩
section
variable {P : Program} {w : World} {A : Around} {E : Value → Shared → Prop} {s : Shared} {z TI TO i1 i2 l1 l2 : PySem.Addr} {xs ys : Array Value} {A1 A2 : Nat → Heap → Prop}
theorem keepA (D : ZipApart z TI TO i1 i2 l1 l2) (La : Leg i1 l1 xs A1) {k : Nat} {h h' : Heap} {c : PySem.Addr} (hc : c = TO ∨ c = z ∨ c = i2) (a : A1 k h) (sb : Heap.ExtBut c h h') : A1 k h' :=
  La.keep a fun b hb o e => sb b o (by rcases hb with rfl | rfl <;> rcases hc with rfl | rfl | rfl <;> first | exact D.TOi1.symm | exact D.i1z | exact D.l1TO | exact D.l1z | exact D.i12 | exact D.l1i2) e
theorem keepB (D : ZipApart z TI TO i1 i2 l1 l2) (Lb : Leg i2 l2 ys A2) {k : Nat} {h h' : Heap} {c : PySem.Addr} (hc : c = TO ∨ c = z ∨ c = i1) (a : A2 k h) (sb : Heap.ExtBut c h h') : A2 k h' :=
  Lb.keep a fun b hb o e => sb b o (by rcases hb with rfl | rfl <;> rcases hc with rfl | rfl | rfl <;> first | exact D.TOi2.symm | exact D.i2z | exact D.l2TO | exact D.l2z | exact D.i12.symm | exact D.l2i1) e
/-- 'next' of a zip whose own tuple is free -/
theorem zl_item (D : ZipApart z TI TO i1 i2 l1 l2) (La : Leg i1 l1 xs A1) (Lb : Leg i2 l2 ys A2) {k1 k2 : Nat} {x y a b : Value} {Q : Value → Shared → Prop}
    (hz : IsZip s.heap z TI TO .none) (hTI : IsPair s.heap TI (.ref i1) (.ref i2)) (hTO : IsPair s.heap TO a b) (h1 : A1 k1 s.heap) (h2 : A2 k2 s.heap) (hx : xs[k1]? = some x) (hy : ys[k2]? = some y)
    (hQ : ∀ h', IsZip h' z TI TO (rawInt s.heap.objs.size) → IsPair h' TO x y → A1 (k1 + 1) h' → A2 (k2 + 1) h' → IsPair h' s.heap.objs.size x y →
      (∀ c o, c ≠ z → c ≠ TO → c ≠ i1 → c ≠ i2 → s.heap.get? c = some o → h'.get? c = some o) → Q (.ref s.heap.objs.size) { s with heap := h' }) :
    wpAny (model P w) A (Builtin.«zip.__next__» ⟨[.ref z], []⟩) (fun fin s' => ∃ v, fin = .done (.ret v) ∧ Q v s') E s := by
  show wpAny _ _ (field (.ref z) 2 >>= _) _ _ _
  refine wpAny_bind (wpAny_field hz rfl (x := .bool false) rfl ?_)
  show wpAny _ _ (field (.ref z) 3 >>= _) _ _ _
  refine wpAny_bind (wpAny_field hz rfl (x := .ref TI) rfl (wpAny_bind (wpAny_seqItems hTI rfl ?_)))
  show wpAny _ _ (Builtin.SmallTypes.ownedTupleIsFree (.ref z) >>= _) _ _ _
  unfold Builtin.SmallTypes.ownedTupleIsFree
  refine wpAny_bind (wpAny_bind (wpAny_field hz rfl (x := .none) rfl (wpAny_pure ?_)))
  simp only [if_true]
  refine wpAny_bind (wpAny_rule (wpAny_bind (wpAny_field hz rfl (x := .ref TO) rfl (wpAny_bind (wpAny_setField_rec hz (by simp) fun g1 z1 e1 => ?_)))))
  replace z1 : IsZip g1 z TI TO .ellipsis := z1
  refine wpAny_bind ?_
  simp only [List.zipIdx_cons, List.zipIdx_nil, List.forIn_cons, List.forIn_nil]
  refine wpAny_bind (wpAny_bind (wpAny_onRaise ?_))
  show wpAny _ _ (Builtin.SmallTypes.nextOf (.ref i1) >>= _) _ _ _
  refine wpAny_bind (La.item (s := { s with heap := g1 }) (keepA D La (.inr (.inl rfl)) h1 e1.extBut) hx fun g2 a2 e2 => wpAny_pure ?_)
  have t2 : IsPair g2 TO a b := e2.extBut _ _ D.TOi1 (e1.extBut _ _ D.TOz hTO)
  refine wpAny_bind (wpAny_seqItems t2 rfl (wpAny_bind (wpAny_updateSeq_pair t2 fun g3 t3 e3 => wpAny_bind (wpAny_letGo (wpAny_pure ?_)))))
  replace t3 : IsPair g3 TO x b := t3
  refine wpAny_bind (wpAny_bind (wpAny_onRaise ?_))
  show wpAny _ _ (Builtin.SmallTypes.nextOf (.ref i2) >>= _) _ _ _
  refine wpAny_bind (Lb.item (s := { s with heap := g3 }) (keepB D Lb (.inl rfl) (keepB D Lb (.inr (.inr rfl)) (keepB D Lb (.inr (.inl rfl)) h2 e1.extBut) e2.extBut) e3.extBut) hy fun g4 b4 e4 => wpAny_pure ?_)
  have t4 : IsPair g4 TO x b := e4.extBut _ _ D.TOi2 t3
  refine wpAny_bind (wpAny_seqItems t4 rfl (wpAny_bind (wpAny_updateSeq_pair t4 fun g5 t5 e5 => wpAny_bind (wpAny_letGo (wpAny_pure (wpAny_pure ?_))))))
  replace t5 : IsPair g5 TO x y := t5
  refine wpAny_bind (wpAny_seqItems t5 rfl (wpAny_bind (wpAny_newTuple ?_)))
  have hsz : g5.objs.size = s.heap.objs.size := by rw [e5.1, e4.1, e3.1, e2.1, e1.1]
  have z5 : IsZip g5 z TI TO .ellipsis := e5.extBut _ _ D.TOz.symm (e4.extBut _ _ D.i2z.symm (e3.extBut _ _ D.TOz.symm (e2.extBut _ _ D.i1z.symm z1)))
  have hk : ∀ c o, c ≠ z → c ≠ TO → c ≠ i1 → c ≠ i2 → s.heap.get? c = some o → g5.get? c = some o := fun c o c1 c2 c3 c4 e =>
    e5.extBut _ _ c2 (e4.extBut _ _ c4 (e3.extBut _ _ c2 (e2.extBut _ _ c3 (e1.extBut _ _ c1 e))))
  have a5 : A1 (k1 + 1) g5 := keepA D La (.inl rfl) (keepA D La (.inr (.inr rfl)) (keepA D La (.inl rfl) a2 e3.extBut) e4.extBut) e5.extBut
  have b5 : A2 (k2 + 1) g5 := keepB D Lb (.inl rfl) b4 e5.extBut
  have zlt : z < g5.objs.size := Heap.lt_size z5
  show wpAny _ _ (Builtin.SmallTypes.ownedTupleHandOut (.ref z) (.ref g5.objs.size) >>= _) _ _ _
  unfold Builtin.SmallTypes.ownedTupleHandOut
  have z6 : IsZip (g5.push { cls := .type "tuple", data := .seq #[x, y] }) z TI TO .ellipsis := Heap.get?_push_of_some _ z5
  refine wpAny_bind (wpAny_bind (wpAny_setField_rec z6 (by simp) fun g7 z7 e7 => ?_))
  replace z7 : IsZip g7 z TI TO (rawInt g5.objs.size) := z7
  refine wpAny_setField_rec z7 (by simp) fun g8 z8 e8 => ?_
  replace z8 : IsZip g8 z TI TO (rawInt g5.objs.size) := z8
  have up : ∀ c o, c ≠ z → g5.get? c = some o → g8.get? c = some o := fun c o c1 e => e8.extBut _ _ c1 (e7.extBut _ _ c1 (Heap.get?_push_of_some _ e))
  have t8 : IsPair g8 g5.objs.size x y := e8.extBut _ _ (Nat.ne_of_gt zlt) (e7.extBut _ _ (Nat.ne_of_gt zlt) (Heap.get?_push_size _ rfl))
  rw [hsz] at z8 t8
  refine wpAny_pure ⟨_, rfl, ?_⟩
  show Q (.ref g5.objs.size) _
  rw [hsz]
  exact hQ g8 z8 (up _ _ D.TOz t5) (La.keep a5 fun c hc o e => up c o (by rcases hc with rfl | rfl; exact D.i1z; exact D.l1z) e) (Lb.keep b5 fun c hc o e => up c o (by rcases hc with rfl | rfl; exact D.i2z; exact D.l2z) e) t8
    fun c o c1 c2 c3 c4 e => up c o c1 (hk c o c1 c2 c3 c4 e)
theorem zl_stop (hh : A.handled = none) (D : ZipApart z TI TO i1 i2 l1 l2) (La : Leg i1 l1 xs A1) (Lb : Leg i2 l2 ys A2) {k1 k2 : Nat} {a b : Value} {Q : PySem.Fin → Shared → Prop}
    (hz : IsZip s.heap z TI TO .none) (hTI : IsPair s.heap TI (.ref i1) (.ref i2)) (hTO : IsPair s.heap TO a b) (h1 : A1 k1 s.heap) (h2 : A2 k2 s.heap) (hend : xs[k1]? = none ∨ ys[k2]? = none)
    (hE : ∀ h' e, (∀ c o, c ≠ z → c ≠ TO → c ≠ i1 → c ≠ i2 → s.heap.get? c = some o → h'.get? c = some o) → (∃ o, h'.get? e = some o ∧ o.cls = .type "StopIteration") → E (.ref e) { s with heap := h' }) :
    wpAny (model P w) A (Builtin.«zip.__next__» ⟨[.ref z], []⟩) Q E s := by
  show wpAny _ _ (field (.ref z) 2 >>= _) _ _ _
  refine wpAny_bind (wpAny_field hz rfl (x := .bool false) rfl ?_)
  show wpAny _ _ (field (.ref z) 3 >>= _) _ _ _
  refine wpAny_bind (wpAny_field hz rfl (x := .ref TI) rfl (wpAny_bind (wpAny_seqItems hTI rfl ?_)))
  show wpAny _ _ (Builtin.SmallTypes.ownedTupleIsFree (.ref z) >>= _) _ _ _
  unfold Builtin.SmallTypes.ownedTupleIsFree
  refine wpAny_bind (wpAny_bind (wpAny_field hz rfl (x := .none) rfl (wpAny_pure ?_)))
  simp only [if_true]
  refine wpAny_bind (wpAny_rule (wpAny_bind (wpAny_field hz rfl (x := .ref TO) rfl (wpAny_bind (wpAny_setField_rec hz (by simp) fun g1 z1 e1 => ?_)))))
  replace z1 : IsZip g1 z TI TO .ellipsis := z1
  refine wpAny_bind ?_
  simp only [List.zipIdx_cons, List.zipIdx_nil, List.forIn_cons, List.forIn_nil]
  refine wpAny_bind (wpAny_bind (wpAny_onRaise ?_))
  show wpAny _ _ (Builtin.SmallTypes.nextOf (.ref i1) >>= _) _ _ _
  have done : ∀ {g : Heap} {e : PySem.Addr} {oe : Obj}, IsZip g z TI TO .ellipsis → g.get? e = some oe → oe.cls = .type "StopIteration" → e ≠ z := fun q h1 h2 n => by subst n; rw [q] at h1; cases h1; simp at h2
  cases hx : xs[k1]? with
  | none =>
    refine wpAny_bind (La.stop (s := { s with heap := g1 }) hh (keepA D La (.inr (.inl rfl)) h1 e1.extBut) hx fun g2 e e2 he => ?_)
    obtain ⟨oe, hoe, hce⟩ := he
    have z2 : IsZip g2 z TI TO .ellipsis := e2 _ _ D.i1z.symm z1
    exact wpAny_setField_rec z2 (by simp) fun g3 _ e3 => hE g3 e (fun c o c1 _ c3 _ q => e3.extBut _ _ c1 (e2 _ _ c3 (e1.extBut _ _ c1 q))) ⟨oe, e3.extBut _ _ (done z2 hoe hce) hoe, hce⟩
  | some x =>
    have hy : ys[k2]? = none := by rcases hend with h | h; rw [hx] at h; cases h; exact h
    refine wpAny_bind (La.item (s := { s with heap := g1 }) (keepA D La (.inr (.inl rfl)) h1 e1.extBut) hx fun g2 a2 e2 => wpAny_pure ?_)
    have t2 : IsPair g2 TO a b := e2.extBut _ _ D.TOi1 (e1.extBut _ _ D.TOz hTO)
    refine wpAny_bind (wpAny_seqItems t2 rfl (wpAny_bind (wpAny_updateSeq_pair t2 fun g3 t3 e3 => wpAny_bind (wpAny_letGo (wpAny_pure ?_)))))
    refine wpAny_bind (wpAny_bind (wpAny_onRaise ?_))
    show wpAny _ _ (Builtin.SmallTypes.nextOf (.ref i2) >>= _) _ _ _
    refine wpAny_bind (Lb.stop (s := { s with heap := g3 }) hh (keepB D Lb (.inl rfl) (keepB D Lb (.inr (.inr rfl)) (keepB D Lb (.inr (.inl rfl)) h2 e1.extBut) e2.extBut) e3.extBut) hy fun g4 e e4 he => ?_)
    obtain ⟨oe, hoe, hce⟩ := he
    have z4 : IsZip g4 z TI TO .ellipsis := e4 _ _ D.i2z.symm (e3.extBut _ _ D.TOz.symm (e2.extBut _ _ D.i1z.symm z1))
    exact wpAny_setField_rec z4 (by simp) fun g5 _ e5 => hE g5 e (fun c o c1 c2 c3 c4 q => e5.extBut _ _ c1 (e4 _ _ c4 (e3.extBut _ _ c2 (e2.extBut _ _ c3 (e1.extBut _ _ c1 q))))) ⟨oe, e5.extBut _ _ (done z4 hoe hce) hoe, hce⟩
/-- pyNext of a zip by its '__next__' -/
theorem next_item {Q : Option Value → Shared → Prop} {R : Value → Shared → Prop} {f0 : Value} {f1 : Bool} (hz : s.heap.get? z = some { cls := .type "zip", dict := none, data := .fields #[f0, .bool f1, .bool false, .ref TI, .ref TO], slots := #[] })
    (h : ∀ A' E' (Rn : Value → Shared → Prop), (∀ v s', R v s' → Rn v s') → wpAny (model P w) A' (Builtin.«zip.__next__» ⟨[.ref z], []⟩) (fun fin s' => ∃ v, fin = .done (.ret v) ∧ Rn v s') E' s) (hR : ∀ v s', R v s' → Q (some v) s') : wpAny (model P w) A (pyNext (.ref z)) Q E s := by
  have hT : s.TypeIs (.ref z) "zip" := ⟨_, hz, rfl⟩
  unfold pyNext
  exact wpAny_bind (wpAny_attempt (wpAny_callSpecial?_slot (name := Str.ofString "__next__") hT F.slot_zip_next (wpAny_call_entry F.slot_zip_next hT F.entry_zip_next (h _ _ _ fun v s' r => wpAny_pure (hR v s' r)) (F.args_zip_next_1 _))))
theorem next_stop {Q : Option Value → Shared → Prop} {f0 : Value} {f1 : Bool} (hz : s.heap.get? z = some { cls := .type "zip", dict := none, data := .fields #[f0, .bool f1, .bool false, .ref TI, .ref TO], slots := #[] })
    {R : Heap → Prop} (h : ∀ A' E' Q', A'.handled = A.handled → (∀ h' e, R h' → (∃ o, h'.get? e = some o ∧ o.cls = .type "StopIteration") → E' (.ref e) { s with heap := h' }) → wpAny (model P w) A' (Builtin.«zip.__next__» ⟨[.ref z], []⟩) Q' E' s) (hR : ∀ h', R h' → Q none { s with heap := h' }) : wpAny (model P w) A (pyNext (.ref z)) Q E s := by
  have hT : s.TypeIs (.ref z) "zip" := ⟨_, hz, rfl⟩
  unfold pyNext
  refine wpAny_bind (wpAny_attempt (wpAny_callSpecial?_slot (name := Str.ofString "__next__") hT F.slot_zip_next (wpAny_call_entry F.slot_zip_next hT F.entry_zip_next (h _ _ _ rfl fun h' e r he => ?_) (F.args_zip_next_1 _))))
  obtain ⟨o, ho, hc⟩ := he
  exact wpAny_bind (wpAny_isInstance (T := "StopIteration") (b := true) ⟨o, ho, hc⟩ isSubtype_stop (wpAny_pure (hR _ r)))
end
end G
end
section
set_option Elab.async false
set_option linter.all false
set_option maxRecDepth 100000
set_option maxHeartbeats 4000000
namespace G
open PySem PySem.Spec PyProof.Rows L2
/-- the heap behind zip(x, y), o1 and o2 the iterators of its legs -/
abbrev zh2 (h : Heap) (o1 o2 : Obj) : Heap := (h.push o1).push o2
abbrev zh3 (h : Heap) (o1 o2 : Obj) : Heap := (zh2 h o1 o2).push { cls := .type "tuple", data := .seq #[.ref h.objs.size, .ref (h.push o1).objs.size] }
abbrev zh4 (h : Heap) (o1 o2 : Obj) : Heap := (zh3 h o1 o2).push { cls := .type "tuple", data := .seq #[.none, .none] }
abbrev zh5 (h : Heap) (o1 o2 : Obj) : Heap := (zh4 h o1 o2).push { cls := .type "zip", data := .fields #[.none, .bool false, .bool false, .ref (zh2 h o1 o2).objs.size, .ref (zh3 h o1 o2).objs.size] }
abbrev itL (l : PySem.Addr) : Obj := { cls := .type "list_iterator", data := .fields #[.ref l, .int 0 0] }
abbrev itT (l : PySem.Addr) : Obj := { cls := .type "tuple_iterator", data := .fields #[.ref l, .int 0 0] }
theorem meets_zipLT (l1 l2 : PySem.Addr) (xs ys : Array Value) :
    Meets (Builtin.«zip.__new__» ⟨[.type "zip", .ref l1, .ref l2], []⟩) (fun _ R s => s.heap.IsList l1 xs ∧ s.heap.IsTuple l2 ys ∧
      R (.ok (.ret (.ref (zh4 s.heap (itL l1) (itT l2)).objs.size))) { s with heap := zh5 s.heap (itL l1) (itT l2) }) :=
  .of_wp fun prog w A R s h => by
    obtain ⟨hp, g, d, tk, os⟩ := s; obtain ⟨hl1, hl2, h⟩ := h
    have hsub := sub_zip
    have hL1 : Heap.IsList (Shared.heap ⟨hp, g, d, tk, os⟩) l1 xs := hl1
    have hL2 : Heap.IsTuple (Shared.heap ⟨hp.push (itL l1), g, d, tk, os⟩) l2 ys := Heap.IsTuple.push hl2 _
    wp_walk using wpAny_pyIter_list hL1, wpAny_pyIter_tuple hL2
    exact ⟨_, rfl, h⟩
section
variable {P : Program} {w : World} {A : Around} {E : Value → Shared → Prop} {s : Shared} {l1 l2 : PySem.Addr} {xs ys : Array Value}
theorem call_zipLT {Q : Value → Shared → Prop} (hl1 : s.heap.IsList l1 xs) (hl2 : s.heap.IsTuple l2 ys)
    (h : ∀ h', IsZip h' (s.heap.objs.size + 4) (s.heap.objs.size + 2) (s.heap.objs.size + 3) .none → IsPair h' (s.heap.objs.size + 2) (.ref s.heap.objs.size) (.ref (s.heap.objs.size + 1)) →
      IsPair h' (s.heap.objs.size + 3) .none .none → h'.IsListIter s.heap.objs.size l1 0 → h'.IsTupleIter (s.heap.objs.size + 1) l2 0 →
      (∀ c o, s.heap.get? c = some o → h'.get? c = some o) → Q (.ref (s.heap.objs.size + 4)) { s with heap := h' }) :
    wpAny (model P w) A (call (.type "zip") [.ref l1, .ref l2]) Q E s := by
  refine callType_new F.called_zip (by decide) (F.typeCall_zip_2 _ _) (F.newCall_zip_2 _ _) (fun obj => F.args_object_init_3 obj _ _) F.entry_zip_new (meets_zipLT l1 l2 xs ys) ⟨hl1, hl2, ?_⟩
  have q1 : (s.heap.push (itL l1)).objs.size = s.heap.objs.size + 1 := Heap.size_push ..
  have q2 : (zh2 s.heap (itL l1) (itT l2)).objs.size = s.heap.objs.size + 2 := by rw [Heap.size_push, q1]
  have q3 : (zh3 s.heap (itL l1) (itT l2)).objs.size = s.heap.objs.size + 3 := by rw [Heap.size_push, q2]
  have q4 : (zh4 s.heap (itL l1) (itT l2)).objs.size = s.heap.objs.size + 4 := by rw [Heap.size_push, q3]
  have g5 : (zh5 s.heap (itL l1) (itT l2)).get? (zh4 s.heap (itL l1) (itT l2)).objs.size = some _ := Heap.get?_push_size _ rfl
  have g4 : (zh5 s.heap (itL l1) (itT l2)).get? (zh3 s.heap (itL l1) (itT l2)).objs.size = some _ := Heap.get?_push_of_some _ (Heap.get?_push_size _ rfl)
  have g3 : (zh5 s.heap (itL l1) (itT l2)).get? (zh2 s.heap (itL l1) (itT l2)).objs.size = some _ := Heap.get?_push_of_some _ (Heap.get?_push_of_some _ (Heap.get?_push_size _ rfl))
  have g2 : (zh5 s.heap (itL l1) (itT l2)).get? (s.heap.push (itL l1)).objs.size = some _ := Heap.get?_push_of_some _ (Heap.get?_push_of_some _ (Heap.get?_push_of_some _ (Heap.get?_push_size _ rfl)))
  have g1 : (zh5 s.heap (itL l1) (itT l2)).get? s.heap.objs.size = some _ := Heap.get?_push_of_some _ (Heap.get?_push_of_some _ (Heap.get?_push_of_some _ (Heap.get?_push_of_some _ (Heap.get?_push_size _ rfl))))
  rw [q2, q3, q4] at g5
  rw [q1, q2] at g3
  rw [q3] at g4
  rw [q1] at g2
  show _ ∧ _
  rw [q4]
  exact ⟨⟨_, g5, rfl⟩, h _ g5 g3 g4 ⟨_, g1, rfl, rfl⟩ ⟨_, g2, rfl, rfl⟩ fun c o x => Heap.get?_push_of_some _ (Heap.get?_push_of_some _ (Heap.get?_push_of_some _ (Heap.get?_push_of_some _ (Heap.get?_push_of_some _ x))))⟩
end
/-- the list at a and the tuple at b as they stand at each turn, the items in new pairs -/
def ItzM (K : PySem.W.Frag) (a b : PySem.Addr) : It :=
  ⟨fun i H => ∃ (xs ys : List V) (x y : V), SqL K H a xs ∧ SqT K H b ys ∧ xs[i]? = some x ∧ ys[i]? = some y,
    fun i H v H' => ∃ T x y, v = .ref T ∧ H T = none ∧ H' = upd H T (.tup [x, y]) ∧ (∀ xs, SqL K H a xs → xs[i]? = some x) ∧ ∀ ys, SqT K H b ys → ys[i]? = some y,
    fun i H => ∃ xs ys : List V, SqL K H a xs ∧ SqT K H b ys ∧ (xs.length ≤ i ∨ ys.length ≤ i)⟩
/-- the state of a zip whose tuple is free, without what the legs walk -/
def ZSt (z TI TO i1 i2 a b : PySem.Addr) (i : Nat) (h : Heap) : Prop := IsZip h z TI TO .none ∧ IsPair h TI (.ref i1) (.ref i2) ∧ (∃ x y, IsPair h TO x y) ∧ h.IsListIter i1 a i ∧ h.IsTupleIter i2 b i
theorem turn_zipM {P : Program} {w : World} {K : PySem.W.Frag} {elts : List Expr} {kk : Nat} {tpos : Pos} {a b z TI TO i1 i2 : PySem.Addr} (D : ZipApart z TI TO i1 i2 a b) :
    Turn P w K (.Tuple elts kk tpos) (ItzM K a b) [z, TI, TO, i1, i2] z (ZSt z TI TO i1 i2 a b) where
  mem := by simp
  obj := fun i h ⟨hz, hTI, ⟨x, y, hTO⟩, ⟨o1, e1, _, d1⟩, ⟨o2, e2, _, d2⟩⟩ c hc => by
    simp only [List.mem_cons, List.not_mem_nil, or_false] at hc
    rcases hc with rfl | rfl | rfl | rfl | rfl
    · exact ⟨_, hz, fun v q => nomatch q⟩
    · exact ⟨_, hTI, fun v q => nomatch q⟩
    · exact ⟨_, hTO, fun v q => nomatch q⟩
    · exact ⟨o1, e1, fun v q => by rw [d1] at q; cases q⟩
    · exact ⟨o2, e2, fun v q => by rw [d2] at q; cases q⟩
  keep := fun i h h' ⟨hz, hTI, ⟨x, y, hTO⟩, h1, h2⟩ k =>
    ⟨k z (by simp) _ hz, k TI (by simp) _ hTI, ⟨x, y, k TO (by simp) _ hTO⟩, h1.at fun o q => k i1 (by simp) o q, h2.at fun o q => k i2 (by simp) o q⟩
  item := by
    intro X hP hw hK hc i pins s σ H E I hf st hg
    subst hP hw hK
    obtain ⟨hz, hTI, ⟨x0, y0, hTO⟩, h1, h2⟩ := st
    obtain ⟨xs, ys, x, y, hqx, hqy, hx, hy⟩ := hg
    obtain ⟨its, rv, p, _⟩ := I.list hqx
    obtain ⟨its2, rv2, p2, _⟩ := I.tuple hqy
    obtain ⟨u, hu, ru⟩ := rv.get hx
    obtain ⟨u2, hu2, ru2⟩ := rv2.get hy
    have zlt : z < s.heap.objs.size := Heap.lt_size hz
    refine next_item (R := fun v s' => ∃ h', v = .ref s.heap.objs.size ∧ s' = { s with heap := h' } ∧ IsZip h' z TI TO (rawInt s.heap.objs.size) ∧ IsPair h' TO u u2 ∧ h'.IsListIter i1 a (i + 1) ∧ h'.IsTupleIter i2 b (i + 1) ∧ IsPair h' s.heap.objs.size u u2 ∧
      ∀ c o, c ≠ z → c ≠ TO → c ≠ i1 → c ≠ i2 → s.heap.get? c = some o → h'.get? c = some o) hz (fun A' E' Rn hR => zl_item D (leg_list D.l1i1) (leg_tuple D.l2i2) hz hTI hTO ⟨h1, p.isList⟩ ⟨h2, p2⟩ (x := u) (y := u2) (by simpa using hu) (by simpa using hu2) fun h' b1 b2 b3 b4 b5 b6 => hR _ _ ⟨h', rfl, rfl, b1, b2, b3.1, b4.1, b5, b6⟩) ?_
    rintro v s' ⟨h', rfl, rfl, z', TO', h1', h2', hT, hk⟩
    refine ⟨_, rfl, wpAny_letOwnedTupleGo_zip (s := { s with heap := h' }) z' fun h'' z'' sb => ?_⟩
    have hT2 : h''.get? s.heap.objs.size = some { cls := .type "tuple", data := .seq #[u, u2] } := (sb.2 _ (Nat.ne_of_gt zlt)).trans hT
    have I1 : Inv X pins σ (upd H s.heap.objs.size (.tup [x, y])) { s with heap := h'' } :=
      I.turnedNew (t' := s.toks) (ch := [z, TI, TO, i1, i2]) (fun c o hb q => (sb.2 c (fun q' => hb (by simp [q']))).trans (hk c o (fun q' => hb (by simp [q'])) (fun q' => hb (by simp [q'])) (fun q' => hb (by simp [q'])) (fun q' => hb (by simp [q'])) q)) hf (Nat.le_refl _)
        ⟨by show 2 ≤ sizeLine; decide, [u, u2], .cons ru (.cons ru2 .nil), ⟨_, hT2, rfl, _, rfl⟩⟩
    refine ⟨.ref s.heap.objs.size, _, I1, rfl, ⟨_, x, y, rfl, I.hok.fresh (Nat.le_refl _), rfl, fun l hl => by rw [I.list_inj hl hqx]; exact hx, fun l hl => by rw [I.tuple_inj hl hqy]; exact hy⟩,
      ⟨z'', (sb.2 _ D.TIz).trans (hk _ _ D.TIz D.TITO D.TIi1 D.TIi2 hTI), ⟨u, u2, (sb.2 _ D.TOz).trans TO'⟩, h1'.at fun o q => (sb.2 _ D.i1z).trans q, h2'.at fun o q => (sb.2 _ D.i2z).trans q⟩, fun c hcm => ?_⟩
    have hlt : c < s.heap.objs.size := by
      obtain ⟨o1, e1, _⟩ := h1
      obtain ⟨o2, e2, _⟩ := h2
      have hcm' := hcm
      simp only [List.mem_cons, List.not_mem_nil, or_false] at hcm'
      rcases hcm' with rfl | rfl | rfl | rfl | rfl
      · exact zlt
      · exact Heap.lt_size hTI
      · exact Heap.lt_size hTO
      · exact Heap.lt_size e1
      · exact Heap.lt_size e2
    rw [upd_ne (Nat.ne_of_lt hlt)]
    exact (hf c hcm).1
  done := by
    intro X hP hw hK hc i pins s σ H E I hf st hg
    subst hP hw hK
    obtain ⟨hz, hTI, ⟨x0, y0, hTO⟩, h1, h2⟩ := st
    obtain ⟨xs, ys, hqx, hqy, hend⟩ := hg
    obtain ⟨its, rv, p, _⟩ := I.list hqx
    obtain ⟨its2, rv2, p2, _⟩ := I.tuple hqy
    have l1 := rv.length
    have l2 := rv2.length
    have he : its.toArray[i]? = none ∨ its2.toArray[i]? = none := by
      rcases hend with q | q
      · exact .inl (by simp; omega)
      · exact .inr (by simp; omega)
    exact next_stop (R := fun h' => ∀ c o, c ≠ z → c ≠ TO → c ≠ i1 → c ≠ i2 → s.heap.get? c = some o → h'.get? c = some o) hz (fun A' E' Q' hA hE => zl_stop (hA.trans (I.ok.hd hc)) D (leg_list D.l1i1) (leg_tuple D.l2i2) hz hTI hTO ⟨h1, p.isList⟩ ⟨h2, p2⟩ he fun h' e hk q => hE h' e hk q) fun h' hk =>
      ⟨rfl, I.turnedL (t' := s.toks) (ch := [z, TI, TO, i1, i2]) (fun c o hb q => hk c o (fun q' => hb (by simp [q'])) (fun q' => hb (by simp [q'])) (fun q' => hb (by simp [q'])) (fun q' => hb (by simp [q'])) q) hf⟩
  self := fun A i s Q E st h => wpAny_pyIter_zip st.1 h
def iZipMr (K : PySem.W.Frag) (ta : TA) : TI := fun σ H R => ta σ H fun vs H1 => ∃ a b xs ys, vs = [.ref a, .ref b] ∧ SqL K H1 a xs ∧ SqT K H1 b ys ∧ R (ItzM K a b) H1
theorem pi_zipM {X : Cx} {e e2 : Expr} {ta : TA} {p pos tpos : Pos} {elts : List Expr} {kk : Nat} (hg : L2.Gl X "zip") (hm : X.mg "zip" = none) (ha : PA X [e, e2] ta)
    (hs : starEach [e, e2] X.env = (false, eval e X.env) :: starEach [e2] X.env := by rfl) (hpl : (backTo pos (starEach [e2] X.env)).any (·.1) = false := by rfl) :
    PI X (.Tuple elts kk tpos) (.Call (.Name "zip" p) [e, e2] [] pos) (iZipMr X.K ta) := by
  refine ⟨fun pins s σ H R I h => ?_⟩
  refine Call_ (ld_blt I hg hm PyProof.Rows.boot_zip (PyProof.Rows.callWith_type1 (thn (ha.run pos pins s σ H _ I h) fun us s1 ⟨vs, H1, I1, r1, q1⟩ => ?_) hs hpl))
  obtain ⟨a, b, xs, ys, rfl, hqx, hqy, q⟩ := q1
  cases r1 with
  | cons r rr =>
    cases rr with
    | cons r' rr =>
      cases rr
      cases r
      cases r'
      obtain ⟨its, rv, p1, _⟩ := I1.list hqx
      obtain ⟨its2, rv2, p2, _⟩ := I1.tuple hqy
      obtain ⟨o2, ho2, _⟩ := id p2
      refine call_zipLT p1.isList (show s1.heap.IsTuple b its2.toArray from p2) fun h' hz hTI hTO h1 h2 hk => wpAny_pyIter_zip hz ?_
      refine ⟨s1.heap.objs.size + 4, [s1.heap.objs.size + 4, s1.heap.objs.size + 2, s1.heap.objs.size + 3, s1.heap.objs.size, s1.heap.objs.size + 1], _, _, H1, rfl, I1.kept (t' := s1.toks) hk, turn_zipM (PySem.W.ktu_apart s1.heap.objs.size a b p1.lt (Heap.lt_size ho2)), ⟨hz, hTI, ⟨_, _, hTO⟩, h1, h2⟩, fun c hcm => ?_, q⟩
      have hle : s1.heap.objs.size ≤ c := by
        simp only [List.mem_cons, List.not_mem_nil, or_false] at hcm
        rcases hcm with rfl | rfl | rfl | rfl | rfl <;> omega
      exact I1.fpOk hle (I1.hok.fresh hle)
end G
end
section
set_option Elab.async false
set_option linter.all false
set_option maxRecDepth 100000
set_option maxHeartbeats 4000000
namespace G
open PySem PySem.Spec PyProof.Rows L2
variable [Tb]
section
variable {X : Cx} {a b e tg : Expr} {pos : Pos}
theorem gi_zipM {f : DA} {p tpos : Pos} {elts : List Expr} {kk : Nat} (hm : X.mg "zip" = none) (ha : GA X [a, b] f) (hg : Gl X "zip" := by rfl) (hs : starEach [a, b] X.env = (false, eval a X.env) :: starEach [b] X.env := by rfl) (hpl : (backTo pos (starEach [b] X.env)).any (·.1) = false := by rfl) : GI X (.Tuple elts kk tpos) (.Call (.Name "zip" p) [a, b] [] pos) (G.iZipM f) :=
  pi_imp (pi_zipM hg hm ha hs hpl) fun σ H R ⟨ρ, h, R0, RR, A, q, k⟩ => ⟨ρ, h, _, RR, A, q, fun ds h1 vs H1 q1 k1 r1 A1 => by
    split at q1
    · rename_i x y
      cases r1 with
      | cons ra rb =>
        cases rb with
        | cons rc rd' =>
          cases rd'
          cases rc with
          | tup h2' r2' =>
            obtain ⟨a, S, rfl, rd, ok, q2⟩ := walkL_ok A1 ra q1
            obtain ⟨us, s1, s2⟩ := rd h1 H1 (Kp.refl _) A1 ok
            refine ⟨a, _, us, _, rfl, s1, h2', k _ _ _ _ q2 k1 A1 fun i h2 H2 k2 A2 ok2 => ?_⟩
            obtain ⟨ws, w1, w2⟩ := rd h2 H2 k2 A2 ok2
            have e2 := SqT.kp k2 h2'
            refine ⟨fun d ed => ?_, fun z => ⟨ws, _, w1, e2, by
              have z' : (zipD S.ds y).length ≤ i := z
              rw [zipD_len] at z'
              rw [← w2.length, ← r2'.length]; omega⟩⟩
            obtain ⟨y1, y2, ey1, ey2, rfl⟩ := zipD_get ed
            obtain ⟨v1, ev1, rv1⟩ := w2.get ey1
            obtain ⟨v2, ev2, rv2⟩ := r2'.get ey2
            refine ⟨⟨ws, _, v1, v2, w1, e2, ev1, ev2⟩, fun u H' ⟨TT, v', v'', e3, nT, e4, f2, f3⟩ => ?_⟩
            subst e3; subst e4
            have e5 := f2 ws w1
            rw [ev1] at e5; cases e5
            have e6 := f3 _ e2
            rw [ev2] at e6; cases e6
            exact ⟨Kp.new nT, A2.newH nT, .tup (SqT.of upd_same) (.cons (rv1.kp (Kp.new nT)) (.cons ((rv2.kp k2).kp (Kp.new nT)) .nil))⟩
    · exact q1.elim⟩
end
end G
end
section
set_option Elab.async false
set_option linter.all false
set_option maxRecDepth 100000
set_option maxHeartbeats 4000000
namespace G
open PySem PySem.Spec PyProof.Rows L2
variable [Tb]
section
variable {X : Cx} {a : Expr} {pos : Pos}
def tNotBr (c : Bool) (ta : TE) : TE := fun σ H Q => ta σ H fun x H1 => ∃ b, x = .bl b ∧ Q (.bl (!(b == c))) H1
theorem pc_notB {c : Bool} {j pos'} {ta : TE} (ha : PE X a ta) : PC X .IsNot a (.Constant (.bool c) j pos') (tNotBr c ta) := by
  refine ⟨fun pins s σ H Q I h => ?_⟩
  refine thn (ha.run pins s σ H _ I h) fun v s1 ⟨x, H1, I1, r1, b, ex, q1⟩ => ?_
  subst ex
  cases r1
  exact Constant_bool (wpAny_isNot_plain rfl ⟨.bl (!(b == c)), H1, I1, by cases b <;> cases c <;> rfl, q1⟩)
theorem isB_at {K : PySem.W.Frag} {H : Hp} {d : D} {v : V} {P : Bool → Prop} (q : match d with | .bl a => P a | _ => False) (r : Rv K H d v) : ∃ b, v = .bl b ∧ P b := by
  cases r with
  | bl b => exact ⟨b, rfl, q⟩
  | _ => exact q.elim
theorem gt_notB {c : Bool} {j pos'} {f : DE} (ha : GE X a f) : GT X (.Compare a [.IsNot] [.Constant (.bool c) j pos'] pos) (G.tQ (d1 (oNotB c) f)) :=
  pt_imp (pt_cmp (pc_notB ha)) fun σ H Q ⟨ρ, h, Q0, R, A, q, k⟩ => ⟨ρ, h, _, R, A, q, fun d h1 v H1 q1 k1 r1 A1 => by
    obtain ⟨b, e, q2⟩ := isB_at (P := fun b => isBl (.bl (!(b == c))) fun z => Q0 z h1) q1.un r1
    exact ⟨b, e, ⟨_, rfl, k _ _ _ q2 k1 A1⟩⟩⟩
theorem gm_reverse : GM X "list.reverse" mReverse := fun pins s σ H x vs v us Q I rx rv ⟨d, ds, h, Q0, rd, rL, A, q, k⟩ => by
  replace q := q.un
  split at q
  · rename_i a
    split at q
    · rename_i xs ea
      cases rd
      obtain ⟨ws, e1, r1⟩ := A _ _ ea
      cases rL
      have kw : Kp H (upd H a (.lst ws.reverse)) := Kp.wr e1 trivial
      refine mt_reverse pins s σ H _ _ v _ Q I rx rv ⟨a, ws, rfl, rfl, e1, k _ _ _ _ q kw .non (A.wr (o := .lst xs.reverse) e1 trivial ⟨_, upd_same, rvL_rev (r1.kp kw)⟩)⟩
    · exact q.elim
  · exact q.elim
end
end G
end
section
set_option Elab.async false
set_option linter.all false
set_option maxRecDepth 100000
set_option maxHeartbeats 4000000
namespace G
open PySem PySem.Spec PyProof.Rows L2
end G
end
section
set_option Elab.async false
set_option linter.all false
set_option maxRecDepth 100000
set_option maxHeartbeats 4000000
namespace G
open PySem PySem.Spec PyProof.Rows L2
def ItB (ka : Bool) (h : Heap) (it l : PySem.Addr) (k : Nat) : Prop := match ka with | true => h.IsListIter it l k | false => h.IsTupleIter it l k
theorem ItB.at {ka : Bool} {h h' : Heap} {it l : PySem.Addr} {k : Nat} (x : ItB ka h it l k) (e : ∀ o, h.get? it = some o → h'.get? it = some o) : ItB ka h' it l k := by
  cases ka
  · exact Heap.IsTupleIter.at x e
  · exact Heap.IsListIter.at x e
theorem ItB.obj {ka : Bool} {h : Heap} {it l : PySem.Addr} {k : Nat} (x : ItB ka h it l k) : ∃ o, h.get? it = some o ∧ ∀ v, o.data ≠ .cell v := by
  cases ka
  · obtain ⟨o, e, _, d⟩ := (show h.IsTupleIter it l k from x); exact ⟨o, e, fun v q => by rw [d] at q; cases q⟩
  · obtain ⟨o, e, _, d⟩ := (show h.IsListIter it l k from x); exact ⟨o, e, fun v q => by rw [d] at q; cases q⟩
variable [Tb]
end G
end
section
set_option Elab.async false
set_option linter.all false
set_option maxRecDepth 100000
set_option maxHeartbeats 4000000
namespace GT
open PySem PySem.Spec PyProof.Rows L2
/-- what a set asks of its items -/
structure Kd (P : Program) (w : World) (κ : Type) [DecidableEq κ] where
  At : Heap → κ → Value → Prop
  hs : κ → Int
  noscan : ∀ {h k v}, At h k v → v.scannable = false
  keep : ∀ {h h' k v}, At h k v → (∀ b o, h.get? b = some o → h'.get? b = some o) → At h' k v
  aside : ∀ {h h' k v a o es ep t}, At h k v → h.get? a = some o → o.data = .set es ep t → Heap.SameBut a h h' → At h' k v
  one : ∀ {h k k' v}, At h k v → At h k' v → k = k'
  hash : ∀ {A : Around} {E : Value → Shared → Prop} {s : Shared} {k v} {Q : Int → Shared → Prop}, A.units < cLine → At s.heap k v → (∀ n, s.toks ≤ n → Q (hs k) { s with toks := n }) → wpAny (model P w) A (pyHash v) Q E s
  eq : ∀ {A : Around} {E : Value → Shared → Prop} {s : Shared} {k k' v v'} {Q : Bool → Shared → Prop}, A.units < cLine → At s.heap k v → At s.heap k' v' → Q (decide (k = k')) s → wpAny (model P w) A (eqBool v v') Q E s
  byv : ∀ {A : Around} {E : Value → Shared → Prop} {s : Shared} {k v} {Q : Bool → Shared → Prop}, At s.heap k v → (∀ b, Q b s) → wpAny (model P w) A (hashByValue 8 v) Q E s
  mute : ∀ {A : Around} {E : Value → Shared → Prop} {s : Shared} {k v} {ys : List Value} {Q : Bool → Shared → Prop}, At s.heap k v → (∀ y ∈ ys, ∃ k', At s.heap k' y) → Q false s → wpAny (model P w) A (searchCouldBeSeen v ys) Q E s
  same : ∀ {A : Around} {E : Value → Shared → Prop} {s : Shared} {k v} {Q : Bool → Shared → Prop}, At s.heap k v → Q true s → wpAny (model P w) A (isSame v v) Q E s
variable {P : Program} {w : World} {κ : Type} [DecidableEq κ] (D : Kd P w κ)
/-- the entries of a set -/
def ents (L : List (Value × κ)) : List (Int × Value) := L.map fun p => (D.hs p.2, p.1)
/-- the set at a holds L -/
structure Sx (h : Heap) (a : Addr) (L : List (Value × κ)) (es : Array (Int × Value)) (ep : Nat) (t : SetTable) : Prop where
  obj : ∃ o, h.get? a = some o ∧ o.ExactSet ∧ o.data = .set es ep t
  ent : es.toList = ents D L
  tab : TabOk t (L.map fun p => D.hs p.2)
  uni : (L.map (·.2)).Nodup
  are : ∀ p ∈ L, D.At h p.2 p.1
  led : w.params.followText "set-order" = true ∨ t.led = true
  rm : L.length * 5 < t.mask * 3
  few : L.length < 64
variable {D}
variable {h : Heap} {a : Addr} {L : List (Value × κ)} {es : Array (Int × Value)} {ep : Nat} {t : SetTable}
theorem ents_len (e : es.toList = ents D L) : es.size = L.length := by rw [← Array.length_toList, e, ents, List.length_map]
theorem Sx.len (R : Sx D h a L es ep t) : es.size = L.length := ents_len R.ent
theorem fits_of (T : TabOk t (L.map fun p => D.hs p.2)) (e : es.size = L.length) (hl : L.length ≤ t.mask) : t.fits es.size = true := by
  have s1 := T.sz
  rw [List.length_map] at s1
  simp only [SetTable.fits, SetTable.fill, T.dm, Bool.and_eq_true, beq_iff_eq, decide_eq_true_eq]
  refine ⟨?_, ?_⟩
  · omega
  · show t.place.size + 0 ≤ t.mask; omega
theorem Sx.fits (R : Sx D h a L es ep t) : t.fits es.size = true := fits_of R.tab R.len (by have := R.rm; omega)
theorem ent_at (e : es.toList = ents D L) {i : Nat} {p : Value × κ} (hp : L[i]? = some p) : es[i]? = some (D.hs p.2, p.1) := by
  rw [← Array.getElem?_toList, e, ents, List.getElem?_map, hp, Option.map_some]
theorem whole_table (T : TabOk t (L.map fun p => D.hs p.2)) : t.gaveWay = false := by
  simp [SetTable.gaveWay, mask_odd T.mok]
theorem same_block (t : SetTable) : t.sameMemory t.moves t.mask = some true := if_pos (beq_self_eq_true _)
/-- the c-th probe for a hash -/
abbrev pr (m : Nat) (x : Int) (c : Nat) : SetTable.Probe := nth m (runAt m (SetTable.bits x % (m + 1)) (SetTable.bits x)) c
theorem pr_clean (m : Nat) : ∀ (c : Nat) (p : SetTable.Probe), p.dummy = none → (nth m p c).dummy = none
  | 0, _, e => e
  | c + 1, p, e => pr_clean m c (adv m p) (by unfold adv; split <;> exact e)
theorem pr_add (m : Nat) (x : Int) (c d : Nat) : nth m (pr m x c) d = pr m x (c + d) := (nth_add m c _ d).symm
section
variable {A : Around} {E : Value → Shared → Prop} {s : Shared} {v : Value} {k : κ}
/-- the search from the c-th probe on: K is the first empty slot's -/
theorem seek (R : Sx D s.heap a L es ep t) (hv : D.At s.heap k v) (hu : A.units < cLine) {K : Nat} (hKf : K < 10 * SetTable.turns t.mask) (out : way t.mask (D.hs k) K ∉ t.place.toList)
    (ins : ∀ c, c < K → way t.mask (D.hs k) c ∈ t.place.toList) {Q : SetFound → Shared → Prop} (yes : k ∈ L.map (·.2) → Q (.there none) s) (no : k ∉ L.map (·.2) → Q (.free (way t.mask (D.hs k) K) false) s) :
    ∀ (f c : Nat) (st : Option SetTable.Probe), st.getD (t.probeStart (D.hs k)) = pr t.mask (D.hs k) c → c ≤ K → K - c < f →
      (∀ (i : Nat) p, L[i]? = some p → p.2 = k → ∃ d, c ≤ d ∧ d < K ∧ t.place.toList[i]? = some (way t.mask (D.hs k) d)) → wpAny (model P w) A (setSearchFrom a v (D.hs k) true f st) Q E s := by
  intro f
  induction f with
  | zero => intro c st _ _ hf _; omega
  | succ f ih =>
  intro c st est hc hf hre
  obtain ⟨o, go, gx, gd⟩ := R.obj
  have hx : ∀ (i : Nat) p, L[i]? = some p → (es[i]?.map (·.1)).getD 0 = D.hs p.2 := fun i p hp => by rw [ent_at R.ent hp, Option.map_some, Option.getD_some]
  have hway : ∀ d, (nth t.mask (pr t.mask (D.hs k) c) d).j = way t.mask (D.hs k) (c + d) := fun d => by rw [pr_add]
  have sp := go_spec t R.tab.ris R.tab.dm (fun i => (es[i]?.map (·.1)).getD 0) (D.hs k) (10 * SetTable.turns t.mask) (K - c) (pr t.mask (D.hs k) c) (pr_clean _ _ _ rfl) (by omega)
    (fun d hd => by rw [hway]; exact ins _ (by omega)) (by rw [hway, Nat.add_sub_cancel' hc]; exact out)
  rw [setSearchFrom_succ]
  refine wpAny_bind (wpAny_setState_of go gd R.fits ?_)
  simp only [whole_table R.tab, Bool.false_eq_true, if_false]
  try refine wpAny_bind (wpAny_pure ?_)
  rcases sp with ⟨d, i, hd, hi, hh, hno, hpr⟩ | ⟨hno, hpr⟩
  · rw [hway] at hi hpr
    rw [pr_add] at hpr
    rw [est, show t.probe (fun i => (es[i]?.map (·.1)).getD 0) (D.hs k) (pr t.mask (D.hs k) c) = some (.candidate (way t.mask (D.hs k) (c + d)) i (pr t.mask (D.hs k) (c + (d + 1)))) from hpr]
    dsimp only
    have hil : i < L.length := by
      have z1 := (List.getElem?_eq_some_iff.mp hi).1
      have z2 := R.tab.sz
      rw [List.length_map] at z2
      rwa [Array.length_toList, z2] at z1
    obtain ⟨p, hp⟩ : ∃ p, L[i]? = some p := ⟨_, List.getElem?_eq_getElem hil⟩
    have pm := List.mem_of_getElem? hp
    have tail : wpAny (model P w) A (searchRest a v (D.hs k) true f es t (way t.mask (D.hs k) (c + d)) i (pr t.mask (D.hs k) (c + (d + 1)))) Q E s := by
      unfold searchRest
      rw [ent_at R.ent hp]
      dsimp only
      refine wpAny_bind (wpAny_holding (D.eq hu (R.are p pm) hv (wpAny_bind (wpAny_setState_of go gd R.fits ?_))))
      dsimp only
      by_cases e : p.2 = k
      · rw [decide_eq_true e]
        exact wp_if_pos rfl (wpAny_pure (yes (List.mem_map.mpr ⟨p, pm, e⟩)))
      · rw [decide_eq_false e]
        refine wp_if_neg (by decide) ?_
        try refine wpAny_bind (wpAny_pure ?_)
        have live := slot_live R.tab.ris hi
        simp only [same_block, if_true, live, ent_at R.ent hp]
        refine wpAny_bind (D.same (R.are p pm) (wpAny_bind (wpAny_pure ?_)))
        simp only [if_true, Bool.false_eq_true, if_false]
        refine ih (c + (d + 1)) _ rfl (by omega) (by omega) fun i0 p0 h0 e0 => ?_
        obtain ⟨g, g1, g2, g3⟩ := hre i0 p0 h0 e0
        refine ⟨g, ?_, g2, g3⟩
        have hh0 := hx i0 p0 h0
        rw [e0] at hh0
        by_cases lt : g < c + d
        · exact absurd hh0 (hno (g - c) i0 (by omega) (by rw [hway, Nat.add_sub_cancel' g1]; exact g3))
        · by_cases le : g = c + d
          · subst le
            have l2 := slot_live R.tab.ris g3
            rw [live] at l2
            obtain rfl : i = i0 := by injection l2
            rw [hp] at h0
            exact absurd ((congrArg Prod.snd (Option.some.inj h0)).trans e0) e
          · omega
    cases hl : t.led with
    | true =>
      simp only [Bool.not_true, Bool.false_eq_true, if_false]
      try refine wpAny_bind (wpAny_pure ?_)
      exact tail
    | false =>
      simp only [Bool.not_false, if_true]
      refine wpAny_bind (D.mute hv (fun y hy => ?_) ?_)
      · obtain ⟨e, he, rfl⟩ := List.mem_map.mp hy
        have h1 : e ∈ es := (by simpa using he : e ∈ es ∧ e.1 = D.hs k).1
        have h2 : e ∈ ents D L := by rw [← R.ent]; simpa using h1
        obtain ⟨q, hq, rfl⟩ := List.mem_map.mp h2
        exact ⟨q.2, R.are q hq⟩
      · simp only [Bool.false_eq_true, if_false]
        try refine wpAny_bind (wpAny_pure ?_)
        exact tail
  · rw [hway, Nat.add_sub_cancel' hc] at hpr
    rw [est, show t.probe (fun i => (es[i]?.map (·.1)).getD 0) (D.hs k) (pr t.mask (D.hs k) c) = some (.empty (way t.mask (D.hs k) K) none) from hpr]
    dsimp only
    refine wpAny_pure (no fun hm => ?_)
    obtain ⟨p0, m0, e0⟩ := List.mem_map.mp hm
    obtain ⟨i0, h0⟩ := List.getElem?_of_mem m0
    obtain ⟨g, g1, g2, g3⟩ := hre i0 p0 h0 e0
    have hh0 := hx i0 p0 h0
    rw [e0] at hh0
    exact hno (g - c) i0 (by omega) (by rw [hway, Nat.add_sub_cancel' g1]; exact g3) hh0
theorem seek0 (R : Sx D s.heap a L es ep t) (hv : D.At s.heap k v) (hu : A.units < cLine) {Q : SetFound → Shared → Prop} (yes : k ∈ L.map (·.2) → Q (.there none) s)
    (no : ∀ K, k ∉ L.map (·.2) → way t.mask (D.hs k) K ∉ t.place.toList → (∀ c, c < K → way t.mask (D.hs k) c ∈ t.place.toList) → Q (.free (way t.mask (D.hs k) K) false) s) :
    wpAny (model P w) A (setSearch a v (D.hs k) true) Q E s := by
  obtain ⟨K, k1, k2, k3⟩ := R.tab.first (by rw [List.length_map]; have := R.rm; omega) (D.hs k)
  have small : 10 * SetTable.turns t.mask ≤ 1420 := by
    unfold SetTable.turns
    rcases R.tab.mok with e | e | e <;> omega
  unfold setSearch
  refine seek R hv hu k1 k2 k3 yes (fun z => no K z k2 k3) 100000 0 none rfl (by omega) (by omega) fun i p hp e => ?_
  have hi : (L.map fun p => D.hs p.2)[i]? = some (D.hs k) := by rw [List.getElem?_map, hp, Option.map_some, e]
  have il : i < t.place.toList.length := by
    have z1 := (List.getElem?_eq_some_iff.mp hp).1
    have z2 := R.tab.sz
    rw [List.length_map] at z2
    rwa [Array.length_toList, z2]
  obtain ⟨d, d1, d2⟩ := R.tab.before k2 hi (List.getElem?_eq_getElem il)
  exact ⟨d, by omega, d1, by rw [d2]; exact List.getElem?_eq_getElem il⟩
end
theorem ents_perm (e : es.toList = ents D L) {od : Array Nat} (pm : od.toList.Perm (List.range L.length)) :
    ∃ M, (od.filterMap (es[·]?)).toList = ents D M ∧ M.Perm L ∧ (M.map fun p => D.hs p.2) = od.toList.map fun i => (es.map (·.1)).getD i 0 := by
  have lo : ∀ i ∈ od.toList, i < L.length := fun i hi => List.mem_range.mp (pm.mem_iff.mp hi)
  have step : ∀ l : List Nat, (∀ i ∈ l, i < L.length) → l.filterMap (fun i => es[i]?) = ents D (l.filterMap fun i => L[i]?) ∧ ((l.filterMap fun i => L[i]?).map fun p => D.hs p.2) = l.map fun i => (es.map (·.1)).getD i 0 := by
    intro l hl
    induction l with
    | nil => exact ⟨rfl, rfl⟩
    | cons i l ih =>
      obtain ⟨i1, i2⟩ := ih fun j hj => hl j (List.mem_cons_of_mem _ hj)
      obtain ⟨p, hp⟩ : ∃ p, L[i]? = some p := ⟨_, List.getElem?_eq_getElem (hl i List.mem_cons_self)⟩
      have q := ent_at e hp
      refine ⟨?_, ?_⟩
      · rw [List.filterMap_cons_some q, List.filterMap_cons_some hp, i1]; rfl
      · rw [List.filterMap_cons_some hp, List.map_cons, List.map_cons, i2]
        congr 1
        simp [Array.getD_eq_getD_getElem?, q]
  obtain ⟨s1, s2⟩ := step od.toList lo
  refine ⟨_, by rw [Array.toList_filterMap]; exact s1, ?_, s2⟩
  refine (pm.filterMap _).trans ?_
  have full : ∀ n, n ≤ L.length → (List.range n).filterMap (fun i => L[i]?) = L.take n := by
    intro n hn
    induction n with
    | zero => rfl
    | succ n ih =>
      obtain ⟨p, hp⟩ : ∃ p, L[n]? = some p := ⟨_, List.getElem?_eq_getElem (by omega)⟩
      rw [List.range_succ, List.filterMap_append, ih (by omega), List.take_add_one, hp, List.filterMap_cons_some hp]
      rfl
  rw [full _ (Nat.le_refl _), List.take_length]
section
variable {A : Around} {E : Value → Shared → Prop} {s : Shared} {v : Value} {k : κ}
theorem relay {o : Obj} (go : s.heap.get? a = some o) (gx : o.ExactSet) (gd : o.data = .set es ep t) (en : es.toList = ents D L) (T : TabOk t (L.map fun p => D.hs p.2)) (fl : L.length ≤ t.mask)
    (uni : (L.map (·.2)).Nodup) (are : ∀ p ∈ L, D.At s.heap p.2 p.1) (led : w.params.followText "set-order" = true ∨ t.led = true) (few : L.length < 64) {n m : Nat}
    (hm : SetTable.sizeAbove n - 1 = m) (mo : MaskOk m) (hn : SetTable.sizeAbove n ≤ 128) (rm : L.length * 5 < m * 3) {Q : Unit → Shared → Prop}
    (q : ∀ h' L' es' ep' t', Heap.SameBut a s.heap h' → Sx D h' a L' es' ep' t' → L'.Perm L → Q () { s with heap := h' }) : wpAny (model P w) A (setRelay a n) Q E s := by
  have sz := ents_len en
  obtain ⟨t', od, r1, r2, r3, r4, r5, _, _⟩ := relaid_ok t (hs := es.map (·.1)) (wanted := n) hm mo (by rw [Array.size_map, sz]; omega)
  rw [Array.size_map, sz] at r2
  obtain ⟨M, m1, m2, m3⟩ := ents_perm en r2
  rw [← m3] at r3
  have sz2 : (od.filterMap (es[·]?)).size = es.size := by rw [ents_len m1, m2.length_eq, sz]
  rw [setRelay_eq]
  refine wpAny_bind (wpAny_setState_of go gd (fits_of T sz fl) ?_)
  dsimp only
  refine wp_if_neg (by rw [sizeLine_eq]; omega) ?_
  try refine wpAny_bind (wpAny_pure ?_)
  rw [r1]
  refine wpAny_bind ?_
  refine wp_if_neg (by simp [sz2]) ?_
  try refine wpAny_bind (wpAny_pure ?_)
  refine wpAny_pure (wpAny_storeSet_of go gd ?_ (by rw [sz2, sz, sizeLine_eq]; omega))
  have sb : Heap.SameBut a s.heap (s.heap.update a (Obj.putSet (od.filterMap (es[·]?)) t')) := .update ..
  exact q _ M _ (ep + 1) t' sb ⟨⟨_, store_at go gd, ⟨gx.1, gx.2.1, gx.2.2⟩, rfl⟩, m1, r3, (m2.map (·.2)).nodup_iff.mpr uni, fun p hp => D.aside (are p (m2.mem_iff.mp hp)) go gd sb,
    by rw [r5]; exact led, by rw [m2.length_eq, r4]; exact rm, by rw [m2.length_eq]; exact few⟩ m2
/-- one is added -/
theorem add (R : Sx D s.heap a L es ep t) (hv : D.At s.heap k v) (hu : A.units < cLine) (few : k ∉ L.map (·.2) → L.length + 1 < 64) {Q : Bool → Shared → Prop}
    (q : ∀ b h' L' es' ep' t', Heap.SameBut a s.heap h' → Sx D h' a L' es' ep' t' → (k ∈ L.map (·.2) ∧ L' = L ∨ k ∉ L.map (·.2) ∧ L'.Perm ((v, k) :: L)) → Q b { s with heap := h' }) :
    wpAny (model P w) A (setAddHashed a v (D.hs k)) Q E s := by
  obtain ⟨o, go, gx, gd⟩ := R.obj
  have rm := R.rm
  unfold setAddHashed
  refine wpAny_holding ?_
  rw [show (100000 : Nat) = 99999 + 1 from rfl, setAddHashedIn_succ]
  refine wpAny_bind (wpAny_setState_of go gd R.fits ?_)
  dsimp only
  refine wp_if_neg (by simp [byScan, D.noscan hv]) ?_
  try refine wpAny_bind (wpAny_pure ?_)
  refine wpAny_bind (seek0 R hv hu (fun z => wpAny_pure (q false _ L es ep t (.refl a _) R (.inl ⟨z, rfl⟩))) fun K z out ins => ?_)
  replace few := few z
  dsimp only
  refine wpAny_bind (wpAny_setState_of go gd R.fits ?_)
  obtain ⟨p1, p2, p3, p4, p5, _, _, _, p9⟩ := R.tab.put out ins
  dsimp only
  have ld : w.params.followText "set-order" = true ∨ (t.put (way t.mask (D.hs k) K)).1.led = true := by rw [p5]; exact R.led
  rw [p1]
  generalize (t.put (way t.mask (D.hs k) K)).1 = t0 at p3 p4 p9 ld ⊢
  generalize SetTable.below t.place (way t.mask (D.hs k) K) = i at p2 p3 ⊢
  have bv : ∀ {G : Bool → Sem Bool}, (∀ b, wpAny (model P w) A (G b) Q E s) → wpAny (model P w) A (if t0.plain = true then hashByValue 8 v >>= G else pure true >>= G) Q E s := fun q' => by
    split
    · exact wpAny_bind (D.byv hv q')
    · exact wpAny_bind (wpAny_pure (q' true))
  refine bv fun b => ?_
  obtain ⟨t1, e2, T2, m2, l2, f2⟩ : ∃ t1 : SetTable, (if b = true then t0 else { t0 with plain := false }) = t1 ∧ (∀ {hs : List Int}, TabOk t0 hs → TabOk t1 hs) ∧ t1.mask = t0.mask ∧ t1.led = t0.led ∧ t1.fill = t0.fill := by
    cases b with
    | true => exact ⟨t0, rfl, fun T => T, rfl, rfl, rfl⟩
    | false => exact ⟨_, rfl, fun T => ⟨T.ris, T.dm, T.sz, T.mok, T.bd, T.reach⟩, rfl, rfl, rfl⟩
  rw [e2]
  replace p3 := T2 p3
  replace p4 : t1.mask = t.mask := m2.trans p4
  replace p9 := f2.trans p9
  replace ld : w.params.followText "set-order" = true ∨ t1.led = true := by rw [l2]; exact ld
  clear T2 m2 l2 f2 e2 bv
  have en : (SetTable.insertAt es i (D.hs k, v)).toList = ents D (L.take i ++ (v, k) :: L.drop i) := by
    rw [SetTable.toList_insertAt, R.ent]
    simp [ents, List.map_take, List.map_drop]
  have pm : (L.take i ++ (v, k) :: L.drop i).Perm ((v, k) :: L) := List.perm_middle.trans (by rw [List.take_append_drop])
  have T : TabOk t1 ((L.take i ++ (v, k) :: L.drop i).map fun p => D.hs p.2) := by
    rw [List.map_append, List.map_cons, List.map_take, List.map_drop]
    exact p3
  have ln := pm.length_eq
  rw [List.length_cons] at ln
  have uni : ((L.take i ++ (v, k) :: L.drop i).map (·.2)).Nodup := (pm.map (·.2)).nodup_iff.mpr (List.nodup_cons.mpr ⟨z, R.uni⟩)
  generalize L.take i ++ (v, k) :: L.drop i = M at en pm T ln uni
  generalize SetTable.insertAt es i (D.hs k, v) = es1 at en ⊢
  have sz := ents_len en
  refine wpAny_bind (wpAny_storeSet_of go gd ?_ (by rw [sz, ln, sizeLine_eq]; omega))
  have sb : Heap.SameBut a s.heap (s.heap.update a (Obj.putSet es1 t1)) := .update ..
  have go1 := store_at (es' := es1) (t' := t1) go gd
  generalize s.heap.update a (Obj.putSet es1 t1) = h1 at sb go1 ⊢
  have are : ∀ p ∈ M, D.At h1 p.2 p.1 := fun p hp => by
    rcases List.mem_cons.mp (pm.mem_iff.mp hp) with rfl | hp
    · exact D.aside hv go gd sb
    · exact D.aside (R.are p hp) go gd sb
  rw [List.length_map] at p9
  by_cases full : t1.tooFull = true
  · have fu : (L.length + 1) * 5 ≥ t1.mask * 3 := by
      have z1 := full
      unfold SetTable.tooFull at z1
      rw [decide_eq_true_eq, p9] at z1
      exact z1
    have two : t.mask = 7 ∧ L.length = 4 ∨ t.mask = 31 ∧ L.length = 18 := by
      rcases R.tab.mok with e | e | e <;> rw [p4, e] at fu <;> rw [e] at rm
      · exact .inl ⟨e, by omega⟩
      · exact .inr ⟨e, by omega⟩
      · omega
    rw [R.len]
    have go2 : ∀ m, SetTable.sizeAbove (SetTable.grown (L.length + 1)) - 1 = m → MaskOk m → SetTable.sizeAbove (SetTable.grown (L.length + 1)) ≤ 128 → (L.length + 1) * 5 < m * 3 →
        wpAny (model P w) A (setRelay a (SetTable.grown (L.length + 1))) (fun _ s' => wpAny (model P w) A (pure true) Q E s') E { s with heap := h1 } := fun m e1 e2 e3 e4 =>
      relay (s := { s with heap := h1 }) (L := M) go1 ⟨gx.1, gx.2.1, gx.2.2⟩ rfl en T (by rw [ln, p4]; rcases two with ⟨e, e'⟩ | ⟨e, e'⟩ <;> omega) uni are ld (by omega) e1 e2 e3 (by rw [ln]; exact e4)
        fun h2 L2 es2 ep2 t2 sb2 R2 pm2 => wpAny_pure (q true h2 L2 es2 ep2 t2 (sb.trans sb2) R2 (.inr ⟨z, pm2.trans pm⟩))
    first
      | (refine wpAny_bind ?_; refine wp_if_pos (by simp [full]) ?_)
      | (refine wp_if_pos (by simp [full]) ?_; refine wpAny_bind ?_)
    rcases two with ⟨_, e⟩ | ⟨_, e⟩
    · exact go2 31 (by rw [e, size_20]) (.inr (.inl rfl)) (by rw [e, size_20]; decide) (by omega)
    · exact go2 127 (by rw [e, size_76]) (.inr (.inr rfl)) (by rw [e, size_76]; decide) (by omega)
  · first
      | refine wp_if_neg (by simp [full]) ?_
      | (refine wpAny_bind ?_; refine wp_if_neg (by simp [full]) ?_; refine wpAny_pure ?_)
    refine wpAny_pure (q true h1 M es1 (ep + 1) t1 sb ⟨⟨_, go1, ⟨gx.1, gx.2.1, gx.2.2⟩, rfl⟩, en, T, uni, are, ld, ?_, by omega⟩ (.inr ⟨z, pm⟩))
    have z1 := full
    unfold SetTable.tooFull at z1
    rw [decide_eq_true_eq, p9] at z1
    omega
end
end GT
end
section
set_option Elab.async false
set_option linter.all false
set_option maxRecDepth 100000
set_option maxHeartbeats 4000000
namespace GT
open PySem PySem.Spec PyProof.Rows L2
variable {P : Program} {w : World} {κ : Type} [DecidableEq κ] {D : Kd P w κ}
theorem Sx.moved {h h' : Heap} {a : Addr} {L : List (Value × κ)} {es : Array (Int × Value)} {ep : Nat} {t : SetTable} (R : Sx D h a L es ep t) (k : ∀ o, h.get? a = some o → h'.get? a = some o) (z : ∀ p ∈ L, D.At h' p.2 p.1) : Sx D h' a L es ep t :=
  ⟨let ⟨o, o1, o2⟩ := R.obj; ⟨o, k o o1, o2⟩, R.ent, R.tab, R.uni, z, R.led, R.rm, R.few⟩
/-- an empty set's object -/
abbrev nilObj (w : World) : Obj := { cls := .type "set", dict := none, data := .set #[] 0 (.fresh 0 0 (!w.params.followText "set-order")) }
theorem Sx.nil {h : Heap} {a : Addr} (e : h.get? a = some (nilObj w)) : Sx D h a [] #[] 0 (.fresh 0 0 (!w.params.followText "set-order")) :=
  ⟨⟨_, e, ⟨rfl, rfl, rfl⟩, rfl⟩, rfl, ⟨.nil, rfl, rfl, .inl rfl, fun x hx => (by cases hx), fun i x j hi => (by simp at hi)⟩, .nil, fun p hp => (by cases hp),
    (by
      cases w.params.followText "set-order" with
      | false => exact .inr rfl
      | true => exact .inl rfl), by show 0 * 5 < 7 * 3; omega, by show 0 < 64; omega⟩
/-- the first i items have come -/
structure In (ks : List (Value × κ)) (i : Nat) (L : List (Value × κ)) : Prop where
  old : ∀ p ∈ L, p ∈ ks.take i
  met : ∀ p ∈ ks.take i, p.2 ∈ L.map (·.2)
  le : L.length ≤ i
theorem In.next {ks L M : List (Value × κ)} {i : Nat} {p : Value × κ} (g : In ks i L) (e : ks[i]? = some p) (c : p.2 ∈ L.map (·.2) ∧ M = L ∨ p.2 ∉ L.map (·.2) ∧ M.Perm ((p.1, p.2) :: L)) : In ks (i + 1) M := by
  have tk : ks.take (i + 1) = ks.take i ++ [p] := by rw [List.take_add_one, e]; rfl
  rcases c with ⟨c, rfl⟩ | ⟨_, pm⟩
  · refine ⟨fun q hq => by rw [tk]; exact List.mem_append_left _ (g.old q hq), fun q hq => ?_, Nat.le_succ_of_le g.le⟩
    rw [tk] at hq
    rcases List.mem_append.mp hq with hq | hq
    · exact g.met q hq
    · rw [List.mem_singleton.mp hq]; exact c
  · refine ⟨fun q hq => ?_, fun q hq => (pm.map (·.2)).mem_iff.mpr ?_, by rw [pm.length_eq, List.length_cons]; have := g.le; omega⟩
    · rw [tk]
      rcases List.mem_cons.mp (pm.mem_iff.mp hq) with rfl | hq
      · exact List.mem_append_right _ List.mem_cons_self
      · exact List.mem_append_left _ (g.old q hq)
    · rw [tk] at hq
      rcases List.mem_append.mp hq with hq | hq
      · exact List.mem_cons_of_mem _ (g.met q hq)
      · rw [List.mem_singleton.mp hq]; exact List.mem_cons_self
theorem nd_le : ∀ {l U : List κ}, l.Nodup → (∀ x ∈ l, x ∈ U) → l.length ≤ U.length
  | [], _, _, _ => Nat.zero_le _
  | x :: l, U, nd, sub => by
    obtain ⟨n1, n2⟩ := List.nodup_cons.mp nd
    have ih := nd_le (U := U.erase x) n2 fun y hy => (List.mem_erase_of_ne fun e => n1 (by rw [← e]; exact hy)).mpr (sub y (List.mem_cons_of_mem _ hy))
    rw [List.length_erase_of_mem (sub x List.mem_cons_self)] at ih
    have := List.length_pos_of_mem (sub x List.mem_cons_self)
    rw [List.length_cons]
    omega
section
variable {A : Around} {E : Value → Shared → Prop} {s : Shared}
/-- what a walk brings is put in, one by one -/
theorem fill {I : Addr} {fp wr : List Addr} {G : Array GenState → Array GenState → Prop} {n : Nat} {Pv : Nat → Value → Prop} {St : Nat → Shared → Prop} {R : Result → Shared → Prop} (W : WalksS P w A.in1 I fp wr G n Pv St) {a : Addr} (na : a ∉ fp)
    {ks : List (Value × κ)} (hn : n = ks.length) {U : List κ} (hU : ∀ p ∈ ks, p.2 ∈ U) (few : U.length < 64) (hv : ∀ i v, Pv i v → ∃ p, ks[i]? = some p ∧ v = p.1) {h0 : Heap} (hk : ∀ p ∈ ks, D.At h0 p.2 p.1) (a0 : h0.get? a = none) (w0 : ∀ b ∈ wr, h0.get? b = none) (hu : A.in1.units < cLine) :
    ∀ (d i : Nat) (s : Shared), n - i = d → i ≤ n → St i s → (∀ b o, h0.get? b = some o → s.heap.get? b = some o) → (∃ L es ep t, Sx D s.heap a L es ep t ∧ In ks i L) →
      (∀ s' L es ep t, Moved (a :: wr) G s s' → Sx D s'.heap a L es ep t → In ks n L → (∀ b o, h0.get? b = some o → s'.heap.get? b = some o) → R (.ok (.ret .none)) s') → codeAny (model P w) A (.builtin "set.update.loop" ⟨[.ref a, .ref I], []⟩) R s := by
  have naw : a ∉ wr := fun z => na (W.sub _ z)
  have up : ∀ {s s' : Shared}, Moved wr G s s' → (∀ b o, h0.get? b = some o → s.heap.get? b = some o) → ∀ b o, h0.get? b = some o → s'.heap.get? b = some o := fun m k b o e =>
    m.heap b o (fun z => by rw [w0 b z] at e; cases e) (k b o e)
  have ol : ∀ {i : Nat} {L : List (Value × κ)} {h : Heap}, In ks i L → (∀ b o, h0.get? b = some o → h.get? b = some o) → ∀ p ∈ L, D.At h p.2 p.1 := fun g k p hp => D.keep (hk p (List.mem_of_mem_take (g.old p hp))) k
  intro d
  induction d with
  | zero =>
    intro i s hd hi st k ⟨L, es, ep, t, S, g⟩ r
    obtain rfl : i = n := by omega
    refine codeAny_builtin F.entry_set_update_loop ?_
    rw [Around.under_plainId F.plain_set_update_loop _]
    refine (wpAny_bind (W.done s _ _ st fun s' m => ?_) : wpAny _ A.in1 (pyNext (.ref I) >>= _) _ _ s)
    have k' := up m k
    have fin := r s' L es ep t (m.mono fun b hb => List.mem_cons_of_mem _ hb) (S.moved (fun o e => m.heap a o naw e) (ol g k')) g k'
    show wpAny _ A.in1 (ret Value.none) _ _ s'
    exact wpAny_pure fin
  | succ d ih =>
    intro i s hd hi st k ⟨L, es, ep, t, S, g⟩ r
    refine codeAny_builtin F.entry_set_update_loop ?_
    rw [Around.under_plainId F.plain_set_update_loop _]
    refine (wpAny_bind (W.item i s _ _ (by omega) st fun v s' hp st' m => ?_) : wpAny _ A.in1 (pyNext (.ref I) >>= _) _ _ s)
    obtain ⟨p, gp, rfl⟩ := hv i v hp
    have k' := up m k
    have S' := S.moved (fun o e => m.heap a o naw e) (ol g k')
    have here : D.At s'.heap p.2 p.1 := D.keep (hk p (List.mem_of_getElem? gp)) k'
    refine (wpAny_bind (wpAny_holding ?_) : wpAny _ A.in1 (holding [p.1] (setAdd a p.1) >>= _) _ _ s')
    unfold setAdd
    refine wpAny_holding (wpAny_bind (D.hash hu here fun tk htk => ?_))
    refine add (s := { s' with toks := tk }) S' here hu (fun z => ?_) fun b h' L' es' ep' t' sb S2 c => ?_
    · have := nd_le (l := p.2 :: L.map (·.2)) (U := U) (List.nodup_cons.mpr ⟨z, S'.uni⟩) fun x hx => by
        rcases List.mem_cons.mp hx with rfl | hx
        · exact hU p (List.mem_of_getElem? gp)
        · obtain ⟨q, hq, rfl⟩ := List.mem_map.mp hx
          exact hU q (List.mem_of_mem_take (g.old q hq))
      rw [List.length_cons, List.length_map] at this
      omega
    have k2 : ∀ b o, h0.get? b = some o → h'.get? b = some o := fun b o e => (sb.2 b fun z => by rw [z, a0] at e; cases e).trans (k' b o e)
    have fr : St (i + 1) { s' with heap := h', toks := tk } := W.frame _ s' _ _ st' htk fun b hb o e => by
      rw [sb.2 b fun z => na (by rw [← z]; exact hb)]; exact e
    refine wpAny_pure ⟨plainId_quiet F.plain_set_update_loop _, ih (i + 1) _ (by omega) (by omega) fr k2 ⟨L', es', ep', t', S2, g.next gp c⟩ fun s2 L2 es2 ep2 t2 m2 S3 g3 k3 => ?_⟩
    refine r s2 L2 es2 ep2 t2 (Moved.trans W.gtrans ((m.mono fun b hb => List.mem_cons_of_mem _ hb).then_heap htk fun b o nb e => ?_) m2) S3 g3 k3
    rw [sb.2 b fun z => nb (by rw [z]; exact List.mem_cons_self)]; exact e
/-- set(xs), xs a list -/
theorem set_list {l : Addr} {its : Array Value} {ks : List (Value × κ)} {Q : Value → Shared → Prop} (hh : A.handled = none) (hl : s.heap.IsList l its) (hi : its.toList = ks.map (·.1)) (hk : ∀ p ∈ ks, D.At s.heap p.2 p.1) {U : List κ} (hU : ∀ p ∈ ks, p.2 ∈ U) (few : U.length < 64) (hu : A.units + 3 < cLine)
    (q : ∀ (h' : Heap) (tk : Nat) L es ep t, Sx D h' s.heap.objs.size L es ep t → In ks ks.length L → (∀ b o, s.heap.get? b = some o → h'.get? b = some o) → Q (.ref s.heap.objs.size) { s with heap := h', toks := tk }) :
    wpAny (model P w) A (call (.type "set") [.ref l]) Q E s := by
  have sz : its.size = ks.length := by rw [← Array.length_toList, hi, List.length_map]
  obtain ⟨c, tl, hmro⟩ := F.called_set.mro
  have hmade := F.called_set.made
  have hsub := F.called_set.sub
  refine wpAny_call (codeAny_of_tree ?_)
  show wpAny _ _ (callAny (.type "set") _) _ _ _
  refine wpAny_pure (And.intro (Code.quiet_builtin _ (by decide +kernel)) (codeAny_builtin F.entry_type_call ?_))
  rw [Around.under_plain (weight_type_call_type "set" [.ref l] []) rfl]
  have z1 := F.called_set.notType
  have z2 := F.called_set.canCreate
  have z3 := F.typeCall_set_1 (.ref l)
  repeat (any_goals (first | assumption | wp_step))
  refine codeAny_mono (code_set_led1 (.ref l) (E := E) (Q₁ := fun obj s₁ => obj = .ref s.heap.objs.size ∧ s₁ = { s with heap := s.heap.push (nilObj w) }) ⟨rfl, rfl⟩) fun r s₁ hr => ?_
  cases r with
  | error e => exact hr
  | ok fl =>
    cases fl with
    | ret obj =>
      obtain ⟨rfl, rfl⟩ := hr
      have new : (s.heap.push (nilObj w)).get? s.heap.objs.size = some (nilObj w) := Heap.get?_push_size _ rfl
      have ty : Shared.TypeIs { s with heap := s.heap.push (nilObj w) } (.ref s.heap.objs.size) "set" := ⟨_, new, rfl⟩
      have z4 := F.called_set.init.lookup
      have z5 := F.called_set.init.bind (.ref s.heap.objs.size)
      repeat (any_goals (first | assumption | wp_step))
      refine codeAny_mono (codeAny_call_builtin (R := wants (fun r s₂ => r = .none ∧ ∃ h' tk L es ep t, s₂ = { s with heap := h', toks := tk } ∧ Sx D h' s.heap.objs.size L es ep t ∧ In ks ks.length L ∧ ∀ b o, s.heap.get? b = some o → h'.get? b = some o) E)
        F.called_set.init.plain F.entry_set_init (check_set_init_1 ty ?_)) fun r₂ s₂ hr₂ => ?_
      · obtain ⟨ol, e1, e2, nl, e3⟩ := hl
        obtain ⟨oc, odx, oda, osl⟩ := ol
        simp only at e2 e3
        subst e2 e3
        have old : (s.heap.push (nilObj w)).get? l = some { cls := .type "list", dict := odx, data := .seq its nl, slots := osl } := Heap.get?_push_of_some _ e1
        have z6 := F.sub_list_set
        have z7 := F.sub_list_frozenset
        have z8 : (Value.type "list" == Value.type "dict") = false := by decide
        have lst : (s.heap.push (nilObj w)).IsList l its := ⟨_, old, rfl, nl, rfl⟩
        unfold Builtin.«set.__init__» noKeywords Builtin.Frozenset.updateFrom
        generalize hPI : pyIter = PI
        wp_walk
        subst hPI
        refine wpAny_pyIter_list lst (wpAny_bind (wpAny_runValue ?_))
        have lt : l < s.heap.objs.size := Heap.lt_size e1
        have sz1 : (s.heap.push (nilObj w)).objs.size = s.heap.objs.size + 1 := Heap.size_push ..
        have free : ∀ b, s.heap.objs.size ≤ b → s.heap.get? b = none := fun b hb => by
          cases e : s.heap.get? b with
          | none => rfl
          | some o => exact absurd (Heap.lt_size e) (Nat.not_lt.mpr hb)
        have na : s.heap.objs.size ∉ [(s.heap.push (nilObj w)).objs.size, l] := by
          rw [sz1]
          simp only [List.mem_cons, List.not_mem_nil, or_false, not_or]
          exact ⟨Nat.ne_of_lt (Nat.lt_succ_self _), Nat.ne_of_gt lt⟩
        refine fill (Walks.list (by simp [hh]) _ l (by rw [sz1]; exact Nat.ne_of_lt (Nat.lt_succ_of_lt lt)) its).toS na sz hU few (fun i v hv => ?_) hk (free _ (Nat.le_refl _)) (fun b hb => free b (by rw [List.mem_singleton.mp hb, sz1]; exact Nat.le_succ _)) hu (its.size - 0) 0 _ (by omega) (Nat.zero_le _)
          ⟨⟨_, Heap.get?_push_size _ rfl, rfl, rfl⟩, lst.push _⟩ (fun b o e => Heap.get?_push_of_some _ (Heap.get?_push_of_some _ e)) ⟨[], #[], 0, _, .nil (Heap.get?_push_of_some _ new), fun p hp => (by cases hp), fun p hp => (by simp at hp), Nat.le_refl _⟩ ?_
        · have hv' : its.toList[i]? = some v := by rw [Array.getElem?_toList]; exact hv
          rw [hi, List.getElem?_map] at hv'
          cases e : ks[i]? with
          | none => rw [e] at hv'; cases hv'
          | some p => rw [e] at hv'; exact ⟨p, rfl, (Option.some.inj hv').symm⟩
        · intro s' L es ep t m S g k
          obtain ⟨h', g2, d2, tk, os2⟩ := s'
          have y1 : g2 = s.gens := m.gens
          have y2 : d2 = s.drawn := m.drawn
          have y3 : os2 = s.os := m.os
          subst y1 y2 y3
          rw [sz] at g
          show wpAny _ _ _ _ _ _
          refine wpAny_pure ?_
          show wpAny _ _ (ret Value.none) _ _ _
          exact wpAny_pure (And.intro rfl ⟨h', tk, L, es, ep, t, rfl, S, g, k⟩)
      · cases r₂ with
        | error e => exact hr₂
        | ok fl₂ =>
          cases fl₂ with
          | ret r =>
            obtain ⟨rfl, h', tk, L, es, ep, t, rfl, S, g, k⟩ := hr₂
            repeat (any_goals (first | assumption | wp_step))
            exact q _ _ _ _ _ _ S g k
          | _ => exact hr₂.elim
    | _ => exact hr.elim
end
end GT
end
section
set_option Elab.async false
set_option linter.all false
set_option maxRecDepth 100000
set_option maxHeartbeats 4000000
namespace GT
open PySem PySem.Spec PyProof.Rows L2
variable {P : Program} {w : World}
abbrev At (P : Program) (w : World) (h : Heap) (k : List Key) (v : Value) : Prop := ∃ a, v = .ref a ∧ IsTupleKey (mixKind P w) h k a
theorem At.mono {h h' : Heap} {k : List Key} {v : Value} (x : At P w h k v) (e : ∀ b o, h.get? b = some o → h'.get? b = some o) : At P w h' k v := by
  obtain ⟨a, rfl, o, its, n, e1, r⟩ := x
  exact ⟨a, rfl, o, its, n, e a o e1, r⟩
end GT
end
section
set_option Elab.async false
set_option linter.all false
set_option maxRecDepth 100000
set_option maxHeartbeats 4000000
namespace GB
open PySem PySem.Spec PyProof.Rows L2 PpSet GT
variable {P : Program} {w : World}
/-- the set holds the first i -/
structure InB (bs : List Bool) (i : Nat) (S : Bool → Bool) (m : Nat) : Prop where
  mem : ∀ k, S k = decide (k ∈ bs.take i)
  num : m = (if S true = true then 1 else 0) + if S false = true then 1 else 0
theorem InB.next {bs : List Bool} {i : Nat} {S : Bool → Bool} {m : Nat} {b : Bool} (g : InB bs i S m) (e : bs[i]? = some b) : InB bs (i + 1) (fun j => S j || decide (j = b)) (if S b = true then m else m + 1) := by
  refine ⟨fun k => ?_, ?_⟩
  · rw [List.take_succ, e, g.mem k, Bool.eq_iff_iff]
    simp
  · rw [g.num]
    cases b <;> cases S true <;> cases S false <;> simp
theorem InB.le {bs : List Bool} {i : Nat} {S : Bool → Bool} {m : Nat} (g : InB bs i S m) : m ≤ 2 := by
  rw [g.num]; split <;> split <;> omega
end GB
namespace G
open PySem PySem.Spec PyProof.Rows L2
end G
end
section
set_option Elab.async false
set_option linter.all false
set_option maxRecDepth 100000
set_option maxHeartbeats 4000000
namespace G
open PySem PySem.Spec PyProof.Rows PySem.Calls
section
variable {prog : Program} {w : World} {A : Around} {E : Value → Shared → Prop} {s : Shared} {a kS : Addr} {b : Bool} {vs : List Value} {e1 : Nat} {P : PySem.Fin → Shared → Prop} {kz : List PyData}
/-- the sorting, the keys' calls kept by an invariant of one's own -/
theorem keyJ_rest {f : Value} (J : Nat → Shared → List Value → Prop) (k0 : s.heap.get? kS = some (seqObj "list" #[] 0)) (a0 : s.heap.get? a = some (seqObj "list" #[] e1)) (ne : kS ≠ a)
    (hl : kz.length = vs.length) (hz : vs.length ≤ sizeLine) (hal : PySem.W.AllAlike kz) (hs : PySem.W.Sortable kz) (hd : ∀ d, d ∈ kz → A.units + d.depth < cLine) (j0 : J 0 s [])
    (turn : ∀ (i : Nat) (v : Value) (s1 : Shared) (us : List Value) (e : Nat), vs[i]? = some v → us.length = i → J i s1 us → s1.heap.get? kS = some (seqObj "list" us.toArray e) → s1.heap.get? a = some (seqObj "list" #[] e1) →
      wpAny (model prog w) A (call f [v]) (fun u s2 => s2.heap.get? kS = some (seqObj "list" us.toArray e) ∧ s2.heap.get? a = some (seqObj "list" #[] e1) ∧ ∀ h2, Heap.SameBut kS s2.heap h2 → J (i + 1) { s2 with heap := h2 } (us ++ [u])) (fun _ _ => False) s1)
    (done : ∀ s1 us, J vs.length s1 us → PySem.W.EachIs (fun v k => ∃ as, Reads s1.heap v k as) us kz)
    (fin : ∀ s1 us h' tk out c, J vs.length s1 us → (∀ b o, b ≠ a → b ≠ kS → s1.heap.get? b = some o → h'.get? b = some o) → h'.get? a = some (seqObj "list" (List.toArray out) c) → PySem.W.KeyedOut b kz vs out → P (.done (.ret .none)) { s1 with heap := h', toks := tk }) :
    wpAny (model prog w) A (ksk_rest a f b vs.toArray e1 (.ref kS)) P E s := by
  unfold ksk_rest
  refine wpAny_bind (wpAny_rule ?_)
  first
    | rw [List.forIn_toArray]
    | (rw [← Array.forIn_toList]; simp only [List.toList_toArray])
  refine wpAny_bind (ksk_fold (fun i s1 => ∃ us e, us.length = i ∧ J i s1 us ∧ s1.heap.get? kS = some (seqObj "list" (List.toArray us) e) ∧ s1.heap.get? a = some (seqObj "list" #[] e1)) vs 0 s ⟨[], 0, rfl, j0, k0, a0⟩ ?_ ?_)
  · rintro j x s1 hx ⟨us, e, hu, hJ, k1, a1⟩
    simp only [Nat.zero_add] at hu hJ ⊢
    have hj : j < vs.length := (List.getElem?_eq_some_iff.mp hx).1
    refine wpAny_bind (wpAny_attempt (wpAny_mono (turn j x s1 us e hx hu hJ k1 a1) (fun u s2 hq => ?_) fun _ _ z => z.elim))
    obtain ⟨k2, a2, go⟩ := hq
    try dsimp only
    have sm := Heap.SameBut.update s2.heap kS (Obj.mapSeq (·.push u))
    obtain ⟨c2, hc2⟩ : ∃ c2, (s2.heap.update kS (Obj.mapSeq (·.push u))).get? kS = some (seqObj "list" (us.toArray.push u) c2) := ⟨_, get?_update_seq k2 (·.push u)⟩
    refine wpAny_bind (listUpdate_at k2 rfl ?_ (by simp; omega) (by simp; omega))
    refine wpAny_pure ⟨rfl, us ++ [u], c2, by simp [hu], go _ sm, ?_, (sm.2 a ne.symm).trans a2⟩
    rw [show (us ++ [u]).toArray = us.toArray.push u by simp]
    exact hc2
  · rintro s1 ⟨us, e, hu, hJ, k1, a1⟩
    rw [Nat.zero_add] at hu hJ
    have hk := done s1 us hJ
    try dsimp only
    refine wpAny_bind (listItems_at k1 rfl ?_)
    refine PySem.W.keyH_end (κ := PySem.W.dataKind s1.heap kz) (h₁ := PySem.W.hideAll s1.heap [kS]) (fun b o _ q => PySem.W.of_hideAll _ q) (PySem.W.hideAll_none _ (by simp)) k1 a1 ne (PySem.W.SortsAt.data (s := s1) hk hal hs hd) (by simp [hu]) hz fun h3 tk3 c q3 n3 => ?_
    exact fin s1 us h3 tk3 _ c hJ (fun b o hb hk2 q => q3 b o hb (PySem.W.hideAll_get _ q (by simp [hk2]))) n3 ⟨s1.heap, us, hal, rfl, hk⟩
theorem keyJ_tree {f : Value} {n : Nat} (J : Nat → Shared → List Value → Prop) (ho : s.heap.get? a = some (seqObj "list" vs.toArray n)) (ek : kS = s.heap.objs.size + 1)
    (hl : kz.length = vs.length) (hz : vs.length ≤ sizeLine) (hal : PySem.W.AllAlike kz) (hs : PySem.W.Sortable kz) (hd : ∀ d, d ∈ kz → A.units + d.depth < cLine) (j0 : ∀ g, (∀ b o, b ≠ a → s.heap.get? b = some o → g.get? b = some o) → J 0 { s with heap := g } [])
    (turn : ∀ (i : Nat) (v : Value) (s1 : Shared) (us : List Value) (e e1 : Nat), vs[i]? = some v → us.length = i → J i s1 us → s1.heap.get? kS = some (seqObj "list" us.toArray e) → s1.heap.get? a = some (seqObj "list" #[] e1) →
      wpAny (model prog w) A (call f [v]) (fun u s2 => s2.heap.get? kS = some (seqObj "list" us.toArray e) ∧ s2.heap.get? a = some (seqObj "list" #[] e1) ∧ ∀ h2, Heap.SameBut kS s2.heap h2 → J (i + 1) { s2 with heap := h2 } (us ++ [u])) (fun _ _ => False) s1)
    (done : ∀ s1 us, J vs.length s1 us → PySem.W.EachIs (fun v k => ∃ as, Reads s1.heap v k as) us kz)
    (fin : ∀ s1 us h' tk out c, J vs.length s1 us → (∀ b o, b ≠ a → b ≠ kS → s1.heap.get? b = some o → h'.get? b = some o) → h'.get? a = some (seqObj "list" (List.toArray out) c) → PySem.W.KeyedOut b kz vs out → P (.done (.ret .none)) { s1 with heap := h', toks := tk }) :
    wpAny (model prog w) A (ksk_tree a f b) P E s := by
  have ha : a < s.heap.objs.size := Heap.lt_size ho
  obtain ⟨e1, ho1⟩ : ∃ e1, (s.heap.update a (Obj.mapSeq fun _ => (#[] : Array Value))).get? a = some (seqObj "list" #[] e1) := ⟨_, get?_update_seq ho fun _ => #[]⟩
  have hk : ((s.heap.update a (Obj.mapSeq fun _ => (#[] : Array Value))).push (seqObj "tuple" vs.toArray 0)).objs.size = kS := by rw [size_push', Heap.size_update, ek]
  unfold ksk_tree
  refine wpAny_bind (listItems_at ho rfl (wpAny_bind (listUpdate_at ho rfl ?_ (by rw [List.size_toArray]; exact hz) (Nat.zero_le _))))
  refine wpAny_bind (seqEpoch_at ho1 rfl (wpAny_bind (wpAny_newTuple ?_ (by show vs.length ≤ _; exact hz))))
  refine wpAny_bind (wpAny_newList (wpAny_holding ?_) (Nat.zero_le _))
  rw [hk]
  refine keyJ_rest J ?_ (Heap.get?_push_of_some _ (Heap.get?_push_of_some _ ho1)) (by rw [ek]; exact Nat.ne_of_gt (Nat.lt_succ_of_lt ha)) hl hz hal hs hd (j0 _ fun b o hb q => PySem.W.sortingHeap_old hb q) (fun i v s1 us e h1 h2 h3 h4 h5 => turn i v s1 us e e1 h1 h2 h3 h4 h5) done fin
  rw [← hk]
  exact Heap.get?_push_size _ rfl
end
end G
namespace G
open PySem PySem.Spec PyProof.Rows L2
section
variable {X : Cx} {pins : List (Addr × Obj)} {σ : L2.St} {H : Hp} {s : Shared}
/-- the words of a lambda as a nested def's -/
abbrev lamNF (q : Str) (params : Arguments) (scope : Scope) (cl : List (Str × Addr)) (c' : Addr) : NdefX.NF := ⟨"<lambda>", q, params, [], scope, cl, c'⟩
/-- a lambda called where it was made: its body read in its own frame -/
theorem lam_run {N fr : List Str} {js : List Nat} {x : Str} {params : Arguments} {bd : Expr} {scope : Scope} {fo c' : Addr} {pm ctv u : Value} {v : V} {k : Nat} {tb : TE} {Q : VK} (S : NdefX.NScope N [x] fr scope) (hr : Room (k + 3) X.A) (I : L2.Inv X pins σ H s)
    (cp : NdefX.Caps X (cloFrom X.env.cells scope.names []) fr js) (ho : s.heap.get? fo = some (PySem.W.kla_obj "<lambda>" (X.env.qual ++ "<lambda>") params bd scope (cloFrom X.env.cells scope.names []) pm c' ctv)) (hc : H c' = some (LamX.CodeO c' (X.env.qual ++ "<lambda>")))
    (hbind : ∀ v : Value, bindArgs (PySem.W.kla_fn "<lambda>" (X.env.qual ++ "<lambda>") params bd scope (cloFrom X.env.cells scope.names []) pm (.ref c') ctv) ⟨[v], []⟩ = pure [(x, v)]) (ru : L2.RelV v u)
    (hb : ∀ (A : Around) (outer : List Env) (s : Shared) (H : Hp), Room k (A.deeper (NdefX.envF (lamNF (X.env.qual ++ "<lambda>") params scope (cloFrom X.env.cells scope.names []) c') fo s.heap.objs.size)) →
      PE (NdefX.ncx CX0 X.prog X.w X.K X.mg X.base N (lamNF (X.env.qual ++ "<lambda>") params scope (cloFrom X.env.cells scope.names []) c') fo A outer s H E0) bd tb)
    (q : tb (NdefX.startF N [v] (js.map (NdefX.slotAt σ))) H Q) :
    wpAny (model X.prog X.w) X.A.in1.in1 (call (.ref fo) [u]) (fun u' s' => ∃ v' H', L2.Inv X pins σ H' s' ∧ L2.RelV v' u' ∧ Q v' H' ∧ Un (frs X.stack) [] H H' s.heap s'.heap) (fun _ _ => False) s := by
  obtain ⟨⟨oc, ovs, tk, e1, e2, e3⟩, _, _⟩ := I.hok c' _ hc
  have hr1 : Room (k + 1) X.A.in1.in1 := hr.in1.in1
  have rc : codeAny (model X.prog X.w) X.A.in1.in1 (.call (.ref fo) ⟨[u], []⟩) (CR CX0 X.stack X.prog X.w H s Q E0) s := by
    refine PySem.W.kla_callFunE hr1.depth ho rfl S.co S.gen rfl ⟨c', oc, ovs, tk, rfl, e1, e2, e3⟩ ?_
    rw [hbind]
    refine wpAny_pure (wpAny_newFunctionEnv S.nocell (fun y hy => ?_) (fun h₁ hns hsb => ⟨I.nolimit.fresh _ hsb, ?_⟩) S.kind)
    · simp only [List.mem_singleton] at hy
      subst hy
      exact S.par x (by simp)
    · have kp : ∀ b o, s.heap.get? b = some o → h₁.get? b = some o := fun b o e => hsb.extBut b o (Nat.ne_of_lt (Heap.lt_size e)) (Heap.get?_push_of_some _ e)
      have J : L2.Inv (NdefX.ncx CX0 X.prog X.w X.K X.mg X.base N (lamNF (X.env.qual ++ "<lambda>") params scope (cloFrom X.env.cells scope.names []) c') fo X.A.in1.in1 X.stack s H E0) [] (NdefX.startF N [v] (js.map (NdefX.slotAt σ))) H { s with heap := h₁, toks := s.toks + ([(x, u)] : List (Str × Value)).length } :=
        NdefX.inv_startN (ps := [x]) (us := [u]) S hr1.hd I.env0.in1.in1 rfl (.cons ru .nil) (NdefX.cells_of I cp) hns kp
      refine PySem.W.kla_codeExpr (wpAny_mono ((hb _ _ s H (hr1.deeper _)).run [] _ _ H Q J q) (fun v' s' hq => ?_) fun e s' hq => hq)
      obtain ⟨w', H', J', rv, q'⟩ := hq
      exact ⟨w', H', J'.os, J'.bare, J'.base, J'.hok, rv, q'⟩
  refine wpAny_call (codeAny_mono rc fun r s' hq => ?_)
  cases r with
  | error e => exact hq
  | ok fl =>
    cases fl with
    | ret u' =>
      obtain ⟨v', H', os, bare, un, hok, r, q'⟩ := hq
      obtain ⟨hh, g, d, t, os'⟩ := s'
      obtain rfl : os' = s.os := os
      exact ⟨v', H', I.call (h' := hh) (g' := g) (d' := d) (t' := t) (ch := []) un hok bare (fun b z => absurd z (by simp)), r, q', un⟩
    | next => exact False.elim hq
    | brk => exact False.elim hq
    | cont => exact False.elim hq
/-- two untracked objects of ours are other ones now; the one may be tracked from now on -/
theorem inv_two {a c : Addr} {h' : Heap} {tk : Nat} {o : HO} (I : L2.Inv X pins σ H s) (kp : ∀ b o, b ≠ a → b ≠ c → s.heap.get? b = some o → h'.get? b = some o) (na : H a = none) (nc : H c = none) (fa : X.s_0.heap.objs.size ≤ a) (fc : X.s_0.heap.objs.size ≤ c)
    (la : a ≠ X.env.locals) (lc : c ≠ X.env.locals) (ca : ∀ x d, X.env.cells.lookup x = some d → d ≠ a ∧ d ≠ c) (pa : ∀ p ∈ X.pn ++ pins, p.1 ≠ a ∧ p.1 ≠ c) (new : ObjOk X.prog X.w (upd H a o) h' a o) : L2.Inv X pins σ (upd H a o) { s with heap := h', toks := tk } := by
  have nt : ∀ {b u}, H b = some u → b ≠ a ∧ b ≠ c := fun {b u} e => ⟨L2.ne_of_none e na, L2.ne_of_none e nc⟩
  refine I.step (g' := s.gens) (d' := s.drawn) (ch := [a, c]) (fun b hb => ?_) (fun b ob _ _ hc e _ => kp b ob (fun z => hc (by simp [z])) (fun z => hc (by simp [z])) e) (fun b ob _ _ hc e _ => ⟨ob.slots, kp b ob (fun z => hc (by simp [z])) (fun z => hc (by simp [z])) e⟩)
    (fun b ob hc e n => by rw [upd_ne (fun z => hc (by simp [z]))]; exact n) (fun b ob hc e => ⟨ob, kp b ob (fun z => hc (by simp [z])) (fun z => hc (by simp [z])) e⟩) (fun b xs e => by rw [upd_ne (nt e).1]; exact e) (fun b ob u e => by rw [upd_ne (nt e).1]; exact e) (fun b ps e => ⟨#[], by rw [upd_ne (nt e).1, e]; simp⟩) (fun m hm => ?_) (fun b u e => ?_) I.bare
  · simp only [List.mem_cons, List.not_mem_nil, or_false] at hb
    rcases hb with rfl | rfl
    · exact ⟨.inr fa, la, fun x d e => (ca x d e).1, fun p hp => (pa p hp).1⟩
    · exact ⟨.inr fc, lc, fun x d e => (ca x d e).2, fun p hp => (pa p hp).2⟩
  · obtain ⟨ob, es, ep, ho, r⟩ := hm
    exact ⟨ob, es, ep, kp _ ob (Ne.symm la) (Ne.symm lc) ho, r⟩
  · by_cases hb : b = a
    · subst hb; rw [upd_same] at e; cases e; exact new
    · rw [upd_ne hb] at e
      refine (I.hok b u e).stay (fun d v hd q => ?_) (fun d q => by rw [upd_ne (nt q).1]; exact q) fun d xs q => by rw [upd_ne (nt q).1]; exact q
      rcases hd with z | z
      · rw [z] at q ⊢; exact kp _ _ (nt e).1 (nt e).2 q
      · exact kp _ _ (nt z).1 (nt z).2 q
/-- one untracked object of ours is another one now -/
theorem inv_one {c : Addr} {h' : Heap} (I : L2.Inv X pins σ H s) (sm : Heap.SameBut c s.heap h') (nc : H c = none) (fc : X.s_0.heap.objs.size ≤ c) (lc : c ≠ X.env.locals) (ca : ∀ x d, X.env.cells.lookup x = some d → d ≠ c) (pa : ∀ p ∈ X.pn ++ pins, p.1 ≠ c) : L2.Inv X pins σ H { s with heap := h' } :=
  I.turned (t' := s.toks) (it := c) (fun b o hb q => (sm.2 b hb).trans q) nc lc (.inr fc) ca pa
end
theorem each_zip {α β γ : Type} {R : α → β → Prop} : ∀ {us : List α} {l : List β} {ks : List γ}, PySem.W.EachIs R us l → l.length = ks.length → PySem.W.EachIs (fun u (b : β × γ) => R u b.1) us (l.zip ks)
  | _, _, [], .nil, _ => .nil
  | _, _, _ :: _, .nil, e => by simp at e
  | _, _, [], .cons _ _, e => by simp at e
  | _, _, _ :: _, .cons r t, e => .cons r (each_zip t (by simpa using e))
theorem zip_snd {α β : Type} : ∀ {xs : List α} {ys : List β}, xs.length = ys.length → (xs.zip ys).map Prod.snd = ys
  | [], [], _ => rfl
  | x :: xs, y :: ys, h => by rw [List.zip_cons_cons, List.map_cons, zip_snd (by simpa using h)]
  | [], _ :: _, h => by simp at h
  | _ :: _, [], h => by simp at h
end G
end
section
set_option Elab.async false
set_option linter.all false
set_option maxRecDepth 100000
set_option maxHeartbeats 4000000
namespace G
open PySem PySem.Spec PyProof.Rows L2
variable [Tb]
section
variable {X : Cx} {pins : List (Addr × Obj)} {σ : L2.St} {H : Hp} {s : Shared}
theorem each_reads (I : L2.Inv X pins σ H s) : ∀ {ks : List D} {ws : List V} {us : List Value}, RvL X.K H ks ws → L2.Vals ws us → (∀ d ∈ ks, dat 12 d = true) → PySem.W.EachIs (fun v k => ∃ as, Reads s.heap v k as) us (ks.map tp)
  | _, _, _, .nil, .nil, _ => .nil
  | _, _, _, .cons r t, .cons a b, h => .cons ⟨[], reads0 I 12 _ _ _ (h _ List.mem_cons_self) r a⟩ (each_reads I t b fun d hd => h d (List.mem_cons_of_mem _ hd))
theorem rs_caps {K : PySem.W.Frag} {ρ : Lo} {d : D} {v : V} {N : List Str} {js : List Nat} (R : RS K H ρ σ) (r : Rv K H d v) (hN : N.length = 1 + js.length) : RS K H (some d :: js.map fun j => (ρ[j]?).join) (NdefX.startF N [v] (js.map (NdefX.slotAt σ))) := by
  unfold NdefX.startF
  refine ⟨by simp [hN], fun i e q => ?_⟩
  cases i with
  | zero =>
    have : d = e := by simpa using q
    subst this
    exact ⟨v, rfl, r⟩
  | succ i =>
    rw [List.getElem?_cons_succ, List.getElem?_map] at q
    cases ej : js[i]? with
    | none => rw [ej] at q; cases q
    | some j =>
      rw [ej] at q
      have q' : (ρ[j]?).join = some e := Option.some.inj q
      have q2 : ρ[j]? = some (some e) := by
        cases h1 : ρ[j]? with
        | none => rw [h1] at q'; cases q'
        | some o => rw [h1] at q'; exact congrArg some q'
      obtain ⟨w, h1, h2⟩ := R.2 j e q2
      refine ⟨w, ?_, h2⟩
      have hi := (List.getElem?_eq_some_iff.mp ej).1
      show (some v :: (js.map (NdefX.slotAt σ) ++ _))[i + 1]? = _
      rw [List.getElem?_cons_succ, List.getElem?_append_left (by rw [List.length_map]; exact hi), List.getElem?_map, ej]
      exact congrArg some (NdefX.slotAt_of h1)
/-- the sorting itself, the list at a being new -/
theorem sortL_core {N fr : List Str} {js : List Nat} {x : Str} {params : Arguments} {bd : Expr} {scope : Scope} {fo c' a : Addr} {pm ctv : Value} {k n tk : Nat} {fb : DE} {ρ : Lo} {h1 : AH} {Q0 : KD} {Q : VK} {H0 : Hp} {ds : List D} {vs : List V} {its : List Value} {g : Heap} {E' : Value → Shared → Prop} (S : NdefX.NScope N [x] fr scope) (hN : N.length = 1 + js.length) (hr : Room (k + 3) X.A) (I : L2.Inv X pins σ H s)
    (cp : NdefX.Caps X (cloFrom X.env.cells scope.names []) fr js) (ho : s.heap.get? fo = some (PySem.W.kla_obj "<lambda>" (X.env.qual ++ "<lambda>") params bd scope (cloFrom X.env.cells scope.names []) pm c' ctv)) (hfn : H fo = none) (hfr : fo ∉ frs X.stack) (hc : H c' = some (LamX.CodeO c' (X.env.qual ++ "<lambda>")))
    (hbind : ∀ v : Value, bindArgs (PySem.W.kla_fn "<lambda>" (X.env.qual ++ "<lambda>") params bd scope (cloFrom X.env.cells scope.names []) pm (.ref c') ctv) ⟨[v], []⟩ = pure [(x, v)])
    (hb : ∀ (A : Around) (outer : List Env) (s : Shared) (H : Hp), Room k (A.deeper (NdefX.envF (lamNF (X.env.qual ++ "<lambda>") params scope (cloFrom X.env.cells scope.names []) c') fo s.heap.objs.size)) →
      GE (NdefX.ncx CX0 X.prog X.w X.K X.mg X.base N (lamNF (X.env.qual ++ "<lambda>") params scope (cloFrom X.env.cells scope.names []) c') fo A outer s H E0) bd fb)
    (R : RS X.K H ρ σ) (Ab : Abs X.K X.w h1 H) (rL : RvL X.K H ds vs) (rI : L2.Vals vs its) (hz : its.length ≤ sizeLine) (q : SortL ds ρ js fb h1 Q0) (kH : Kp H0 H) (kq : KQ X.K X.w H0 Q0 Q)
    (kp : ∀ b o, s.heap.get? b = some o → g.get? b = some o) (ha : s.heap.objs.size ≤ a) (hoa : g.get? a = some (seqObj "list" its.toArray n)) :
    wpAny (model X.prog X.w) X.A.in1.in1 (ksk_tree a (.ref fo) false) (fun f s' => f = .done (.ret .none) ∧ L2.EP X pins σ Q (.ref a) s') E' { s with heap := g, toks := tk } := by
  obtain ⟨ks, hkl, ⟨hal, hdt, hso⟩, hkf, hnew⟩ := q.un
  have hag : g.objs.size > a := Heap.lt_size hoa
  have hL : s.heap.objs.size > X.env.locals := I.lt
  have hlo : s.heap.objs.size > fo := Heap.lt_size ho
  have hl := rL.length
  have hil := rI.length
  have nofr : ∀ b, s.heap.objs.size ≤ b → b ∉ frs X.stack := fun b hb hm => by
    rcases List.mem_cons.mp (I.stkSub b hm) with e | e
    · rw [e] at hb; omega
    · exact I.nofs hb e
  have hE := each_of (R := fun u (p : D × V) => Rv X.K H p.1 p.2 ∧ L2.RelV p.2 u) (fun a b c h1 h2 => ⟨h1, h2⟩) (rvL_paired rL) rI
  have hzl : (ds.zip vs).length = ks.length := by rw [List.length_zip, hl, Nat.min_self, hkl, hl]
  have hE2 := each_zip (ks := ks) hE hzl
  have ekz : ((ds.zip vs).zip ks).map (fun b => tp b.2) = ks.map tp := by
    rw [show (fun b : (D × V) × D => tp b.2) = tp ∘ Prod.snd from rfl, ← List.map_map, zip_snd hzl]
  have hdn : ∀ d ∈ ks, Dn 12 d := fun d hd => dat_dn 12 _ (hdt d hd)
  refine keyJ_tree (kS := g.objs.size + 1) (kz := ((ds.zip vs).zip ks).map fun b => tp b.2) (vs := its) (fun i s1 us => ∃ H3 ws, L2.Inv X pins σ H3 s1 ∧ Kp H H3 ∧ Abs X.K X.w h1 H3 ∧ RvL X.K H3 (ks.take i) ws ∧ L2.Vals ws us ∧ H3 fo = none ∧ s1.heap.get? fo = some (PySem.W.kla_obj "<lambda>" (X.env.qual ++ "<lambda>") params bd scope (cloFrom X.env.cells scope.names []) pm c' ctv) ∧ H3 (g.objs.size + 1) = none ∧ H3 a = none) hoa rfl ?_ hz ?_ ?_ ?_ ?_ ?_ ?_ ?_
  · rw [ekz, List.length_map, hkl, hl, hil]
  · rw [ekz]
    intro d hd d' hd'
    obtain ⟨p, hp, rfl⟩ := List.mem_map.mp hd
    obtain ⟨p', hp', rfl⟩ := List.mem_map.mp hd'
    exact alike_tp _ _ 12 12 (hdn p hp) (hdn p' hp') (hal _ hp _ hp')
  · rw [ekz]
    rcases hso with hs | hs
    · refine .inl fun d hd => ?_
      obtain ⟨p, hp, rfl⟩ := List.mem_map.mp hd
      obtain ⟨x, r, e⟩ := hs _ hp
      exact ⟨tp x, tpL r, by rw [e, tp, tpL]⟩
    · refine .inr fun d hd => ?_
      obtain ⟨p, hp, rfl⟩ := List.mem_map.mp hd
      obtain ⟨n1, n2⟩ := hs _ hp
      refine ⟨tp_none (hdn p hp) n1, fun xs e => ?_⟩
      cases e3 : p <;> rw [e3] at e <;> simp [tp] at e
      exact n2 _ e3
  · rw [ekz]
    intro d hd
    obtain ⟨p, hp, rfl⟩ := List.mem_map.mp hd
    have h1 := (hdn p hp).tp.1
    have h2 := hr.un
    show X.A.units + 1 + 1 + _ < _
    omega
  · intro g' hg'
    have k2 : ∀ b o, s.heap.get? b = some o → g'.get? b = some o := fun b o e => hg' b o (Nat.ne_of_lt (Nat.lt_of_lt_of_le (Heap.lt_size e) ha)) (kp b o e)
    exact ⟨H, [], I.kept (t' := tk) k2, Kp.refl _, Ab, by rw [List.take_zero]; exact .nil, .nil, hfn, k2 _ _ ho, I.hok.fresh (by omega), I.hok.fresh ha⟩
  · rintro i v s1 us e e1 hx hu ⟨H3, ws, I3, kk, A3, rl, rv, f0, fo', n1, n2⟩ k1 a1
    have hi := (List.getElem?_eq_some_iff.mp hx).1
    obtain ⟨d, hd⟩ : ∃ d, ds[i]? = some d := ⟨_, List.getElem?_eq_getElem (by omega)⟩
    obtain ⟨kd, hkd⟩ : ∃ kd, ks[i]? = some kd := ⟨_, List.getElem?_eq_getElem (by omega)⟩
    obtain ⟨w', hw, rw'⟩ := rL.get hd
    obtain ⟨u0, hu0, ru⟩ := rI.get hw
    rw [hx] at hu0; cases hu0
    have hlt1 := nofr (g.objs.size + 1) (by omega)
    have hlt2 := nofr a ha
    refine wpAny_mono (lam_run (tb := tE X.K X.w fb) (Q := fun y H4 => Kp H3 H4 ∧ Rv X.K H4 kd y ∧ Abs X.K X.w h1 H4) S hr I3 cp fo' (kk.cod _ _ hc) hbind ru (fun A o s H hr => hb A o s H hr) ⟨_, h1, _, rs_caps (R.kp kk) (rw'.kp kk) hN, A3, hkf i d kd hd hkd, fun d' h' v' H' he k' r' A' => ⟨k', he.1 ▸ r', A'.sub he.2⟩⟩) (fun u s2 hq => ?_) fun _ _ z => z
    obtain ⟨y, H4, I4, ry, ⟨k4, r4, A4⟩, un⟩ := hq
    refine ⟨un.keep _ _ k1 n1 hlt1 (by simp), un.keep _ _ a1 n2 hlt2 (by simp), fun h2 sm => ?_⟩
    have nk := un.free _ _ k1 n1 (by simp)
    refine ⟨H4, ws ++ [y], inv_one I4 sm nk (Nat.le_trans I.sz (by omega)) (Nat.ne_of_gt (by omega)) (fun x d hx => ?_) (fun p hp => ?_), kk.trans k4, A4, ?_, rv.append (.cons ry .nil), un.free _ _ fo' f0 (by simp), (sm.2 fo (Nat.ne_of_lt (by omega))).trans (un.keep _ _ fo' f0 hfr (by simp)), nk, un.free _ _ a1 n2 (by simp)⟩
    · obtain ⟨v0, o0, h0, _⟩ := I.cell x d hx
      have : s.heap.objs.size > d := Heap.lt_size h0
      exact Nat.ne_of_lt (by omega)
    · have : s.heap.objs.size > p.1 := Heap.lt_size (I.pin p hp).1
      exact Nat.ne_of_lt (by omega)
    · rw [List.take_add_one, hkd]
      exact (rl.kp k4).append (.cons r4 .nil)
  · rintro s1 us ⟨H3, ws, I3, kk, A3, rl, rv, _⟩
    rw [ekz]
    rw [List.take_of_length_le (by omega)] at rl
    exact each_reads I3 rl rv hdt
  · rintro s1 us h' tk' out cc ⟨H3, ws, I3, kk, A3, rl, rv, f0, fo', n1, n2⟩ kept hD ko
    refine ⟨rfl, ?_⟩
    have eo := PySem.W.keyedOut_each (fun b : (D × V) × D => tp b.2) ko hE2
    have hsl : (((ds.zip vs).zip ks).mergeSort (PySem.W.dataLe false fun b : (D × V) × D => tp b.2)).length = its.length := by
      rw [List.length_mergeSort, List.length_zip, hzl, Nat.min_self, hkl, hl, hil]
    have e1 : (((ds.zip vs).zip ks).mergeSort (PySem.W.dataLe false fun b : (D × V) × D => tp b.2)).map (fun b => b.1.1) = sortBy ds ks := by
      unfold sortBy
      have e2 : ((ds.zip vs).zip ks).map (fun b => (b.1.1, b.2)) = ds.zip ks := by
        have h1 : ((ds.zip vs).zip ks).map (fun b => (b.1.1, b.2)) = ((ds.zip vs).map Prod.fst).zip ks := by
          rw [List.zip_map_left]; rfl
        rw [h1, zip_fst hl]
      rw [show (fun b : (D × V) × D => b.1.1) = Prod.fst ∘ (fun b : (D × V) × D => (b.1.1, b.2)) from rfl, ← List.map_map, List.map_mergeSort (s := fun a b : D × D => dle false a.2 b.2), e2]
      intro p hp p' hp'
      have m1 : p.2 ∈ ks := (List.of_mem_zip (a := p.1) (b := p.2) hp).2
      have m2 : p'.2 ∈ ks := (List.of_mem_zip (a := p'.1) (b := p'.2) hp').2
      exact dle_tp (x := p.2) (y := p'.2) false (hdn _ m1) (hdn _ m2) (hal _ m1 _ m2)
    generalize ((ds.zip vs).zip ks).mergeSort (PySem.W.dataLe false fun b : (D × V) × D => tp b.2) = B at eo hsl e1
    have o1 : ∀ {us : List Value} {B : List ((D × V) × D)}, PySem.W.EachIs (fun u (b : (D × V) × D) => Rv X.K H b.1.1 b.1.2 ∧ L2.RelV b.1.2 u) us B → RvL X.K H (B.map fun b => b.1.1) (B.map fun b => b.1.2) ∧ L2.Vals (B.map fun b => b.1.2) us := by
      intro us B e
      induction e with
      | nil => exact ⟨.nil, .nil⟩
      | cons r _ ih => exact ⟨.cons r.1 ih.1, .cons r.2 ih.2⟩
    obtain ⟨y1, y2⟩ := o1 eo
    rw [e1] at y1
    have fa : X.s_0.heap.objs.size ≤ a := Nat.le_trans I.sz ha
    refine ⟨.ref a, upd H3 a (.lst (B.map fun b => b.1.2)), inv_two I3 kept n2 n1 fa (Nat.le_trans I.sz (by omega)) (Nat.ne_of_gt (by omega)) (Nat.ne_of_gt (by omega)) (fun x d hx => ?_) (fun p hp => ?_) ⟨by rw [List.length_map, hsl]; exact hz, out, cc, y2, hD⟩, rfl, newL_ok hnew A3 (y1.kp kk) n2 (kH.trans kk) kq⟩
    · obtain ⟨v0, o0, h0, _⟩ := I.cell x d hx
      have : s.heap.objs.size > d := Heap.lt_size h0
      exact ⟨Nat.ne_of_lt (by omega), Nat.ne_of_lt (by omega)⟩
    · have : s.heap.objs.size > p.1 := Heap.lt_size (I.pin p hp).1
      exact ⟨Nat.ne_of_lt (by omega), Nat.ne_of_lt (by omega)⟩
end
end G
namespace G
open PySem PySem.Spec PyProof.Rows L2
variable [Tb]
theorem ge_sortL {N fr : List Str} {js : List Nat} {k : Nat} {fb : DE} {c P : Addr} {x : Str} {params : Arguments} {bd : Expr} {scope : Scope} {X : Cx} {p lpos kpos pos : Pos} {e : Expr} {f : DE}
    (hm : X.mg "sorted" = none) (TB : LamX.TabB X.base X.mg c P) (hcode : X.env.code = .ref c) (hmT : (P, X.env.qual ++ "<lambda>") ∈ Tb.T) (hu : ∀ p ∈ Tb.T, p.1 = P → p.2 = X.env.qual ++ "<lambda>") (hr : Room (k + 3) X.A)
    (ha : GE X e f) (S : NdefX.NScope N [x] fr scope) (hN : N.length = 1 + js.length)
    (hb : ∀ (c' fo : Addr) (A : Around) (outer : List Env) (s : Shared) (H : Hp), Room k (A.deeper (NdefX.envF (lamNF (X.env.qual ++ "<lambda>") params scope (cloFrom X.env.cells scope.names []) c') fo s.heap.objs.size)) →
      GE (NdefX.ncx CX0 X.prog X.w X.K X.mg X.base N (lamNF (X.env.qual ++ "<lambda>") params scope (cloFrom X.env.cells scope.names []) c') fo A outer s H E0) bd fb)
    (hfree : ∀ y ∈ scope.names, y.2 = .free → X.env.scope.names.lookup y.1 = some .cell ∨ X.env.scope.names.lookup y.1 = some .free) (hfr : ∀ y ∈ fr, (y, NameKind.free) ∈ scope.names) (hjs : js.map (fun j => X.N[j]?) = fr.map some)
    (hdef : defaultsOf params X.env = ([], []) := by rfl)
    (hbind : ∀ (q : Str) (cl : List (Str × Addr)) (pm cv ctv v : Value), bindArgs (PySem.W.kla_fn "<lambda>" q params bd scope cl pm cv ctv) ⟨[v], []⟩ = pure [(x, v)] := by intro _ _ _ _ _ _; rfl)
    (hv : bootBuiltins "sorted" = some (.builtin "sorted") := by decide +kernel) (hg : Gl X "sorted" := by rfl) (hn : ("sorted" : Str) ≠ "__name__" := by decide) (hdb : (("sorted" : Str) == ("__debug__" : Str)) = false := by decide)
    (he : backTo pos (starEach [e] X.env) = (false, eval e X.env) :: backTo pos (starEach [] X.env) := by rfl) (hpl : (backTo pos (starEach [e] X.env)).any (·.1) = false := by rfl) (hst : starEach [e] X.env = (false, eval e X.env) :: starEach [] X.env := by rfl) :
    GE X (.Call (.Name "sorted" p) [e] [⟨some "key", .Lambda params bd scope lpos, kpos⟩] pos) (dSortL f js fb) := by
  refine ⟨fun pins s σ H Q I ⟨ρ, h, Q0, R, A, q, k0⟩ => ?_⟩
  refine wpAny_Call_Name_kw (ld_blt I hg hm hv ?_ hn hdb)
  refine PyProof.Rows.callWith_kw (thn ((ga_cons ha ga_nil hst).run pos pins s σ H (fun vs H' => ∃ d h', (match lsOf h' d with | some ds => SortL ds ρ js fb h' Q0 | none => False) ∧ Kp H H' ∧ RvL X.K H' [d] vs ∧ Abs X.K X.w h' H') I
    ⟨ρ, h, fun ds h1 => match ds with | [d] => (match lsOf h1 d with | some ds => SortL ds ρ js fb h1 Q0 | none => False) | _ => False, R, A, q, fun ds h' vs H' q1 k1 r1 A1 => ?_⟩) fun us s1 ⟨vs, H1, I1, r1, d, h1, q1, k1, rL, A1⟩ => ?_) he hpl (by rfl) (by rfl)
  · match ds, q1, r1 with
    | [d], q1, r1 => exact ⟨d, h', q1, k1, r1, A1⟩
    | [], q1, _ => exact q1.elim
    | _ :: _ :: _, q1, _ => exact q1.elim
  have hfree2 : ∀ y ∈ scope.names, y.2 = .free → ∃ c, X.env.cells.lookup y.1 = some c := fun y hy e => (hfree y hy e).elim (fun z => I1.ok.has _ (.inl z)) fun z => I1.ok.has _ (.inr z)
  show wpAny _ _ (evalAll [do let v ← eval (.Lambda params bd scope lpos) X.env; standAt pos; pure v]) _ _ s1
  refine wpAny_evalAll_cons (wpAny_bind (LamX.lam_make2 I1 TB hcode hmT hu A1.tabs hdef hfree2 fun fo c' pm ctv H2 s2 I2 eN T2 hf hfn hfo hco' => wpAny_bind (wpAny_standAt (wpAny_pure ?_))))
  refine wpAny_evalAll_nil ?_
  obtain ⟨k12, A2⟩ := A1.extN eN T2
  obtain ⟨v, rfl, rv⟩ := rvL_one rL
  split at q1
  · rename_i ds e1
    obtain ⟨a, vs, rfl, hq, rL'⟩ := lsOf_some A2 (rv.kp k12) e1
    obtain ⟨u, rfl, ru⟩ := vals1 r1
    cases ru
    obtain ⟨its, rits, hpls, hz⟩ := I2.list hq
    have hil : its.length ≤ sizeLine := by rw [← rits.length]; exact hz
    refine PySem.W.sorted_of_sort hpls.isList hil (PyProof.Rows.ksk_s1 _ _) (fun _ => PyProof.Rows.ksk_l1 _ _) fun E' => ?_
    show wpAny _ _ (Builtin.«list.sort» ⟨[.ref (s2.heap.objs.size + 1)], [("key", .ref fo)]⟩) _ _ _
    rw [PyProof.Rows.ksk_t1]
    exact sortL_core (tk := s2.toks) S hN hr I2 (NdefX.Caps.made I2.ok hfree hfr hjs) hf hfn hfo hco' (fun v => hbind _ _ _ _ _ v) (fun A outer s H hr => hb c' fo A outer s H hr) ((R.kp k1).kp k12) A2 rL' rits hil q1 (k1.trans k12) k0 (fun b o q => PySem.W.copyHeap_old q) (Nat.le_succ _) (PySem.W.copyHeap_at _ _)
  · exact q1.elim
end G
end
section
set_option Elab.async false
set_option linter.all false
set_option maxRecDepth 100000
set_option maxHeartbeats 4000000
namespace G
open PySem PySem.Spec PyProof.Rows L2
variable [Tb]
theorem rvL_ints {K : PySem.W.Frag} {H : Hp} : ∀ ns : List Int, RvL K H (ns.map D.int) (ns.map V.int)
  | [] => .nil
  | n :: ns => .cons (.int n) (rvL_ints ns)
theorem hu64 {k : Nat} {A : Around} (hr : Room k A) : A.units + 64 < cLine := by have := hr.un; omega
theorem hu100 {k : Nat} {A : Around} (hr : Room k A) : A.units + 100 < cLine := by have := hr.un; omega
theorem hdp {k : Nat} {A : Around} (hr : Room k A) : A.in1.in1.depth < recursionLimit := by
  have h := hr.dp
  show A.depth < recursionLimit
  omega
/-- how a lambda in a def of the top is named -/
abbrev lamQ (n : Str) : Str := (n ++ ".<locals>.") ++ "<lambda>"
/-- the law's promise, whatever tracks the script -/
def spT (K : PySem.W.Frag) (cs : List (PySem.Addr × PySem.Addr)) (m : Nat) : Sp := fun vs H Q _ => ∃ (a : PySem.Addr) (ns : List Int), vs = [.ref a] ∧ ns.length ≤ m ∧ (∀ p ∈ cs, H p.2 = some (.tbl #[])) ∧ SqL K H a (ns.map V.int) ∧ Q = fun v _ => v = .bl true
theorem tabs_new {T : List (PySem.Addr × Str)} {H : Hp} (h : ∀ p ∈ T, H p.1 = some (.tbl #[])) : LamX.Tabs T H := fun p hp => LamX.TabS.nil (h p hp)
theorem froz {P : Program} {w : World} {K : PySem.W.Frag} {mg : Str → Option Value} {base : Heap} {k m : Nat} {fa : PySem.Addr} {fd : FuncData} {x : Str} {f : FS} {cs : List (PySem.Addr × PySem.Addr)}
    (hf : ∀ ns : List Int, ns.length ≤ m → f [.rl (ns.map .int)] (fun _ => none) fun d _ => d = .bl true) (hT : ∀ p ∈ Tb.T, ∃ c, (c, p.1) ∈ cs) (F : FnG P w K mg base k fa fd [x] f) : FnOk P w K mg base CX0 k fa fd [x] (spT K cs m) := by
  have go : ∀ (H : Hp) (a : PySem.Addr) (ns : List Int), ns.length ≤ m → (∀ p ∈ cs, H p.2 = some (.tbl #[])) → RoL K H a (ns.map V.int) → spG K w f [.ref a] H (fun v _ => v = .bl true) fun _ _ _ => False := by
    intro H a ns hl ht hr
    refine ⟨[.rl (ns.map .int)], fun _ => none, fun d _ => d = .bl true, .cons (.rl hr (rvL_ints ns)) .nil, ⟨fun _ _ (e : none = some _) => (nomatch e), tabs_new fun p hp => ?_⟩, hf ns hl, fun d h' v H' e k r A => ?_⟩
    · obtain ⟨c, hc⟩ := hT p hp
      exact ht _ hc
    · subst e
      cases r
      rfl
  refine ⟨fun vs H Q E ⟨a, ns, e, _⟩ => by rw [e]; rfl, fun A outer s H args us vs Q E hr e0 hb rv ⟨a, ns, e, hl, ht, hS, eQ⟩ => ?_⟩
  subst e
  subst eQ
  rcases hS with (hS | ⟨o, hS⟩) | hS
  · obtain ⟨z, its, n, r1, r2⟩ := e0.hok a _ hS
    have ne : ∀ b u, H b = some u → (∀ ys, u ≠ .lst ys) → b ≠ a := fun b u q1 q2 q3 => by subst q3; rw [hS] at q1; cases q1; exact q2 _ rfl
    have nn : ∀ b, H b = none → b ≠ a := fun b q1 q3 => by subst q3; rw [hS] at q1; cases q1
    let H2 : Hp := upd H a (.frz { cls := .type "list", data := .seq its.toArray n } (.lst (ns.map V.int)))
    have at_ : ∀ b, b ≠ a → H2 b = H b := fun b q => upd_ne q
    have hok2 : HOk P w H2 s.heap := fun b u q => by
      by_cases hb : b = a
      · subst hb
        have q' : some (HO.frz _ _) = some u := (upd_same (H := H)).symm.trans q
        cases q'
        exact ⟨r2, z, its, n, r1, r2⟩
      · rw [at_ b hb] at q
        exact (e0.hok b u q).stay (fun _ _ _ q => q) (fun d q => by rw [at_ d (ne d _ q fun _ z => by cases z)]; exact q) fun d xs q => by rw [at_ d (ne d _ q fun _ z => by cases z)]; exact q
    have e2 : Env0 P w K mg base A outer s H2 := ⟨e0.frames, e0.mod, fun b o q => ⟨(e0.bs b o q).1, by rw [at_ b (nn b (e0.bs b o q).2)]; exact (e0.bs b o q).2⟩, e0.bsz, e0.funs, fun b q => by rw [at_ b (nn b (e0.frf b q))]; exact e0.frf b q, hok2, e0.bare⟩
    have hgo := go H2 a ns hl (fun p hp => by rw [at_ _ (ne _ _ (ht p hp) fun _ z => by cases z)]; exact ht p hp) (.inl ⟨_, upd_same⟩)
    refine codeAny_mono (F.run A outer s H2 args us _ _ _ hr e2 hb rv hgo) fun r s' q => ?_
    cases r with
    | error e =>
      exact q
    | ok fl =>
      cases fl with
      | ret u =>
        obtain ⟨v, H3, w1, w2, un, w3, w4, w5⟩ := q
        refine ⟨v, H3, w1, w2, ⟨fun b o q1 q2 => un.keep b o q1 (by rw [at_ b (nn b q2)]; exact q2), fun b o q1 q2 => un.slot b o q1 (by rw [at_ b (nn b q2)]; exact q2), fun b o q1 q2 => un.free b o q1 (by rw [at_ b (nn b q2)]; exact q2), un.there,
          fun b xs q1 => un.tups b xs (by rw [at_ b (ne b _ q1 fun _ z => by cases z)]; exact q1), fun b o u q1 => un.frzs b o u (by rw [at_ b (ne b _ q1 fun _ z => by cases z)]; exact q1), fun b ps q1 => un.tbls b ps (by rw [at_ b (ne b _ q1 fun _ z => by cases z)]; exact q1)⟩, w3, w4, w5⟩
      | _ => exact q
  · exact F.run A outer s H args us _ _ _ hr e0 hb rv (go H a ns hl ht (.inl ⟨o, hS⟩))
  · exact F.run A outer s H args us _ _ _ hr e0 hb rv (go H a ns hl ht (.inr hS))
end G
end
section
set_option Elab.async false
set_option linter.all false
set_option maxRecDepth 100000
set_option maxHeartbeats 4000000
namespace G
open PySem PySem.Spec PyProof.Rows L2
section
variable (K : PySem.W.Frag)
def WkA (x nm : Str) (st : Stmt) : Prop := ∃ f fd, PySem.W.nsIn K mainGlobals x = some (some (.ref f)) ∧ Fun K nm nm st f fd
def WkM (C : Addr) (x qn : Str) (st : Stmt) : Prop := ∃ f fd, PySem.W.findIn K (.ref C) x = some (some (.ref f)) ∧ PySem.W.isFn K (.ref f) = true ∧ Fun K x qn st f fd
structure WkC (x : Str) (C : Addr) : Prop where
  a : PySem.W.nsIn K mainGlobals x = some (some (.ref C))
  pg : PySem.W.plainGet K C Str.empty = true
  hd : PySem.W.hasDictIn K C = true
  po : PySem.W.plainOver K C = true
  sa : PySem.W.findIn K (.ref C) "__setattr__" = some (some (.builtin "object.__setattr__"))
  mkk : PySem.W.makesIn K C = true
  kc : PySem.W.keepIn K (.ref C) = true
end
section
variable {K : PySem.W.Frag} {x nm qn : Str} {st : Stmt} {f C T : Addr} {oc kV doc pm cdv ct tc : Value} {od an td : Option Addr} {osl ts : Array (Option Value)} {ti : Array Value} {tn : Nat} {vs : List V}
theorem wka_mk (a : PySem.W.nsIn K mainGlobals x = some (some (.ref f))) (l : K.lookup f = some ⟨oc, od, .func (PySem.W.fnOf nm nm (defArgs st) (defBody st) (defScope st) .none kV doc pm an cdv ct), osl⟩) (c : PySem.W.codeIn K cdv nm = true) (k : PySem.W.keepIn K (.ref f) = true) : WkA K x nm st := ⟨f, _, a, fun_mk l c k⟩
theorem wkm_mk (a : PySem.W.findIn K (.ref C) x = some (some (.ref f))) (i : PySem.W.isFn K (.ref f) = true) (l : K.lookup f = some ⟨oc, od, .func (PySem.W.fnOf x qn (defArgs st) (defBody st) (defScope st) .none kV doc pm an cdv ct), osl⟩) (c : PySem.W.codeIn K cdv qn = true) (k : PySem.W.keepIn K (.ref f) = true) : WkM K C x qn st := ⟨f, _, a, i, fun_mk l c k⟩
theorem WkC.cls (h : WkC K x C) : L2.Cls K C := ⟨h.pg, h.hd, h.po, h.sa⟩
end
variable [Tb]
section
variable (P : Program) (w : World) (K : PySem.W.Frag) (mg : Str → Option Value) (base : Heap)
structure WkCal (k : Nat) (x : Str) (ps : List Str) (F : FS) where
  f : Addr
  fd : FuncData
  G : FnG P w K mg base k f fd ps F
  m : mg x = some (.ref f)
  kp : PySem.W.keepIn K (.ref f) = true
  b : Binds K fd ps []
structure WkCalM (k : Nat) (C : Addr) (x : Str) (ps : List Str) (F : FS) where
  f : Addr
  fd : FuncData
  G : FnG P w K mg base k f fd ps F
  m : L2.Meth K C x f
  b : Binds K fd ps []
structure WkCalI (k : Nat) (C : Addr) (ps : List Str) (F : FS) where
  f : Addr
  fd : FuncData
  G : FnG P w K mg base k f fd ps F
  m : L2.Mk K C f
  b : Binds K fd ps []
end
section
variable {P : Program} {w : World} {K : PySem.W.Frag} {mg : Str → Option Value} {base h : Heap} {k : Nat} {C : Addr} {x nm qn : Str} {st : Stmt} {ps : List Str} {F : FS}
noncomputable def wkCal (X : K.In h) (N : h.Ns mainGlobals mg) (A : WkA K x nm st) (hb : ∀ (kV doc pm : Value) (an : Option Addr) (cdv ct : Value) (us : List Value), us.length = ps.length → bindArgs (PySem.W.fnOf nm nm (defArgs st) (defBody st) (defScope st) .none kV doc pm an cdv ct) ⟨us, []⟩ = pure (ps.zip us))
    (g : ∀ {f fd}, Fun K nm nm st f fd → FnG P w K mg base k f fd ps F) : WkCal P w K mg base k x ps F :=
  Classical.choice (let ⟨f, fd, a, h⟩ := A; ⟨⟨f, fd, g h, PySem.W.mg_of X N a, h.kp, h.binds hb⟩⟩)
noncomputable def wkCalM (A : WkM K C x qn st) (hb : ∀ (kV doc pm : Value) (an : Option Addr) (cdv ct : Value) (us : List Value), us.length = ps.length → bindArgs (PySem.W.fnOf x qn (defArgs st) (defBody st) (defScope st) .none kV doc pm an cdv ct) ⟨us, []⟩ = pure (ps.zip us))
    (g : ∀ {f fd}, Fun K x qn st f fd → FnG P w K mg base k f fd ps F) : WkCalM P w K mg base k C x ps F :=
  Classical.choice (let ⟨f, fd, a, i, h⟩ := A; ⟨⟨f, fd, g h, ⟨a, i, h.kp⟩, h.binds hb⟩⟩)
end
section
variable {X : Cx} {e o : Expr} {es : List Expr} {fo : DE} {fa : DA} {x m : Str} {p pos apos : Pos} {ps : List Str} {sp : FS} {k : Nat} {C : Addr}
theorem ge_wcal (c : WkCal X.prog X.w X.K X.mg X.base k x ps sp) (hr : Room k X.A) (ha : GA X (e :: es) fa) (hg : Gl X x := by rfl) (hdb : (x == ("__debug__" : Str)) = false := by decide) (he : starEach (e :: es) X.env = (false, eval e X.env) :: starEach es X.env := by rfl) (hpl : (backTo pos (starEach es X.env)).any (·.1) = false := by rfl) :
    GE X (.Call (.Name x p) (e :: es) [] pos) (dCall sp fa) := ge_call c.G hr c.m c.kp c.b ha hg hdb he hpl
theorem ge_wcalM {pl : Sem Bool} (he : GE X o fo) (c : L2.Cls X.K C) (M : WkCalM X.prog X.w X.K X.mg X.base k C m ps sp) (hr : Room k X.A) (ha : GA X (e :: es) fa)
    (hst : starEach (e :: es) X.env = (false, eval e X.env) :: starEach es X.env := by rfl) (hpl : (backTo pos (starEach es X.env)).any (·.1) = false := by rfl)
    (ht : eval (.Call (.Attribute o m apos) (e :: es) [] pos) X.env = (do
      let ov ← eval o X.env
      standAt apos.atName
      let (f, first) ← holding [ov] (getMethod ov m pl)
      callWith pos f first (backTo pos (starEach (e :: es) X.env)) (backToKw pos (keywordEach [] X.env))) := by rfl) : GE X (.Call (.Attribute o m apos) (e :: es) [] pos) (dMtc C m sp fo fa) :=
  ge_mtc he c M.m M.G hr M.b ha hst hpl ht
theorem ge_wcalM0 {pl : Sem Bool} (he : GE X o fo) (c : L2.Cls X.K C) (M : WkCalM X.prog X.w X.K X.mg X.base k C m ps sp) (hr : Room k X.A)
    (ht : eval (.Call (.Attribute o m apos) [] [] pos) X.env = (do
      let ov ← eval o X.env
      standAt apos.atName
      let (f, first) ← holding [ov] (getMethod ov m pl)
      callWith pos f first (backTo pos (starEach [] X.env)) (backToKw pos (keywordEach [] X.env))) := by rfl) : GE X (.Call (.Attribute o m apos) [] [] pos) (dMtc C m sp fo daNil) :=
  ge_mtc0 he c M.m M.G hr M.b ht
theorem ge_wcalI (M : WkCalI X.prog X.w X.K X.mg X.base k C ps sp) (hr : Room (k + 1) X.A) (hm : X.mg x = some (.ref C)) (ha : GA X (e :: es) fa) (hg : Gl X x := by rfl)
    (hdb : (x == ("__debug__" : Str)) = false := by decide) (he : starEach (e :: es) X.env = (false, eval e X.env) :: starEach es X.env := by rfl) (hpl : (backTo pos (starEach es X.env)).any (·.1) = false := by rfl) : GE X (.Call (.Name x p) (e :: es) [] pos) (dMake C sp fa) :=
  ge_make M.m M.G hr hm M.b ha hg hdb he hpl
end
end G
end
section
set_option linter.all false
set_option autoImplicit false
namespace G
open PySem (Str)
mutual
theorem pl_mono : ∀ (n m : Nat) (d : D), n ≤ m → pl n d = true → pl m d = true
  | _, _, .non, _, _ => by simp [pl]
  | _, _, .int _, _, _ => by simp [pl]
  | _, _, .str _, _, _ => by simp [pl]
  | n + 1, m + 1, .tup ds, h, e => by
    rw [pl] at e ⊢
    exact plL_mono n m ds (by omega) e
  | n + 1, 0, .tup ds, h, _ => by omega
  | 0, m, .tup ds, _, e => by simp [pl] at e
  | n, m, .bl _, _, e => by cases n <;> simp [pl] at e
  | n, m, .rl _, _, e => by cases n <;> simp [pl] at e
  | n, m, .rd _ _, _, e => by cases n <;> simp [pl] at e
  | n, m, .ref _, _, e => by cases n <;> simp [pl] at e
theorem plL_mono : ∀ (n m : Nat) (ds : List D), n ≤ m → plL n ds = true → plL m ds = true
  | _, _, [], _, _ => rfl
  | n, m, d :: ds, h, e => by
    rw [plL, Bool.and_eq_true] at e ⊢
    exact ⟨pl_mono n m d h e.1, plL_mono n m ds h e.2⟩
end
theorem plL_iff {n : Nat} : ∀ {ds : List D}, plL n ds = true ↔ ∀ d ∈ ds, pl n d = true
  | [] => by simp [plL]
  | d :: ds => by rw [plL, Bool.and_eq_true, plL_iff (ds := ds)]; simp
mutual
theorem rei_pl {h : AH} : ∀ (n : Nat) (d : D), pl n d = true → rei h n d = some d
  | n, .non, _ => by cases n <;> rfl
  | n, .int _, _ => by cases n <;> rfl
  | n, .str _, _ => by cases n <;> rfl
  | n + 1, .tup ds, e => by rw [pl] at e; rw [rei, mapO_pl n ds e]; rfl
  | 0, .tup ds, e => by simp [pl] at e
  | n, .bl _, e => by cases n <;> simp [pl] at e
  | n, .rl _, e => by cases n <;> simp [pl] at e
  | n, .rd _ _, e => by cases n <;> simp [pl] at e
  | n, .ref _, e => by cases n <;> simp [pl] at e
theorem mapO_pl {h : AH} : ∀ (n : Nat) (ds : List D), plL n ds = true → mapO (rei h n) ds = some ds
  | _, [], _ => rfl
  | n, d :: ds, e => by
    rw [plL, Bool.and_eq_true] at e
    rw [mapO, rei_pl n d e.1, mapO_pl n ds e.2]
end
mutual
/-- plain data and lists of such -/
def plq : D → Bool
  | .non => true
  | .int _ => true
  | .str _ => true
  | .tup ds => plqL ds
  | .rl ds => plqL ds
  | _ => false
def plqL : List D → Bool
  | [] => true
  | d :: ds => plq d && plqL ds
end
mutual
theorem plq_pl : ∀ (n : Nat) (d : D), pl n d = true → plq d = true
  | n, .non, _ => rfl
  | n, .int _, _ => rfl
  | n, .str _, _ => rfl
  | n + 1, .tup ds, e => by rw [pl] at e; rw [plq]; exact plqL_pl n ds e
  | 0, .tup ds, e => by simp [pl] at e
  | n, .bl _, e => by cases n <;> simp [pl] at e
  | n, .rl _, e => by cases n <;> simp [pl] at e
  | n, .rd _ _, e => by cases n <;> simp [pl] at e
  | n, .ref _, e => by cases n <;> simp [pl] at e
theorem plqL_pl : ∀ (n : Nat) (ds : List D), plL n ds = true → plqL ds = true
  | _, [], _ => rfl
  | n, d :: ds, e => by
    rw [plL, Bool.and_eq_true] at e
    rw [plqL, plq_pl n d e.1, plqL_pl n ds e.2]; rfl
end
mutual
theorem deqv_plq : ∀ (x y : D), plq x = true → plq y = true → deqv x y = decide (x = y)
  | .non, y, _, h => by cases y <;> simp_all [plq, deqv]
  | .int a, y, _, h => by cases y <;> simp_all [plq, deqv, Bool.beq_eq_decide_eq]
  | .str a, y, _, h => by cases y <;> simp_all [plq, deqv, Bool.beq_eq_decide_eq]
  | .tup a, y, e, h => by
    cases y <;> first | (simp [plq] at h; done) | (simp [deqv]; done) | skip
    rw [plq] at e h
    rw [deqv, deqvL_plq _ _ e h]; simp
  | .rl a, y, e, h => by
    cases y <;> first | (simp [plq] at h; done) | (simp [deqv]; done) | skip
    rw [plq] at e h
    rw [deqv, deqvL_plq _ _ e h]; simp
  | .bl _, y, e, _ => by simp [plq] at e
  | .rd _ _, y, e, _ => by simp [plq] at e
  | .ref _, y, e, _ => by simp [plq] at e
theorem deqvL_plq : ∀ (x y : List D), plqL x = true → plqL y = true → deqvL x y = decide (x = y)
  | [], [], _, _ => by simp [deqvL]
  | [], _ :: _, _, _ => by simp [deqvL]
  | _ :: _, [], _, _ => by simp [deqvL]
  | x :: xs, y :: ys, e, h => by
    rw [plqL, Bool.and_eq_true] at e h
    rw [deqvL, deqv_plq x y e.1 h.1, deqvL_plq xs ys e.2 h.2]
    by_cases z : x = y <;> simp [z]
end
/-- x is, lists at addresses put by value, the plain x' -/
def Pv (h : AH) (x x' : D) : Prop := rei h 12 x = some x' ∧ plq x' = true
theorem Pv.pl {h : AH} {n : Nat} {x : D} (e : pl n x = true) (hn : n ≤ 12 := by omega) : Pv h x x := ⟨rei_pl 12 x (pl_mono n 12 x hn e), plq_pl n x e⟩
theorem Pv.lst {h : AH} {a : Addr} {ds : List D} {n : Nat} (e : h a = some (.lst ds)) (hp : plL n ds = true) (hn : n ≤ 11 := by omega) : Pv h (.ref a) (.rl ds) := by
  refine ⟨?_, by rw [plq]; exact plqL_pl n ds hp⟩
  rw [rei, e]
  dsimp only
  rw [mapO_pl 11 ds (plL_mono n 11 ds hn hp)]; rfl
theorem Pv.rl {h : AH} {ds : List D} {n : Nat} (hp : plL n ds = true) (hn : n ≤ 11 := by omega) : Pv h (.rl ds) (.rl ds) := by
  refine ⟨?_, by rw [plq]; exact plqL_pl n ds hp⟩
  rw [rei, mapO_pl 11 ds (plL_mono n 11 ds hn hp)]; rfl
theorem oEqB_pv {h : AH} {x y x' y' : D} {Q : Bool → Prop} (a : Pv h x x') (b : Pv h y y') (q : Q (decide (x' = y'))) : oEqB x y h Q := by
  unfold oEqB
  rw [a.1, b.1]
  dsimp only
  rw [deqv_plq _ _ a.2 b.2]; exact q
theorem oEq_pv {h : AH} {x y x' y' : D} {Q : KD} (a : Pv h x x') (b : Pv h y y') (q : Q (.bl (decide (x' = y'))) h) : oEq x y h Q := by refine ⟨?_⟩; exact oEqB_pv a b q
theorem oNe_pv {h : AH} {x y x' y' : D} {Q : KD} (a : Pv h x x') (b : Pv h y y') (q : Q (.bl (!decide (x' = y'))) h) : oNe x y h Q := by refine ⟨?_⟩; exact oEqB_pv a b q
theorem up_at {h : AH} {a b : Addr} {o : O} {x : Option O} (n : b ≠ a) (e : h b = x) : up h a o b = x := by rw [up_ne n]; exact e
theorem ix_lst {h : AH} {a : Addr} {ds : List D} {i : Int} {Q : KD} (e : h a = some (.lst ds)) (q : ∃ d, atI ds i = some d ∧ Q d h) : oIx (.ref a) (.int i) h Q := by
  refine ⟨?_⟩
  simp only [dcOf, e, sqOf, lsOf]
  exact q
theorem ix_dic {h : AH} {a : Addr} {kvs : List (D × D)} {k : D} {Q : KD} (e : h a = some (.dic kvs)) (q : pl 8 k = true ∧ ∃ v, dget kvs k = some v ∧ Q v h) : oIx (.ref a) k h Q := by
  refine ⟨?_⟩
  simp only [dcOf, e]
  exact q
theorem ix_tup {h : AH} {ds : List D} {i : Int} {Q : KD} (q : ∃ d, atI ds i = some d ∧ Q d h) : oIx (.tup ds) (.int i) h Q := by refine ⟨?_⟩; exact q
theorem ix_rl {h : AH} {ds : List D} {i : Int} {Q : KD} (q : ∃ d, atI ds i = some d ∧ Q d h) : oIx (.rl ds) (.int i) h Q := by refine ⟨?_⟩; exact q
theorem atI_nat {α : Type} {xs : List α} {i : Nat} {x : α} (e : xs[i]? = some x) : atI xs (i : Int) = some x := by
  have := (List.getElem?_eq_some_iff.mp e).1
  unfold atI ixN
  rw [if_pos (by omega), if_pos (by omega)]
  simpa using e
theorem atI_int {α : Type} {xs : List α} {i : Int} (h0 : 0 ≤ i) (h1 : i < xs.length) : ∃ x, xs[i.toNat]? = some x ∧ atI xs i = some x := by
  have h2 : i.toNat < xs.length := by omega
  refine ⟨xs[i.toNat], by simp [h2], ?_⟩
  unfold atI ixN
  rw [if_pos h0, if_pos h1]
  simp [h2]
theorem app_lst {h : AH} {a : Addr} {ds : List D} {d : D} {Q : KD} (e : h a = some (.lst ds)) (q : ds.length < SZ ∧ Q .non (up h a (.lst (ds ++ [d])))) : mAppend (.ref a) [d] h Q := by
  unfold mAppend
  simp only [e]
  exact q
theorem isT_lst {h : AH} {a : Addr} {ds : List D} (e : h a = some (.lst ds)) : isT "list" h (.ref a) = some true := by simp [isT, e]
theorem isT_dic {h : AH} {a : Addr} {kvs : List (D × D)} (e : h a = some (.dic kvs)) : isT "dict" h (.ref a) = some true := by simp [isT, e]
theorem oIsT_lst {h : AH} {a : Addr} {ds : List D} {T : String} {Q : KD} (e : h a = some (.lst ds)) (q : Q (.bl (T == "list")) h) : oIsT T (.ref a) h Q := by
  unfold oIsT
  simp only [isT, e]
  exact q
theorem len_lst {h : AH} {a : Addr} {ds : List D} {Q : KD} (e : h a = some (.lst ds)) (q : Q (.int ds.length) h) : bLen [.ref a] h Q := by
  unfold bLen
  simp only [sqOf, lsOf, e]
  exact q
theorem mulS_s {h : AH} {x : Str} {k : Int} {Q : KD} (q : (0 ≤ k ∧ k ≤ 1) ∧ Q (.str (if k = 1 then x else PySem.Str.empty)) h) : oMulS (.str x) (.int k) h Q := by unfold oMulS; exact q
theorem fmt_str {h : AH} {y : Str} {Q : KD} (q : Q (.str y) h) : oFmt (.str y) h Q := by unfold oFmt; exact q
theorem fmt_int {h : AH} {i : Int} {Q : KD} (q : i.natAbs.log2 < 1920 ∧ Q (.str (PySem.Str.ofString (toString i))) h) : oFmt (.int i) h Q := by unfold oFmt; exact q
theorem cat_str {acc y : Str} {h : AH} {Q : Str → AH → Prop} (q : (acc ++ y).length ≤ SZ ∧ Q (acc ++ y) h) : oCat acc (.str y) h Q := by unfold oCat; exact q
theorem str_int {h : AH} {i : Int} {Q : KD} (q : i.natAbs.log2 < 1920 ∧ Q (.str (PySem.Str.ofString (toString i))) h) : bStr [.int i] h Q := by unfold bStr; exact q
theorem str_str {h : AH} {y : Str} {Q : KD} (q : Q (.str y) h) : bStr [.str y] h Q := by unfold bStr; exact q
theorem all_ls {h : AH} {x : D} {ds : List D} {Q : KD} (e : lsOf h x = some ds) (q : ∃ bs, blsOf ds = some bs ∧ Q (.bl (bs.all id)) h) : bAll [x] h Q := by
  obtain ⟨bs, g, q⟩ := q
  unfold bAll
  simp only [e, Option.bind_some, g]
  exact q
theorem bls_map : ∀ bs : List Bool, blsOf (bs.map .bl) = some bs
  | [] => rfl
  | n :: ns => by
    show (blsOf (ns.map .bl)).map (n :: ·) = _
    rw [bls_map ns]; rfl
theorem len_tup {h : AH} {ds : List D} {Q : KD} (q : Q (.int ds.length) h) : bLen [.tup ds] h Q := by unfold bLen; exact q
theorem len_rl {h : AH} {ds : List D} {Q : KD} (q : Q (.int ds.length) h) : bLen [.rl ds] h Q := by unfold bLen; exact q
theorem len_str {h : AH} {s : Str} {Q : KD} (q : Q (.int s.length) h) : bLen [.str s] h Q := by unfold bLen; exact q
theorem ls_lst {h : AH} {a : Addr} {ds : List D} (e : h a = some (.lst ds)) : lsOf h (.ref a) = some ds := by simp only [lsOf, e]
theorem ls_rl {h : AH} {ds : List D} : lsOf h (.rl ds) = some ds := rfl
theorem sq_tup {h : AH} {ds : List D} : sqOf h (.tup ds) = some ds := rfl
theorem sq_rl {h : AH} {ds : List D} : sqOf h (.rl ds) = some ds := rfl
theorem sq_lst {h : AH} {a : Addr} {ds : List D} (e : h a = some (.lst ds)) : sqOf h (.ref a) = some ds := by simp only [sqOf, lsOf, e]
theorem dict_ls {h : AH} {x : D} {ds : List D} {Q : KD} (e : lsOf h x = some ds) (q : ∃ ps, pairsOf ds = some ps ∧ (∀ x ∈ ps, pl 8 x.1 = true) ∧ newD (dputs [] ps) h Q) : bDict [x] h Q := by
  obtain ⟨ps, g, q⟩ := q
  unfold bDict
  simp only [e, Option.bind_some, g]
  exact q
theorem sl_ls {h : AH} {x : D} {ds : List D} {lo hi : Option Int} {Q : KD} (e : lsOf h x = some ds) (q : newL (cut ds lo hi) h Q) : oSl x lo hi h Q := by
  unfold oSl
  cases x <;> first | (simp only [e]; exact q) | (simp [lsOf] at e; done)
theorem rev_ls {h : AH} {x : D} {ds : List D} {Q : KD} (e : lsOf h x = some ds) (q : newL ds.reverse h Q) : oRevSl x h Q := by
  unfold oRevSl
  simp only [e]
  exact q
theorem list_sq {h : AH} {x : D} {ds : List D} {Q : KD} (e : sqOf h x = some ds) (q : newL ds h Q) : bList [x] h Q := by
  unfold bList
  simp only [e]
  exact q
theorem list_dic {h : AH} {a : Addr} {kvs : List (D × D)} {Q : KD} (e : h a = some (.dic kvs)) (q : newL (kvs.map (·.1)) h Q) : bList [.ref a] h Q := by
  unfold bList
  simp only [sqOf, lsOf, dcOf, e]
  exact q
theorem max_ls {h : AH} {x d : D} {ds : List D} {Q : KD} (e : lsOf h x = some (d :: ds)) (q : ((∀ a ∈ d :: ds, ∀ b ∈ d :: ds, alk a b = true) ∧ ∀ a ∈ d :: ds, dat 12 a = true ∧ a ≠ .non) ∧ Q (dmax d ds) h) : bMax [x] h Q := by
  unfold bMax
  cases x <;> first | (simp only [e]; exact q) | (simp [lsOf] at e; done)
theorem sum_ls {h : AH} {x : D} {ds : List D} {Q : KD} (e : lsOf h x = some ds) (q : ∃ ns, intsOf ds = some ns ∧ Q (.int ns.sum) h) : bSum [x] h Q := by
  obtain ⟨ns, g, q⟩ := q
  unfold bSum
  simp only [e, Option.bind_some, g]
  exact q
theorem sorted_ls {h : AH} {x : D} {ds : List D} {rev : Bool} {Q : KD} (e : lsOf h x = some ds) (q : sortable ds ∧ newL (ds.mergeSort (dle rev)) h Q) : bSorted rev [x] h Q := by
  unfold bSorted
  simp only [e]
  exact q
theorem walkD_lst {h : AH} {a : Addr} {ds : List D} {R : Src → AH → Prop} (e : h a = some (.lst ds)) (q : R (srcL a ds) h) : walkD h (.ref a) R := by
  unfold walkD
  simp only [e]
  exact q
theorem walkD_dic {h : AH} {a : Addr} {kvs : List (D × D)} {R : Src → AH → Prop} (e : h a = some (.dic kvs)) (q : R (srcK a (kvs.map (·.1))) h) : walkD h (.ref a) R := by
  unfold walkD
  simp only [e]
  exact q
theorem walkI_dic {h : AH} {a : Addr} {kvs : List (D × D)} {R : Src → AH → Prop} (e : h a = some (.dic kvs)) (q : R (srcI a kvs) h) : walkI h (.ref a) R := by
  unfold walkI
  simp only [e]
  exact q
theorem walkD_tup {h : AH} {ds : List D} {R : Src → AH → Prop} (q : R (srcV ds) h) : walkD h (.tup ds) R := by unfold walkD; exact q
theorem walkD_rl {h : AH} {ds : List D} {R : Src → AH → Prop} (q : R (srcV ds) h) : walkD h (.rl ds) R := by unfold walkD; exact q
theorem walkL_lst {h : AH} {a : Addr} {ds : List D} {R : Src → AH → Prop} (e : h a = some (.lst ds)) (q : R (srcL a ds) h) : walkL h (.ref a) R := by
  unfold walkL
  simp only [e]
  exact q
theorem walkL_rl {h : AH} {ds : List D} {R : Src → AH → Prop} (q : R (srcV ds) h) : walkL h (.rl ds) R := by unfold walkL; exact q
theorem newL_i {ds : List D} {h : AH} {Q : KD} (q : ∀ p, h p = none → Q (.ref p) (up h p (.lst ds))) : newL ds h Q := by unfold newL; exact q
theorem newD_i {ds : List (D × D)} {h : AH} {Q : KD} (q : ∀ p, h p = none → Q (.ref p) (up h p (.dic ds))) : newD ds h Q := by unfold newD; exact q
theorem oAdd_lst {h : AH} {a b : Addr} {xs ys : List D} {Q : KD} (e1 : h a = some (.lst xs)) (e2 : h b = some (.lst ys)) (q : xs.length + ys.length ≤ SZ ∧ newL (xs ++ ys) h Q) : addR a b h Q := by
  unfold addR
  simp only [e1, e2]
  exact q
theorem tru_lst {h : AH} {a : Addr} {ds : List D} {Q : Bool → Prop} (e : h a = some (.lst ds)) (q : Q (!ds.isEmpty)) : onB (tru h (.ref a)) Q := by
  rw [show tru h (.ref a) = some (!ds.isEmpty) by unfold tru; simp only [e]]
  exact q
theorem put_lst {h : AH} {a : Addr} {ds : List D} {i : Int} {v : D} {Q : AH → Prop} (e : h a = some (.lst ds)) (q : ∃ k, ixN ds.length i = some k ∧ Q (up h a (.lst (ds.set k v)))) : oPut (.ref a) (.int i) v h Q := by
  refine ⟨?_⟩
  simp only [e]
  exact q
theorem put_dic {h : AH} {a : Addr} {kvs : List (D × D)} {k v : D} {Q : AH → Prop} (e : h a = some (.dic kvs)) (q : pl 8 k = true ∧ kvs.length < SZ ∧ Q (up h a (.dic (dput kvs k v)))) : oPut (.ref a) k v h Q := by
  refine ⟨?_⟩
  simp only [e]
  exact q
theorem Sb.add {h0 h : AH} {a : Addr} {o : O} (s : Sb h0 h) (e : h a = some o) : Sb (up h0 a o) h := fun p u q => by
  by_cases z : p = a
  · subst z; rw [up_same] at q; rw [e, q]
  · rw [up_ne z] at q; exact s p u q
theorem Sb.upf {h0 h : AH} {a : Addr} {o : O} (s : Sb h0 h) (n : h0 a = none) : Sb h0 (up h a o) := fun p u q => by
  have : p ≠ a := fun z => by rw [z, n] at q; cases q
  rw [up_ne this]; exact s p u q
theorem Sb.at {h0 h : AH} {a : Addr} {x : O} (s : Sb h0 h) (e : h0 a = some x) : h a = some x := s a x e
theorem ne_f1 {h : AH} {a b : Addr} {o : O} (y : h b = none) (x : h a = some o) : a ≠ b := ne_of x y
theorem ne_f2 {h : AH} {a b : Addr} {o : O} (y : h b = none) (x : h a = some o) : b ≠ a := ne_of' x y
theorem Sb.nn {h0 h : AH} {a : Addr} (s : Sb h0 h) (n : h a = none) : h0 a = none := by
  cases e : h0 a with
  | none => rfl
  | some o => rw [s a o e] at n; cases n
theorem Sb.upf' {h0 h : AH} {a : Addr} {o : O} (s : Sb h0 h) (n : h a = none) : Sb h0 (up h a o) := s.upn n
theorem dget_put (kvs : List (D × D)) (k v k' : D) : dget (dput kvs k v) k' = if k = k' then some v else dget kvs k' := by
  induction kvs with
  | nil => simp [dput, dget]
  | cons p r ih =>
    obtain ⟨a, b⟩ := p
    rw [dput]
    by_cases e : a = k
    · rw [if_pos e]
      by_cases e2 : k = k'
      · simp [dget, e, e2]
      · simp [dget, e, e2]
    · rw [if_neg e]
      rw [dget, dget]
      by_cases e2 : a = k'
      · rw [if_pos e2, if_pos e2, if_neg (fun z => e (e2.trans z.symm))]
      · rw [if_neg e2, if_neg e2, ih]
theorem enum_get : ∀ {ds : List D} {n i : Nat} {d : D}, (enumD n ds)[i]? = some d → ∃ x, ds[i]? = some x ∧ d = .tup [.int ((n + i : Nat)), x]
  | [], _, _, _, h => by simp [enumD] at h
  | x :: xs, n, 0, d, h => by
    simp [enumD] at h
    exact ⟨x, rfl, by rw [← h]; rfl⟩
  | x :: xs, n, i + 1, d, h => by
    have h' : (enumD (n + 1) xs)[i]? = some d := by simpa [enumD] using h
    obtain ⟨y, h1, h2⟩ := enum_get h'
    exact ⟨y, by simpa using h1, by rw [h2, show n + 1 + i = n + (i + 1) by omega]⟩
theorem enum_len : ∀ (ds : List D) (n : Nat), (enumD n ds).length = ds.length
  | [], _ => rfl
  | _ :: xs, n => congrArg (· + 1) (enum_len xs (n + 1))
theorem cut_take {α : Type} (xs : List α) (n : Nat) : cut xs none (some (n : Int)) = xs.take n := by
  unfold cut sIx
  dsimp only
  rw [if_neg (by omega), List.drop_zero, Nat.sub_zero]
  rw [show min ((n : Int)).toNat xs.length = min n xs.length by simp]
  exact List.take_eq_take_min.symm
theorem ints_map : ∀ ns : List Int, intsOf (ns.map .int) = some ns
  | [] => rfl
  | n :: ns => by
    show (intsOf (ns.map .int)).map (n :: ·) = _
    rw [ints_map ns]; rfl
/-- lists at addresses put by value, to a depth -/
def PvN (h : AH) (n : Nat) (x x' : D) : Prop := rei h n x = some x' ∧ plq x' = true
theorem PvN.pl {h : AH} {n m : Nat} {x : D} (e : G.pl m x = true) (hn : m ≤ n := by omega) : PvN h n x x := ⟨rei_pl n x (pl_mono m n x hn e), plq_pl m x e⟩
inductive PvL (h : AH) (n : Nat) : List D → List D → Prop
  | nil : PvL h n [] []
  | cons {x x' : D} {xs xs' : List D} : PvN h n x x' → PvL h n xs xs' → PvL h n (x :: xs) (x' :: xs')
theorem PvL.map {h : AH} {n : Nat} : ∀ {xs xs' : List D}, PvL h n xs xs' → mapO (rei h n) xs = some xs' ∧ plqL xs' = true
  | _, _, .nil => ⟨rfl, rfl⟩
  | _, _, .cons a b => by
    obtain ⟨h1, h2⟩ := b.map
    refine ⟨by rw [mapO, a.1, h1], ?_⟩
    rw [plqL, a.2, h2]; rfl
theorem PvL.pl {h : AH} {n m : Nat} : ∀ {xs : List D}, plL m xs = true → m ≤ n → PvL h n xs xs
  | [], _, _ => .nil
  | x :: xs, e, hn => by
    rw [plL, Bool.and_eq_true] at e
    exact .cons (.pl e.1 hn) (PvL.pl e.2 hn)
theorem PvN.lst {h : AH} {n : Nat} {a : Addr} {ds ds' : List D} (e : h a = some (.lst ds)) (p : PvL h n ds ds') : PvN h (n + 1) (.ref a) (.rl ds') := by
  refine ⟨?_, by rw [plq]; exact p.map.2⟩
  rw [rei, e]
  dsimp only
  rw [p.map.1]; rfl
theorem PvN.rl {h : AH} {n : Nat} {ds ds' : List D} (p : PvL h n ds ds') : PvN h (n + 1) (.rl ds) (.rl ds') := by
  refine ⟨?_, by rw [plq]; exact p.map.2⟩
  rw [rei, p.map.1]; rfl
theorem PvN.tup {h : AH} {n : Nat} {ds ds' : List D} (p : PvL h n ds ds') : PvN h (n + 1) (.tup ds) (.tup ds') := by
  refine ⟨?_, by rw [plq]; exact p.map.2⟩
  rw [rei, p.map.1]; rfl
theorem oIsT_bl {h : AH} {b : Bool} {T : String} {Q : KD} (q : Q (.bl (T == "bool" || T == "int")) h) : oIsT T (.bl b) h Q := by unfold oIsT isT; exact q
theorem oIsT_int {h : AH} {b : Int} {T : String} {Q : KD} (q : Q (.bl (T == "int")) h) : oIsT T (.int b) h Q := by unfold oIsT isT; exact q
theorem oIsT_str {h : AH} {b : Str} {T : String} {Q : KD} (q : Q (.bl (T == "str")) h) : oIsT T (.str b) h Q := by unfold oIsT isT; exact q
theorem oIsT_tup {h : AH} {b : List D} {T : String} {Q : KD} (q : Q (.bl (T == "tuple")) h) : oIsT T (.tup b) h Q := by unfold oIsT isT; exact q
theorem oIsT_rl {h : AH} {b : List D} {T : String} {Q : KD} (q : Q (.bl (T == "list")) h) : oIsT T (.rl b) h Q := by unfold oIsT isT; exact q
theorem oIsT_non {h : AH} {T : String} {Q : KD} (q : Q (.bl (T == "NoneType")) h) : oIsT T .non h Q := by unfold oIsT isT; exact q
theorem sl_tup {h : AH} {ds : List D} {lo hi : Option Int} {Q : KD} (q : Q (.tup (cut ds lo hi)) h) : oSl (.tup ds) lo hi h Q := by unfold oSl; exact q
theorem sl_str {h : AH} {s : Str} {lo hi : Option Int} {Q : KD} (q : Q (.str ⟨(cut s.cps.toList lo hi).toArray⟩) h) : oSl (.str s) lo hi h Q := by unfold oSl; exact q
theorem get_dic {h : AH} {a : Addr} {kvs : List (D × D)} {k : D} {Q : KD} (e : h a = some (.dic kvs)) (q : G.pl 8 k = true ∧ Q ((dget kvs k).getD .non) h) : mGet (.ref a) [k] h Q := by
  unfold mGet
  simp only [e]
  exact q
theorem get_dic2 {h : AH} {a : Addr} {kvs : List (D × D)} {k d : D} {Q : KD} (e : h a = some (.dic kvs)) (q : G.pl 8 k = true ∧ Q ((dget kvs k).getD d) h) : mGet (.ref a) [k, d] h Q := by
  unfold mGet
  simp only [e]
  exact q
theorem setdef_dic {h : AH} {a : Addr} {kvs : List (D × D)} {k d : D} {Q : KD} (e : h a = some (.dic kvs)) (q : G.pl 8 k = true ∧ kvs.length < SZ ∧ match dget kvs k with
    | some v => Q v h
    | none => Q d (up h a (.dic (dput kvs k d)))) : mSetDef (.ref a) [k, d] h Q := by
  unfold mSetDef
  simp only [e]
  exact q
theorem ext_lst {h : AH} {a b : Addr} {xs ys : List D} {Q : KD} (e : h a = some (.lst xs)) (e2 : h b = some (.lst ys)) (q : xs.length + ys.length ≤ SZ ∧ Q .non (up h a (.lst (xs ++ ys)))) : mExtend (.ref a) [.ref b] h Q := by
  unfold mExtend
  simp only [e, e2]
  exact q
theorem pop_lst {h : AH} {a : Addr} {xs : List D} {Q : KD} (e : h a = some (.lst xs)) (q : ∃ y, xs[xs.length - 1]? = some y ∧ Q y (up h a (.lst xs.dropLast))) : mPop (.ref a) [] h Q := by
  unfold mPop
  simp only [e]
  exact q
theorem popAt_lst {h : AH} {a : Addr} {xs : List D} {i : Int} {Q : KD} (e : h a = some (.lst xs)) (q : ∃ (k : Nat) (y : D), i = (k : Int) ∧ k < 2 ^ 60 ∧ xs[k]? = some y ∧ Q y (up h a (.lst (xs.eraseIdx k)))) : mPop (.ref a) [.int i] h Q := by
  obtain ⟨k, y, rfl, h1, h2, h3⟩ := q
  unfold mPop
  simp only [e]
  have hl := (List.getElem?_eq_some_iff.mp h2).1
  refine ⟨by omega, by omega, k, y, ?_, h2, h3⟩
  unfold ixN
  rw [if_pos (by omega), if_pos (by omega)]
  simp
theorem ins_lst {h : AH} {a : Addr} {xs : List D} {i : Int} {d : D} {Q : KD} (e : h a = some (.lst xs)) (q : ∃ k : Nat, i = (k : Int) ∧ k < 2 ^ 60 ∧ xs.length < SZ ∧ Q .non (up h a (.lst (xs.take k ++ [d] ++ xs.drop k)))) : mInsert (.ref a) [.int i, d] h Q := by
  obtain ⟨k, rfl, h1, h2, h3⟩ := q
  unfold mInsert
  simp only [e]
  rw [Int.toNat_natCast]
  exact ⟨h2, by omega, by omega, h3⟩
theorem clr_dic {h : AH} {a : Addr} {kvs : List (D × D)} {Q : KD} (e : h a = some (.dic kvs)) (q : Q .non (hid h a)) : mDClear (.ref a) [] h Q := by
  unfold mDClear
  simp only [e]
  exact q
theorem clr_lst {h : AH} {a : Addr} {xs : List D} {Q : KD} (e : h a = some (.lst xs)) (q : Q .non (up h a (.lst []))) : mClear (.ref a) [] h Q := by
  unfold mClear
  simp only [e]
  exact q
theorem join_sq {h : AH} {a : Str} {y : D} {ds : List D} {Q : KD} (e : sqOf h y = some ds) (q : ∃ ys, strsOf ds = some ys ∧ (ys.map (·.length)).sum + ys.length * a.length ≤ SZ ∧ Q (.str (PySem.Str.join a ys)) h) : mJoin (.str a) [y] h Q := by
  obtain ⟨ys, g, q⟩ := q
  unfold mJoin
  simp only [e, Option.bind_some, g]
  exact q
theorem rng_get {lo : Int} {n i : Nat} {d : D} (e : (srcV (rng lo n)).ds[i]? = some d) : i < n ∧ d = .int (lo + (i : Nat)) := by
  have e' : (rng lo n)[i]? = some d := e
  have hi : i < n := by
    have := (List.getElem?_eq_some_iff.mp e').1
    simpa [rng] using this
  refine ⟨hi, ?_⟩
  simp [rng, hi] at e'
  exact e'.symm
theorem rng_len (lo : Int) (n : Nat) : (srcV (rng lo n)).ds.length = n := by simp [srcV, rng]
mutual
def dqq : D → Bool
  | .non => true
  | .bl _ => true
  | .int _ => true
  | .str _ => true
  | .tup ds => dqqL ds
  | .rl ds => dqqL ds
  | _ => false
def dqqL : List D → Bool
  | [] => true
  | d :: ds => dqq d && dqqL ds
end
mutual
theorem deqv_self : ∀ x : D, dqq x = true → deqv x x = true
  | .non, _ => rfl
  | .bl _, _ => by simp [deqv]
  | .int _, _ => by simp [deqv]
  | .str _, _ => by simp [deqv]
  | .tup ds, h => by rw [dqq] at h; rw [deqv]; exact deqvL_self ds h
  | .rl ds, h => by rw [dqq] at h; rw [deqv]; exact deqvL_self ds h
  | .rd _ _, h => by simp [dqq] at h
  | .ref _, h => by simp [dqq] at h
theorem deqvL_self : ∀ x : List D, dqqL x = true → deqvL x x = true
  | [], _ => rfl
  | d :: ds, h => by
    rw [dqqL, Bool.and_eq_true] at h
    rw [deqvL, deqv_self d h.1, deqvL_self ds h.2]; rfl
end
mutual
theorem rei_datq {h : AH} : ∀ (n : Nat) (d : D), dat n d = true → rei h n d = some d ∧ dqq d = true
  | n, .non, _ => by cases n <;> exact ⟨rfl, rfl⟩
  | n, .bl _, _ => by cases n <;> exact ⟨rfl, rfl⟩
  | n, .int _, _ => by cases n <;> exact ⟨rfl, rfl⟩
  | n, .str _, _ => by cases n <;> exact ⟨rfl, rfl⟩
  | n + 1, .tup ds, e => by
    rw [dat] at e
    obtain ⟨h1, h2⟩ := mapO_datq n ds e
    exact ⟨by rw [rei, h1]; rfl, by rw [dqq]; exact h2⟩
  | 0, .tup ds, e => by simp [dat] at e
  | n, .rl _, e => by cases n <;> simp [dat] at e
  | n, .rd _ _, e => by cases n <;> simp [dat] at e
  | n, .ref _, e => by cases n <;> simp [dat] at e
theorem mapO_datq {h : AH} : ∀ (n : Nat) (ds : List D), datL n ds = true → mapO (rei h n) ds = some ds ∧ dqqL ds = true
  | _, [], _ => ⟨rfl, rfl⟩
  | n, d :: ds, e => by
    rw [datL, Bool.and_eq_true] at e
    obtain ⟨h1, h2⟩ := rei_datq (h := h) n d e.1
    obtain ⟨h3, h4⟩ := mapO_datq (h := h) n ds e.2
    exact ⟨by rw [mapO, h1, h3], by rw [dqqL, h2, h4]; rfl⟩
end
mutual
theorem dat_mono : ∀ (n m : Nat) (d : D), n ≤ m → dat n d = true → dat m d = true
  | _, _, .non, _, _ => by simp [dat]
  | _, _, .bl _, _, _ => by simp [dat]
  | _, _, .int _, _, _ => by simp [dat]
  | _, _, .str _, _, _ => by simp [dat]
  | n + 1, m + 1, .tup ds, h, e => by
    rw [dat] at e ⊢
    exact datL_mono n m ds (by omega) e
  | n + 1, 0, .tup ds, h, _ => by omega
  | 0, m, .tup ds, _, e => by simp [dat] at e
  | n, m, .rl _, _, e => by cases n <;> simp [dat] at e
  | n, m, .rd _ _, _, e => by cases n <;> simp [dat] at e
  | n, m, .ref _, _, e => by cases n <;> simp [dat] at e
theorem datL_mono : ∀ (n m : Nat) (ds : List D), n ≤ m → datL n ds = true → datL m ds = true
  | _, _, [], _, _ => rfl
  | n, m, d :: ds, h, e => by
    rw [datL, Bool.and_eq_true] at e ⊢
    exact ⟨dat_mono n m d h e.1, datL_mono n m ds h e.2⟩
end
theorem datL_iff {n : Nat} : ∀ {ds : List D}, datL n ds = true ↔ ∀ d ∈ ds, dat n d = true
  | [] => by simp [datL]
  | d :: ds => by rw [datL, Bool.and_eq_true, datL_iff (ds := ds)]; simp
/-- x is, lists at addresses put by value, z -/
def Dv (h : AH) (n : Nat) (x z : D) : Prop := rei h n x = some z ∧ dqq z = true
theorem Dv.dat {h : AH} {n m : Nat} {x : D} (e : G.dat m x = true) (hn : m ≤ n := by omega) : Dv h n x x := rei_datq n x (dat_mono m n x hn e)
inductive DvL (h : AH) (n : Nat) : List D → List D → Prop
  | nil : DvL h n [] []
  | cons {x x' : D} {xs xs' : List D} : Dv h n x x' → DvL h n xs xs' → DvL h n (x :: xs) (x' :: xs')
theorem DvL.map {h : AH} {n : Nat} : ∀ {xs xs' : List D}, DvL h n xs xs' → mapO (rei h n) xs = some xs' ∧ dqqL xs' = true
  | _, _, .nil => ⟨rfl, rfl⟩
  | _, _, .cons a b => by
    obtain ⟨h1, h2⟩ := b.map
    refine ⟨by rw [mapO, a.1, h1], ?_⟩
    rw [dqqL, a.2, h2]; rfl
theorem DvL.dat {h : AH} {n m : Nat} : ∀ {xs : List D}, datL m xs = true → m ≤ n → DvL h n xs xs
  | [], _, _ => .nil
  | x :: xs, e, hn => by
    rw [datL, Bool.and_eq_true] at e
    exact .cons (.dat e.1 hn) (DvL.dat e.2 hn)
theorem Dv.lst {h : AH} {n : Nat} {a : Addr} {ds ds' : List D} (e : h a = some (.lst ds)) (p : DvL h n ds ds') : Dv h (n + 1) (.ref a) (.rl ds') := by
  refine ⟨?_, by rw [dqq]; exact p.map.2⟩
  rw [rei, e]
  dsimp only
  rw [p.map.1]; rfl
theorem Dv.rl {h : AH} {n : Nat} {ds ds' : List D} (p : DvL h n ds ds') : Dv h (n + 1) (.rl ds) (.rl ds') := by
  refine ⟨?_, by rw [dqq]; exact p.map.2⟩
  rw [rei, p.map.1]; rfl
theorem Dv.tup {h : AH} {n : Nat} {ds ds' : List D} (p : DvL h n ds ds') : Dv h (n + 1) (.tup ds) (.tup ds') := by
  refine ⟨?_, by rw [dqq]; exact p.map.2⟩
  rw [rei, p.map.1]; rfl
theorem oNe_same {h : AH} {x y z : D} {Q : KD} (a : Dv h 12 x z) (b : Dv h 12 y z) (q : Q (.bl false) h) : oNe x y h Q := by
  refine ⟨?_⟩; unfold oEqB
  rw [a.1, b.1]
  dsimp only
  rw [deqv_self z a.2]; exact q
theorem deqv_nil (xs : List D) : deqv (.rl xs) (.rl []) = xs.isEmpty := by cases xs <;> simp [deqv, deqvL]
theorem oEq_nil {h : AH} {x y : D} {xs : List D} {Q : KD} (a : Dv h 12 x (.rl xs)) (b : Dv h 12 y (.rl [])) (q : Q (.bl xs.isEmpty) h) : oEq x y h Q := by
  refine ⟨?_⟩; unfold oEqB
  rw [a.1, b.1]
  dsimp only
  rw [deqv_nil]; exact q
theorem mulOk_l {i j : Int} (a : -18446744073709551616 < i) (b : i < 18446744073709551616) : mulOk i j := .inl ⟨by simpa using a, by simpa using b⟩
theorem mulOk_r {i j : Int} (a : -18446744073709551616 < j) (b : j < 18446744073709551616) : mulOk i j := .inr (.inl ⟨by simpa using a, by simpa using b⟩)
theorem ix_str {h : AH} {s : Str} {i : Int} {Q : KD} (q : ∃ c, atI s.cps.toList i = some c ∧ Q (.str ⟨#[c]⟩) h) : oIx (.str s) (.int i) h Q := by refine ⟨?_⟩; exact q
theorem any_plq {x : D} (hx : plq x = true) : ∀ {ds : List D}, plqL ds = true → (ds.any fun y => deqv y x) = decide (x ∈ ds)
  | [], _ => rfl
  | d :: ds, e => by
    rw [plqL, Bool.and_eq_true] at e
    rw [List.any_cons, any_plq hx e.2, deqv_plq _ _ e.1 hx]
    by_cases z : d = x
    · subst z; simp
    · have z' : ¬ x = d := fun w => z w.symm
      simp [z, z']
theorem inB_lst {h : AH} {a : Addr} {ds ds' : List D} {x x' : D} {Q : Bool → Prop} (e : h a = some (.lst ds)) (ex : Pv h x x') (ed : PvL h 12 ds ds') (q : Q (decide (x' ∈ ds'))) : oInB x (.ref a) h Q := by
  unfold oInB
  simp only [dcOf, e, sqOf, lsOf, Option.bind_some, ex.1, ed.map.1]
  rw [any_plq ex.2 ed.map.2]
  exact q
theorem in_lst {h : AH} {a : Addr} {ds : List D} {x : D} {Q : KD} (e : h a = some (.lst ds)) (q : ∃ x' ds', Pv h x x' ∧ PvL h 12 ds ds' ∧ Q (.bl (decide (x' ∈ ds'))) h) : oIn x (.ref a) h Q := by
  obtain ⟨x', ds', ex, ed, q⟩ := q
  refine ⟨?_⟩
  exact inB_lst e ex ed q
theorem notIn_lst {h : AH} {a : Addr} {ds : List D} {x : D} {Q : KD} (e : h a = some (.lst ds)) (q : ∃ x' ds', Pv h x x' ∧ PvL h 12 ds ds' ∧ Q (.bl (!decide (x' ∈ ds'))) h) : oNotIn x (.ref a) h Q := by
  obtain ⟨x', ds', ex, ed, q⟩ := q
  refine ⟨?_⟩
  exact inB_lst e ex ed q
theorem get_map {α : Type} {f : α → D} {xs : List α} {i : Nat} {d : D} (e : (xs.map f)[i]? = some d) : ∃ x, xs[i]? = some x ∧ f x = d := by
  rw [List.getElem?_map] at e
  cases h : xs[i]? with
  | none => rw [h] at e; cases e
  | some x => rw [h] at e; exact ⟨x, rfl, Option.some.inj e⟩
theorem in_tup {h : AH} {ds : List D} {x : D} {Q : KD} (q : ∃ x' ds', Pv h x x' ∧ PvL h 12 ds ds' ∧ Q (.bl (decide (x' ∈ ds'))) h) : oIn x (.tup ds) h Q := by
  obtain ⟨x', ds', ex, ed, q⟩ := q
  refine ⟨?_⟩; unfold oInB
  simp only [dcOf, sqOf, Option.bind_some, ex.1, ed.map.1]
  rw [any_plq ex.2 ed.map.2]
  exact q
theorem min_ii {h : AH} {i j : Int} {Q : KD} (q : Q (.int (if j < i then j else i)) h) : bMin [.int i, .int j] h Q := by unfold bMin; exact q
theorem max_ii {h : AH} {i j : Int} {Q : KD} (q : Q (.int (if j > i then j else i)) h) : bMax [.int i, .int j] h Q := by unfold bMax; exact q
theorem onT_i {b : Bool} {p q : Prop} (h1 : b = true → p) (h0 : b = false → q) : onT b p q := by
  cases b with
  | true => exact h1 rfl
  | false => exact h0 rfl
theorem onT_d {c : Prop} [Decidable c] {p q : Prop} (h1 : c → p) (h0 : ¬ c → q) : onT (decide c) p q := onT_i (fun e => h1 (of_decide_eq_true e)) (fun e => h0 (of_decide_eq_false e))
theorem onT_nd {c : Prop} [Decidable c] {p q : Prop} (h0 : ¬ c → p) (h1 : c → q) : onT (!decide c) p q := onT_i (fun e => h0 (by simpa using e)) (fun e => h1 (by simpa using e))
structure Bx (C : Prop) : Prop where
  un : C
theorem join {α : Type} {H C : α → Prop} {g : Prop} (m : (∀ a, H a → Bx (C a)) → g) (k : ∀ a, H a → C a) : g := m fun a h => ⟨k a h⟩
theorem oEq_ss {h : AH} {x y : Str} {Q : KD} (q : Q (.bl (decide (x = y))) h) : oEq (.str x) (.str y) h Q := by
  refine oEq_pv (.pl (n := 0) rfl) (.pl (n := 0) rfl) ?_
  rw [show decide (D.str x = D.str y) = decide (x = y) by simp]; exact q
theorem oNe_ss {h : AH} {x y : Str} {Q : KD} (q : Q (.bl (!decide (x = y))) h) : oNe (.str x) (.str y) h Q := by
  refine oNe_pv (.pl (n := 0) rfl) (.pl (n := 0) rfl) ?_
  rw [show decide (D.str x = D.str y) = decide (x = y) by simp]; exact q
theorem oEq_ii {h : AH} {x y : Int} {Q : KD} (q : Q (.bl (decide (x = y))) h) : oEq (.int x) (.int y) h Q := by
  refine oEq_pv (.pl (n := 0) rfl) (.pl (n := 0) rfl) ?_
  rw [show decide (D.int x = D.int y) = decide (x = y) by simp]; exact q
theorem oNe_ii {h : AH} {x y : Int} {Q : KD} (q : Q (.bl (!decide (x = y))) h) : oNe (.int x) (.int y) h Q := by
  refine oNe_pv (.pl (n := 0) rfl) (.pl (n := 0) rfl) ?_
  rw [show decide (D.int x = D.int y) = decide (x = y) by simp]; exact q
theorem oEq_sst {h : AH} {x y : Str} {Q : KD} (e : x = y) (q : Q (.bl true) h) : oEq (.str x) (.str y) h Q := oEq_ss (by rw [decide_eq_true e]; exact q)
theorem oEq_ssf {h : AH} {x y : Str} {Q : KD} (e : ¬ x = y) (q : Q (.bl false) h) : oEq (.str x) (.str y) h Q := oEq_ss (by rw [decide_eq_false e]; exact q)
theorem oNe_sst {h : AH} {x y : Str} {Q : KD} (e : x = y) (q : Q (.bl false) h) : oNe (.str x) (.str y) h Q := oNe_ss (by rw [decide_eq_true e]; exact q)
theorem oNe_ssf {h : AH} {x y : Str} {Q : KD} (e : ¬ x = y) (q : Q (.bl true) h) : oNe (.str x) (.str y) h Q := oNe_ss (by rw [decide_eq_false e]; exact q)
theorem oEq_iit {h : AH} {x y : Int} {Q : KD} (e : x = y) (q : Q (.bl true) h) : oEq (.int x) (.int y) h Q := oEq_ii (by rw [decide_eq_true e]; exact q)
theorem oEq_iif {h : AH} {x y : Int} {Q : KD} (e : ¬ x = y) (q : Q (.bl false) h) : oEq (.int x) (.int y) h Q := oEq_ii (by rw [decide_eq_false e]; exact q)
theorem oNe_iit {h : AH} {x y : Int} {Q : KD} (e : x = y) (q : Q (.bl false) h) : oNe (.int x) (.int y) h Q := oNe_ii (by rw [decide_eq_true e]; exact q)
theorem oNe_iif {h : AH} {x y : Int} {Q : KD} (e : ¬ x = y) (q : Q (.bl true) h) : oNe (.int x) (.int y) h Q := oNe_ii (by rw [decide_eq_false e]; exact q)
theorem sortK_ls {i : Nat} {h : AH} {x : D} {ds : List D} {Q : KD} (e : lsOf h x = some ds) (q : (∀ d ∈ ds, ∃ xs y, d = .tup xs ∧ xs[i]? = some y) ∧ sortable (ds.map (kAt i)) ∧ newL (ds.mergeSort fun a b => dle false (kAt i a) (kAt i b)) h Q) : oSortK i x h Q := by
  unfold oSortK
  simp only [e]
  exact q
theorem dput_keysP : ∀ (kvs : List (D × D)) (k v : D), (dput kvs k v).map (·.1) = if k ∈ kvs.map (·.1) then kvs.map (·.1) else kvs.map (·.1) ++ [k]
  | [], k, v => by simp [dput]
  | (a, b) :: r, k, v => by
    rw [dput]
    by_cases e : a = k
    · rw [if_pos e]; simp [e]
    · rw [if_neg e, List.map_cons, dput_keysP r k v]
      have e' : ¬ k = a := fun z => e z.symm
      by_cases h : k ∈ r.map (·.1)
      · rw [if_pos h, if_pos (show k ∈ ((a, b) :: r).map (·.1) from List.mem_cons_of_mem _ h)]; rfl
      · rw [if_neg h, if_neg (show ¬ k ∈ ((a, b) :: r).map (·.1) by simp only [List.map_cons, List.mem_cons, not_or]; exact ⟨e', h⟩)]; rfl
theorem cut_drop {α : Type} (xs : List α) (n : Nat) : cut xs (some (n : Int)) none = xs.drop n := by
  unfold cut sIx
  dsimp only
  rw [if_neg (by omega), show min ((n : Int)).toNat xs.length = min n xs.length by simp]
  by_cases h : n ≤ xs.length
  · rw [Nat.min_eq_left h, List.take_of_length_le (by simp)]
  · rw [Nat.min_eq_right (by omega), List.drop_length, List.drop_eq_nil_of_le (by omega)]; simp
theorem addL_ls {h : AH} {x y : D} {xs ys : List D} {Q : KD} (e1 : lsOf h x = some xs) (e2 : lsOf h y = some ys) (q : xs.length + ys.length ≤ SZ ∧ newL (xs ++ ys) h Q) : oAddL x y h Q := by
  refine ⟨?_⟩
  simp only [e1, e2]
  exact q
theorem step_ls {h : AH} {x : D} {ds : List D} {k : Int} {Q : KD} (e : lsOf h x = some ds) (q : 0 < k ∧ newL (stepD k ds) h Q) : oStep x (.int k) h Q := by
  refine ⟨?_⟩
  simp only [e]
  exact q
theorem step_len {k : Int} {ds : List D} (hk : 0 < k) : (stepD k ds).length ≤ ds.length := by
  refine Nat.le_trans (List.length_filterMap_le _ _) ?_
  unfold stepIx
  rw [List.length_map, List.length_range]
  split
  · rename_i h
    have h1 : ((ds.length : Int) - 0 + k - 1) / k ≤ ds.length := by
      apply Int.ediv_le_of_le_mul hk
      have : 0 ≤ ((ds.length : Int) - 1) * (k - 1) := Int.mul_nonneg (by omega) (by omega)
      have e : ((ds.length : Int) - 1) * (k - 1) = ds.length * k - ds.length - k + 1 := by
        rw [Int.sub_mul, Int.mul_sub, Int.mul_sub, Int.mul_one, Int.one_mul, Int.mul_one]; omega
      omega
    omega
  · simp
theorem cut_len {α : Type} (xs : List α) (lo hi : Option Int) : (cut xs lo hi).length ≤ xs.length := by
  unfold cut
  rw [List.length_take, List.length_drop]; omega
theorem index_ls {h : AH} {x v : D} {ds : List D} {Q : KD} (e : lsOf h x = some ds) (q : (∀ d ∈ ds, pl 8 d = true) ∧ pl 8 v = true ∧ ∃ j : Nat, ds[j]? = some v ∧ (∀ i, i < j → ds[i]? ≠ some v) ∧ Q (.int j) h) : mIndex x [v] h Q := by
  unfold mIndex
  simp only [e]
  exact q
theorem in_dic {h : AH} {a : Addr} {kvs : List (D × D)} {x : D} {Q : KD} (e : h a = some (.dic kvs)) (q : pl 8 x = true ∧ Q (.bl (decide (x ∈ kvs.map (·.1)))) h) : oIn x (.ref a) h Q := by
  refine ⟨?_⟩; unfold oInB
  simp only [dcOf, e]
  exact q
theorem notIn_dic {h : AH} {a : Addr} {kvs : List (D × D)} {x : D} {Q : KD} (e : h a = some (.dic kvs)) (q : pl 8 x = true ∧ Q (.bl (!decide (x ∈ kvs.map (·.1)))) h) : oNotIn x (.ref a) h Q := by
  refine ⟨?_⟩; unfold oInB
  simp only [dcOf, e]
  exact q
theorem mul_lst {h : AH} {a : Addr} {xs : List D} {k : Int} {Q : KD} (e : h a = some (.lst xs)) (q : ∃ n : Nat, k = (n : Int) ∧ xs.length * n ≤ SZ ∧ n < 2 ^ 60 ∧ newL (List.replicate n xs).flatten h Q) : mulR a k h Q := by
  obtain ⟨n, rfl, h1, h2, h3⟩ := q
  unfold mulR
  simp only [e]
  rw [Int.toNat_natCast]
  exact ⟨⟨by omega, by omega⟩, h1, h3⟩
theorem rep_one {α : Type} (n : Nat) (x : α) : (List.replicate n [x]).flatten = List.replicate n x := by
  induction n with
  | zero => rfl
  | succ n ih => rw [List.replicate_succ, List.flatten_cons, ih, List.replicate_succ]; rfl
theorem fill_dic {h : AH} {p : Addr} {ps : List (D × D)} {Q : KD} (e : h p = some (.dic [])) (q : ps.length ≤ 15 ∧ (∀ x ∈ ps, pl 8 x.1 = true) ∧ Q (.ref p) (up h p (.dic (dputs [] ps)))) : fillD (.ref p) ps h Q := ⟨⟨e, q⟩⟩
theorem countP_plq {x : D} (hx : plq x = true) : ∀ {ds : List D}, plqL ds = true → (ds.countP fun y => deqv y x) = ds.countP fun y => decide (y = x)
  | [], _ => rfl
  | d :: ds, e => by
    rw [plqL, Bool.and_eq_true] at e
    rw [List.countP_cons, List.countP_cons, countP_plq hx e.2, deqv_plq _ _ e.1 hx]
theorem count_ls {h : AH} {x v : D} {ds : List D} {Q : KD} (e : lsOf h x = some ds) (q : plL 8 ds = true ∧ pl 8 v = true ∧ Q (.int ((ds.countP fun y => decide (y = v) : Nat) : Int)) h) : mCount x [v] h Q := by
  unfold mCount
  obtain ⟨q1, q2, q3⟩ := q
  simp only [e, Option.bind_some, mapO_pl 12 ds (plL_mono 8 12 ds (by omega) q1), rei_pl 12 v (pl_mono 8 12 v (by omega) q2)]
  rw [countP_plq (plq_pl 8 v q2) (plqL_pl 8 ds q1)]
  exact q3
theorem dput_new : ∀ {kvs : List (D × D)} {k v : D}, k ∉ kvs.map (·.1) → dput kvs k v = kvs ++ [(k, v)]
  | [], _, _, _ => rfl
  | (a, b) :: r, k, v, h => by
    rw [dput, if_neg (fun e => h (by simp [e])), dput_new fun q => h (List.mem_cons_of_mem _ q)]; rfl
theorem sortI_ls {h : AH} {x : D} {ds : List D} {Q : KD} (e : lsOf h x = some ds) (q : incK ds ∧ newL ds h Q) : bSortI [x] h Q := by
  unfold bSortI
  simp only [e]
  exact q
theorem sortD_ls {h : AH} {x : D} {ds : List D} {Q : KD} (e : lsOf h x = some ds) (q : sortable ds ∧ newL (ds.mergeSort (dle false)) h Q) : bSortD [x] h Q := by
  unfold bSortD
  simp only [e]
  exact q
theorem sortD_dic {h : AH} {a : Addr} {kvs : List (D × D)} {Q : KD} (e : h a = some (.dic kvs)) (q : sortable (kvs.map (·.1)) ∧ newL ((kvs.map (·.1)).mergeSort (dle false)) h Q) : bSortD [.ref a] h Q := by
  unfold bSortD
  have e1 : lsOf h (.ref a) = none := by simp only [lsOf, e]
  have e2 : dcOf h (.ref a) = some kvs := by simp only [dcOf, e]
  simp only [e1, e2]
  exact q
theorem oIsT_dic {h : AH} {a : Addr} {kvs : List (D × D)} {T : String} {Q : KD} (e : h a = some (.dic kvs)) (q : Q (.bl (T == "dict")) h) : oIsT T (.ref a) h Q := by
  unfold oIsT isT
  simp only [e]
  exact q
theorem fld_at {h : AH} {p C : Addr} {f : Str} {fs : List (Str × D)} {Q : KD} (e : h p = some (.ins C fs)) (q : ∃ v, fs.lookup f = some v ∧ Q v h) : oFld C f (.ref p) h Q := ⟨by unfold insOf; dsimp only; rw [e]; exact ⟨rfl, q⟩⟩
theorem mtc_at {h : AH} {p C : Addr} {m : Str} {fs : List (Str × D)} {R : Addr → Prop} (e : h p = some (.ins C fs)) (q : fs.lookup m = none ∧ R p) : oMtc C m (.ref p) h R := ⟨by unfold insOf; dsimp only; rw [e]; exact ⟨rfl, q⟩⟩
theorem setF_at {h : AH} {p C : Addr} {f : Str} {v : D} {fs : List (Str × D)} {Q : AH → Prop} (e : h p = some (.ins C fs)) (q : fs.length < 999 ∧ Q (up h p (.ins C (putD f v fs)))) : oSetF C f (.ref p) v h Q := ⟨by unfold insOf; dsimp only; rw [e]; exact ⟨rfl, q⟩⟩
theorem make_i {h : AH} {C : Addr} {f : FS} {ds : List D} {Q : KD} (q : ∀ x, h x = none → f (.ref x :: ds) (up h x (.ins C [])) fun d h2 => d = .non ∧ Q (.ref x) h2) : oMake C f ds h Q := ⟨q⟩
theorem dicZ_ls {h : AH} {x : D} {ds b : List D} {Q : KD} (e : lsOf h x = some ds) (q : (∀ k ∈ ds, pl 8 k = true) ∧ newD (dputs [] (ds.zip b)) h Q) : oDicZ [x, .tup b] h Q := ⟨by dsimp only; rw [e]; exact q⟩
theorem sortVS_dic {h : AH} {a : Addr} {i : Nat} {kvs : List (D × D)} {Q : KD} (e : h a = some (.dic kvs)) (q : (∀ v ∈ kvs.map (·.2), ∃ xs ns, v = .tup xs ∧ xs[i]? = some (.tup (List.map D.int ns))) ∧ newL ((kvs.map (·.2)).mergeSort fun a b => decide (sumAt i a ≤ sumAt i b)) h Q) : oSortVS i (.ref a) h Q := ⟨by simp only [dcOf, e]; exact q⟩
theorem sortKF_dic {h : AH} {a p C : Addr} {f : Str} {kvs : List (D × D)} {fs : List (Str × D)} {Q : KD} (e : h a = some (.dic kvs)) (e2 : h p = some (.ins C fs)) (q : ∃ r kv, fs.lookup f = some (.ref r) ∧ h r = some (.dic kv) ∧ (∀ k ∈ kvs.map (·.1), ∃ v, dget kv k = some v) ∧ sortable ((kvs.map (·.1)).map (dAt kv)) ∧
        newL ((kvs.map (·.1)).mergeSort fun a b => dle false (dAt kv a) (dAt kv b)) h Q) : oSortKF C f (.ref a) (.ref p) h Q := ⟨by simp only [dcOf, e]; unfold insOf; dsimp only; rw [e2]; exact ⟨rfl, q⟩⟩
theorem listV_dic {h : AH} {a : Addr} {kvs : List (D × D)} {Q : KD} (e : h a = some (.dic kvs)) (q : newL (kvs.map (·.2)) h Q) : oListV (.ref a) h Q := ⟨by simp only [dcOf, e]; exact q⟩
theorem lenSet_ls {h : AH} {x : D} {ds : List D} {Q : KD} (e : lsOf h x = some ds) (q : ∃ l : List (List Int), ds = intTups l ∧ l.Nodup ∧ l.length < 64 ∧ Q (.int l.length) h) : oLenSet x h Q := ⟨by rw [e]; exact q⟩
theorem isB_bl {h : AH} {a b : Bool} {Q : KD} (q : Q (.bl (a == b)) h) : oIsB b (.bl a) h Q := ⟨q⟩
theorem notB_bl {h : AH} {a b : Bool} {Q : KD} (q : Q (.bl (!(a == b))) h) : oNotB b (.bl a) h Q := ⟨q⟩
theorem rev_lst {h : AH} {a : Addr} {ds : List D} {Q : KD} (e : h a = some (.lst ds)) (q : Q .non (up h a (.lst ds.reverse))) : mReverse (.ref a) [] h Q := ⟨by dsimp only; rw [e]; exact q⟩
theorem dget_map {α : Type} {k : α → D} {v : α → D} : ∀ {T : List α}, (T.map k).Nodup → ∀ {x : α}, x ∈ T → dget (T.map fun x => (k x, v x)) (k x) = some (v x)
  | [], _, x, h => by cases h
  | y :: T, hn, x, h => by
    rw [List.map_cons, List.nodup_cons] at hn
    rw [List.map_cons, dget]
    rcases List.mem_cons.mp h with e | h
    · subst e; rw [if_pos rfl]
    · rw [if_neg (fun z => hn.1 (by rw [z]; exact List.mem_map_of_mem h))]
      exact dget_map hn.2 h
theorem dget_noneM {α : Type} {k : α → D} {v : α → D} {d : D} : ∀ {T : List α}, d ∉ T.map k → dget (T.map fun x => (k x, v x)) d = none
  | [], _ => rfl
  | y :: T, h => by
    rw [List.map_cons, List.mem_cons, not_or] at h
    rw [List.map_cons, dget, if_neg (fun z => h.1 z.symm)]
    exact dget_noneM h.2
theorem dput_newM {α : Type} {k : α → D} {v : α → D} {d e : D} : ∀ {T : List α}, d ∉ T.map k → dput (T.map fun x => (k x, v x)) d e = (T.map fun x => (k x, v x)) ++ [(d, e)]
  | [], _ => rfl
  | y :: T, h => by
    rw [List.map_cons, List.mem_cons, not_or] at h
    rw [List.map_cons, dput, if_neg (fun z => h.1 z.symm), dput_newM h.2]
    rfl
end G
end
section
set_option linter.all false
set_option autoImplicit false
namespace G
open PySem (Str)
theorem comp_ok {α : Type} {h : AH} {S : Src} {g : DG} {t : DT} {e : DE} {own : List Nat} {ρ : Lo} {M : Addr → AH → Prop} (xs : List α) (f : α → D) (p : α → Bool) (el : α → D)
    (hS : S.ds = xs.map f) (hl : xs.length ≤ 100000) (ok : ∀ h', Sb h h' → S.ok h')
    (body : ∀ x ∈ xs, ∀ h', Sb h h' → ∀ (KY : KD) (KN : AH → Prop), (p x = true → ∀ h3, Sb h' h3 → KY (el x) h3) → (p x = false → ∀ h2, Sb h' h2 → KN h2) →
      g (f x) (wipe ρ own) h' fun ρ1 h1 => t ρ1 h1 fun b h2 => onT b (e ρ1 h2 KY) (KN h2))
    (q : ∀ z, h z = none → M z (up h z (.lst ((xs.filter p).map el)))) :
    ∀ z, h z = none → ∃ I : Nat → List D → AH → Prop, I 0 [] (up h z (.lst [])) ∧
      (∀ i acc h, i ≤ S.ds.length → I i acc h → S.ok h ∧ h z = some (.lst acc)) ∧
      (∀ i acc h d, I i acc h → S.ds[i]? = some d → g d (wipe ρ own) h fun ρ1 h1 => t ρ1 h1 fun b h2 =>
        onT b (e ρ1 h2 fun y h3 => acc.length < SZ ∧ h3 z = some (.lst acc) ∧ Pt (I (i + 1) (acc ++ [y])) (up h3 z (.lst (acc ++ [y])))) (Pt (I (i + 1) acc) h2)) ∧
      ∀ acc h, I S.ds.length acc h → M z h := by
  intro z nz
  refine ⟨fun i acc g' => i ≤ xs.length ∧ acc = ((xs.take i).filter p).map el ∧ g' = up h z (.lst acc), ?_, ?_, ?_, ?_⟩
  · exact ⟨Nat.zero_le _, rfl, rfl⟩
  · rintro i acc g' _ ⟨_, rfl, rfl⟩
    exact ⟨ok _ ((Sb.refl h).upn nz), up_same⟩
  · rintro i acc g' d ⟨hi, ha, rfl⟩ hd
    rw [hS] at hd
    obtain ⟨x, hx, rfl⟩ := get_map hd
    have hil := (List.getElem?_eq_some_iff.mp hx).1
    have hlen : acc.length < SZ := by
      rw [ha, List.length_map]
      have := List.length_filter_le p (xs.take i)
      rw [List.length_take] at this
      rw [SZ]; omega
    have et : (xs.take (i + 1)).filter p = (xs.take i).filter p ++ (if p x = true then [x] else []) := by
      rw [List.take_succ, hx, List.filter_append]
      congr 1
      show List.filter _ [x] = _
      rw [List.filter_cons, List.filter_nil]
    refine body x (List.mem_of_getElem? hx) _ ((Sb.refl h).upn nz) _ _ (fun hp h3 s3 => ⟨hlen, s3 _ _ up_same, ?_⟩) (fun hp h2 s2 => ?_)
    · refine ⟨up h z (.lst (acc ++ [el x])), ?_, hil, ?_, rfl⟩
      · have : Sb (up (up h z (.lst acc)) z (.lst (acc ++ [el x]))) (up h3 z (.lst (acc ++ [el x]))) := s3.both
        rw [up_up] at this
        exact this
      · rw [et, if_pos hp, List.map_append, ha]; rfl
    · refine ⟨up h z (.lst acc), s2, hil, ?_, rfl⟩
      rw [et, if_neg (by rw [hp]; simp), List.append_nil, ha]
  · rintro acc g' ⟨_, ha, rfl⟩
    rw [hS, List.length_map, List.take_length] at ha
    rw [ha]
    exact q z nz
/-- a loop that leaves heap and tells only what its place says; P is what is known of the names -/
theorem for_ok {α : Type} {h : AH} {S : Src} {g : DG} {b : DS} {F : Fin} {ρ : Lo} (xs : List α) (f : α → D) (J : Nat → Lo → Prop)
    (hS : S.ds = xs.map f) (ok : ∀ h', Sb h h' → S.ok h') (i0 : J 0 ρ)
    (step : ∀ i x ρ, xs[i]? = some x → J i ρ → ∀ h', Sb h h' → ∀ K : Lo → AH → Prop, (∀ ρ' h2, J (i + 1) ρ' → Sb h' h2 → K ρ' h2) →
      g (f x) ρ h' fun ρ1 h1 => b { nx := K, ct := K, bk := F.nx, rt := F.rt } ρ1 h1)
    (q : ∀ ρ, J xs.length ρ → F.nx ρ h) :
    ∃ I : Nat → Lo → AH → Prop, I 0 ρ h ∧ (∀ i ρ h, i ≤ S.ds.length → I i ρ h → S.ok h) ∧
      (∀ i ρ h d, I i ρ h → S.ds[i]? = some d → g d ρ h fun ρ1 h1 => b { nx := fun ρ' h' => Pt (I (i + 1) ρ') h', ct := fun ρ' h' => Pt (I (i + 1) ρ') h', bk := F.nx, rt := F.rt } ρ1 h1) ∧
      ∀ ρ h, I S.ds.length ρ h → F.nx ρ h := by
  refine ⟨fun i ρ g' => J i ρ ∧ g' = h, ⟨i0, rfl⟩, ?_, ?_, ?_⟩
  · rintro i ρ g' _ ⟨_, rfl⟩
    exact ok _ (Sb.refl _)
  · rintro i ρ g' d ⟨hj, rfl⟩ hd
    rw [hS] at hd
    obtain ⟨x, hx, rfl⟩ := get_map hd
    exact step i x ρ hx hj _ (Sb.refl _) _ fun ρ' h2 j2 s2 => ⟨_, s2, j2, rfl⟩
  · rintro ρ g' ⟨hj, rfl⟩
    rw [hS, List.length_map] at hj
    exact q ρ hj
theorem up_nn {h : AH} {a b : Addr} {o : O} (n : up h a o b = none) : h b = none ∧ b ≠ a := by
  unfold up at n
  by_cases e : b = a
  · rw [if_pos e] at n; cases n
  · rw [if_neg e] at n; exact ⟨n, e⟩
end G
end
section
set_option linter.all false
set_option autoImplicit false
namespace G
open PySem (Str)
class Rl (G : Prop) (S : outParam Prop) : Prop where
  un : S → G
class RlL (G : Prop) (h : outParam AH) (a : outParam Addr) (K : outParam (O → Prop)) : Prop where
  un : ∀ o, h a = some o → K o → G
/-- a further look-up -/
structure Lk2 (h : AH) (b : Addr) (K : O → Prop) : Prop where
  un : ∃ o, h b = some o ∧ K o
instance {h : AH} {b : Addr} {K : O → Prop} : RlL (Lk2 h b K) h b K := ⟨fun o e q => ⟨⟨o, e, q⟩⟩⟩
theorem lk2_lst {h : AH} {b : Addr} {S : List D → Prop} (q : Lk2 h b fun o => match o with | .lst ys => S ys | _ => False) : ∃ ys, h b = some (.lst ys) ∧ S ys := by
  obtain ⟨o, e, q⟩ := q.un
  cases o with
  | lst ys => exact ⟨ys, e, q⟩
  | _ => exact q.elim
theorem lk2_ins {h : AH} {b : Addr} {S : Addr → List (Str × D) → Prop} (q : Lk2 h b fun o => match o with | .ins C fs => S C fs | _ => False) : ∃ C fs, h b = some (.ins C fs) ∧ S C fs := by
  obtain ⟨o, e, q⟩ := q.un
  cases o with
  | ins C fs => exact ⟨C, fs, e, q⟩
  | _ => exact q.elim
class RlE (G : Prop) (c T F : outParam Prop) : Prop where
  t : c → T → G
  f : ¬ c → F → G
instance {h : AH} {Q : KD} {ds : List D} {i : Int} : Rl (oIx (.tup ds) (.int i) h Q) (∃ d, atI ds i = some d ∧ Q d h) := ⟨ix_tup⟩
instance {h : AH} {Q : KD} {ds : List D} {i : Int} : Rl (oIx (.rl ds) (.int i) h Q) (∃ d, atI ds i = some d ∧ Q d h) := ⟨ix_rl⟩
instance {h : AH} {Q : KD} {s : Str} {i : Int} : Rl (oIx (.str s) (.int i) h Q) (∃ c, atI s.cps.toList i = some c ∧ Q (.str ⟨#[c]⟩) h) := ⟨ix_str⟩
instance {h : AH} {Q : KD} {a : Addr} {k : D} : RlL (oIx (.ref a) k h Q) (h) (a) (fun o => match o with | .dic kvs => pl 8 k = true ∧ ∃ v, dget kvs k = some v ∧ Q v h | _ => False) := ⟨fun o e q => match o, e, q with | .dic kvs, e, q => ix_dic e q⟩
instance {h : AH} {Q : KD} {a : Addr} {i : Int} : RlL (oIx (.ref a) (.int i) h Q) (h) (a) (fun o => match o with | .lst ds => ∃ d, atI ds i = some d ∧ Q d h | .dic kvs => pl 8 (.int i) = true ∧ ∃ v, dget kvs (.int i) = some v ∧ Q v h | _ => False) := ⟨fun o e q => match o, e, q with | .lst ds, e, q => ix_lst e q | .dic kvs, e, q => ix_dic e q⟩
instance {h : AH} {Q : KD} {ds : List D} {x : D} : Rl (oIn x (.tup ds) h Q) (∃ x' ds', Pv h x x' ∧ PvL h 12 ds ds' ∧ Q (.bl (decide (x' ∈ ds'))) h) := ⟨in_tup⟩
instance {h : AH} {Q : KD} {a : Addr} {x : D} : RlL (oIn x (.ref a) h Q) (h) (a) (fun o => match o with | .lst ds => ∃ x' ds', Pv h x x' ∧ PvL h 12 ds ds' ∧ Q (.bl (decide (x' ∈ ds'))) h | .dic kvs => pl 8 x = true ∧ Q (.bl (decide (x ∈ kvs.map (·.1)))) h | _ => False) := ⟨fun o e q => match o, e, q with | .lst ds, e, q => in_lst e q | .dic kvs, e, q => in_dic e q⟩
instance {h : AH} {Q : KD} {a : Addr} {x : D} : RlL (oNotIn x (.ref a) h Q) (h) (a) (fun o => match o with | .lst ds => ∃ x' ds', Pv h x x' ∧ PvL h 12 ds ds' ∧ Q (.bl (!decide (x' ∈ ds'))) h | .dic kvs => pl 8 x = true ∧ Q (.bl (!decide (x ∈ kvs.map (·.1)))) h | _ => False) := ⟨fun o e q => match o, e, q with | .lst ds, e, q => notIn_lst e q | .dic kvs, e, q => notIn_dic e q⟩
instance {h : AH} {Q : KD} {i j : Int} : Rl (bMin [.int i, .int j] h Q) (Q (.int (if j < i then j else i)) h) := ⟨min_ii⟩
instance {h : AH} {Q : KD} {i j : Int} : Rl (bMax [.int i, .int j] h Q) (Q (.int (if j > i then j else i)) h) := ⟨max_ii⟩
instance {h : AH} {Q : KD} {a : Addr} {d : D} : RlL (mAppend (.ref a) [d] h Q) (h) (a) (fun o => match o with | .lst ds => ds.length < SZ ∧ Q .non (up h a (.lst (ds ++ [d]))) | _ => False) := ⟨fun o e q => match o, e, q with | .lst ds, e, q => app_lst e q⟩
instance {h : AH} {Q : KD} {a : Addr} : RlL (bLen [.ref a] h Q) (h) (a) (fun o => match o with | .lst ds => Q (.int ds.length) h | _ => False) := ⟨fun o e q => match o, e, q with | .lst ds, e, q => len_lst e q⟩
instance {h : AH} {Q : KD} {ds : List D} : Rl (bLen [.tup ds] h Q) (Q (.int ds.length) h) := ⟨len_tup⟩
instance {h : AH} {Q : KD} {ds : List D} : Rl (bLen [.rl ds] h Q) (Q (.int ds.length) h) := ⟨len_rl⟩
instance {h : AH} {Q : KD} {s : Str} : Rl (bLen [.str s] h Q) (Q (.int s.length) h) := ⟨len_str⟩
instance {h : AH} {Q : KD} {x : Str} {k : Int} : Rl (oMulS (.str x) (.int k) h Q) ((0 ≤ k ∧ k ≤ 1) ∧ Q (.str (if k = 1 then x else PySem.Str.empty)) h) := ⟨mulS_s⟩
instance {h : AH} {Q : KD} {x : Str} {k : Int} : Rl (oMulN (.str x) (.int k) h Q) ((-1000 ≤ k ∧ k ≤ 1000 ∧ x.length ≤ 1000) ∧ Q (.str (strN x k)) h) := ⟨mulN_s⟩
instance {h : AH} {Q : KD} {y : Str} : Rl (oFmt (.str y) h Q) (Q (.str y) h) := ⟨fmt_str⟩
instance {h : AH} {Q : KD} {i : Int} : Rl (oFmt (.int i) h Q) (i.natAbs.log2 < 1920 ∧ Q (.str (PySem.Str.ofString (toString i))) h) := ⟨fmt_int⟩
instance {h : AH} {Q : Str → AH → Prop} {acc y : Str} : Rl (oCat acc (.str y) h Q) ((acc ++ y).length ≤ SZ ∧ Q (acc ++ y) h) := ⟨cat_str⟩
instance {h : AH} {Q : KD} {i : Int} : Rl (bStr [.int i] h Q) (i.natAbs.log2 < 1920 ∧ Q (.str (PySem.Str.ofString (toString i))) h) := ⟨str_int⟩
instance {h : AH} {Q : KD} {y : Str} : Rl (bStr [.str y] h Q) (Q (.str y) h) := ⟨str_str⟩
instance {h : AH} {Q : KD} {a : Addr} {T : String} : RlL (oIsT T (.ref a) h Q) (h) (a) (fun o => match o with | .lst ds => Q (.bl (T == "list")) h | .dic kvs => Q (.bl (T == "dict")) h | _ => False) := ⟨fun o e q => match o, e, q with | .lst ds, e, q => oIsT_lst e q | .dic kvs, e, q => oIsT_dic e q⟩
instance {h : AH} {Q : KD} {b : Bool} {T : String} : Rl (oIsT T (.bl b) h Q) (Q (.bl (T == "bool" || T == "int")) h) := ⟨oIsT_bl⟩
instance {h : AH} {Q : KD} {b : Int} {T : String} : Rl (oIsT T (.int b) h Q) (Q (.bl (T == "int")) h) := ⟨oIsT_int⟩
instance {h : AH} {Q : KD} {b : Str} {T : String} : Rl (oIsT T (.str b) h Q) (Q (.bl (T == "str")) h) := ⟨oIsT_str⟩
instance {h : AH} {Q : KD} {b : List D} {T : String} : Rl (oIsT T (.tup b) h Q) (Q (.bl (T == "tuple")) h) := ⟨oIsT_tup⟩
instance {h : AH} {Q : KD} {b : List D} {T : String} : Rl (oIsT T (.rl b) h Q) (Q (.bl (T == "list")) h) := ⟨oIsT_rl⟩
instance {h : AH} {Q : KD} {T : String} : Rl (oIsT T .non h Q) (Q (.bl (T == "NoneType")) h) := ⟨oIsT_non⟩
instance {h : AH} {Q : KD}  {a : Addr} : RlL (bDict [(.ref a)] h Q) (h) (a) (fun o => match o with | .lst ds => ∃ ps, pairsOf ds = some ps ∧ (∀ x ∈ ps, pl 8 x.1 = true) ∧ newD (dputs [] ps) h Q | _ => False) := ⟨fun o e q => match o, e, q with | .lst ds, e, q => dict_ls (ls_lst e) q⟩
instance {h : AH} {Q : KD}  {ds : List D} : Rl (bDict [(.rl ds)] h Q) (∃ ps, pairsOf ds = some ps ∧ (∀ x ∈ ps, pl 8 x.1 = true) ∧ newD (dputs [] ps) h Q) := ⟨dict_ls ls_rl⟩
instance {h : AH} {Q : KD} {lo hi : Option Int} {a : Addr} : RlL (oSl (.ref a) lo hi h Q) (h) (a) (fun o => match o with | .lst ds => newL (cut ds lo hi) h Q | _ => False) := ⟨fun o e q => match o, e, q with | .lst ds, e, q => sl_ls (ls_lst e) q⟩
instance {h : AH} {Q : KD} {lo hi : Option Int} {ds : List D} : Rl (oSl (.rl ds) lo hi h Q) (newL (cut ds lo hi) h Q) := ⟨sl_ls ls_rl⟩
instance {h : AH} {Q : KD} {lo hi : Option Int} {ds : List D} : Rl (oSl (.tup ds) lo hi h Q) (Q (.tup (cut ds lo hi)) h) := ⟨sl_tup⟩
instance {h : AH} {Q : KD} {lo hi : Option Int} {s : Str} : Rl (oSl (.str s) lo hi h Q) (Q (.str ⟨(cut s.cps.toList lo hi).toArray⟩) h) := ⟨sl_str⟩
instance {h : AH} {Q : KD}  {a : Addr} : RlL (oRevSl (.ref a) h Q) (h) (a) (fun o => match o with | .lst ds => newL ds.reverse h Q | _ => False) := ⟨fun o e q => match o, e, q with | .lst ds, e, q => rev_ls (ls_lst e) q⟩
instance {h : AH} {Q : KD}  {ds : List D} : Rl (oRevSl (.rl ds) h Q) (newL ds.reverse h Q) := ⟨rev_ls ls_rl⟩
instance {h : AH} {Q : KD} {a : Addr} : RlL (bList [.ref a] h Q) (h) (a) (fun o => match o with | .lst ds => newL ds h Q | .dic kvs => newL (kvs.map (·.1)) h Q | _ => False) := ⟨fun o e q => match o, e, q with | .lst ds, e, q => list_sq (sq_lst e) q | .dic kvs, e, q => list_dic e q⟩
instance {h : AH} {Q : KD} {ds : List D} : Rl (bList [.tup ds] h Q) (newL ds h Q) := ⟨list_sq sq_tup⟩
instance {h : AH} {Q : KD} {ds : List D} : Rl (bList [.rl ds] h Q) (newL ds h Q) := ⟨list_sq sq_rl⟩
instance {h : AH} {Q : KD} {k : Int} {a : Addr} : RlL (oStep (.ref a) (.int k) h Q) (h) (a) (fun o => match o with | .lst ds => 0 < k ∧ newL (stepD k ds) h Q | _ => False) := ⟨fun o e q => match o, e, q with | .lst ds, e, q => step_ls (ls_lst e) q⟩
instance {h : AH} {Q : KD} {k : Int} {ds : List D} : Rl (oStep (.rl ds) (.int k) h Q) (0 < k ∧ newL (stepD k ds) h Q) := ⟨step_ls ls_rl⟩
instance {h : AH} {Q : KD} {v : D} {a : Addr} : RlL (mIndex (.ref a) [v] h Q) (h) (a) (fun o => match o with | .lst ds => (∀ d ∈ ds, pl 8 d = true) ∧ pl 8 v = true ∧ ∃ j : Nat, ds[j]? = some v ∧ (∀ i, i < j → ds[i]? ≠ some v) ∧ Q (.int j) h | _ => False) := ⟨fun o e q => match o, e, q with | .lst ds, e, q => index_ls (ls_lst e) q⟩
instance {h : AH} {Q : KD} {v : D} {ds : List D} : Rl (mIndex (.rl ds) [v] h Q) ((∀ d ∈ ds, pl 8 d = true) ∧ pl 8 v = true ∧ ∃ j : Nat, ds[j]? = some v ∧ (∀ i, i < j → ds[i]? ≠ some v) ∧ Q (.int j) h) := ⟨index_ls ls_rl⟩
instance {h : AH} {Q : KD} {v : D} {a : Addr} : RlL (mCount (.ref a) [v] h Q) (h) (a) (fun o => match o with | .lst ds => plL 8 ds = true ∧ pl 8 v = true ∧ Q (.int ((ds.countP fun y => decide (y = v) : Nat) : Int)) h | _ => False) := ⟨fun o e q => match o, e, q with | .lst ds, e, q => count_ls (ls_lst e) q⟩
instance {h : AH} {Q : KD} {v : D} {ds : List D} : Rl (mCount (.rl ds) [v] h Q) (plL 8 ds = true ∧ pl 8 v = true ∧ Q (.int ((ds.countP fun y => decide (y = v) : Nat) : Int)) h) := ⟨count_ls ls_rl⟩
instance {h : AH} {Q : KD} {p : Addr} {ps : List (D × D)} : RlL (fillD (.ref p) ps h Q) (h) (p) (fun o => match o with | .dic [] => ps.length ≤ 15 ∧ (∀ x ∈ ps, pl 8 x.1 = true) ∧ Q (.ref p) (up h p (.dic (dputs [] ps))) | _ => False) := ⟨fun o e q => match o, e, q with | .dic [], e, q => fill_dic e q⟩
instance {h : AH} {Q : KD} {i : Nat} {a : Addr} : RlL (oSortK i (.ref a) h Q) (h) (a) (fun o => match o with | .lst ds => (∀ d ∈ ds, ∃ xs y, d = .tup xs ∧ xs[i]? = some y) ∧ sortable (ds.map (kAt i)) ∧ newL (ds.mergeSort fun a b => dle false (kAt i a) (kAt i b)) h Q | _ => False) := ⟨fun o e q => match o, e, q with | .lst ds, e, q => sortK_ls (ls_lst e) q⟩
instance {h : AH} {Q : KD} {i : Nat} {ds : List D} : Rl (oSortK i (.rl ds) h Q) ((∀ d ∈ ds, ∃ xs y, d = .tup xs ∧ xs[i]? = some y) ∧ sortable (ds.map (kAt i)) ∧ newL (ds.mergeSort fun a b => dle false (kAt i a) (kAt i b)) h Q) := ⟨sortK_ls ls_rl⟩
instance {h : AH} {Q : KD}  {a : Addr} : RlL (bSum [(.ref a)] h Q) (h) (a) (fun o => match o with | .lst ds => ∃ ns, intsOf ds = some ns ∧ Q (.int ns.sum) h | _ => False) := ⟨fun o e q => match o, e, q with | .lst ds, e, q => sum_ls (ls_lst e) q⟩
instance {h : AH} {Q : KD}  {ds : List D} : Rl (bSum [(.rl ds)] h Q) (∃ ns, intsOf ds = some ns ∧ Q (.int ns.sum) h) := ⟨sum_ls ls_rl⟩
instance {h : AH} {Q : KD}  {a : Addr} : RlL (bAll [(.ref a)] h Q) (h) (a) (fun o => match o with | .lst ds => ∃ bs, blsOf ds = some bs ∧ Q (.bl (bs.all id)) h | _ => False) := ⟨fun o e q => match o, e, q with | .lst ds, e, q => all_ls (ls_lst e) q⟩
instance {h : AH} {Q : KD}  {ds : List D} : Rl (bAll [(.rl ds)] h Q) (∃ bs, blsOf ds = some bs ∧ Q (.bl (bs.all id)) h) := ⟨all_ls ls_rl⟩
instance {h : AH} {Q : KD} {rev : Bool} {a : Addr} : RlL (bSorted rev [(.ref a)] h Q) (h) (a) (fun o => match o with | .lst ds => sortable ds ∧ newL (ds.mergeSort (dle rev)) h Q | _ => False) := ⟨fun o e q => match o, e, q with | .lst ds, e, q => sorted_ls (ls_lst e) q⟩
instance {h : AH} {Q : KD} {rev : Bool} {ds : List D} : Rl (bSorted rev [(.rl ds)] h Q) (sortable ds ∧ newL (ds.mergeSort (dle rev)) h Q) := ⟨sorted_ls ls_rl⟩
instance {h : AH} {Q : KD}  {a : Addr} : RlL (bSortI [(.ref a)] h Q) (h) (a) (fun o => match o with | .lst ds => incK ds ∧ newL ds h Q | _ => False) := ⟨fun o e q => match o, e, q with | .lst ds, e, q => sortI_ls (ls_lst e) q⟩
instance {h : AH} {Q : KD}  {ds : List D} : Rl (bSortI [(.rl ds)] h Q) (incK ds ∧ newL ds h Q) := ⟨sortI_ls ls_rl⟩
instance {h : AH} {Q : KD} {a : Addr} : RlL (bSortD [.ref a] h Q) (h) (a) (fun o => match o with | .lst ds => sortable ds ∧ newL (ds.mergeSort (dle false)) h Q | .dic kvs => sortable (kvs.map (·.1)) ∧ newL ((kvs.map (·.1)).mergeSort (dle false)) h Q | _ => False) := ⟨fun o e q => match o, e, q with | .lst ds, e, q => sortD_ls (ls_lst e) q | .dic kvs, e, q => sortD_dic e q⟩
instance {h : AH} {R : Src → AH → Prop} {a : Addr} : RlL (walkD h (.ref a) R) (h) (a) (fun o => match o with | .lst ds => R (srcL a ds) h | .dic kvs => R (srcK a (kvs.map (·.1))) h | _ => False) := ⟨fun o e q => match o, e, q with | .lst ds, e, q => walkD_lst e q | .dic kvs, e, q => walkD_dic e q⟩
instance {h : AH} {R : Src → AH → Prop} {ds : List D} : Rl (walkD h (.tup ds) R) (R (srcV ds) h) := ⟨walkD_tup⟩
instance {h : AH} {R : Src → AH → Prop} {ds : List D} : Rl (walkD h (.rl ds) R) (R (srcV ds) h) := ⟨walkD_rl⟩
instance {h : AH} {R : Src → AH → Prop} {a : Addr} : RlL (walkI h (.ref a) R) (h) (a) (fun o => match o with | .dic kvs => R (srcI a kvs) h | _ => False) := ⟨fun o e q => match o, e, q with | .dic kvs, e, q => walkI_dic e q⟩
instance {h : AH} {R : Src → AH → Prop} {a : Addr} : RlL (walkL h (.ref a) R) (h) (a) (fun o => match o with | .lst ds => R (srcL a ds) h | _ => False) := ⟨fun o e q => match o, e, q with | .lst ds, e, q => walkL_lst e q⟩
instance {h : AH} {R : Src → AH → Prop} {ds : List D} : Rl (walkL h (.rl ds) R) (R (srcV ds) h) := ⟨walkL_rl⟩
instance {h : AH} {R : Src → AH → Prop} {a : Addr} : RlL (walkT h (.ref a) R) (h) (a) (fun o => match o with | .lst ds => R (srcL a ds) h | _ => False) := ⟨fun o e q => match o, e, q with | .lst ds, e, q => walkT_lst e q⟩
instance {h : AH} {R : Src → AH → Prop} {ds : List D} : Rl (walkT h (.tup ds) R) (R (srcV ds) h) := ⟨walkT_tup⟩
instance {h : AH} {Q : KD} {a : Addr} {k : Int} : RlL (mulR a k h Q) (h) (a) (fun o => match o with | .lst ds => ∃ n : Nat, k = (n : Int) ∧ ds.length * n ≤ SZ ∧ n < 2 ^ 60 ∧ newL (List.replicate n ds).flatten h Q | _ => False) := ⟨fun o e q => match o, e, q with | .lst ds, e, q => mul_lst e q⟩
instance {h : AH} {Q : KD} {a b : Addr} : RlL (addR a b h Q) (h) (a) (fun o => match o with | .lst xs => Lk2 h b (fun o => match o with | .lst ys => xs.length + ys.length ≤ SZ ∧ newL (xs ++ ys) h Q | _ => False) | _ => False) := ⟨fun o e q => match o, e, q with | .lst xs, e, q => (lk2_lst (S := fun ys => xs.length + ys.length ≤ SZ ∧ newL (xs ++ ys) h Q) q).elim fun ys z => oAdd_lst e z.1 z.2⟩
instance {h : AH} {Q : KD} {a b : Addr} : RlL (mExtend (.ref a) [.ref b] h Q) (h) (a) (fun o => match o with | .lst xs => Lk2 h b (fun o => match o with | .lst ys => xs.length + ys.length ≤ SZ ∧ Q .non (up h a (.lst (xs ++ ys))) | _ => False) | _ => False) := ⟨fun o e q => match o, e, q with | .lst xs, e, q => (lk2_lst (S := fun ys => xs.length + ys.length ≤ SZ ∧ Q .non (up h a (.lst (xs ++ ys)))) q).elim fun ys z => ext_lst e z.1 z.2⟩
instance {h : AH} {Q : KD} {xs ys : List D} : Rl (oAddL (.rl xs) (.rl ys) h Q) (xs.length + ys.length ≤ SZ ∧ newL (xs ++ ys) h Q) := ⟨addL_ls ls_rl ls_rl⟩
instance {h : AH} {Q : KD} {xs : List D} {b : Addr} : RlL (oAddL (.rl xs) (.ref b) h Q) (h) (b) (fun o => match o with | .lst ys => xs.length + ys.length ≤ SZ ∧ newL (xs ++ ys) h Q | _ => False) := ⟨fun o e q => match o, e, q with | .lst ys, e, q => addL_ls ls_rl (ls_lst e) q⟩
instance {h : AH} {Q : KD} {ys : List D} {a : Addr} : RlL (oAddL (.ref a) (.rl ys) h Q) (h) (a) (fun o => match o with | .lst xs => xs.length + ys.length ≤ SZ ∧ newL (xs ++ ys) h Q | _ => False) := ⟨fun o e q => match o, e, q with | .lst xs, e, q => addL_ls (ls_lst e) ls_rl q⟩
instance {h : AH} {Q : KD} {a b : Addr} : RlL (oAddL (.ref a) (.ref b) h Q) (h) (a) (fun o => match o with | .lst xs => Lk2 h b (fun o => match o with | .lst ys => xs.length + ys.length ≤ SZ ∧ newL (xs ++ ys) h Q | _ => False) | _ => False) := ⟨fun o e q => match o, e, q with | .lst xs, e, q => (lk2_lst (S := fun ys => xs.length + ys.length ≤ SZ ∧ newL (xs ++ ys) h Q) q).elim fun ys z => addL_ls (ls_lst e) (ls_lst z.1) z.2⟩
instance {h : AH} {Q : AH → Prop} {a : Addr} {k v : D} : RlL (oPut (.ref a) k v h Q) (h) (a) (fun o => match o with | .dic kvs => pl 8 k = true ∧ kvs.length < SZ ∧ Q (up h a (.dic (dput kvs k v))) | _ => False) := ⟨fun o e q => match o, e, q with | .dic kvs, e, q => put_dic e q⟩
instance {h : AH} {Q : AH → Prop} {a : Addr} {i : Int} {v : D} : RlL (oPut (.ref a) (.int i) v h Q) (h) (a) (fun o => match o with | .lst ds => ∃ k, ixN ds.length i = some k ∧ Q (up h a (.lst (ds.set k v))) | .dic kvs => pl 8 (.int i) = true ∧ kvs.length < SZ ∧ Q (up h a (.dic (dput kvs (.int i) v))) | _ => False) := ⟨fun o e q => match o, e, q with | .lst ds, e, q => put_lst e q | .dic kvs, e, q => put_dic e q⟩
instance {h : AH} {Q : Bool → Prop} {a : Addr} : RlL (onB (tru h (.ref a)) Q) (h) (a) (fun o => match o with | .lst ds => Q (!ds.isEmpty) | _ => False) := ⟨fun o e q => match o, e, q with | .lst ds, e, q => tru_lst e q⟩
instance {h : AH} {Q : KD} {a : Addr} {k : D} : RlL (mGet (.ref a) [k] h Q) (h) (a) (fun o => match o with | .dic kvs => G.pl 8 k = true ∧ Q ((dget kvs k).getD .non) h | _ => False) := ⟨fun o e q => match o, e, q with | .dic kvs, e, q => get_dic e q⟩
instance {h : AH} {Q : KD} {a : Addr} {k d : D} : RlL (mGet (.ref a) [k, d] h Q) (h) (a) (fun o => match o with | .dic kvs => G.pl 8 k = true ∧ Q ((dget kvs k).getD d) h | _ => False) := ⟨fun o e q => match o, e, q with | .dic kvs, e, q => get_dic2 e q⟩
instance {h : AH} {Q : KD} {a : Addr} {k d : D} : RlL (mSetDef (.ref a) [k, d] h Q) (h) (a) (fun o => match o with | .dic kvs => G.pl 8 k = true ∧ kvs.length < SZ ∧ (match dget kvs k with | some v => Q v h | none => Q d (up h a (.dic (dput kvs k d)))) | _ => False) := ⟨fun o e q => match o, e, q with | .dic kvs, e, q => setdef_dic e q⟩
instance {h : AH} {Q : KD} {a : Addr} : RlL (mPop (.ref a) [] h Q) (h) (a) (fun o => match o with | .lst xs => ∃ y, xs[xs.length - 1]? = some y ∧ Q y (up h a (.lst xs.dropLast)) | _ => False) := ⟨fun o e q => match o, e, q with | .lst xs, e, q => pop_lst e q⟩
instance {h : AH} {Q : KD} {a : Addr} {i : Int} : RlL (mPop (.ref a) [.int i] h Q) (h) (a) (fun o => match o with | .lst xs => ∃ (k : Nat) (y : D), i = (k : Int) ∧ k < 2 ^ 60 ∧ xs[k]? = some y ∧ Q y (up h a (.lst (xs.eraseIdx k))) | _ => False) := ⟨fun o e q => match o, e, q with | .lst xs, e, q => popAt_lst e q⟩
instance {h : AH} {Q : KD} {a : Addr} {i : Int} {d : D} : RlL (mInsert (.ref a) [.int i, d] h Q) (h) (a) (fun o => match o with | .lst xs => ∃ k : Nat, i = (k : Int) ∧ k < 2 ^ 60 ∧ xs.length < SZ ∧ Q .non (up h a (.lst (xs.take k ++ [d] ++ xs.drop k))) | _ => False) := ⟨fun o e q => match o, e, q with | .lst xs, e, q => ins_lst e q⟩
instance {h : AH} {Q : KD} {a : Addr} : RlL (mClear (.ref a) [] h Q) (h) (a) (fun o => match o with | .lst xs => Q .non (up h a (.lst [])) | _ => False) := ⟨fun o e q => match o, e, q with | .lst xs, e, q => clr_lst e q⟩
instance {h : AH} {Q : KD} {a : Addr} : RlL (mDClear (.ref a) [] h Q) (h) (a) (fun o => match o with | .dic kvs => Q .non (hid h a) | _ => False) := ⟨fun o e q => match o, e, q with | .dic kvs, e, q => clr_dic e q⟩
instance {h : AH} {Q : KD} {s : Str} {a : Addr} : RlL (mJoin (.str s) [.ref a] h Q) (h) (a) (fun o => match o with | .lst ds => ∃ ys, strsOf ds = some ys ∧ (ys.map (·.length)).sum + ys.length * s.length ≤ SZ ∧ Q (.str (PySem.Str.join s ys)) h | _ => False) := ⟨fun o e q => match o, e, q with | .lst ds, e, q => join_sq (sq_lst e) q⟩
instance {h : AH} {Q : KD} {s : Str} {ds : List D} : Rl (mJoin (.str s) [.tup ds] h Q) (∃ ys, strsOf ds = some ys ∧ (ys.map (·.length)).sum + ys.length * s.length ≤ SZ ∧ Q (.str (PySem.Str.join s ys)) h) := ⟨join_sq sq_tup⟩
instance {h : AH} {Q : KD} {s : Str} {ds : List D} : Rl (mJoin (.str s) [.rl ds] h Q) (∃ ys, strsOf ds = some ys ∧ (ys.map (·.length)).sum + ys.length * s.length ≤ SZ ∧ Q (.str (PySem.Str.join s ys)) h) := ⟨join_sq sq_rl⟩
instance {h : AH} {Q : KD} {p C : Addr} {f : Str} : RlL (oFld C f (.ref p) h Q) (h) (p) (fun o => match o with | .ins C' fs => C' = C ∧ ∃ v, fs.lookup f = some v ∧ Q v h | _ => False) := ⟨fun o e q => match o, e, q with | .ins C' fs, e, q => fld_at (q.1 ▸ e) q.2⟩
instance {h : AH} {R : Addr → Prop} {p C : Addr} {m : Str} : RlL (oMtc C m (.ref p) h R) (h) (p) (fun o => match o with | .ins C' fs => C' = C ∧ fs.lookup m = none ∧ R p | _ => False) := ⟨fun o e q => match o, e, q with | .ins C' fs, e, q => mtc_at (q.1 ▸ e) q.2⟩
instance {h : AH} {Q : AH → Prop} {p C : Addr} {f : Str} {v : D} : RlL (oSetF C f (.ref p) v h Q) (h) (p) (fun o => match o with | .ins C' fs => C' = C ∧ fs.length < 999 ∧ Q (up h p (.ins C (putD f v fs))) | _ => False) := ⟨fun o e q => match o, e, q with | .ins C' fs, e, q => setF_at (q.1 ▸ e) q.2⟩
instance {h : AH} {Q : KD} {a b : Bool} : Rl (oIsB b (.bl a) h Q) (Q (.bl (a == b)) h) := ⟨isB_bl⟩
instance {h : AH} {Q : KD} {a b : Bool} : Rl (oNotB b (.bl a) h Q) (Q (.bl (!(a == b))) h) := ⟨notB_bl⟩
instance {h : AH} {Q : KD} {a : Addr} : RlL (mReverse (.ref a) [] h Q) (h) (a) (fun o => match o with | .lst ds => Q .non (up h a (.lst ds.reverse)) | _ => False) := ⟨fun o e q => match o, e, q with | .lst ds, e, q => rev_lst e q⟩
instance {h : AH} {Q : KD} {a : Addr} : RlL (oListV (.ref a) h Q) (h) (a) (fun o => match o with | .dic kvs => newL (kvs.map (·.2)) h Q | _ => False) := ⟨fun o e q => match o, e, q with | .dic kvs, e, q => listV_dic e q⟩
instance {h : AH} {Q : KD} {a : Addr} : RlL (oLenSet (.ref a) h Q) (h) (a) (fun o => match o with | .lst ds => ∃ l : List (List Int), ds = intTups l ∧ l.Nodup ∧ l.length < 64 ∧ Q (.int l.length) h | _ => False) := ⟨fun o e q => match o, e, q with | .lst ds, e, q => lenSet_ls (ls_lst e) q⟩
instance {h : AH} {Q : KD} {a : Addr} {b : List D} : RlL (oDicZ [.ref a, .tup b] h Q) (h) (a) (fun o => match o with | .lst ds => (∀ k ∈ ds, pl 8 k = true) ∧ newD (dputs [] (ds.zip b)) h Q | _ => False) := ⟨fun o e q => match o, e, q with | .lst ds, e, q => dicZ_ls (ls_lst e) q⟩
instance {h : AH} {Q : KD} {a : Addr} {i : Nat} : RlL (oSortVS i (.ref a) h Q) (h) (a) (fun o => match o with | .dic kvs => (∀ v ∈ kvs.map (·.2), ∃ xs ns, v = .tup xs ∧ xs[i]? = some (.tup (List.map D.int ns))) ∧ newL ((kvs.map (·.2)).mergeSort fun a b => decide (sumAt i a ≤ sumAt i b)) h Q | _ => False) := ⟨fun o e q => match o, e, q with | .dic kvs, e, q => sortVS_dic e q⟩
instance {h : AH} {Q : KD} {a p C : Addr} {f : Str} : RlL (oSortKF C f (.ref a) (.ref p) h Q) (h) (a) (fun o => match o with | .dic kvs => Lk2 h p (fun o => match o with | .ins C' fs => C' = C ∧ (∃ r kv, fs.lookup f = some (.ref r) ∧ h r = some (.dic kv) ∧ (∀ k ∈ kvs.map (·.1), ∃ v, dget kv k = some v) ∧ sortable ((kvs.map (·.1)).map (dAt kv)) ∧ newL ((kvs.map (·.1)).mergeSort fun a b => dle false (dAt kv a) (dAt kv b)) h Q) | _ => False) | _ => False) := ⟨fun o e q => match o, e, q with | .dic kvs, e, q => (lk2_ins (S := fun C' fs => C' = C ∧ (∃ r kv, fs.lookup f = some (.ref r) ∧ h r = some (.dic kv) ∧ (∀ k ∈ kvs.map (·.1), ∃ v, dget kv k = some v) ∧ sortable ((kvs.map (·.1)).map (dAt kv)) ∧ newL ((kvs.map (·.1)).mergeSort fun a b => dle false (dAt kv a) (dAt kv b)) h Q)) q).elim fun C' z => z.elim fun fs z => sortKF_dic e (z.2.1 ▸ z.1) z.2.2⟩
instance {h : AH} {a : Addr} : RlL (isT "list" h (.ref a) = some true) (h) (a) (fun o => match o with | .lst ds => True | _ => False) := ⟨fun o e q => match o, e, q with | .lst ds, e, q => isT_lst e⟩
instance {h : AH} {a : Addr} : RlL (isT "dict" h (.ref a) = some true) (h) (a) (fun o => match o with | .dic kvs => True | _ => False) := ⟨fun o e q => match o, e, q with | .dic kvs, e, q => isT_dic e⟩
instance {h : AH} {Q : KD} {x y : Str} : RlE (oEq (.str x) (.str y) h Q) (x = y) (Q (.bl true) h) (Q (.bl false) h) := ⟨oEq_sst, oEq_ssf⟩
instance {h : AH} {Q : KD} {x y : Int} : RlE (oEq (.int x) (.int y) h Q) (x = y) (Q (.bl true) h) (Q (.bl false) h) := ⟨oEq_iit, oEq_iif⟩
instance {h : AH} {Q : KD} {x y : Str} : RlE (oNe (.str x) (.str y) h Q) (x = y) (Q (.bl false) h) (Q (.bl true) h) := ⟨oNe_sst, oNe_ssf⟩
instance {h : AH} {Q : KD} {x y : Int} : RlE (oNe (.int x) (.int y) h Q) (x = y) (Q (.bl false) h) (Q (.bl true) h) := ⟨oNe_iit, oNe_iif⟩
end G
end
section
set_option linter.all false
set_option autoImplicit false
namespace G
open PySem
theorem dicZB_sq {h : AH} {x y : D} {ds b : List D} {Q : KD} (e : lsOf h x = some ds) (e2 : sqOf h y = some b) (q : (∀ k ∈ ds, pl 8 k = true) ∧ newD (dputs [] (ds.zip b)) h Q) : oDicZB [x, y] h Q := ⟨by dsimp only; rw [e]; dsimp only; rw [e2]; exact q⟩
instance {h : AH} {Q : KD} {a : Addr} {b : List D} : RlL (oDicZB [.ref a, .tup b] h Q) (h) (a) (fun o => match o with | .lst ds => (∀ k ∈ ds, pl 8 k = true) ∧ newD (dputs [] (ds.zip b)) h Q | _ => False) := ⟨fun o e q => match o, e, q with | .lst ds, e, q => dicZB_sq (ls_lst e) sq_tup q⟩
end G
end
section
set_option linter.all false
set_option autoImplicit false
namespace G
open PySem
theorem dictC_dic {h : AH} {a : Addr} {kvs : List (D × D)} {Q : KD} (e : h a = some (.dic kvs)) (q : newD kvs h Q) : bDictC [.ref a] h Q := by
  unfold bDictC
  dsimp only
  rw [show dcOf h (.ref a) = some kvs by unfold dcOf; dsimp only; rw [e]]
  exact q
instance {h : AH} {Q : KD} {a : Addr} : RlL (bDictC [.ref a] h Q) (h) (a) (fun o => match o with | .dic kvs => newD kvs h Q | _ => False) := ⟨fun o e q => match o, e, q with | .dic kvs, e, q => dictC_dic e q⟩
end G
end
section
set_option linter.all false
set_option autoImplicit false
namespace G
theorem lenSetB_ls {h : AH} {x : D} {ds : List D} {Q : KD} (e : lsOf h x = some ds) (q : ∃ l : List Bool, ds = l.map .bl ∧ l.length < 64 ∧ Q (.int (boolN l)) h) : oLenSetB x h Q := ⟨by rw [e]; exact q⟩
instance {h : AH} {Q : KD} {a : Addr} : RlL (oLenSetB (.ref a) h Q) (h) (a) (fun o => match o with | .lst ds => ∃ l : List Bool, ds = l.map .bl ∧ l.length < 64 ∧ Q (.int (boolN l)) h | _ => False) := ⟨fun o e q => match o, e, q with | .lst ds, e, q => lenSetB_ls (ls_lst e) q⟩
end G
end
section
set_option linter.all false
set_option autoImplicit false
namespace G
open PySem
theorem scount_i {h : AH} {a b : Str} {Q : KD} (q : Q (.int (cntT a b)) h) : mSCount (.str a) [.str b] h Q := by
  unfold mSCount
  exact q
instance {h : AH} {Q : KD} {a b : Str} : Rl (mSCount (.str a) [.str b] h Q) (Q (.int (cntT a b)) h) := ⟨scount_i⟩
end G
end
section
set_option linter.all false
set_option autoImplicit false
set_option maxRecDepth 10000
namespace K03
open G
/-- name_of: 0 deed -/
def b_name_of : DS :=
(dRet (dTup (daCons (d2 oIx (dVar 0) (dInt 0)) (daCons (d2 oIx (dVar 0) (dInt 1)) daNil))))
@[irreducible] def f_name_of : FS := fnOf 1 1 (b_name_of)
/-- are_no_less: 0 one, 1 other, 2 mine, 3 theirs -/
def b_are_no_less : DS :=
(dRet (dCall bAll (daCons (dComp (G.iZipT (daCons (dVar 0) (daCons (dVar 1) daNil))) (G.gTup 2 (G.gCons (gVar 2) (G.gCons (gVar 3) G.gNil))) G.tYes (d2 oGe (dVar 2) (dVar 3)) [2, 3]) daNil)))
@[irreducible] def f_are_no_less : FS := fnOf 4 2 (b_are_no_less)
/-- table_of: 0 deeds, 1 found, 2 deed -/
def b_table_of : DS :=
(dSeq (dSet 1 dDic0)
(dSeq (dFor (iSeq (dVar 0)) (gVar 2)
(dSeq (dIf (tQ (d2 oNe (dMeth "dict" mGet (dVar 1) (daCons (dCall f_name_of (daCons (dVar 2) daNil)) (daCons (dVar 2) daNil))) (dVar 2)))
dDead
dNx)
(dAsg (dVar 2) (G.gSub (dVar 1) (dCall f_name_of (daCons (dVar 2) daNil))))))
(dRet (dVar 1))))
@[irreducible] def f_table_of : FS := fnOf 3 1 (b_table_of)
/-- Folk.lasts: 0 self, 1 counts, 2 hand, 3 many -/
def b_Folk_lasts (A_Folk : Addr) : DS :=
(dRet (dComp (iZipM (daCons (dFld A_Folk "hands" (dVar 0)) (daCons (dVar 1) daNil))) (G.gTup 2 (G.gCons (gVar 2) (G.gCons (gVar 3) G.gNil))) (tQ (d2 oGt (dVar 3) (dInt 0))) (dTup (daCons (dVar 2) (daCons (dVar 3) daNil))) [2, 3]))
@[irreducible] def f_Folk_lasts (A_Folk : Addr) : FS := fnOf 4 2 (b_Folk_lasts A_Folk)
/-- Folk.take: 0 self, 1 deed, 2 height, 3 last -/
def b_Folk_take (A_Folk : Addr) : DS :=
(dSeq (dSet 2 (dInt 1))
(dSeq (dFor (iSeq (dMtc A_Folk "lasts" (f_Folk_lasts A_Folk) (dVar 0) (daCons (d2 oIx (dVar 1) (dInt 2)) daNil))) (gVar 3)
(dSeq (dIf (G.tOr (tQ (d2 oNotIn (dVar 3) (dFld A_Folk "ranks" (dVar 0)))) (G.tNot (tV (dCall f_are_no_less (daCons (d2 oIx (dVar 1) (dInt 2)) (daCons (d2 oIx (d2 oIx (dFld A_Folk "table" (dVar 0)) (dVar 3)) (dInt 2)) daNil))))))
dDead
dNx)
(dSet 2 (dCall bMax (daCons (dVar 2) (daCons (d2 oAdd (dInt 1) (d2 oIx (d2 oIx (dFld A_Folk "ranks" (dVar 0)) (dVar 3)) (dInt 0))) daNil))))))
(dAsg (dTup (daCons (dVar 2) (daCons (dMeth "list" mIndex (dFld A_Folk "hands" (dVar 0)) (daCons (d2 oIx (dVar 1) (dInt 0)) daNil)) daNil))) (G.gSub (dFld A_Folk "ranks" (dVar 0)) (dCall f_name_of (daCons (dVar 1) daNil))))))
@[irreducible] def f_Folk_take (A_Folk : Addr) : FS := fnOf 4 2 (b_Folk_take A_Folk)
/-- Folk.__init__: 0 self, 1 roll, 2 deeds, 3 deed -/
def b_Folk___init__ (A_Folk : Addr) : DS :=
(dSeq (dSetF A_Folk "hands" (dVar 0) (dCall bList (daCons (dVar 1) daNil)))
(dSeq (dSetF A_Folk "table" (dVar 0) (dCall f_table_of (daCons (dVar 2) daNil)))
(dSeq (dSetF A_Folk "ranks" (dVar 0) dDic0)
(dSeq (dFor (iSeq (d1 (oSortVS 2) (dFld A_Folk "table" (dVar 0)))) (gVar 3)
(dExp (dMtc A_Folk "take" (f_Folk_take A_Folk) (dVar 0) (daCons (dVar 3) daNil))))
(dSetF A_Folk "order" (dVar 0) (d2 (oSortKF A_Folk "ranks") (dFld A_Folk "ranks" (dVar 0)) (dVar 0)))))))
@[irreducible] def f_Folk___init__ (A_Folk : Addr) : FS := fnOf 4 3 (b_Folk___init__ A_Folk)
/-- Folk.roll: 0 self -/
def b_Folk_roll (A_Folk : Addr) : DS :=
(dRet (dCall bList (daCons (dFld A_Folk "hands" (dVar 0)) daNil)))
@[irreducible] def f_Folk_roll (A_Folk : Addr) : FS := fnOf 1 1 (b_Folk_roll A_Folk)
/-- Folk.names: 0 self -/
def b_Folk_names (A_Folk : Addr) : DS :=
(dRet (dCall bList (daCons (dFld A_Folk "order" (dVar 0)) daNil)))
@[irreducible] def f_Folk_names (A_Folk : Addr) : FS := fnOf 1 1 (b_Folk_names A_Folk)
/-- Folk.deeds: 0 self, 1 name -/
def b_Folk_deeds (A_Folk : Addr) : DS :=
(dRet (dComp (iSeq (dFld A_Folk "order" (dVar 0))) (gVar 1) G.tYes (d2 oIx (dFld A_Folk "table" (dVar 0)) (dVar 1)) [1]))
@[irreducible] def f_Folk_deeds (A_Folk : Addr) : FS := fnOf 2 1 (b_Folk_deeds A_Folk)
/-- Folk.counts: 0 self, 1 found, 2 hand, 3 name -/
def b_Folk_counts (A_Folk : Addr) : DS :=
(dSeq (dSet 1 (dLst daNil))
(dSeq (dFor (iSeq (dFld A_Folk "hands" (dVar 0))) (gVar 2)
(dExp (dMeth "list" mAppend (dVar 1) (daCons (dCall bLen (daCons (dComp (iSeq (dFld A_Folk "order" (dVar 0))) (gVar 3) (tQ (d2 oEq (d2 oIx (dVar 3) (dInt 0)) (dVar 2))) (dVar 3) [3]) daNil)) daNil))))
(dRet (dCall bTuple (daCons (dVar 1) daNil)))))
@[irreducible] def f_Folk_counts (A_Folk : Addr) : FS := fnOf 4 1 (b_Folk_counts A_Folk)
/-- Folk.has: 0 self, 1 name -/
def b_Folk_has (A_Folk : Addr) : DS :=
(dRet (d2 oIn (dVar 1) (dFld A_Folk "table" (dVar 0))))
@[irreducible] def f_Folk_has (A_Folk : Addr) : FS := fnOf 2 2 (b_Folk_has A_Folk)
/-- Folk.deed: 0 self, 1 name -/
def b_Folk_deed (A_Folk : Addr) : DS :=
(dRet (d2 oIx (dFld A_Folk "table" (dVar 0)) (dVar 1)))
@[irreducible] def f_Folk_deed (A_Folk : Addr) : FS := fnOf 2 2 (b_Folk_deed A_Folk)
/-- Folk.key: 0 self, 1 name -/
def b_Folk_key (A_Folk : Addr) : DS :=
(dRet (d2 oIx (dFld A_Folk "ranks" (dVar 0)) (dVar 1)))
@[irreducible] def f_Folk_key (A_Folk : Addr) : FS := fnOf 2 2 (b_Folk_key A_Folk)
/-- _law_draws: 0 _law_cell, 1 _law_many, 2 _law_found, 3 _law_digits, 4 _law_k, 5 _law_number, 6 _law_mixed -/
def b_l_draws : DS :=
(dSeq (dSet 2 (dLst daNil))
(dSeq (dSet 3 (dCall bMax (daCons (dInt 0) (daCons (d2 oSub (dVar 0) (d2 oPow (dInt 10) (dInt 18))) daNil))))
(dSeq (dFor (iRng1 (daCons (dVar 1) daNil)) (gVar 4)
(dSeq (dSet 5 (d2 oMod (d2 oMul (d2 oAdd (d2 oAdd (d2 oMod (dVar 0) (dInt 1000000007)) (d2 oMul (d2 oMul (dInt 7919) (dVar 4)) (dVar 4))) (dInt 104729)) (dInt 48271)) (dInt 2147483629)))
(dSeq (dSet 5 (d2 oMod (d2 oMul (dVar 5) (dVar 5)) (dInt 2147483587)))
(dSeq (dSet 6 (d2 oDiv (d2 oMul (d2 oMul (d2 oMul (dVar 5) (d2 oAdd (dVar 5) (dInt 1))) (dInt 69621)) (d2 oAdd (d2 oAdd (dVar 5) (dVar 4)) (dInt 2))) (dInt 97)))
(dSeq (dIf (tQ (d2 oGt (dVar 3) (dInt 0)))
(dSet 6 (dVar 3))
dNx)
(dSeq (dExp (dMeth "list" mAppend (dVar 2) (daCons (d2 oMod (dVar 6) (d2 oPow (dInt 10) (dInt 34))) daNil)))
(dSet 3 (d2 oDivW (dVar 3) (d2 oPow (dInt 10) (dInt 34))))))))))
(dRet (dVar 2)))))
@[irreducible] def f_l_draws : FS := fnOf 7 2 (b_l_draws)
/-- _law_word: 0 _law_number, 1 _law_word_here, 2 _law_many, 3 _law_k -/
def b_l_word : DS :=
(dSeq (dSet 1 (dStr (PySem.Str.ofString "")))
(dSeq (dSet 2 (d2 oAdd (dInt 1) (d2 oMod (dVar 0) (dInt 8))))
(dSeq (dSet 0 (d2 oDiv (dVar 0) (dInt 8)))
(dSeq (dFor (iRng1 (daCons (dVar 2) daNil)) (gVar 3)
(dSeq (dSet 1 (d2 oAdd (dVar 1) (d2 oIx (dStr (PySem.Str.ofString "abcdefghijklmnopqrstuvwxyz")) (d2 oMod (dVar 0) (dInt 26)))))
(dSet 0 (d2 oDiv (dVar 0) (dInt 26)))))
(dRet (dVar 1))))))
@[irreducible] def f_l_word : FS := fnOf 4 1 (b_l_word)
/-- _law_roll: 0 _law_cell, 1 _law_draws_here, 2 _law_roll_here, 3 _law_k, 4 _law_word_here, 5 _law_letter -/
def b_l_roll : DS :=
(dSeq (dSet 1 (dCall f_l_draws (daCons (dVar 0) (daCons (dInt 7) daNil))))
(dSeq (dSet 2 (dLst daNil))
(dSeq (dFor (iRng1 (daCons (d2 oAdd (dInt 2) (d2 oMod (d2 oIx (dVar 1) (dInt 0)) (dInt 5))) daNil)) (gVar 3)
(dSeq (dSet 4 (dCall f_l_word (daCons (d2 oIx (dVar 1) (d2 oAdd (dInt 1) (dVar 3))) daNil)))
(dSeq (dFor (G.iTxt (dStr (PySem.Str.ofString "abcdefgh"))) (gVar 5)
(dIf (tQ (d2 oIn (dVar 4) (dVar 2)))
(dSet 4 (d2 oAdd (dSl (dVar 4) doNone (doSome (dInt 7))) (dVar 5)))
dNx))
(dExp (dMeth "list" mAppend (dVar 2) (daCons (dVar 4) daNil))))))
(dRet (dVar 2)))))
@[irreducible] def f_l_roll : FS := fnOf 6 1 (b_l_roll)
/-- _law_name: 0 _law_number, 1 _law_roll_here, 2 _law_more -/
def b_l_name : DS :=
(dSeq (dSet 2 (d2 oDiv (dVar 0) (dCall bLen (daCons (dVar 1) daNil))))
(dRet (dTup (daCons (d2 oIx (dVar 1) (d2 oMod (dVar 0) (dCall bLen (daCons (dVar 1) daNil)))) (daCons (d2 oAdd (dInt 1) (d2 oMod (d2 oDiv (dVar 2) (dInt 2)) (d2 oIx (dLst (daCons (dInt 9) (daCons (d2 oPow (dInt 10) (dInt 6)) daNil))) (d2 oMod (dVar 2) (dInt 2))))) daNil)))))
@[irreducible] def f_l_name : FS := fnOf 3 2 (b_l_name)
/-- _law_part: 0 _law_number, 1 _law_roll_here -/
def b_l_part : DS :=
(dSeq (dIf (tQ (d2 oEq (d2 oMod (dVar 0) (dInt 3)) (dInt 0)))
(dRet (dTup (daCons (dStr (PySem.Str.ofString "")) (daCons (dInt 0) daNil))))
dNx)
(dRet (dCall f_l_name (daCons (d2 oDiv (dVar 0) (dInt 3)) (daCons (dVar 1) daNil)))))
@[irreducible] def f_l_part : FS := fnOf 2 2 (b_l_part)
/-- _law_sign_name: 0 _law_number, 1 _law_roll_here -/
def b_l_sign_name : DS :=
(dRet (d2 oAdd (dCall f_l_name (daCons (d2 oDiv (dVar 0) (dInt 24)) (daCons (dVar 1) daNil))) (dTup (daCons (d2 oIx (dLst (daCons (d2 oMod (d2 oDiv (dVar 0) (dInt 2)) (dInt 12)) (daCons (d2 oPow (dInt 10) (dInt 6)) daNil))) (dCall bInt (daCons (d2 oEq (d2 oMod (dVar 0) (dInt 24)) (dInt 1)) daNil))) daNil))))
@[irreducible] def f_l_sign_name : FS := fnOf 2 2 (b_l_sign_name)
/-- _law_side: 0 _law_number, 1 _law_roll_here -/
def b_l_side : DS :=
(dRet (dTup (daCons (dCall f_l_sign_name (daCons (d2 oDiv (dVar 0) (dInt 2)) (daCons (dVar 1) daNil))) (daCons (d2 oIx (dLst (daCons (dStr (PySem.Str.ofString "ahead")) (daCons (dStr (PySem.Str.ofString "behind")) daNil))) (d2 oMod (dVar 0) (dInt 2))) daNil))))
@[irreducible] def f_l_side : FS := fnOf 2 2 (b_l_side)
/-- _law_sign: 0 _law_number, 1 _law_roll_here, 2 _law_kind -/
def b_l_sign : DS :=
(dSeq (dSet 2 (d2 oMod (dVar 0) (dInt 31)))
(dSeq (dIf (tQ (d2 oLt (dVar 2) (dInt 29)))
(dRet (d2 oIx (dStr (PySem.Str.ofString "abcdefghijklmnopqrstuvwxyz .,")) (dVar 2)))
dNx)
(dSeq (dIf (tQ (d2 oEq (dVar 2) (dInt 29)))
(dRet (dTup (daCons (dStr (PySem.Str.ofString "picture")) (daCons (dCall f_l_word (daCons (d2 oDiv (dVar 0) (dInt 31)) daNil)) daNil))))
dNx)
(dRet (dTup (daCons (dStr (PySem.Str.ofString "refer")) (daCons (dCall f_l_part (daCons (d2 oDiv (dVar 0) (dInt 31)) (daCons (dVar 1) daNil))) daNil)))))))
@[irreducible] def f_l_sign : FS := fnOf 3 2 (b_l_sign)
/-- _law_signs: 0 _law_draws_here, 1 _law_roll_here, 2 _law_number -/
def b_l_signs : DS :=
(dRet (dCall bTuple (daCons (dComp (iSeq (dSl (dVar 0) doNone (doSome (d2 oAdd (dInt 1) (d2 oMod (d2 oIx (dVar 0) (dInt 0)) (dInt 12)))))) (gVar 2) G.tYes (dCall f_l_sign (daCons (d2 oDiv (dVar 2) (dInt 12)) (daCons (dVar 1) daNil))) [2]) daNil)))
@[irreducible] def f_l_signs : FS := fnOf 3 2 (b_l_signs)
/-- _law_sign_names: 0 _law_draws_here, 1 _law_roll_here, 2 _law_found, 3 _law_number, 4 _law_name_here -/
def b_l_sign_names : DS :=
(dSeq (dSet 2 (dLst daNil))
(dSeq (dFor (iSeq (dSl (dVar 0) doNone (doSome (d2 oAdd (dInt 1) (d2 oMod (d2 oIx (dVar 0) (dInt 0)) (dInt 12)))))) (gVar 3)
(dSeq (dSet 4 (dCall f_l_sign_name (daCons (d2 oDiv (dVar 3) (dInt 12)) (daCons (dVar 1) daNil))))
(dIf (tQ (d2 oNotIn (dVar 4) (dVar 2)))
(dExp (dMeth "list" mAppend (dVar 2) (daCons (dVar 4) daNil)))
dNx)))
(dRet (dCall bTuple (daCons (dVar 2) daNil)))))
@[irreducible] def f_l_sign_names : FS := fnOf 5 2 (b_l_sign_names)
/-- _law_what_of_signs: 0 _law_kind, 1 _law_more, 2 _law_roll_here, 3 _law_part_here, 4 _law_name_here, 5 _law_behind -/
def b_l_what_of_signs : DS :=
(dSeq (dSet 3 (dCall f_l_part (daCons (d2 oIx (dVar 1) (dInt 0)) (daCons (dVar 2) daNil))))
(dSeq (dSet 4 (dCall f_l_name (daCons (d2 oIx (dVar 1) (dInt 1)) (daCons (dVar 2) daNil))))
(dSeq (dSet 5 (d2 oIx (dLst (daCons dNon (daCons (dCall f_l_sign_name (daCons (d2 oDiv (d2 oIx (dVar 1) (dInt 1)) (dInt 3)) (daCons (dVar 2) daNil))) daNil))) (dCall bInt (daCons (d2 oGt (d2 oMod (d2 oIx (dVar 1) (dInt 1)) (dInt 3)) (dInt 0)) daNil))))
(dSeq (dIf (tQ (d2 oEq (dVar 0) (dInt 1)))
(dRet (dTup (daCons (dStr (PySem.Str.ofString "part")) (daCons (dVar 3) daNil))))
dNx)
(dSeq (dIf (tQ (d2 oEq (dVar 0) (dInt 2)))
(dRet (dTup (daCons (dStr (PySem.Str.ofString "move")) (daCons (dVar 4) (daCons (dVar 3) daNil)))))
dNx)
(dSeq (dIf (tQ (d2 oEq (dVar 0) (dInt 3)))
(dRet (dTup (daCons (dStr (PySem.Str.ofString "cut")) (daCons (dVar 4) daNil))))
dNx)
(dSeq (dIf (tQ (d2 oEq (dVar 0) (dInt 4)))
(dRet (dTup (daCons (dStr (PySem.Str.ofString "put")) (daCons (dVar 3) (daCons (dVar 5) (daCons (dCall f_l_signs (daCons (dSl (dVar 1) (doSome (dInt 2)) doNone) (daCons (dVar 2) daNil))) daNil))))))
dNx)
(dSeq (dIf (tQ (d2 oEq (dVar 0) (dInt 5)))
(dRet (dTup (daCons (dStr (PySem.Str.ofString "out")) (daCons (dVar 3) (daCons (dCall f_l_sign_names (daCons (dSl (dVar 1) (doSome (dInt 1)) doNone) (daCons (dVar 2) daNil))) daNil)))))
dNx)
(dRet (dTup (daCons (dStr (PySem.Str.ofString "nothing")) daNil)))))))))))
@[irreducible] def f_l_what_of_signs : FS := fnOf 6 3 (b_l_what_of_signs)
/-- _law_what_of_marks: 0 _law_kind, 1 _law_more, 2 _law_roll_here, 3 _law_part_here, 4 _law_name_here, 5 _law_sides, 6 _law_value, 7 _law_word_here -/
def b_l_what_of_marks : DS :=
(dSeq (dSet 3 (dCall f_l_part (daCons (d2 oIx (dVar 1) (dInt 0)) (daCons (dVar 2) daNil))))
(dSeq (dSet 4 (dCall f_l_name (daCons (d2 oIx (dVar 1) (dInt 1)) (daCons (dVar 2) daNil))))
(dSeq (dSet 5 (dTup (daCons (dCall f_l_side (daCons (d2 oIx (dVar 1) (dInt 1)) (daCons (dVar 2) daNil))) (daCons (dCall f_l_side (daCons (d2 oIx (dVar 1) (dInt 2)) (daCons (dVar 2) daNil))) daNil))))
(dSeq (dIf (tQ (d2 oEq (dVar 0) (dInt 6)))
(dSeq (dSet 6 (d2 oIx (dLst (daCons dNon (daCons (dCall f_l_word (daCons (d2 oDiv (d2 oIx (dVar 1) (dInt 4)) (dInt 3)) daNil)) daNil))) (dCall bInt (daCons (d2 oGt (d2 oMod (d2 oIx (dVar 1) (dInt 4)) (dInt 3)) (dInt 0)) daNil))))
(dRet (d2 oAdd (d2 oAdd (dTup (daCons (dStr (PySem.Str.ofString "mark")) (daCons (dVar 3) daNil))) (dVar 5)) (dTup (daCons (dCall f_l_word (daCons (d2 oIx (dVar 1) (dInt 3)) daNil)) (daCons (dVar 6) daNil))))))
dNx)
(dSeq (dIf (tQ (d2 oEq (dVar 0) (dInt 7)))
(dRet (d2 oAdd (d2 oAdd (dTup (daCons (dStr (PySem.Str.ofString "note")) (daCons (dVar 3) daNil))) (dVar 5)) (dTup (daCons (dCall f_l_word (daCons (d2 oIx (dVar 1) (dInt 3)) daNil)) daNil))))
dNx)
(dSeq (dIf (tQ (d2 oEq (dVar 0) (dInt 8)))
(dRet (dTup (daCons (dStr (PySem.Str.ofString "line")) (daCons (dVar 3) (daCons (d2 oIx (dLst (daCons (dStr (PySem.Str.ofString "row")) (daCons (dStr (PySem.Str.ofString "column")) daNil))) (d2 oMod (d2 oIx (dVar 1) (dInt 2)) (dInt 2))) (daCons (d2 oIx (dLst (daCons dNon (daCons (dVar 4) daNil))) (dCall bInt (daCons (d2 oGt (d2 oMod (d2 oDiv (d2 oIx (dVar 1) (dInt 2)) (dInt 2)) (dInt 3)) (dInt 0)) daNil))) daNil))))))
dNx)
(dSeq (dIf (tQ (d2 oEq (dVar 0) (dInt 9)))
(dRet (dTup (daCons (dStr (PySem.Str.ofString "strike")) (daCons (dVar 3) (daCons (dVar 4) daNil)))))
dNx)
(dSeq (dSet 7 (d2 oIx (dLst (daCons (dStr (PySem.Str.ofString "")) (daCons (dCall f_l_word (daCons (d2 oDiv (d2 oIx (dVar 1) (dInt 3)) (dInt 3)) daNil)) daNil))) (dCall bInt (daCons (d2 oGt (d2 oMod (d2 oIx (dVar 1) (dInt 3)) (dInt 3)) (dInt 0)) daNil))))
(dRet (dTup (daCons (dStr (PySem.Str.ofString "cell")) (daCons (dVar 3) (daCons (dVar 4) (daCons (dCall f_l_name (daCons (d2 oIx (dVar 1) (dInt 2)) (daCons (dVar 2) daNil))) (daCons (dVar 7) daNil)))))))))))))))
@[irreducible] def f_l_what_of_marks : FS := fnOf 8 3 (b_l_what_of_marks)
/-- _law_what: 0 _law_draws_here, 1 _law_roll_here, 2 _law_number, 3 _law_kind, 4 _law_more, 5 _law_to, 6 _law_one -/
def b_l_what : DS :=
(dSeq (dSet 3 (d2 oMod (d2 oIx (dVar 0) (dInt 0)) (dInt 17)))
(dSeq (dSet 4 (dSl (dVar 0) (doSome (dInt 1)) doNone))
(dSeq (dIf (tQ (d2 oLt (dVar 3) (dInt 6)))
(dRet (dCall f_l_what_of_signs (daCons (dVar 3) (daCons (dVar 4) (daCons (dVar 1) daNil)))))
dNx)
(dSeq (dIf (tQ (d2 oLt (dVar 3) (dInt 11)))
(dRet (dCall f_l_what_of_marks (daCons (dVar 3) (daCons (dVar 4) (daCons (dVar 1) daNil)))))
dNx)
(dSeq (dIf (tQ (d2 oEq (dVar 3) (dInt 11)))
(dSeq (dSet 5 (d2 oIx (dLst (daCons (dStr (PySem.Str.ofString "read")) (daCons (dStr (PySem.Str.ofString "note")) (daCons (dStr (PySem.Str.ofString "write")) (daCons (dStr (PySem.Str.ofString "give")) daNil))))) (d2 oMod (d2 oIx (dVar 4) (dInt 2)) (dInt 4))))
(dRet (dTup (daCons (dStr (PySem.Str.ofString "leave")) (daCons (dCall f_l_part (daCons (d2 oIx (dVar 4) (dInt 0)) (daCons (dVar 1) daNil))) (daCons (d2 oIx (dVar 1) (d2 oMod (d2 oIx (dVar 4) (dInt 1)) (dCall bLen (daCons (dVar 1) daNil)))) (daCons (dVar 5) (daCons (d2 oEq (d2 oMod (d2 oIx (dVar 4) (dInt 3)) (dInt 2)) (dInt 0)) daNil))))))))
dNx)
(dSeq (dIf (G.tAnd (tQ (d2 oLt (dVar 3) (dInt 14))) (tQ (d2 oGt (dVar 2) (dInt 1))))
(dRet (dTup (daCons (d2 oIx (dLst (daCons (dStr (PySem.Str.ofString "back")) (daCons (dStr (PySem.Str.ofString "again")) daNil))) (d2 oSub (dVar 3) (dInt 12))) (daCons (d2 oAdd (dInt 1) (d2 oMod (d2 oIx (dVar 4) (dInt 0)) (d2 oSub (dVar 2) (dInt 1)))) daNil))))
dNx)
(dSeq (dIf (G.tOr (tQ (d2 oEq (dVar 3) (dInt 14))) (tQ (d2 oEq (dVar 3) (dInt 15))))
(dRet (dTup (daCons (d2 oIx (dLst (daCons (dStr (PySem.Str.ofString "bring")) (daCons (dStr (PySem.Str.ofString "drop")) daNil))) (d2 oSub (dVar 3) (dInt 14))) (daCons (dCall f_l_word (daCons (d2 oIx (dVar 4) (dInt 0)) daNil)) daNil))))
dNx)
(dSeq (dIf (tQ (d2 oEq (dVar 3) (dInt 16)))
(dRet (dTup (daCons (dStr (PySem.Str.ofString "pour")) (daCons (dCall bTuple (daCons (dComp (iSeq (dSl (dVar 4) doNone (doSome (dCall bLen (daCons (dVar 1) daNil))))) (gVar 6) G.tYes (d2 oMod (dVar 6) (d2 oIx (dLst (daCons (dInt 9) (daCons (d2 oAdd (d2 oPow (dInt 10) (dInt 6)) (dInt 1)) daNil))) (d2 oMod (d2 oDiv (dVar 6) (dInt 9)) (dInt 2)))) [6]) daNil)) daNil))))
dNx)
(dRet (dTup (daCons (dStr (PySem.Str.ofString "nothing")) daNil)))))))))))
@[irreducible] def f_l_what : FS := fnOf 7 3 (b_l_what)
/-- _law_branch: 0 _law_number, 1 _law_roll_here -/
def b_l_branch : DS :=
(dSeq (dIf (tQ (d2 oEq (d2 oMod (dVar 0) (dInt 2)) (dInt 0)))
(dRet dNon)
dNx)
(dRet (dTup (daCons (d2 oIx (dVar 1) (d2 oMod (d2 oDiv (dVar 0) (dInt 2)) (dCall bLen (daCons (dVar 1) daNil)))) (daCons (dCall f_l_word (daCons (d2 oDiv (dVar 0) (dInt 12)) daNil)) daNil)))))
@[irreducible] def f_l_branch : FS := fnOf 2 2 (b_l_branch)
/-- _law_house: 0 _law_script, 1 _law_most, 2 _law_cells, 3 _law_roll_here, 4 _law_many, 5 _law_known, 6 _law_table, 7 _law_deeds, 8 _law_k, 9 _law_cell, 10 _law_draws_here, 11 _law_who, 12 _law_turn, 13 _law_other, 14 _law_to, 15 _law_theirs, 16 _law_number, 17 _law_heard, 18 _law_what_here, 19 _law_hand, 20 _law_at -/
def b_l_house : DS :=
(dSeq (dSet 2 (d2 oAddL (dVar 0) (dLst (daCons (dInt 0) daNil))))
(dSeq (dSet 3 (dCall f_l_roll (daCons (d2 oIx (dVar 2) (dInt 0)) daNil)))
(dSeq (dSet 4 (dCall bLen (daCons (dVar 3) daNil)))
(dSeq (dSet 5 (dComp (iSeq (dVar 3)) (gVar 19) G.tYes (d2 oMul (dLst (daCons (dInt 0) daNil)) (dVar 4)) [19]))
(dSeq (dSet 6 dDic0)
(dSeq (dSet 7 (dLst daNil))
(dSeq (dFor (G.iEnum (daCons (dSl (dVar 0) (doSome (dInt 1)) (doSome (dVar 1))) daNil)) (G.gTup 2 (G.gCons (gVar 8) (G.gCons (gVar 9) G.gNil)))
(dSeq (dSet 10 (dCall f_l_draws (daCons (d2 oAdd (dVar 9) (d2 oMul (d2 oMul (d2 oMul (dInt 2) (dInt 104729)) (dVar 8)) (dVar 8))) (daCons (dInt 22) daNil))))
(dSeq (dSet 11 (d2 oMod (d2 oIx (dVar 10) (dInt 0)) (dVar 4)))
(dSeq (dFor (iRng1 (daCons (d2 oMod (d2 oDiv (d2 oIx (dVar 10) (dInt 0)) (dVar 4)) (dInt 3)) daNil)) (gVar 12)
(dSeq (dSet 13 (d2 oMod (d2 oIx (dVar 10) (d2 oAdd (dInt 1) (dVar 12))) (dVar 4)))
(dSeq (dSet 14 (d2 oMod (d2 oDiv (d2 oIx (dVar 10) (d2 oAdd (dInt 1) (dVar 12))) (dVar 4)) (d2 oAdd (d2 oIx (d2 oIx (dVar 5) (dVar 13)) (dVar 13)) (dInt 1))))
(dIf (tQ (d2 oGt (dVar 14) (d2 oIx (d2 oIx (dVar 5) (dVar 11)) (dVar 13))))
(dSeq (dSet 15 (d2 oIx (dVar 6) (dTup (daCons (dVar 13) (daCons (dVar 14) daNil)))))
(dSeq (dAsg (dComp (iRng1 (daCons (dVar 4) daNil)) (gVar 20) G.tYes (dCall bMax (daCons (d2 oIx (d2 oIx (dVar 5) (dVar 11)) (dVar 20)) (daCons (d2 oIx (dVar 15) (dVar 20)) daNil))) [20]) (G.gSub (dVar 5) (dVar 11)))
(dAsg (dCall bMax (daCons (d2 oIx (d2 oIx (dVar 5) (dVar 11)) (dVar 13)) (daCons (dVar 14) daNil))) (G.gSub (d2 oIx (dVar 5) (dVar 11)) (dVar 13)))))
dNx))))
(dSeq (dSet 16 (d2 oAdd (d2 oIx (d2 oIx (dVar 5) (dVar 11)) (dVar 11)) (dInt 1)))
(dSeq (dSet 17 (dCall bTuple (daCons (d2 oIx (dVar 5) (dVar 11)) daNil)))
(dSeq (dAsg (dCall bList (daCons (dVar 17) daNil)) (G.gSub (dVar 6) (dTup (daCons (dVar 11) (daCons (dVar 16) daNil)))))
(dSeq (dAsg (dVar 16) (G.gSub (d2 oIx (dVar 5) (dVar 11)) (dVar 11)))
(dSeq (dSet 18 (dCall f_l_what (daCons (dSl (dVar 10) (doSome (dInt 4)) doNone) (daCons (dVar 3) (daCons (dVar 16) daNil)))))
(dExp (dMeth "list" mAppend (dVar 7) (daCons (dTup (daCons (d2 oIx (dVar 3) (dVar 11)) (daCons (dVar 16) (daCons (dVar 17) (daCons (dCall f_l_branch (daCons (d2 oIx (dVar 10) (dInt 3)) (daCons (dVar 3) daNil))) (daCons (dVar 18) daNil)))))) daNil))))))))))))
(dRet (dTup (daCons (dVar 3) (daCons (dVar 7) daNil)))))))))))
@[irreducible] def f_l_house : FS := fnOf 21 2 (b_l_house)
/-- _law_mixed_up: 0 _law_deeds, 1 _law_cell, 2 _law_found, 3 _law_k, 4 _law_deed, 5 _law_at -/
def b_l_mixed_up : DS :=
(dSeq (dSet 2 (dLst daNil))
(dSeq (dFor (G.iEnum (daCons (dVar 0) daNil)) (G.gTup 2 (G.gCons (gVar 3) (G.gCons (gVar 4) G.gNil)))
(dSeq (dSet 5 (d2 oMod (d2 oAdd (d2 oMod (dVar 1) (d2 oPow (dInt 10) (dInt 20))) (d2 oMul (d2 oMul (dInt 48271) (dVar 3)) (dVar 3))) (d2 oAdd (dCall bLen (daCons (dVar 2) daNil)) (dInt 1))))
(dExp (dMeth "list" mInsert (dVar 2) (daCons (dVar 5) (daCons (dVar 4) daNil))))))
(dRet (dVar 2))))
@[irreducible] def f_l_mixed_up : FS := fnOf 6 2 (b_l_mixed_up)
/-- _law_is_past: 0 _law_roll_here, 1 _law_deed, 2 _law_other -/
def b_l_is_past : DS :=
(dRet (d2 oLe (d2 oIx (dVar 2) (dInt 1)) (d2 oIx (d2 oIx (dVar 1) (dInt 2)) (dMeth "list" mIndex (dVar 0) (daCons (d2 oIx (dVar 2) (dInt 0)) daNil)))))
@[irreducible] def f_l_is_past : FS := fnOf 3 3 (b_l_is_past)
/-- _law_heights: 0 _law_roll_here, 1 _law_deeds, 2 _law_heights_here, 3 _law_turn, 4 _law_deed, 5 _law_name_here, 6 _law_past, 7 _law_other, 8 _law_one -/
def b_l_heights : DS :=
(dSeq (dSet 2 dDic0)
(dSeq (dFor (iRng1 (daCons (dCall bLen (daCons (dVar 1) daNil)) daNil)) (gVar 3)
(dFor (iSeq (dVar 1)) (gVar 4)
(dSeq (dSet 5 (dTup (daCons (d2 oIx (dVar 4) (dInt 0)) (daCons (d2 oIx (dVar 4) (dInt 1)) daNil))))
(dSeq (dSet 6 (dComp (iSeq (dVar 1)) (gVar 7) (tV (dCall f_l_is_past (daCons (dVar 0) (daCons (dVar 4) (daCons (dVar 7) daNil))))) (dTup (daCons (d2 oIx (dVar 7) (dInt 0)) (daCons (d2 oIx (dVar 7) (dInt 1)) daNil))) [7]))
(dIf (G.tAnd (tQ (d2 oNotIn (dVar 5) (dVar 2))) (tQ (d2 oEq (dComp (iSeq (dVar 6)) (gVar 8) (tQ (d2 oNotIn (dVar 8) (dVar 2))) (dVar 8) [8]) (dLst daNil))))
(dAsg (d2 oAdd (dInt 1) (dCall bMax (daCons (d2 oAdd (dComp (iSeq (dVar 6)) (gVar 8) G.tYes (d2 oIx (dVar 2) (dVar 8)) [8]) (dLst (daCons (dInt 0) daNil))) daNil))) (G.gSub (dVar 2) (dVar 5)))
dNx)))))
(dRet (dVar 2))))
@[irreducible] def f_l_heights : FS := fnOf 9 2 (b_l_heights)
/-- _law_key: 0 _law_roll_here, 1 _law_heights_here, 2 _law_deed -/
def b_l_key : DS :=
(dRet (dTup (daCons (d2 oIx (dVar 1) (dTup (daCons (d2 oIx (dVar 2) (dInt 0)) (daCons (d2 oIx (dVar 2) (dInt 1)) daNil)))) (daCons (dMeth "list" mIndex (dVar 0) (daCons (d2 oIx (dVar 2) (dInt 0)) daNil)) daNil))))
@[irreducible] def f_l_key : FS := fnOf 3 3 (b_l_key)
/-- _law_right: 0 _law_folk, 1 _law_roll_here, 2 _law_deeds, 3 _law_heights_here, 4 _law_due, 5 _law_deed, 6 _law_name_here, 7 _law_rank, 8 _law_hand -/
def b_l_right (A_Folk : Addr) : DS :=
(dSeq (dSet 4 (dSortL (dVar 2) [1, 3] (dCall f_l_key (daCons (dVar 1) (daCons (dVar 2) (daCons (dVar 0) daNil))))))
(dSeq (dIf (G.tOr (tQ (d2 oNe (dMtc A_Folk "roll" (f_Folk_roll A_Folk) (dVar 0) daNil) (dVar 1))) (G.tOr (tQ (d2 oNe (dMtc A_Folk "deeds" (f_Folk_deeds A_Folk) (dVar 0) daNil) (dVar 4))) (tQ (d2 oNe (dMtc A_Folk "names" (f_Folk_names A_Folk) (dVar 0) daNil) (dComp (iSeq (dVar 4)) (gVar 5) G.tYes (dTup (daCons (d2 oIx (dVar 5) (dInt 0)) (daCons (d2 oIx (dVar 5) (dInt 1)) daNil))) [5])))))
(dRet (dBl false))
dNx)
(dSeq (dIf (tQ (d2 oNe (dMtc A_Folk "counts" (f_Folk_counts A_Folk) (dVar 0) daNil) (dCall bTuple (daCons (dComp (iSeq (dVar 1)) (gVar 8) G.tYes (dCall bLen (daCons (dComp (iSeq (dVar 2)) (gVar 5) (tQ (d2 oEq (d2 oIx (dVar 5) (dInt 0)) (dVar 8))) (dVar 5) [5]) daNil)) [8]) daNil))))
(dRet (dBl false))
dNx)
(dSeq (dFor (iSeq (dVar 2)) (gVar 5)
(dSeq (dSet 6 (dTup (daCons (d2 oIx (dVar 5) (dInt 0)) (daCons (d2 oIx (dVar 5) (dInt 1)) daNil))))
(dSeq (dSet 7 (dMtc A_Folk "key" (f_Folk_key A_Folk) (dVar 0) (daCons (dVar 6) daNil)))
(dSeq (dIf (G.tOr (tQ (d1 (oNotB true) (dMtc A_Folk "has" (f_Folk_has A_Folk) (dVar 0) (daCons (dVar 6) daNil)))) (G.tOr (tQ (d2 oNe (dMtc A_Folk "deed" (f_Folk_deed A_Folk) (dVar 0) (daCons (dVar 6) daNil)) (dVar 5))) (G.tNot (tV (d1 (oIsT "tuple") (dVar 7))))))
(dRet (dBl false))
dNx)
(dIf (G.tOr (tQ (d2 oNe (dVar 7) (dCall f_l_key (daCons (dVar 1) (daCons (dVar 3) (daCons (dVar 5) daNil)))))) (G.tOr (tV (d1 (oIsT "bool") (d2 oIx (dVar 7) (dInt 0)))) (G.tNot (tV (d1 (oIsT "int") (d2 oIx (dVar 7) (dInt 0)))))))
(dRet (dBl false))
dNx)))))
(dRet (dBl true))))))
@[irreducible] def f_l_right (A_Folk : Addr) : FS := fnOf 9 4 (b_l_right A_Folk)
/-- law: 0 _law_script, 1 _law_roll_here, 2 _law_deeds, 3 _law_heights_here, 4 _law_handed, 5 _law_kept, 6 _law_hands, 7 _law_folk, 8 _law_told, 9 _law_counts, 10 _law_stranger, 11 _law_hand, 12 _law_many, 13 _law_one, 14 _law_word_here -/
def b_law (A_Folk : Addr) : DS :=
(dSeq (dAsg (dCall f_l_house (daCons (dVar 0) (daCons (dInt 25) daNil))) (G.gTup 2 (G.gCons (gVar 1) (G.gCons (gVar 2) G.gNil))))
(dSeq (dSet 3 (dCall f_l_heights (daCons (dVar 1) (daCons (dVar 2) daNil))))
(dSeq (dSet 4 (dCall f_l_mixed_up (daCons (d2 oAdd (dVar 2) (d2 oStep (dVar 2) (dInt 3))) (daCons (d2 oAdd (dCall bLen (daCons (dVar 0) daNil)) (dCall bSum (daCons (dSl (dVar 0) doNone (doSome (dInt 3))) daNil))) daNil))))
(dSeq (dSet 5 (dCall bList (daCons (dVar 4) daNil)))
(dSeq (dSet 6 (dCall bList (daCons (dVar 1) daNil)))
(dSeq (dSet 7 (dMake A_Folk (f_Folk___init__ A_Folk) (daCons (dVar 6) (daCons (dVar 4) daNil))))
(dSeq (dIf (G.tOr (tQ (d2 oNe (dVar 4) (dVar 5))) (G.tOr (tQ (d2 oNe (dVar 6) (dVar 1))) (G.tNot (tV (dCall (f_l_right A_Folk) (daCons (dVar 7) (daCons (dVar 1) (daCons (dVar 2) (daCons (dVar 3) daNil)))))))))
(dRet (dBl false))
dNx)
(dSeq (dExp (dMeth "list" mClear (dVar 4) daNil))
(dSeq (dExp (dMeth "list" mReverse (dVar 6) daNil))
(dSeq (dFor (iSeq (dLst (daCons (dMtc A_Folk "roll" (f_Folk_roll A_Folk) (dVar 7) daNil) (daCons (dMtc A_Folk "deeds" (f_Folk_deeds A_Folk) (dVar 7) daNil) (daCons (dMtc A_Folk "names" (f_Folk_names A_Folk) (dVar 7) daNil) daNil))))) (gVar 8)
(dExp (dMeth "list" mAppend (dVar 8) (daCons dNon daNil))))
(dSeq (dSet 9 (dMtc A_Folk "counts" (f_Folk_counts A_Folk) (dVar 7) daNil))
(dSeq (dIf (G.tOr (G.tNot (tV (d1 (oIsT "tuple") (dVar 9)))) (tQ (d2 oNe (dComp (iSeq (dVar 9)) (gVar 13) (tV (d1 (oIsT "bool") (dVar 13))) (dVar 13) [13]) (dLst daNil))))
(dRet (dBl false))
dNx)
(dSeq (dSet 10 (d2 oIx (dComp (iSeq (dLst (daCons (dStr (PySem.Str.ofString "aa")) (daCons (dStr (PySem.Str.ofString "bb")) (daCons (dStr (PySem.Str.ofString "cc")) (daCons (dStr (PySem.Str.ofString "dd")) (daCons (dStr (PySem.Str.ofString "ee")) (daCons (dStr (PySem.Str.ofString "ff")) (daCons (dStr (PySem.Str.ofString "gg")) daNil))))))))) (gVar 14) (tQ (d2 oNotIn (dVar 14) (dVar 1))) (dVar 14) [14]) (dInt 0)))
(dSeq (dIf (tQ (d1 (oNotB false) (dMtc A_Folk "has" (f_Folk_has A_Folk) (dVar 7) (daCons (dTup (daCons (dVar 10) (daCons (dInt 1) daNil))) daNil))))
(dRet (dBl false))
dNx)
(dSeq (dFor (iZipM (daCons (dVar 1) (daCons (dVar 9) daNil))) (G.gTup 2 (G.gCons (gVar 11) (G.gCons (gVar 12) G.gNil)))
(dIf (G.tOr (tQ (d1 (oNotB false) (dMtc A_Folk "has" (f_Folk_has A_Folk) (dVar 7) (daCons (dTup (daCons (dVar 11) (daCons (d2 oAdd (dVar 12) (dInt 1)) daNil))) daNil)))) (tQ (d1 (oNotB false) (dMtc A_Folk "has" (f_Folk_has A_Folk) (dVar 7) (daCons (dTup (daCons (dVar 11) (daCons (dInt 0) daNil))) daNil)))))
(dRet (dBl false))
dNx))
(dRet (dCall (f_l_right A_Folk) (daCons (dVar 7) (daCons (dVar 1) (daCons (dVar 2) (daCons (dVar 3) daNil)))))))))))))))))))))
@[irreducible] def f_law (A_Folk : Addr) : FS := fnOf 15 1 (b_law A_Folk)
def f_lawA : FS := fun ds h Q => ∀ A_Folk : Addr, f_law A_Folk ds h Q
end K03
end
section
set_option linter.all false
set_option autoImplicit false
set_option maxRecDepth 100000
set_option maxHeartbeats 4000000
namespace K03
open G
open PySem (Str)
local macro_rules | `(tactic| fail $s:str) => match s.getString with
  | "ne" => `(tactic| first | assumption | (apply Ne.symm; assumption) | exact ne_f1 (by assumption) (by fail "lk") | exact ne_f2 (by assumption) (by fail "lk") | grind [up, Sb])
  | "lk" => `(tactic| first | assumption | exact up_same | (refine up_at ?_ ?_; (· fail "ne"); fail "lk") | (with_reducible apply Sb.at; assumption; fail "lk"))
  | "sd" => `(tactic| first | (with_reducible show -(2 ^ 62) ≤ (_ : Int); first | omega | (simp only [List.length_map]; omega)) | (with_reducible show (_ : Int) < 2 ^ 62; first | omega | (simp only [List.length_map]; omega)) | assumption | ((with_reducible apply RlL.un); (· fail "lk"); exact True.intro) | rfl | decide | (simp only [List.length_cons, List.length_nil]; decide) | exact mulOk_l (by decide) (by decide) | exact mulOk_r (by decide) (by decide) | exact mulOk_l (by omega) (by omega) | exact mulOk_r (by omega) (by omega) | omega | (simp only [List.length_map]; omega))
  | "ls" => `(tactic| first | exact sq_tup | exact sq_rl | exact ls_rl | (apply ls_lst; fail "lk") | (apply sq_lst; fail "lk"))
  | "st" => `(tactic| first
  | with_reducible refine Rl.un ?_
  | ((with_reducible apply RlL.un); (· fail "lk"))
  | ((with_reducible refine And.intro ?_ ?_); (· fail "sd"))
  | refine Exists.intro _ (And.intro (rfl : List.lookup _ _ = some _) ?_)
  | refine Exists.intro _ (And.intro (rfl : atI _ _ = some _) ?_)
  | refine Exists.intro _ (And.intro (rfl : ixN _ _ = some _) ?_)
  | ((with_reducible refine RlE.t ?_ ?_); (· with_reducible rfl))
  | ((with_reducible refine RlE.f ?_ ?_); (· first | assumption | decide)))
  | _ => Lean.Macro.throwUnsupported
local macro_rules | `(tactic| nofun) => `(tactic| fail "ne")
local macro_rules | `(tactic| bv_omega) => `(tactic| fail "lk")
local macro_rules | `(tactic| ac_rfl) => `(tactic| fail "sd")
local macro_rules | `(tactic| trivial) => `(tactic| ((conv => whnf); repeat (fail "st"; (conv => whnf))))
section
def LETT : Str := Str.ofString "abcdefghijklmnopqrstuvwxyz"
structure GoodW (w : Str) : Prop where
  lo : 1 ≤ w.length
  hi : w.length ≤ 8
  lt : ∀ c ∈ w.cps.toList, c ∈ LETT.cps.toList
theorem l_draws_ok {h : AH} {c : Int} {n : Nat} {Q : KD} (hn : n ≤ 30) (q : ∀ z (xs : List Int) h', h z = none → Sb h h' → h' z = some (.lst (xs.map .int)) → xs.length = n → Q (.ref z) h') : f_l_draws [.int c, .int n] h Q := by
  unfold f_l_draws
  trivial
  refine newL_i fun z nz => ?_
  trivial
  refine ⟨fun i ρ g => i ≤ n ∧ ∃ (dg : Int) (x4 x5 x6 : Option D) (xs : List Int), ρ = [some (.int c), some (.int n), some (.ref z), some (.int dg), x4, x5, x6] ∧ g z = some (.lst (xs.map .int)) ∧ xs.length = i ∧ Sb h g, ?_, ?_, ?_, ?_⟩
  · exact ⟨Nat.zero_le _, _, _, _, _, [], rfl, up_same, rfl, (Sb.refl _).upf' nz⟩
  · rintro i ρ g _ _
    exact True.intro
  · rintro i ρ g d ⟨hi, dg, x4, x5, x6, xs, rfl, ez, hl, sb⟩ hd
    obtain ⟨hi', rfl⟩ := rng_get hd
    rw [Int.toNat_natCast] at hi'
    rw [Int.zero_add]
    clear hd
    trivial
    have fin : ∀ v, Sb h (up g z (.lst (xs.map D.int ++ [v]))) := fun v x u y => by rw [up_ne (fun w => by rw [w, nz] at y; cases y)]; exact sb _ _ y
    have hlz : (xs.map D.int).length < SZ := by rw [List.length_map, SZ]; omega
    cases hdg : decide (0 < dg) with
    | true =>
      trivial
      apply Pt.of
      exact ⟨hi', _, _, _, _, xs ++ [_], rfl, by rw [up_same, List.map_append]; rfl, by rw [List.length_append, hl]; rfl, fin _⟩
    | false =>
      trivial
      apply Pt.of
      exact ⟨hi', _, _, _, _, xs ++ [_], rfl, by rw [up_same, List.map_append]; rfl, by rw [List.length_append, hl]; rfl, fin _⟩
  rintro ρ g ⟨_, dg, x4, x5, x6, xs, rfl, ez, hl, sb⟩
  rw [rng_len, Int.toNat_natCast] at hl
  trivial
  exact ⟨_, Sb.refl _, q z xs g nz sb ez hl⟩
theorem ix_mod (s : Str) (k : Nat) (hk : 0 < k) (hs : s.cps.toList.length = k) (n : Int) : ∃ c, atI s.cps.toList (n % (k : Int)) = some c ∧ c ∈ s.cps.toList := by
  have h0 := Int.emod_nonneg n (show (k : Int) ≠ 0 by omega)
  have h1 := Int.emod_lt_of_pos n (show (0 : Int) < k by omega)
  obtain ⟨x, e1, e⟩ := atI_int (xs := s.cps.toList) h0 (by rw [hs]; exact h1)
  exact ⟨x, e, List.mem_of_getElem? e1⟩
theorem str_la (a b : Str) : (a ++ b).length = a.length + b.length := by
  show (Str.append a b).length = _
  simp [Str.append, Str.length]
theorem str_app_mem {a b : Str} {c : Nat} : c ∈ (a ++ b).cps.toList ↔ c ∈ a.cps.toList ∨ c ∈ b.cps.toList := by
  show c ∈ (Str.append a b).cps.toList ↔ _
  simp [Str.append]
theorem l_word_ok {h : AH} {n : Int} {Q : KD} (q : ∀ w : Str, GoodW w → Q (.str w) h) : f_l_word [.int n] h Q := by
  unfold f_l_word
  trivial
  have b0 : 0 ≤ n % 8 ∧ n % 8 < 8 := ⟨Int.emod_nonneg _ (by decide), Int.emod_lt_of_pos _ (by decide)⟩
  refine ⟨fun i ρ g => i ≤ (1 + n % 8 - 0).toNat ∧ ∃ (n' : Int) (w : Str) (m x3 : Option D), ρ = [some (.int n'), some (.str w), m, x3] ∧ w.length = i ∧ (∀ c ∈ w.cps.toList, c ∈ LETT.cps.toList) ∧ g = h, ?_, ?_, ?_, ?_⟩
  · exact ⟨Nat.zero_le _, _, Str.ofString "", _, _, rfl, rfl, (fun c hc => by cases hc), rfl⟩
  · rintro i ρ g _ _
    exact True.intro
  · rintro i ρ g d ⟨hi, n', w, m, x3, rfl, hl, hw, rfl⟩ hd
    obtain ⟨hi', rfl⟩ := rng_get hd
    obtain ⟨c, hc, hm⟩ := ix_mod (Str.ofString "abcdefghijklmnopqrstuvwxyz") 26 (by decide) (by decide) n'
    clear hd
    trivial
    refine ⟨c, hc, ?_⟩
    clear hc
    trivial
    refine ⟨by show w.length + 1 ≤ SZ; rw [SZ]; omega, ?_⟩
    trivial
    apply Pt.of
    refine ⟨by omega, _, w ++ ⟨#[c]⟩, _, _, rfl, by rw [str_la, hl]; rfl, fun x hx => ?_, rfl⟩
    rcases str_app_mem.mp hx with g | g
    · exact hw x g
    · have : x = c := by simpa using g
      rw [this]; exact hm
  rintro ρ g ⟨hi, n', w, m, x3, rfl, hl, hw, rfl⟩
  rw [rng_len] at hl
  trivial
  apply Pt.of
  exact q w ⟨by omega, by omega, hw⟩
structure RollOk (R : List Str) : Prop where
  lo : 2 ≤ R.length
  hi : R.length ≤ 6
  el : ∀ w ∈ R, GoodW w
  nd : R.Nodup
theorem strs_pl (l : List Str) : plL 0 (l.map D.str) = true := plL_iff.mpr fun d hd => by
  obtain ⟨i, _, rfl⟩ := List.mem_map.mp hd
  rfl
theorem cut7 {w : Str} (h : GoodW w) (c : Nat) (hc : c ∈ LETT.cps.toList) : GoodW ((⟨(cut w.cps.toList none (some 7)).toArray⟩ : Str) ++ ⟨#[c]⟩) := by
  have e : cut w.cps.toList none (some 7) = w.cps.toList.take 7 := by rw [show (7 : Int) = ((7 : Nat) : Int) from rfl, cut_take]
  rw [e]
  have hl : (⟨(w.cps.toList.take 7).toArray⟩ : Str).length ≤ 7 := by
    show (w.cps.toList.take 7).toArray.size ≤ 7
    simp; omega
  refine ⟨by rw [str_la]; show 1 ≤ _ + 1; omega, by rw [str_la]; show _ + 1 ≤ 8; omega, fun x hx => ?_⟩
  rcases str_app_mem.mp hx with g | g
  · exact h.lt x (List.take_subset _ _ (by simpa using g))
  · have : x = c := by simpa using g
    rw [this]; exact hc
/-- longer, or as long with a later last letter -/
def mu (w : Str) : Nat := w.length * 1000 + (w.cps.toList.getLast?).getD 0
theorem filt_lt {α : Type} {p q : α → Bool} (hpq : ∀ x, p x = true → q x = true) : ∀ {R : List α} {x : α}, x ∈ R → q x = true → p x = false → (R.filter p).length + 1 ≤ (R.filter q).length
  | y :: R, x, hx, hq, hp => by
    have mono : ∀ R : List α, (R.filter p).length ≤ (R.filter q).length := by
      intro R
      induction R with
      | nil => exact Nat.le_refl _
      | cons z R ih =>
        rw [List.filter_cons, List.filter_cons]
        by_cases c : p z = true
        · rw [if_pos c, if_pos (hpq z c), List.length_cons, List.length_cons]; omega
        · rw [if_neg c]
          split
          · rw [List.length_cons]; omega
          · exact ih
    rw [List.filter_cons, List.filter_cons]
    rcases List.mem_cons.mp hx with e | hx
    · subst e
      rw [if_neg (by rw [hp]; simp), if_pos hq, List.length_cons]
      have := mono R
      omega
    · have ih := filt_lt hpq hx hq hp
      by_cases c : p y = true
      · rw [if_pos c, if_pos (hpq y c), List.length_cons, List.length_cons]; omega
      · rw [if_neg c]
        split
        · rw [List.length_cons]; omega
        · exact ih
theorem lett_lt : ∀ c ∈ LETT.cps.toList, c < 1000 := by decide
theorem mu_new (w : Str) (c : Nat) : mu ((⟨(cut w.cps.toList none (some 7)).toArray⟩ : Str) ++ ⟨#[c]⟩) = (min w.length 7 + 1) * 1000 + c := by
  have e : cut w.cps.toList none (some 7) = w.cps.toList.take 7 := by rw [show (7 : Int) = ((7 : Nat) : Int) from rfl, cut_take]
  rw [e]
  unfold mu
  rw [str_la]
  have h1 : (((⟨(w.cps.toList.take 7).toArray⟩ : Str) ++ ⟨#[c]⟩ : Str)).cps.toList = w.cps.toList.take 7 ++ [c] := by
    show (Str.append _ _).cps.toList = _
    simp [Str.append]
  rw [h1, List.getLast?_append]
  have h2 : (⟨(w.cps.toList.take 7).toArray⟩ : Str).length = min w.length 7 := by
    show (w.cps.toList.take 7).toArray.size = min w.cps.size 7
    simp
    omega
  rw [h2]
  rfl
theorem last_new (w : Str) (c : Nat) : (((⟨(cut w.cps.toList none (some 7)).toArray⟩ : Str) ++ ⟨#[c]⟩ : Str)).cps.toList.getLast? = some c := by
  have h1 : (((⟨(cut w.cps.toList none (some 7)).toArray⟩ : Str) ++ ⟨#[c]⟩ : Str)).cps.toList = cut w.cps.toList none (some 7) ++ [c] := by
    show (Str.append _ _).cps.toList = _
    simp [Str.append]
  rw [h1, List.getLast?_append]
  rfl
/-- what is known of the word at the j-th letter -/
def Tried (R : List Str) (w : Str) (j : Nat) : Prop := w ∉ R ∨ j = 0 ∨ (w.cps.toList.getLast? = some (96 + j) ∧ j ≤ (R.filter fun v => decide (mu v ≤ mu w)).length)
theorem Tried.step {R : List Str} {w : Str} {j : Nat} (t : Tried R w j) (gw : GoodW w) (hw : w ∈ R) : Tried R ((⟨(cut w.cps.toList none (some 7)).toArray⟩ : Str) ++ ⟨#[97 + j]⟩) (j + 1) := by
  generalize hv : ((⟨(cut w.cps.toList none (some 7)).toArray⟩ : Str) ++ ⟨#[97 + j]⟩ : Str) = v
  by_cases hvR : v ∈ R
  · refine .inr (.inr ⟨by rw [← hv, last_new]; congr 1; omega, ?_⟩)
    rcases t with t | t | ⟨t1, t2⟩
    · exact absurd hw t
    · subst t
      have := List.length_pos_of_mem (List.mem_filter.mpr ⟨hvR, decide_eq_true (Nat.le_refl (mu v))⟩ : v ∈ R.filter fun v' => decide (mu v' ≤ mu v))
      omega
    · have hlt : mu w < mu v := by
        rw [← hv, mu_new]
        unfold mu
        rw [t1]
        have := gw.hi
        show w.length * 1000 + (96 + j) < _
        by_cases c : w.length ≤ 7
        · rw [Nat.min_eq_left c]
          have hl : 96 + j < 1000 := lett_lt _ (gw.lt _ (List.mem_of_getLast? t1))
          omega
        · rw [Nat.min_eq_right (by omega)]; omega
      have := filt_lt (p := fun x => decide (mu x ≤ mu w)) (q := fun x => decide (mu x ≤ mu v)) (fun x hx => decide_eq_true (Nat.le_trans (of_decide_eq_true hx) (Nat.le_of_lt hlt))) hvR (decide_eq_true (Nat.le_refl _)) (decide_eq_false (Nat.not_le.mpr hlt))
      omega
  · exact .inl hvR
theorem Tried.end {R : List Str} {w : Str} (t : Tried R w 8) (hR : R.length ≤ 7) : w ∉ R := by
  rcases t with t | t | ⟨_, t⟩
  · exact t
  · omega
  · have := List.length_filter_le (fun v => decide (mu v ≤ mu w)) R
    omega
theorem l_roll_ok {h : AH} {c : Int} {Q : KD} (q : ∀ z R h', h z = none → Sb h h' → h' z = some (.lst (R.map .str)) → RollOk R → Q (.ref z) h') : f_l_roll [.int c] h Q := by
  unfold f_l_roll
  trivial
  refine l_draws_ok (n := 7) (by omega) fun zd xs h1 nzd s1 ed hx => ?_
  obtain ⟨x0, hx0⟩ : ∃ x, xs[0]? = some x := ⟨_, List.getElem?_eq_getElem (by omega)⟩
  have hat0 : atI (xs.map D.int) 0 = some (.int x0) := atI_nat (i := 0) (by rw [List.getElem?_map, hx0]; rfl)
  have b0 : 0 ≤ x0 % 5 ∧ x0 % 5 < 5 := ⟨Int.emod_nonneg _ (by decide), Int.emod_lt_of_pos _ (by decide)⟩
  trivial
  refine newL_i fun z nz => ?_
  have hzd : zd ≠ z := fun y => by rw [← y, ed] at nz; cases nz
  have ed2 := up_at (o := .lst []) hzd ed
  have ez : up h1 z (.lst []) z = some (.lst []) := up_same
  have s2 := s1.upf' nz (o := .lst [])
  have hz0 : h z = none := s1.nn nz
  generalize up h1 z (.lst []) = h2 at ed2 ez s2 ⊢
  clear ed s1 nz
  trivial
  refine ⟨_, hat0, ?_⟩
  clear hat0
  have hn : (2 + x0 % 5 - 0).toNat = (2 + x0 % 5).toNat := by rw [Int.sub_zero]
  trivial
  refine ⟨fun i ρ g => i ≤ (2 + x0 % 5).toNat ∧ ∃ (x3 x4 x5 : Option D) (R : List Str), ρ = [some (.int c), some (.ref zd), some (.ref z), x3, x4, x5] ∧ g z = some (.lst (R.map .str)) ∧ R.length = i ∧ (∀ w ∈ R, GoodW w) ∧ R.Nodup ∧ g zd = some (.lst (xs.map .int)) ∧ Sb h g, ?_, ?_, ?_, ?_⟩
  · exact ⟨Nat.zero_le _, _, _, _, [], rfl, ez, rfl, (fun w hw => by cases hw), List.nodup_nil, ed2, s2⟩
  · rintro i ρ g _ _
    exact True.intro
  · rintro i ρ g d ⟨hi, x3, x4, x5, R, rfl, ez, hl, hR, hN, ed, sb⟩ hd
    obtain ⟨hi', rfl⟩ := rng_get hd
    rw [Int.zero_add]
    obtain ⟨x1, hx1⟩ : ∃ x, xs[1 + i]? = some x := ⟨_, List.getElem?_eq_getElem (by omega)⟩
    have hat1 : atI (xs.map D.int) (1 + (i : Int)) = some (.int x1) := by
      rw [show (1 : Int) + (i : Int) = ((1 + i : Nat) : Int) by omega]
      exact atI_nat (by rw [List.getElem?_map, hx1]; rfl)
    clear hd
    trivial
    refine ⟨_, hat1, ?_⟩
    clear hat1 hx1
    trivial
    refine l_word_ok fun w gw => ?_
    trivial
    refine ⟨fun j ρ g' => j ≤ 8 ∧ ∃ (w : Str) (x5 : Option D), ρ = [some (.int c), some (.ref zd), some (.ref z), some (.int (i : Int)), some (.str w), x5] ∧ GoodW w ∧ Tried R w j ∧ g' = g, ?_, ?_, ?_, ?_⟩
    · exact ⟨Nat.zero_le _, w, _, rfl, gw, .inr (.inl rfl), rfl⟩
    · rintro j ρ g' _ _
      exact True.intro
    · rintro j ρ g' d ⟨hj, w, x5, rfl, gw, tr, rfl⟩ hd
      have hd' : (chrs (Str.ofString "abcdefgh"))[j]? = some d := hd
      unfold chrs at hd'
      obtain ⟨k, hk, rfl⟩ := get_map hd'
      have hj8 : j < 8 := (List.getElem?_eq_some_iff.mp hk).1
      have hkL : k ∈ LETT.cps.toList := (show ∀ k ∈ (Str.ofString "abcdefgh").cps.toList, k ∈ LETT.cps.toList by decide) k (List.mem_of_getElem? hk)
      have hk97 : k = 97 + j := by
        have : (Str.ofString "abcdefgh").cps.toList = (List.range 8).map (97 + ·) := by decide
        rw [this, List.getElem?_map, List.getElem?_range hj8] at hk
        simpa using hk.symm
      clear hd hd' hk
      trivial
      refine ⟨_, _, .pl (n := 0) rfl, PvL.pl (strs_pl R) (by omega), ?_⟩
      trivial
      refine onT_d (fun c1 => ?_) (fun c1 => ?_)
      · trivial
        have hle : (⟨(cut w.cps.toList none (some 7)).toArray⟩ : Str).length + 1 ≤ SZ := by
          have := (cut7 gw k hkL).hi
          rw [str_la] at this
          rw [SZ]
          have h1 : (⟨#[k]⟩ : Str).length = 1 := rfl
          omega
        refine ⟨hle, ?_⟩
        apply Pt.of
        exact ⟨hj8, _, _, rfl, cut7 gw k hkL, by rw [hk97]; exact tr.step gw (by simpa using c1), rfl⟩
      · trivial
        apply Pt.of
        exact ⟨hj8, _, _, rfl, gw, .inl (by simpa using c1), rfl⟩
    rintro ρ g' ⟨_, w, x5, rfl, gw, tr, rfl⟩
    have hnw : w ∉ R := Tried.end tr (by omega)
    trivial
    refine ⟨by rw [List.length_map, SZ]; omega, ?_⟩
    apply Pt.of
    refine ⟨by omega, _, _, _, R ++ [w], rfl, by rw [up_same, List.map_append]; rfl, by rw [List.length_append, hl]; rfl, fun v hv => ?_, ?_, up_at (show zd ≠ z from hzd) ed, fun x u y => ?_⟩
    · rcases List.mem_append.mp hv with h1 | h1
      · exact hR v h1
      · rw [List.mem_singleton.mp h1]; exact gw
    · exact List.nodup_append.mpr ⟨hN, by simp, fun a ha b hb e => by rw [List.mem_singleton.mp hb] at e; exact hnw (e ▸ ha)⟩
    · rw [up_ne (fun w => by rw [w, hz0] at y; cases y)]; exact sb _ _ y
  rintro ρ g ⟨_, x3, x4, x5, R, rfl, ez, hl, hR, hN, ed, sb⟩
  rw [rng_len] at hl
  trivial
  exact ⟨_, Sb.refl _, q z R g hz0 sb ez ⟨by omega, by omega, hR, hN⟩⟩
end
section
def SGNS : Str := Str.ofString "abcdefghijklmnopqrstuvwxyz .,"
def NmD (R : List Str) (d : D) : Prop := ∃ w n, d = .tup [.str w, .int n] ∧ w ∈ R ∧ 1 ≤ n ∧ n ≤ 1000000
def PtD (R : List Str) (d : D) : Prop := d = .tup [.str (Str.ofString ""), .int 0] ∨ NmD R d
def SnD (R : List Str) (d : D) : Prop := ∃ w n m, d = .tup [.str w, .int n, .int m] ∧ w ∈ R ∧ 1 ≤ n ∧ n ≤ 1000000 ∧ 0 ≤ m ∧ m ≤ 1000000
def SdD (R : List Str) (d : D) : Prop := ∃ s k, d = .tup [s, .str k] ∧ SnD R s ∧ (k = Str.ofString "ahead" ∨ k = Str.ofString "behind")
def SgD (R : List Str) (d : D) : Prop := (∃ c, d = .str ⟨#[c]⟩ ∧ c ∈ SGNS.cps.toList) ∨ (∃ w, d = .tup [.str (Str.ofString "picture"), .str w] ∧ GoodW w) ∨ ∃ p, d = .tup [.str (Str.ofString "refer"), p] ∧ PtD R p
theorem at_mod {ds : List D} {k : Nat} (n : Int) (hl : ds.length = k) (hk : 0 < k) : ∃ d, atI ds (n % (k : Int)) = some d ∧ d ∈ ds := by
  have h0 := Int.emod_nonneg n (show (k : Int) ≠ 0 by omega)
  have h1 := Int.emod_lt_of_pos n (show (0 : Int) < k by omega)
  obtain ⟨x, e1, e⟩ := atI_int (xs := ds) h0 (by rw [hl]; exact h1)
  exact ⟨x, e, List.mem_of_getElem? e1⟩
theorem at_int {xs : List Int} {i : Nat} (h : i < xs.length) : ∃ x : Int, atI (xs.map D.int) (i : Int) = some (.int x) := by
  obtain ⟨x, hx⟩ : ∃ x, xs[i]? = some x := ⟨_, List.getElem?_eq_getElem h⟩
  exact ⟨x, atI_nat (by rw [List.getElem?_map, hx]; rfl)⟩
theorem at_roll {R : List Str} (n : Int) (hk : 0 < R.length) : ∃ w, atI (R.map D.str) (n % ((R.map D.str).length : Int)) = some (.str w) ∧ w ∈ R := by
  obtain ⟨d, e, m⟩ := at_mod (ds := R.map D.str) (k := (R.map D.str).length) n rfl (by rw [List.length_map]; exact hk)
  obtain ⟨w, hw, rfl⟩ := List.mem_map.mp m
  exact ⟨w, e, hw⟩
theorem cut_drop {α : Type} (xs : List α) (n : Nat) : cut xs (some (n : Int)) none = xs.drop n := by
  unfold cut sIx
  dsimp only
  rw [if_neg (by omega)]
  rw [List.take_of_length_le]
  · by_cases c : n ≤ xs.length
    · rw [show min ((n : Int)).toNat xs.length = n by simp; omega]
    · rw [show min ((n : Int)).toNat xs.length = xs.length by simp; omega, List.drop_eq_nil_of_le (Nat.le_refl _), List.drop_eq_nil_of_le (by omega)]
  · rw [List.length_drop]; omega
theorem cut_mapI (xs : List Int) (lo hi : Option Int) : cut (xs.map D.int) lo hi = (cut xs lo hi).map D.int := by
  unfold cut
  rw [List.length_map, List.map_take, List.map_drop]
theorem cut_len {α : Type} (xs : List α) (lo hi : Option Int) : (cut xs lo hi).length ≤ xs.length := by
  unfold cut
  rw [List.length_take, List.length_drop]; omega
theorem bool_at {a b : D} (t : Bool) : atI [a, b] (if t = true then (1 : Int) else 0) = some (if t = true then b else a) := by cases t <;> rfl
theorem mod2_at {a b : D} (n : Int) : ∃ d, atI [a, b] (n % 2) = some d ∧ (d = a ∨ d = b) := by
  obtain ⟨d, e, m⟩ := at_mod (ds := [a, b]) (k := 2) n rfl (by decide)
  exact ⟨d, e, by simpa using m⟩
section
variable {h : AH} {r : Addr} {R : List Str} {n : Int} {Q : KD}
theorem l_name_ok (er : h r = some (.lst (R.map .str))) (ro : RollOk R) (q : ∀ d, NmD R d → Q d h) : f_l_name [.int n, .ref r] h Q := by
  have hlo := ro.lo
  have hhi := ro.hi
  unfold f_l_name
  trivial
  obtain ⟨w, hw, mw⟩ := at_roll (R := R) n (by omega)
  refine ⟨_, hw, ?_⟩
  clear hw
  trivial
  refine newL_i fun z nz => ?_
  trivial
  have sz : Sb h (up h z (.lst [.int 9, .int (10 ^ Int.toNat 6)])) := (Sb.refl h).upf' nz
  obtain ⟨d, hd, md⟩ := mod2_at (a := .int 9) (b := .int (10 ^ Int.toNat 6)) (n / ((R.map D.str).length : Int))
  refine ⟨_, hd, ?_⟩
  obtain ⟨j, rfl, hj0, hj⟩ : ∃ j : Int, d = .int j ∧ 0 < j ∧ j ≤ 1000000 := by
    rcases md with e | e
    · exact ⟨9, e, by omega, by omega⟩
    · exact ⟨1000000, e, by omega, by omega⟩
  clear hd md
  trivial
  refine ⟨_, sz, q _ ⟨w, _, rfl, mw, ?_, ?_⟩⟩
  · have := Int.emod_nonneg (n / ((R.map D.str).length : Int) / 2) (show j ≠ 0 by omega)
    omega
  · have := Int.emod_lt_of_pos (n / ((R.map D.str).length : Int) / 2) hj0
    omega
theorem l_part_ok (er : h r = some (.lst (R.map .str))) (ro : RollOk R) (q : ∀ d, PtD R d → Q d h) : f_l_part [.int n, .ref r] h Q := by
  unfold f_l_part
  trivial
  refine oEq_ii ?_
  trivial
  refine onT_d (fun c => ?_) (fun c => ?_)
  · trivial
    apply Pt.of
    exact q _ (.inl rfl)
  · trivial
    refine l_name_ok er ro fun d hd => ?_
    apply Pt.of
    exact q d (.inr hd)
theorem l_sign_name_ok (er : h r = some (.lst (R.map .str))) (ro : RollOk R) (q : ∀ d, SnD R d → Q d h) : f_l_sign_name [.int n, .ref r] h Q := by
  unfold f_l_sign_name
  trivial
  refine l_name_ok er ro fun d hd => ?_
  obtain ⟨w, m, rfl, mw, h1, h2⟩ := hd
  trivial
  refine newL_i fun z nz => ?_
  have sz : Sb h (up h z (.lst [.int (n / 2 % 12), .int (10 ^ Int.toNat 6)])) := (Sb.refl h).upf' nz
  trivial
  refine oEq_ii ?_
  trivial
  have b0 : 0 ≤ n / 2 % 12 ∧ n / 2 % 12 < 12 := ⟨Int.emod_nonneg _ (by decide), Int.emod_lt_of_pos _ (by decide)⟩
  refine ⟨_, bool_at _, ?_⟩
  obtain ⟨k, hk, k0, k1⟩ : ∃ k : Int, (if decide (n % 24 = 1) = true then D.int (10 ^ Int.toNat 6) else D.int (n / 2 % 12)) = .int k ∧ 0 ≤ k ∧ k ≤ 1000000 := by
    split
    · exact ⟨1000000, rfl, by omega, by omega⟩
    · exact ⟨_, rfl, by omega, by omega⟩
  rw [hk]
  trivial
  refine ⟨_, sz, q _ ⟨w, m, k, rfl, mw, h1, h2, k0, k1⟩⟩
theorem l_side_ok (er : h r = some (.lst (R.map .str))) (ro : RollOk R) (q : ∀ d, SdD R d → Q d h) : f_l_side [.int n, .ref r] h Q := by
  unfold f_l_side
  trivial
  refine l_sign_name_ok er ro fun s hs => ?_
  trivial
  refine newL_i fun z nz => ?_
  have sz : Sb h (up h z (.lst [.str (Str.ofString "ahead"), .str (Str.ofString "behind")])) := (Sb.refl h).upf' nz
  trivial
  obtain ⟨d, hd, md⟩ := mod2_at (a := .str (Str.ofString "ahead")) (b := .str (Str.ofString "behind")) n
  refine ⟨_, hd, ?_⟩
  rcases md with rfl | rfl
  · trivial
    exact ⟨_, sz, q _ ⟨s, _, rfl, hs, .inl rfl⟩⟩
  · trivial
    exact ⟨_, sz, q _ ⟨s, _, rfl, hs, .inr rfl⟩⟩
theorem l_sign_ok (er : h r = some (.lst (R.map .str))) (ro : RollOk R) (q : ∀ d, SgD R d → Q d h) : f_l_sign [.int n, .ref r] h Q := by
  unfold f_l_sign
  trivial
  have b0 : 0 ≤ n % 31 ∧ n % 31 < 31 := ⟨Int.emod_nonneg _ (by decide), Int.emod_lt_of_pos _ (by decide)⟩
  refine onT_d (fun c => ?_) (fun c => ?_)
  · obtain ⟨x, e1, e⟩ := atI_int (xs := SGNS.cps.toList) b0.1 (show n % 31 < ((29 : Nat) : Int) by omega)
    trivial
    refine ⟨x, e, ?_⟩
    apply Pt.of
    exact q _ (.inl ⟨x, rfl, List.mem_of_getElem? e1⟩)
  · trivial
    refine oEq_ii ?_
    trivial
    refine onT_d (fun c2 => ?_) (fun c2 => ?_)
    · trivial
      refine l_word_ok fun w gw => ?_
      trivial
      apply Pt.of
      exact q _ (.inr (.inl ⟨w, rfl, gw⟩))
    · trivial
      refine l_part_ok er ro fun d hd => ?_
      trivial
      apply Pt.of
      exact q _ (.inr (.inr ⟨d, rfl, hd⟩))
end
end
section
inductive Wh (R : List Str) (number : Int) : D → Prop where
  | nothing : Wh R number (.tup [.str (Str.ofString "nothing")])
  | part {p : D} : PtD R p → Wh R number (.tup [.str (Str.ofString "part"), p])
  | move {n p : D} : NmD R n → PtD R p → Wh R number (.tup [.str (Str.ofString "move"), n, p])
  | cut {n : D} : NmD R n → Wh R number (.tup [.str (Str.ofString "cut"), n])
  | put {p b : D} {ss : List D} : PtD R p → (b = .non ∨ SnD R b) → (∀ s ∈ ss, SgD R s) → ss.length ≤ 30 → Wh R number (.tup [.str (Str.ofString "put"), p, b, .tup ss])
  | out {p : D} {ss : List D} : PtD R p → (∀ s ∈ ss, SnD R s) → ss.length ≤ 30 → Wh R number (.tup [.str (Str.ofString "out"), p, .tup ss])
  | mark {p a b v : D} {w : Str} : PtD R p → SdD R a → SdD R b → GoodW w → (v = .non ∨ ∃ u, v = .str u ∧ GoodW u) → Wh R number (.tup [.str (Str.ofString "mark"), p, a, b, .str w, v])
  | note {p a b : D} {w : Str} : PtD R p → SdD R a → SdD R b → GoodW w → Wh R number (.tup [.str (Str.ofString "note"), p, a, b, .str w])
  | line {p l : D} {y : Str} : PtD R p → (y = Str.ofString "row" ∨ y = Str.ofString "column") → (l = .non ∨ NmD R l) → Wh R number (.tup [.str (Str.ofString "line"), p, .str y, l])
  | strike {p n : D} : PtD R p → NmD R n → Wh R number (.tup [.str (Str.ofString "strike"), p, n])
  | cell {p a b : D} {w : Str} : PtD R p → NmD R a → NmD R b → (w = Str.ofString "" ∨ GoodW w) → Wh R number (.tup [.str (Str.ofString "cell"), p, a, b, .str w])
  | leave {p : D} {w t : Str} {y : Bool} : PtD R p → w ∈ R → (t = Str.ofString "read" ∨ t = Str.ofString "note" ∨ t = Str.ofString "write" ∨ t = Str.ofString "give") → Wh R number (.tup [.str (Str.ofString "leave"), p, .str w, .str t, .bl y])
  | num {k : Str} {n : Int} : (k = Str.ofString "back" ∨ k = Str.ofString "again") → 1 ≤ n → n < number → Wh R number (.tup [.str k, .int n])
  | word {k w : Str} : (k = Str.ofString "bring" ∨ k = Str.ofString "drop") → GoodW w → Wh R number (.tup [.str k, .str w])
  | pour {cs : List Int} : (∀ c ∈ cs, 0 ≤ c ∧ c ≤ 1000000) → cs.length = R.length → Wh R number (.tup [.str (Str.ofString "pour"), .tup (cs.map .int)])
theorem tuple_ls {h : AH} {a : Addr} {ds : List D} {Q : KD} (e : h a = some (.lst ds)) (q : Q (.tup ds) h) : bTuple [.ref a] h Q := by
  unfold bTuple
  simp only [sqOf, lsOf, e]
  exact q
theorem NmD.pl {R : List Str} {d : D} (h : NmD R d) : G.pl 7 d = true := by obtain ⟨w, n, rfl, _⟩ := h; rfl
theorem SnD.pl {R : List Str} {d : D} (h : SnD R d) : G.pl 7 d = true := by obtain ⟨w, n, m, rfl, _⟩ := h; rfl
section
variable {h : AH} {a r : Addr} {R : List Str} {xs : List Int} {Q : KD}
theorem l_signs_ok (ea : h a = some (.lst (xs.map .int))) (hx : 1 ≤ xs.length) (hx2 : xs.length ≤ 30) (er : h r = some (.lst (R.map .str))) (ro : RollOk R) (q : ∀ ds, (∀ d ∈ ds, SgD R d) → ds.length ≤ 30 → Q (.tup ds) h) : f_l_signs [.ref a, .ref r] h Q := by
  obtain ⟨x0, hx0⟩ := at_int (xs := xs) (i := 0) (by omega)
  unfold f_l_signs
  trivial
  refine ⟨_, hx0, ?_⟩
  trivial
  refine newL_i fun z nz => ?_
  rw [cut_mapI]
  have hcl := cut_len xs none (some (1 + x0 % 12))
  generalize cut xs none (some (1 + x0 % 12)) = ys at hcl
  have er1 := up_at (o := .lst (ys.map D.int)) (show r ≠ z by nofun) er
  have ez : up h z (.lst (ys.map D.int)) z = some (.lst (ys.map D.int)) := up_same
  have s1 := (Sb.refl h).upf' nz (o := .lst (ys.map D.int))
  generalize up h z (.lst (ys.map D.int)) = h1 at er1 ez s1 ⊢
  trivial
  intro f nf
  refine ⟨fun j acc g => j ≤ ys.length ∧ acc.length = j ∧ (∀ d ∈ acc, SgD R d) ∧ g = up h1 f (.lst acc), ?_, ?_, ?_, ?_⟩
  · exact ⟨Nat.zero_le _, rfl, (fun d hd => by cases hd), rfl⟩
  · rintro j acc g _ ⟨_, _, _, rfl⟩
    exact ⟨up_at (by nofun) ez, up_same⟩
  · rintro j acc g d ⟨hj, hl, hacc, rfl⟩ hd
    obtain ⟨y, hy, rfl⟩ := get_map hd
    have hjl := (List.getElem?_eq_some_iff.mp hy).1
    have er2 := up_at (o := .lst acc) (show r ≠ f by nofun) er1
    clear hd
    trivial
    refine l_sign_ok er2 ro fun d hd => ?_
    refine ⟨by rw [hl, SZ]; omega, up_same, ?_⟩
    rw [up_up]
    apply Pt.of
    refine ⟨hjl, by rw [List.length_append, hl]; rfl, fun e he => ?_, rfl⟩
    rcases List.mem_append.mp he with g | g
    · exact hacc e g
    · rw [List.mem_singleton.mp g]; exact hd
  rintro acc g ⟨hj, hl, hacc, rfl⟩
  have ef : up h1 f (.lst acc) f = some (.lst acc) := up_same
  refine tuple_ls ef ?_
  exact ⟨_, s1.upf' nf, q acc hacc (by rw [hl]; exact Nat.le_trans hj (by omega))⟩
theorem l_sign_names_ok (ea : h a = some (.lst (xs.map .int))) (hx : 1 ≤ xs.length) (hx2 : xs.length ≤ 30) (er : h r = some (.lst (R.map .str))) (ro : RollOk R) (q : ∀ ds, (∀ d ∈ ds, SnD R d) → ds.length ≤ 30 → Q (.tup ds) h) : f_l_sign_names [.ref a, .ref r] h Q := by
  obtain ⟨x0, hx0⟩ := at_int (xs := xs) (i := 0) (by omega)
  unfold f_l_sign_names
  trivial
  refine newL_i fun f nf => ?_
  have ea1 := up_at (o := .lst []) (show a ≠ f by nofun) ea
  have er1 := up_at (o := .lst []) (show r ≠ f by nofun) er
  have ef : up h f (.lst []) f = some (.lst []) := up_same
  have s1 := (Sb.refl h).upf' nf (o := .lst [])
  generalize up h f (.lst []) = h1 at ea1 er1 ef s1 ⊢
  trivial
  refine ⟨_, hx0, ?_⟩
  trivial
  refine newL_i fun z nz => ?_
  rw [cut_mapI]
  have hcl := cut_len xs none (some (1 + x0 % 12))
  generalize cut xs none (some (1 + x0 % 12)) = ys at hcl
  have hfz : f ≠ z := fun y => by rw [← y, ef] at nz; cases nz
  have er2 := up_at (o := .lst (ys.map D.int)) (show r ≠ z by nofun) er1
  have ef2 := up_at (o := .lst (ys.map D.int)) hfz ef
  have ez : up h1 z (.lst (ys.map D.int)) z = some (.lst (ys.map D.int)) := up_same
  have s2 := s1.upf' nz (o := .lst (ys.map D.int))
  generalize up h1 z (.lst (ys.map D.int)) = h2 at er2 ef2 ez s2 ⊢
  clear ea1 er1 ef s1 nz
  have hrf : r ≠ f := fun y => by rw [y, nf] at er; cases er
  trivial
  refine ⟨fun j ρ g => j ≤ ys.length ∧ ∃ (x3 x4 : Option D) (acc : List D), ρ = [some (.ref a), some (.ref r), some (.ref f), x3, x4] ∧ acc.length ≤ j ∧ (∀ d ∈ acc, SnD R d) ∧ g = up h2 f (.lst acc), ?_, ?_, ?_, ?_⟩
  · exact ⟨Nat.zero_le _, _, _, [], rfl, Nat.le_refl _, (fun d hd => by cases hd), (up_self ef2).symm⟩
  · rintro j ρ g _ ⟨_, x3, x4, acc, _, _, _, rfl⟩
    exact up_at hfz.symm ez
  · rintro j ρ g d ⟨hj, x3, x4, acc, rfl, hl, hacc, rfl⟩ hd
    obtain ⟨y, hy, rfl⟩ := get_map hd
    have hjl := (List.getElem?_eq_some_iff.mp hy).1
    have er3 := up_at (o := .lst acc) hrf er2
    clear hd
    trivial
    refine l_sign_name_ok er3 ro fun d hd => ?_
    have ef3 : up h2 f (.lst acc) f = some (.lst acc) := up_same
    trivial
    refine ⟨_, _, .pl hd.pl, PvL.pl (m := 7) (plL_iff.mpr fun e he => (hacc e he).pl) (by omega), ?_⟩
    trivial
    refine onT_nd (fun c => ?_) (fun c => ?_)
    · trivial
      refine ⟨by rw [SZ]; omega, ?_⟩
      apply Pt.of
      refine ⟨hjl, _, _, acc ++ [d], rfl, by rw [List.length_append, List.length_singleton]; omega, fun e he => ?_, by rw [up_up]⟩
      rcases List.mem_append.mp he with g | g
      · exact hacc e g
      · rw [List.mem_singleton.mp g]; exact hd
    · trivial
      apply Pt.of
      exact ⟨hjl, _, _, acc, rfl, by omega, hacc, rfl⟩
  rintro ρ g ⟨hj, x3, x4, acc, rfl, hl, hacc, rfl⟩
  have ef3 : up h2 f (.lst acc) f = some (.lst acc) := up_same
  have hyl : (srcL z (ys.map D.int)).ds.length = ys.length := List.length_map _
  trivial
  refine tuple_ls ef3 ?_
  refine ⟨h, fun x u y => ?_, q acc hacc (by omega)⟩
  rw [up_ne (fun w => by rw [w, nf] at y; cases y)]; exact s2 _ _ y
end
end
section
section
variable {h : AH} {a r : Addr} {R : List Str} {xs : List Int} {N : Int} {Q : KD}
theorem l_what_of_signs_ok {k : Int} (hk0 : 0 ≤ k) (hk : k < 6) (ea : h a = some (.lst (xs.map .int))) (hx : xs.length = 17) (er : h r = some (.lst (R.map .str))) (ro : RollOk R) (q : ∀ d, Wh R N d → Q d h) : f_l_what_of_signs [.int k, .ref a, .ref r] h Q := by
  obtain ⟨x0, hx0⟩ := at_int (xs := xs) (i := 0) (by omega)
  obtain ⟨x1, hx1⟩ := at_int (xs := xs) (i := 1) (by omega)
  unfold f_l_what_of_signs
  trivial
  refine ⟨_, hx0, ?_⟩
  trivial
  refine l_part_ok er ro fun p hp => ?_
  trivial
  refine ⟨_, hx1, ?_⟩
  trivial
  refine l_name_ok er ro fun n hn => ?_
  trivial
  refine ⟨_, hx1, ?_⟩
  trivial
  refine l_sign_name_ok er ro fun sn hsn => ?_
  trivial
  refine newL_i fun z nz => ?_
  have s1 : Sb h (up h z (.lst [.non, sn])) := (Sb.refl h).upf' nz
  have ez : up h z (.lst [.non, sn]) z = some (.lst [.non, sn]) := up_same
  have ea1 := s1 _ _ ea
  have er1 := s1 _ _ er
  generalize up h z (.lst [.non, sn]) = h1 at s1 ez ea1 er1 ⊢
  trivial
  refine ⟨_, hx1, ?_⟩
  trivial
  refine ⟨_, bool_at _, ?_⟩
  generalize hb : (if decide (0 < x1 % 3) = true then sn else D.non) = b
  have hbb : b = .non ∨ SnD R b := by
    rw [← hb]
    split
    · exact .inr hsn
    · exact .inl rfl
  clear hb hx0 hx1 ez nz
  trivial
  refine oEq_ii ?_
  trivial
  refine onT_d (fun c1 => ?_) (fun c1 => ?_)
  · trivial
    exact ⟨_, s1, q _ (.part hp)⟩
  trivial
  refine oEq_ii ?_
  trivial
  refine onT_d (fun c2 => ?_) (fun c2 => ?_)
  · trivial
    exact ⟨_, s1, q _ (.move hn hp)⟩
  trivial
  refine oEq_ii ?_
  trivial
  refine onT_d (fun c3 => ?_) (fun c3 => ?_)
  · trivial
    exact ⟨_, s1, q _ (.cut hn)⟩
  trivial
  refine oEq_ii ?_
  trivial
  refine onT_d (fun c4 => ?_) (fun c4 => ?_)
  · trivial
    refine newL_i fun z2 nz2 => ?_
    rw [cut_mapI, show (2 : Int) = ((2 : Nat) : Int) from rfl, cut_drop]
    have s2 := s1.upf' nz2 (o := .lst ((xs.drop 2).map D.int))
    have ez2 : up h1 z2 (.lst ((xs.drop 2).map D.int)) z2 = some (.lst ((xs.drop 2).map D.int)) := up_same
    have er2 := s2 _ _ er
    trivial
    refine l_signs_ok ez2 (by rw [List.length_drop]; omega) (by rw [List.length_drop]; omega) er2 ro fun ss hss hl => ?_
    trivial
    exact ⟨_, s2, q _ (.put hp hbb hss hl)⟩
  trivial
  refine oEq_ii ?_
  trivial
  refine onT_d (fun c5 => ?_) (fun c5 => ?_)
  · trivial
    refine newL_i fun z2 nz2 => ?_
    rw [cut_mapI, show (1 : Int) = ((1 : Nat) : Int) from rfl, cut_drop]
    have s2 := s1.upf' nz2 (o := .lst ((xs.drop 1).map D.int))
    have ez2 : up h1 z2 (.lst ((xs.drop 1).map D.int)) z2 = some (.lst ((xs.drop 1).map D.int)) := up_same
    have er2 := s2 _ _ er
    trivial
    refine l_sign_names_ok ez2 (by rw [List.length_drop]; omega) (by rw [List.length_drop]; omega) er2 ro fun ss hss hl => ?_
    trivial
    exact ⟨_, s2, q _ (.out hp hss hl)⟩
  trivial
  exact ⟨_, s1, q _ .nothing⟩
theorem l_what_of_marks_ok {k : Int} (hk0 : 6 ≤ k) (hk : k < 11) (ea : h a = some (.lst (xs.map .int))) (hx : xs.length = 17) (er : h r = some (.lst (R.map .str))) (ro : RollOk R) (q : ∀ d, Wh R N d → Q d h) : f_l_what_of_marks [.int k, .ref a, .ref r] h Q := by
  obtain ⟨x0, hx0⟩ := at_int (xs := xs) (i := 0) (by omega)
  obtain ⟨x1, hx1⟩ := at_int (xs := xs) (i := 1) (by omega)
  obtain ⟨x2, hx2⟩ := at_int (xs := xs) (i := 2) (by omega)
  obtain ⟨x3, hx3⟩ := at_int (xs := xs) (i := 3) (by omega)
  obtain ⟨x4, hx4⟩ := at_int (xs := xs) (i := 4) (by omega)
  unfold f_l_what_of_marks
  trivial
  refine ⟨_, hx0, ?_⟩
  trivial
  refine l_part_ok er ro fun p hp => ?_
  trivial
  refine ⟨_, hx1, ?_⟩
  trivial
  refine l_name_ok er ro fun n hn => ?_
  trivial
  refine ⟨_, hx1, ?_⟩
  trivial
  refine l_side_ok er ro fun a1 ha1 => ?_
  trivial
  refine ⟨_, hx2, ?_⟩
  trivial
  refine l_side_ok er ro fun a2 ha2 => ?_
  trivial
  refine oEq_ii ?_
  trivial
  refine onT_d (fun c1 => ?_) (fun c1 => ?_)
  · trivial
    refine ⟨_, hx4, ?_⟩
    trivial
    refine l_word_ok fun v gv => ?_
    trivial
    refine newL_i fun z nz => ?_
    have s1 : Sb h (up h z (.lst [.non, .str v])) := (Sb.refl h).upf' nz
    have ez : up h z (.lst [.non, .str v]) z = some (.lst [.non, .str v]) := up_same
    have ea1 := s1 _ _ ea
    generalize up h z (.lst [.non, .str v]) = h1 at s1 ez ea1 ⊢
    trivial
    refine ⟨_, hx4, ?_⟩
    trivial
    refine ⟨_, bool_at _, ?_⟩
    generalize hb : (if decide (0 < x4 % 3) = true then D.str v else D.non) = b
    have hbb : b = .non ∨ ∃ u, b = .str u ∧ GoodW u := by
      rw [← hb]
      split
      · exact .inr ⟨v, rfl, gv⟩
      · exact .inl rfl
    clear hb ez nz
    trivial
    refine ⟨_, hx3, ?_⟩
    trivial
    refine l_word_ok fun w gw => ?_
    trivial
    refine ⟨by simp [SZ], ?_⟩
    exact ⟨_, s1, q _ (.mark hp ha1 ha2 gw hbb)⟩
  trivial
  refine oEq_ii ?_
  trivial
  refine onT_d (fun c2 => ?_) (fun c2 => ?_)
  · trivial
    refine ⟨_, hx3, ?_⟩
    trivial
    refine l_word_ok fun w gw => ?_
    trivial
    refine ⟨by simp [SZ], ?_⟩
    exact ⟨_, Sb.refl h, q _ (.note hp ha1 ha2 gw)⟩
  trivial
  refine oEq_ii ?_
  trivial
  refine onT_d (fun c3 => ?_) (fun c3 => ?_)
  · trivial
    refine newL_i fun z nz => ?_
    have s1 : Sb h (up h z (.lst [.str (Str.ofString "row"), .str (Str.ofString "column")])) := (Sb.refl h).upf' nz
    have ez : up h z (.lst [.str (Str.ofString "row"), .str (Str.ofString "column")]) z = some (.lst [.str (Str.ofString "row"), .str (Str.ofString "column")]) := up_same
    have ea1 := s1 _ _ ea
    generalize up h z (.lst [.str (Str.ofString "row"), .str (Str.ofString "column")]) = h1 at s1 ez ea1 ⊢
    trivial
    refine ⟨_, hx2, ?_⟩
    trivial
    obtain ⟨d, hd, md⟩ := mod2_at (a := .str (Str.ofString "row")) (b := .str (Str.ofString "column")) x2
    refine ⟨_, hd, ?_⟩
    obtain ⟨y, rfl, hy⟩ : ∃ y, d = .str y ∧ (y = Str.ofString "row" ∨ y = Str.ofString "column") := by
      rcases md with e | e
      · exact ⟨_, e, .inl rfl⟩
      · exact ⟨_, e, .inr rfl⟩
    clear hd md ez
    trivial
    refine newL_i fun z2 nz2 => ?_
    have s2 := s1.upf' nz2 (o := .lst [.non, n])
    have ez2 : up h1 z2 (.lst [.non, n]) z2 = some (.lst [.non, n]) := up_same
    have ea2 := s2 _ _ ea
    generalize up h1 z2 (.lst [.non, n]) = h2 at s2 ez2 ea2 ⊢
    trivial
    refine ⟨_, hx2, ?_⟩
    trivial
    refine ⟨_, bool_at _, ?_⟩
    generalize hb : (if decide (0 < x2 / 2 % 3) = true then n else D.non) = b
    have hbb : b = .non ∨ NmD R b := by
      rw [← hb]
      split
      · exact .inr hn
      · exact .inl rfl
    trivial
    exact ⟨_, s2, q _ (.line hp hy hbb)⟩
  trivial
  refine oEq_ii ?_
  trivial
  refine onT_d (fun c4 => ?_) (fun c4 => ?_)
  · trivial
    exact ⟨_, Sb.refl h, q _ (.strike hp hn)⟩
  trivial
  refine ⟨_, hx3, ?_⟩
  trivial
  refine l_word_ok fun v gv => ?_
  trivial
  refine newL_i fun z nz => ?_
  have s1 : Sb h (up h z (.lst [.str (Str.ofString ""), .str v])) := (Sb.refl h).upf' nz
  have ez : up h z (.lst [.str (Str.ofString ""), .str v]) z = some (.lst [.str (Str.ofString ""), .str v]) := up_same
  have ea1 := s1 _ _ ea
  have er1 := s1 _ _ er
  generalize up h z (.lst [.str (Str.ofString ""), .str v]) = h1 at s1 ez ea1 er1 ⊢
  trivial
  refine ⟨_, hx3, ?_⟩
  trivial
  refine ⟨_, bool_at _, ?_⟩
  obtain ⟨b, hb, hbb⟩ : ∃ b, (if decide (0 < x3 % 3) = true then D.str v else D.str (Str.ofString "")) = .str b ∧ (b = Str.ofString "" ∨ GoodW b) := by
    split
    · exact ⟨_, rfl, .inr gv⟩
    · exact ⟨_, rfl, .inl rfl⟩
  rw [hb]
  clear hb ez nz
  trivial
  refine ⟨_, hx2, ?_⟩
  trivial
  refine l_name_ok er1 ro fun n2 hn2 => ?_
  trivial
  exact ⟨_, s1, q _ (.cell hp hn hn2 hbb)⟩
end
end
section
def BrD (R : List Str) (d : D) : Prop := d = .non ∨ ∃ w v, d = .tup [.str w, .str v] ∧ w ∈ R ∧ GoodW v
theorem cut_drop1 {α : Type} (xs : List α) : cut xs (some 1) none = xs.drop 1 := cut_drop xs 1
section
variable {h : AH} {a r : Addr} {R : List Str} {xs : List Int} {N : Int} {Q : KD}
theorem l_branch_ok {n : Int} (er : h r = some (.lst (R.map .str))) (ro : RollOk R) (q : ∀ d, BrD R d → Q d h) : f_l_branch [.int n, .ref r] h Q := by
  have hlo := ro.lo
  have hhi := ro.hi
  unfold f_l_branch
  trivial
  refine oEq_ii ?_
  trivial
  refine onT_d (fun c => ?_) (fun c => ?_)
  · trivial
    apply Pt.of
    exact q _ (.inl rfl)
  · trivial
    obtain ⟨w, hw, mw⟩ := at_roll (R := R) (n / 2) (by omega)
    refine ⟨_, hw, ?_⟩
    clear hw
    trivial
    refine l_word_ok fun v gv => ?_
    trivial
    apply Pt.of
    exact q _ (.inr ⟨w, v, rfl, mw, gv⟩)
theorem four_at {a b c d : D} (n : Int) : ∃ x, atI [a, b, c, d] (n % 4) = some x ∧ (x = a ∨ x = b ∨ x = c ∨ x = d) := by
  obtain ⟨x, e, m⟩ := at_mod (ds := [a, b, c, d]) (k := 4) n rfl (by decide)
  exact ⟨x, e, by simpa using m⟩
theorem l_what_ok (ea : h a = some (.lst (xs.map .int))) (hx : xs.length = 18) (er : h r = some (.lst (R.map .str))) (ro : RollOk R) (hN : 1 ≤ N) (q : ∀ d, Wh R N d → Q d h) : f_l_what [.ref a, .ref r, .int N] h Q := by
  have hlo := ro.lo
  have hhi := ro.hi
  obtain ⟨x0, hx0⟩ := at_int (xs := xs) (i := 0) (by omega)
  have b0 : 0 ≤ x0 % 17 ∧ x0 % 17 < 17 := ⟨Int.emod_nonneg _ (by decide), Int.emod_lt_of_pos _ (by decide)⟩
  unfold f_l_what
  trivial
  refine ⟨_, hx0, ?_⟩
  clear hx0
  trivial
  refine newL_i fun z nz => ?_
  rw [cut_mapI, cut_drop1]
  have s1 : Sb h (up h z (.lst ((xs.drop 1).map D.int))) := (Sb.refl h).upf' nz
  have ez : up h z (.lst ((xs.drop 1).map D.int)) z = some (.lst ((xs.drop 1).map D.int)) := up_same
  have er1 := s1 _ _ er
  have hy : (xs.drop 1).length = 17 := by rw [List.length_drop]; omega
  generalize up h z (.lst ((xs.drop 1).map D.int)) = h1 at s1 ez er1 ⊢
  generalize xs.drop 1 = ys at ez hy
  generalize x0 % 17 = k at b0
  clear ea nz hx
  have fin : ∀ d, Wh R N d → ∀ g, Sb h1 g → Pt (Q d) g := fun d hd g sg => ⟨h, s1.trans sg, q d hd⟩
  trivial
  refine onT_d (fun c1 => ?_) (fun c1 => ?_)
  · trivial
    refine l_what_of_signs_ok (N := N) b0.1 c1 ez hy er1 ro fun d hd => ?_
    exact fin d hd _ (Sb.refl _)
  trivial
  refine onT_d (fun c2 => ?_) (fun c2 => ?_)
  · trivial
    refine l_what_of_marks_ok (N := N) (by omega) c2 ez hy er1 ro fun d hd => ?_
    exact fin d hd _ (Sb.refl _)
  obtain ⟨y0, hy0⟩ := at_int (xs := ys) (i := 0) (by omega)
  obtain ⟨y1, hy1⟩ := at_int (xs := ys) (i := 1) (by omega)
  obtain ⟨y2, hy2⟩ := at_int (xs := ys) (i := 2) (by omega)
  obtain ⟨y3, hy3⟩ := at_int (xs := ys) (i := 3) (by omega)
  trivial
  refine oEq_ii ?_
  trivial
  refine onT_d (fun c3 => ?_) (fun c3 => ?_)
  · trivial
    refine newL_i fun u nu => ?_
    have s2 : Sb h1 (up h1 u (.lst [.str (Str.ofString "read"), .str (Str.ofString "note"), .str (Str.ofString "write"), .str (Str.ofString "give")])) := (Sb.refl h1).upf' nu
    have eu : up h1 u (.lst [.str (Str.ofString "read"), .str (Str.ofString "note"), .str (Str.ofString "write"), .str (Str.ofString "give")]) u = some (.lst [.str (Str.ofString "read"), .str (Str.ofString "note"), .str (Str.ofString "write"), .str (Str.ofString "give")]) := up_same
    have ez2 := s2 _ _ ez
    have er2 := s2 _ _ er1
    generalize up h1 u (.lst [.str (Str.ofString "read"), .str (Str.ofString "note"), .str (Str.ofString "write"), .str (Str.ofString "give")]) = h2 at s2 eu ez2 er2 ⊢
    trivial
    refine ⟨_, hy2, ?_⟩
    trivial
    obtain ⟨d, hd, md⟩ := four_at (a := .str (Str.ofString "read")) (b := .str (Str.ofString "note")) (c := .str (Str.ofString "write")) (d := .str (Str.ofString "give")) y2
    refine ⟨_, hd, ?_⟩
    obtain ⟨t, rfl, ht⟩ : ∃ t, d = .str t ∧ (t = Str.ofString "read" ∨ t = Str.ofString "note" ∨ t = Str.ofString "write" ∨ t = Str.ofString "give") := by
      rcases md with e | e | e | e
      · exact ⟨_, e, .inl rfl⟩
      · exact ⟨_, e, .inr (.inl rfl)⟩
      · exact ⟨_, e, .inr (.inr (.inl rfl))⟩
      · exact ⟨_, e, .inr (.inr (.inr rfl))⟩
    clear hd md eu
    trivial
    refine ⟨_, hy0, ?_⟩
    trivial
    refine l_part_ok er2 ro fun p hp => ?_
    trivial
    refine ⟨_, hy1, ?_⟩
    trivial
    obtain ⟨w, hw, mw⟩ := at_roll (R := R) y1 (by omega)
    refine ⟨_, hw, ?_⟩
    clear hw
    trivial
    refine ⟨_, hy3, ?_⟩
    trivial
    refine oEq_ii ?_
    trivial
    exact fin _ (.leave hp mw ht) _ s2
  trivial
  have tail : k = 12 ∧ N ≤ 1 ∨ k = 13 ∧ N ≤ 1 ∨ k = 14 ∨ k = 15 ∨ k = 16 ∨ (k = 12 ∨ k = 13) ∧ 1 < N := by omega
  clear c1 c2 c3
  rcases tail with ⟨rfl, hn⟩ | ⟨rfl, hn⟩ | rfl | rfl | rfl | ⟨hk, hn⟩
  · trivial
    rw [decide_eq_false (show ¬ 1 < N by omega)]
    trivial
    exact fin _ .nothing _ (Sb.refl _)
  · trivial
    rw [decide_eq_false (show ¬ 1 < N by omega)]
    trivial
    exact fin _ .nothing _ (Sb.refl _)
  · trivial
    refine newL_i fun u nu => ?_
    have s2 : Sb h1 (up h1 u (.lst [.str (Str.ofString "bring"), .str (Str.ofString "drop")])) := (Sb.refl h1).upf' nu
    trivial
    refine ⟨_, hy0, ?_⟩
    trivial
    refine l_word_ok fun w gw => ?_
    trivial
    exact fin _ (.word (.inl rfl) gw) _ s2
  · trivial
    refine newL_i fun u nu => ?_
    have s2 : Sb h1 (up h1 u (.lst [.str (Str.ofString "bring"), .str (Str.ofString "drop")])) := (Sb.refl h1).upf' nu
    trivial
    refine ⟨_, hy0, ?_⟩
    trivial
    refine l_word_ok fun w gw => ?_
    trivial
    exact fin _ (.word (.inr rfl) gw) _ s2
  · trivial
    refine newL_i fun u nu => ?_
    rw [cut_mapI, List.length_map, cut_take]
    have s2 : Sb h1 (up h1 u (.lst ((ys.take R.length).map D.int))) := (Sb.refl h1).upf' nu
    have eu : up h1 u (.lst ((ys.take R.length).map D.int)) u = some (.lst ((ys.take R.length).map D.int)) := up_same
    have hw : (ys.take R.length).length = R.length := by rw [List.length_take]; omega
    generalize up h1 u (.lst ((ys.take R.length).map D.int)) = h2 at s2 eu ⊢
    generalize ys.take R.length = ws at eu hw
    trivial
    intro f nf
    have hfu : u ≠ f := fun y => by rw [← y, eu] at nf; cases nf
    refine ⟨fun j acc g => j ≤ ws.length ∧ ∃ cs : List Int, acc = cs.map .int ∧ cs.length = j ∧ (∀ c ∈ cs, 0 ≤ c ∧ c ≤ 1000000) ∧ g f = some (.lst acc) ∧ Sb h2 g, ?_, ?_, ?_, ?_⟩
    · exact ⟨Nat.zero_le _, [], rfl, rfl, (fun c hc => by cases hc), up_same, (Sb.refl h2).upf' nf⟩
    · rintro j acc g _ ⟨_, cs, rfl, _, _, ef, sg⟩
      exact ⟨sg _ _ eu, ef⟩
    · rintro j acc g d ⟨hj, cs, rfl, hl, hcs, ef, sg⟩ hd
      obtain ⟨y, hy, rfl⟩ := get_map hd
      have hjl := (List.getElem?_eq_some_iff.mp hy).1
      clear hd
      trivial
      refine newL_i fun v nv => ?_
      have hfv : f ≠ v := fun y => by rw [← y, ef] at nv; cases nv
      have ef1 := up_at (o := .lst [.int 9, .int (10 ^ Int.toNat 6 + 1)]) hfv ef
      have sg1 := sg.upf' nv (o := .lst [.int 9, .int (10 ^ Int.toNat 6 + 1)])
      trivial
      obtain ⟨d, hd, md⟩ := mod2_at (a := .int 9) (b := .int (10 ^ Int.toNat 6 + 1)) (y / 9)
      refine ⟨_, hd, ?_⟩
      obtain ⟨m, rfl, hm0, hm⟩ : ∃ m : Int, d = .int m ∧ 0 < m ∧ m ≤ 1000001 := by
        rcases md with e | e
        · exact ⟨9, e, by omega, by omega⟩
        · exact ⟨1000001, e, by omega, by omega⟩
      clear hd md
      have e0 := Int.emod_nonneg y (show m ≠ 0 by omega)
      have e1 := Int.emod_lt_of_pos y hm0
      trivial
      refine ⟨by rw [List.length_map, SZ]; omega, ef1, ?_⟩
      apply Pt.of
      refine ⟨hjl, cs ++ [y % m], by rw [List.map_append]; rfl, by rw [List.length_append, hl]; rfl, fun c hc => ?_, up_same, fun x u' e => ?_⟩
      · rcases List.mem_append.mp hc with g' | g'
        · exact hcs c g'
        · rw [List.mem_singleton.mp g']; omega
      · rw [up_ne (fun w => by rw [w, nf] at e; cases e)]; exact sg1 _ _ e
    rintro acc g ⟨hj, cs, rfl, hl, hcs, ef, sg⟩
    rw [show (srcL u (ws.map D.int)).ds.length = ws.length from List.length_map _] at hl
    refine tuple_ls ef ?_
    trivial
    exact fin _ (.pour hcs (by omega)) _ (s2.trans sg)
  · rw [decide_eq_true (show k < 14 by omega)]
    trivial
    rw [decide_eq_true (show 1 < N from hn)]
    trivial
    refine newL_i fun u nu => ?_
    have s2 : Sb h1 (up h1 u (.lst [.str (Str.ofString "back"), .str (Str.ofString "again")])) := (Sb.refl h1).upf' nu
    have ez2 := s2 _ _ ez
    have eu : up h1 u (.lst [.str (Str.ofString "back"), .str (Str.ofString "again")]) u = some (.lst [.str (Str.ofString "back"), .str (Str.ofString "again")]) := up_same
    generalize up h1 u (.lst [.str (Str.ofString "back"), .str (Str.ofString "again")]) = h2 at s2 ez2 eu ⊢
    trivial
    obtain ⟨w, hw, hw2⟩ : ∃ w, atI [D.str (Str.ofString "back"), .str (Str.ofString "again")] (k - 12) = some (.str w) ∧ (w = Str.ofString "back" ∨ w = Str.ofString "again") := by
      rcases hk with rfl | rfl
      · exact ⟨_, rfl, .inl rfl⟩
      · exact ⟨_, rfl, .inr rfl⟩
    refine ⟨_, hw, ?_⟩
    clear hw
    trivial
    refine ⟨_, hy0, ?_⟩
    have e0 := Int.emod_nonneg y0 (show N - 1 ≠ 0 by omega)
    have e1 := Int.emod_lt_of_pos y0 (show 0 < N - 1 by omega)
    trivial
    exact fin _ (.num hw2 (by omega) (by omega)) _ s2
end
end
section
def rfs (B : Nat → Addr) (n : Nat) : List D := (List.range n).map fun i => .ref (B i)
theorem rfs_len (B : Nat → Addr) (n : Nat) : (rfs B n).length = n := by simp [rfs]
theorem rfs_snoc (B : Nat → Addr) (n : Nat) (m : Addr) : rfs (fun j => if j = n then m else B j) (n + 1) = rfs B n ++ [.ref m] := by
  unfold rfs
  rw [List.range_succ, List.map_append]
  congr 1
  · refine List.map_congr_left fun i hi => ?_
    show D.ref (if i = n then m else B i) = _
    rw [if_neg (Nat.ne_of_lt (List.mem_range.mp hi))]
  · show [D.ref (if n = n then m else B n)] = _
    rw [if_pos rfl]
theorem rfs_at {B : Nat → Addr} {n i : Nat} (h : i < n) : (rfs B n)[i]? = some (.ref (B i)) := by
  unfold rfs
  rw [List.getElem?_map, List.getElem?_range h]; rfl
theorem rfs_set (B : Nat → Addr) (n w : Nat) (f : Addr) : (rfs B n).set w (.ref f) = rfs (fun j => if j = w then f else B j) n := by
  apply List.ext_getElem?
  intro i
  by_cases hi : i < n
  · rw [rfs_at hi, List.getElem?_set, rfs_len]
    by_cases e : w = i
    · subst e; simp [hi]
    · rw [if_neg e, rfs_at hi, if_neg (fun z => e z.symm)]
  · rw [List.getElem?_eq_none (by rw [List.length_set, rfs_len]; omega), List.getElem?_eq_none (by rw [rfs_len]; omega)]
/-- the table has the deed n of hand j -/
def TBx (h : AH) (kk dd : Addr) (K : Nat → Addr) (m : Nat) (kvs : List (D × D)) (d : Nat → Int) (G : Nat → Int → List Int) (j : Nat) (n : Int) : Prop :=
  ∃ a l, dget kvs (.tup [.int (j : Int), .int n]) = some (.ref a) ∧ h a = some (.lst ((l : List Int).map .int)) ∧ (l = G j n ∧ l.length = m) ∧ (∀ i c, l[i]? = some c → 0 ≤ c ∧ c ≤ d i) ∧ a ≠ kk ∧ a ≠ dd ∧ ∀ i < m, a ≠ K i
structure HS (h : AH) (kk tt dd : Addr) (K : Nat → Addr) (m : Nat) (kn : Nat → List Int) (kvs : List (D × D)) (d : Nat → Int) (G : Nat → Int → List Int) : Prop where
  kl : h kk = some (.lst (rfs K m))
  tl : h tt = some (.dic kvs)
  ke : ∀ j, j < m → h (K j) = some (.lst ((kn j).map .int))
  inj : ∀ i j, i < m → j < m → K i = K j → i = j
  nk : ∀ j, j < m → K j ≠ kk ∧ K j ≠ dd
  kd : kk ≠ dd
  len : ∀ j, j < m → (kn j).length = m
  dg : ∀ j, j < m → (kn j)[j]? = some (d j)
  le : ∀ i, i < m → ∀ (j : Nat) c, (kn i)[j]? = some c → 0 ≤ c ∧ c ≤ d j
  tb : ∀ (j : Nat) (n : Int), j < m → 1 ≤ n → n ≤ d j → TBx h kk dd K m kvs d G j n
section
variable {h h' : AH} {kk tt dd : Addr} {K : Nat → Addr} {m : Nat} {kn : Nat → List Int} {kvs : List (D × D)} {d d' : Nat → Int} {G G' : Nat → Int → List Int}
theorem TBx.sb {j : Nat} {n : Int} (x : TBx h kk dd K m kvs d G j n) (s : Sb h h') : TBx h' kk dd K m kvs d G j n := by
  obtain ⟨a, l, h1, h2, h3⟩ := x
  exact ⟨a, l, h1, s _ _ h2, h3⟩
theorem HS.sb (x : HS h kk tt dd K m kn kvs d G) (s : Sb h h') : HS h' kk tt dd K m kn kvs d G :=
  ⟨s _ _ x.kl, s _ _ x.tl, fun j hj => s _ _ (x.ke j hj), x.inj, x.nk, x.kd, x.len, x.dg, x.le, fun j n h1 h2 h3 => (x.tb j n h1 h2 h3).sb s⟩
theorem HS.up_dd (x : HS h kk tt dd K m kn kvs d G) (ho : ∃ ds, h dd = some (.lst ds)) (o : O) : HS (up h dd o) kk tt dd K m kn kvs d G := by
  obtain ⟨ds, ho⟩ := ho
  refine ⟨up_at x.kd x.kl, up_at (fun e => by rw [← e, x.tl] at ho; cases ho) x.tl, fun j hj => up_at (x.nk j hj).2 (x.ke j hj), x.inj, x.nk, x.kd, x.len, x.dg, x.le, fun j n h1 h2 h3 => ?_⟩
  obtain ⟨a, l, e1, e2, e3, e4, e5, e6, e7⟩ := x.tb j n h1 h2 h3
  exact ⟨a, l, e1, up_at e6 e2, e3, e4, e5, e6, e7⟩
/-- known[w] = a new list -/
theorem HS.rep (x : HS h kk tt dd K m kn kvs d G) {w : Nat} (hw : w < m) {f : Addr} {n2 : List Int} (ef : h f = some (.lst (n2.map .int))) (hf : f ≠ kk ∧ f ≠ dd ∧ ∀ j, j < m → f ≠ K j) (hft : ∀ j n, j < m → 1 ≤ n → n ≤ d j → ∀ a, dget kvs (.tup [.int (j : Int), .int n]) = some (.ref a) → a ≠ f) (hl : n2.length = m) (hd : n2[w]? = some (d w)) (hle : ∀ (j : Nat) c, n2[j]? = some c → 0 ≤ c ∧ c ≤ d j) :
    HS (up h kk (.lst ((rfs K m).set w (.ref f)))) kk tt dd (fun j => if j = w then f else K j) m (fun j => if j = w then n2 else kn j) kvs d G := by
  have hkt : kk ≠ tt := fun e => by have := x.kl; rw [e, x.tl] at this; cases this
  refine ⟨by rw [up_same, rfs_set], up_at hkt.symm x.tl, fun j hj => ?_, fun i j hi hj e => ?_, fun j hj => ?_, x.kd, fun j hj => ?_, fun j hj => ?_, fun i hi j c hc => ?_, fun j n h1 h2 h3 => ?_⟩
  · show up h kk _ (if j = w then f else K j) = some (.lst ((if j = w then n2 else kn j).map .int))
    by_cases c : j = w
    · rw [if_pos c, if_pos c]; exact up_at hf.1 ef
    · rw [if_neg c, if_neg c]; exact up_at (x.nk j hj).1 (x.ke j hj)
  · have e : (if i = w then f else K i) = if j = w then f else K j := e
    by_cases c1 : i = w
    · by_cases c2 : j = w
      · rw [c1, c2]
      · rw [if_pos c1, if_neg c2] at e; exact absurd e (hf.2.2 j hj)
    · by_cases c2 : j = w
      · rw [if_neg c1, if_pos c2] at e; exact absurd e.symm (hf.2.2 i hi)
      · rw [if_neg c1, if_neg c2] at e; exact x.inj i j hi hj e
  · show (if j = w then f else K j) ≠ kk ∧ (if j = w then f else K j) ≠ dd
    by_cases c : j = w
    · rw [if_pos c]; exact ⟨hf.1, hf.2.1⟩
    · rw [if_neg c]; exact x.nk j hj
  · show (if j = w then n2 else kn j).length = m
    by_cases c : j = w
    · rw [if_pos c]; exact hl
    · rw [if_neg c]; exact x.len j hj
  · show (if j = w then n2 else kn j)[j]? = some (d j)
    by_cases c : j = w
    · rw [if_pos c, c]; exact hd
    · rw [if_neg c]; exact x.dg j hj
  · have hc : (if i = w then n2 else kn i)[j]? = some c := hc
    by_cases c1 : i = w
    · rw [if_pos c1] at hc; exact hle j c hc
    · rw [if_neg c1] at hc; exact x.le i hi j c hc
  · obtain ⟨a, l, e1, e2, e3, e4, e5, e6, e7⟩ := x.tb j n h1 h2 h3
    refine ⟨a, l, e1, up_at e5 e2, e3, e4, e5, e6, fun i hi => ?_⟩
    show a ≠ if i = w then f else K i
    by_cases c : i = w
    · rw [if_pos c]; exact hft j n h1 h2 h3 a e1
    · rw [if_neg c]; exact e7 i hi
/-- known[w] changed in its place -/
theorem HS.mut (x : HS h kk tt dd K m kn kvs d G) {w : Nat} (hw : w < m) {n2 : List Int} (hl : n2.length = m) (hd : n2[w]? = some (d' w)) (hdj : ∀ j, j < m → j ≠ w → d' j = d j) (hdw : ∀ j, d j ≤ d' j) (hle : ∀ (j : Nat) c, n2[j]? = some c → 0 ≤ c ∧ c ≤ d' j) (htb : ∀ (j : Nat) (n : Int), j < m → 1 ≤ n → n ≤ d' j → TBx h kk dd K m kvs d' G j n) :
    HS (up h (K w) (.lst (n2.map .int))) kk tt dd K m (fun j => if j = w then n2 else kn j) kvs d' G := by
  have hwt : tt ≠ K w := fun e => by have := x.ke w hw; rw [← e, x.tl] at this; cases this
  refine ⟨up_at (x.nk w hw).1.symm x.kl, up_at hwt x.tl, fun j hj => ?_, x.inj, x.nk, x.kd, fun j hj => ?_, fun j hj => ?_, fun i hi j c hc => ?_, fun j n h1 h2 h3 => ?_⟩
  · show up h (K w) _ (K j) = some (.lst ((if j = w then n2 else kn j).map .int))
    by_cases c : j = w
    · rw [if_pos c, c]; exact up_same
    · rw [if_neg c]; exact up_at (fun e => c (x.inj j w hj hw e)) (x.ke j hj)
  · show (if j = w then n2 else kn j).length = m
    by_cases c : j = w
    · rw [if_pos c]; exact hl
    · rw [if_neg c]; exact x.len j hj
  · show (if j = w then n2 else kn j)[j]? = some (d' j)
    by_cases c : j = w
    · rw [if_pos c, c]; exact hd
    · rw [if_neg c, hdj j hj c]; exact x.dg j hj
  · have hc : (if i = w then n2 else kn i)[j]? = some c := hc
    by_cases c1 : i = w
    · rw [if_pos c1] at hc; exact hle j c hc
    · rw [if_neg c1] at hc
      have := x.le i hi j c hc
      have := hdw j
      omega
  · obtain ⟨a, l, e1, e2, e3, e4, e5, e6, e7⟩ := htb j n h1 h2 h3
    exact ⟨a, l, e1, up_at (e7 w hw) e2, e3, e4, e5, e6, e7⟩
/-- a new row in the table -/
theorem HS.row (x : HS h kk tt dd K m kn kvs d G) (hdt : dd ≠ tt) {w : Nat} {N : Int} (hw : w < m) (hN : N = d w + 1) {a : Addr} {l : List Int} (ea : h a = some (.lst (l.map .int))) (hl : l.length = m) (hle : ∀ (j : Nat) c, l[j]? = some c → 0 ≤ c ∧ c ≤ d j) (ha : a ≠ kk ∧ a ≠ dd ∧ ∀ i, i < m → a ≠ K i) (hG : ∀ j n, j < m → 1 ≤ n → n ≤ d j → G' j n = G j n) (hGl : G' w N = l) :
    HS (up h tt (.dic (dput kvs (.tup [.int (w : Int), .int N]) (.ref a)))) kk tt dd K m kn (dput kvs (.tup [.int (w : Int), .int N]) (.ref a)) d G' ∧ TBx (up h tt (.dic (dput kvs (.tup [.int (w : Int), .int N]) (.ref a)))) kk dd K m (dput kvs (.tup [.int (w : Int), .int N]) (.ref a)) d G' w N := by
  have hlt : ∀ {b : Addr} {xs : List D}, h b = some (.lst xs) → b ≠ tt := fun e y => by rw [y, x.tl] at e; cases e
  refine ⟨⟨up_at (hlt x.kl) x.kl, up_same, fun j hj => up_at (hlt (x.ke j hj)) (x.ke j hj), x.inj, x.nk, x.kd, x.len, x.dg, x.le, fun j n h1 h2 h3 => ?_⟩, a, l, by rw [dget_put, if_pos rfl], up_at (hlt ea) ea, ⟨hGl.symm, hl⟩, hle, ha.1, ha.2.1, ha.2.2⟩
  obtain ⟨b, l', e1, e2, e3, e4⟩ := x.tb j n h1 h2 h3
  refine ⟨b, l', ?_, up_at (hlt e2) e2, ⟨by rw [hG j n h1 h2 h3]; exact e3.1, e3.2⟩, e4⟩
  rw [dget_put, if_neg]
  · exact e1
  · intro e
    simp only [D.tup.injEq, List.cons.injEq, D.int.injEq, and_true] at e
    obtain ⟨e4, e5⟩ := e
    have : w = j := by omega
    subst this
    omega
end
end
section
/-- a deed: whose, its number, what was heard, its branch, what -/
structure Dd where
  w : Nat
  n : Int
  hs : List Int
  b : D
  wh : D
def Dd.dv (R : List Str) (x : Dd) : D := .tup [.str (R[x.w]?.getD PySem.Str.empty), .int x.n, .tup (x.hs.map .int), x.b, x.wh]
/-- with each deed all that this had heard -/
def Clo (m : Nat) (G : Nat → Int → List Int) (c : List Int) : Prop := ∀ (j : Nat) (k : Int), j < m → c[j]? = some k → 1 ≤ k → ∀ (i : Nat) (a b : Int), (G j k)[i]? = some a → c[i]? = some b → a ≤ b
structure VC (m : Nat) (G : Nat → Int → List Int) (d : Nat → Int) (kn : Nat → List Int) : Prop where
  gl : ∀ j n, j < m → 1 ≤ n → n ≤ d j → (G j n)[j]? = some (n - 1) ∧ Clo m G (G j n) ∧ ∀ (i : Nat) c, (G j n)[i]? = some c → c ≤ d i
  kc : ∀ j, j < m → Clo m G (kn j)
structure LD (m : Nat) (G : Nat → Int → List Int) (d : Nat → Int) (L : List Dd) : Prop where
  wf : ∀ x ∈ L, x.w < m ∧ 1 ≤ x.n ∧ x.n ≤ d x.w ∧ x.hs = G x.w x.n
  all : ∀ j n, j < m → 1 ≤ n → n ≤ d j → ∃ x ∈ L, x.w = j ∧ x.n = n
  nd : (L.map fun x => (x.w, x.n)).Nodup
structure House (m : Nat) (L : List Dd) : Prop where
  wf : ∀ x ∈ L, x.w < m ∧ 1 ≤ x.n ∧ x.n ≤ 41 ∧ x.hs.length = m ∧ x.hs[x.w]? = some (x.n - 1) ∧ ∀ c ∈ x.hs, 0 ≤ c ∧ c ≤ 41
  nd : (L.map fun x => (x.w, x.n)).Nodup
  cl : ∀ x ∈ L, ∀ (j : Nat) (k : Int), x.hs[j]? = some k → 1 ≤ k → ∃ y ∈ L, y.w = j ∧ y.n = k ∧ ∀ (i : Nat) (a b : Int), y.hs[i]? = some a → x.hs[i]? = some b → a ≤ b
section
variable {m : Nat} {G : Nat → Int → List Int} {d : Nat → Int} {kn : Nat → List Int} {L : List Dd}
theorem VC.zero (m : Nat) (G : Nat → Int → List Int) : VC m G (fun _ => 0) (fun _ => List.replicate m 0) := by
  refine ⟨fun j n hj h1 h2 => by have : n ≤ 0 := h2; omega, fun j hj i k hi hk h1 => ?_⟩
  have hk' : (List.replicate m (0 : Int))[i]? = some k := hk
  obtain ⟨_, e⟩ := List.getElem?_eq_some_iff.mp hk'
  rw [List.getElem_replicate] at e
  omega
theorem VC.max (x : VC m G d kn) {w o : Nat} {to : Int} (hw : w < m) (ho : o < m) (h1 : 1 ≤ to) (h2 : to ≤ d o) {cs : List Int} (hm : ∀ (t : Nat) c, cs[t]? = some c → ∃ a b, (kn w)[t]? = some a ∧ (G o to)[t]? = some b ∧ c = if b > a then b else a) : Clo m G cs := by
  intro j k hj hk hk1 i a b ha hb
  obtain ⟨p, q, e1, e2, e3⟩ := hm j k hk
  obtain ⟨p', q', e1', e2', e3'⟩ := hm i b hb
  by_cases c : q > p
  · rw [if_pos c] at e3; subst e3
    have := (x.gl o to ho h1 h2).2.1 j k hj e2 hk1 i a q' ha e2'
    split at e3' <;> omega
  · rw [if_neg c] at e3; subst e3
    have := x.kc w hw j k hj e1 hk1 i a p' ha e1'
    split at e3' <;> omega
theorem VC.rep (x : VC m G d kn) {w : Nat} {n2 : List Int} (h : Clo m G n2) : VC m G d (fun j => if j = w then n2 else kn j) := by
  refine ⟨x.gl, fun j hj => ?_⟩
  show Clo m G (if j = w then n2 else kn j)
  by_cases c : j = w
  · rw [if_pos c]; exact h
  · rw [if_neg c]; exact x.kc j hj
theorem VC.hear (x : VC m G d kn) {w o : Nat} {to c3 : Int} (hw : w < m) (ho : o < m) (h1 : 1 ≤ to) (h2 : to ≤ d o) (hge : ∀ (i : Nat) b c, (G o to)[i]? = some b → (kn w)[i]? = some c → b ≤ c) (h3 : (kn w)[o]? = some c3) : Clo m G ((kn w).set o (if to > c3 then to else c3)) := by
  have hol : o < (kn w).length := (List.getElem?_eq_some_iff.mp h3).1
  intro j k hj hk hk1 i a b ha hb
  have hbb : ∃ b', (kn w)[i]? = some b' ∧ b' ≤ b ∧ (i = o → b = if to > c3 then to else c3) := by
    by_cases ci : o = i
    · subst ci
      rw [List.getElem?_set_self hol] at hb
      cases hb
      exact ⟨c3, h3, by split <;> omega, fun _ => rfl⟩
    · rw [List.getElem?_set_ne ci] at hb
      exact ⟨b, hb, Int.le_refl _, fun e => absurd e.symm ci⟩
  obtain ⟨b', hb', hle, hio⟩ := hbb
  by_cases cj : o = j
  · subst cj
    rw [List.getElem?_set_self hol] at hk
    by_cases c : to > c3
    · rw [if_pos c] at hk
      obtain rfl : to = k := Option.some.inj hk
      by_cases ci : i = o
      · have := (x.gl o to ho h1 h2).1
        rw [ci, this] at ha
        cases ha
        have := hio ci
        rw [if_pos c] at this
        omega
      · have := hge i a b' ha hb'
        omega
    · rw [if_neg c] at hk
      obtain rfl : c3 = k := Option.some.inj hk
      have := x.kc w hw o c3 ho h3 hk1 i a b' ha hb'
      omega
  · rw [List.getElem?_set_ne cj] at hk
    have := x.kc w hw j k hj hk hk1 i a b' ha hb'
    omega
def addG (G : Nat → Int → List Int) (w : Nat) (N : Int) (l : List Int) : Nat → Int → List Int := fun j n => if j = w ∧ n = N then l else G j n
theorem addG_old {w : Nat} {N : Int} {l : List Int} (hN : d w < N) {j : Nat} {n : Int} (h : n ≤ d j) : addG G w N l j n = G j n := if_neg fun z => by obtain ⟨rfl, rfl⟩ := z; omega
theorem addG_new {w : Nat} {N : Int} {l : List Int} : addG G w N l w N = l := if_pos ⟨rfl, rfl⟩
theorem Clo.add {w : Nat} {N : Int} {l c : List Int} (hN : d w < N) (h : Clo m G c) (hb : ∀ (i : Nat) k, c[i]? = some k → k ≤ d i) : Clo m (addG G w N l) c := by
  intro j k hj hk hk1 i a b ha hb'
  rw [addG_old hN (hb j k hk)] at ha
  exact h j k hj hk hk1 i a b ha hb'
theorem le_bump {w j : Nat} {n : Int} (h : n ≤ if j = w then d w + 1 else d j) (c : ¬ (j = w ∧ n = d w + 1)) : n ≤ d j := by
  by_cases cj : j = w
  · rw [if_pos cj] at h
    subst cj
    have : n ≠ d j + 1 := fun e => c ⟨rfl, e⟩
    omega
  · rw [if_neg cj] at h; exact h
theorem VC.deed (x : VC m G d kn) {w : Nat} (hw : w < m) (hlw : (kn w).length = m) (hdg : (kn w)[w]? = some (d w)) (hle : ∀ i, i < m → ∀ (j : Nat) c, (kn i)[j]? = some c → 0 ≤ c ∧ c ≤ d j) :
    VC m (addG G w (d w + 1) (kn w)) (fun j => if j = w then d w + 1 else d j) (fun j => if j = w then (kn w).set w (d w + 1) else kn j) := by
  have hN : d w < d w + 1 := by omega
  have hmono : ∀ j, d j ≤ if j = w then d w + 1 else d j := fun j => by
    by_cases c : j = w
    · rw [if_pos c, c]; omega
    · rw [if_neg c]; exact Int.le_refl _
  have hk : ∀ j, j < m → Clo m (addG G w (d w + 1) (kn w)) (kn j) := fun j hj => (x.kc j hj).add hN fun i k e => (hle j hj i k e).2
  refine ⟨fun j n hj h1 h2 => ?_, fun j hj => ?_⟩
  · by_cases c : j = w ∧ n = d w + 1
    · obtain ⟨rfl, rfl⟩ := c
      rw [addG_new]
      exact ⟨by rw [hdg]; congr 1; omega, hk j hj, fun i c e => Int.le_trans (hle j hj i c e).2 (hmono i)⟩
    · have h2' := le_bump h2 c
      rw [addG_old hN h2']
      obtain ⟨e1, e2, e3⟩ := x.gl j n hj h1 h2'
      exact ⟨e1, e2.add hN fun i k e => e3 i k e, fun i c e => Int.le_trans (e3 i c e) (hmono i)⟩
  · show Clo m _ (if j = w then (kn w).set w (d w + 1) else kn j)
    by_cases cj : j = w
    · rw [if_pos cj]
      intro i k hi hk' hk1 t a b ha hb
      have hbb : ∃ b', (kn w)[t]? = some b' ∧ b' ≤ b := by
        by_cases ci : w = t
        · subst ci
          rw [List.getElem?_set_self (by omega)] at hb
          cases hb
          exact ⟨_, hdg, by omega⟩
        · rw [List.getElem?_set_ne ci] at hb
          exact ⟨b, hb, Int.le_refl _⟩
      obtain ⟨b', hb', hle'⟩ := hbb
      by_cases ci : w = i
      · subst ci
        rw [List.getElem?_set_self (by omega)] at hk'
        cases hk'
        rw [addG_new, hb'] at ha
        cases ha
        exact hle'
      · rw [List.getElem?_set_ne ci] at hk'
        have := hk w hw i k hi hk' hk1 t a b' ha hb'
        omega
    · rw [if_neg cj]; exact hk j hj
theorem LD.deed (x : LD m G d L) {w : Nat} {l : List Int} {b wh : D} (hw : w < m) (h0 : 0 ≤ d w) : LD m (addG G w (d w + 1) l) (fun j => if j = w then d w + 1 else d j) (L ++ [⟨w, d w + 1, l, b, wh⟩]) := by
  have hN : d w < d w + 1 := by omega
  refine ⟨fun y hy => ?_, fun j n hj h1 h2 => ?_, ?_⟩
  · rcases List.mem_append.mp hy with hy | hy
    · obtain ⟨e1, e2, e3, e4⟩ := x.wf y hy
      refine ⟨e1, e2, ?_, by rw [addG_old hN e3]; exact e4⟩
      show y.n ≤ if y.w = w then d w + 1 else d y.w
      split
      · rename_i c; rw [c] at e3; omega
      · exact e3
    · rw [List.mem_singleton.mp hy]
      exact ⟨hw, by show 1 ≤ d w + 1; omega, by show d w + 1 ≤ if w = w then d w + 1 else d w; rw [if_pos rfl]; exact Int.le_refl _, addG_new.symm⟩
  · by_cases c : j = w ∧ n = d w + 1
    · exact ⟨_, List.mem_append_right _ List.mem_cons_self, c.1.symm, c.2.symm⟩
    · obtain ⟨y, hy, e⟩ := x.all j n hj h1 (le_bump h2 c)
      exact ⟨y, List.mem_append_left _ hy, e⟩
  · rw [List.map_append]
    refine List.nodup_append.mpr ⟨x.nd, by simp, fun a ha b hb e => ?_⟩
    rw [List.map_cons, List.map_nil, List.mem_singleton] at hb
    obtain ⟨y, hy, rfl⟩ := List.mem_map.mp ha
    rw [hb] at e
    simp only [Prod.mk.injEq] at e
    have := (x.wf y hy).2.2.1
    rw [e.1, e.2] at this
    omega
theorem house_of (x : VC m G d kn) (z : LD m G d L) (hw : ∀ y ∈ L, y.n ≤ 41 ∧ y.hs.length = m ∧ ∀ c ∈ y.hs, 0 ≤ c ∧ c ≤ 41) : House m L := by
  refine ⟨fun y hy => ?_, z.nd, fun y hy j k hk h1 => ?_⟩
  · obtain ⟨e1, e2, e3, e4⟩ := z.wf y hy
    obtain ⟨f1, f2, f3⟩ := hw y hy
    exact ⟨e1, e2, f1, f2, by rw [e4]; exact (x.gl _ _ e1 e2 e3).1, f3⟩
  · obtain ⟨e1, e2, e3, e4⟩ := z.wf y hy
    obtain ⟨g1, g2, g3⟩ := x.gl _ _ e1 e2 e3
    have hj : j < m := by
      have := (List.getElem?_eq_some_iff.mp hk).1
      rw [(hw y hy).2.1] at this; exact this
    rw [e4] at hk
    obtain ⟨t, ht, h3, h4⟩ := z.all j k hj h1 (g3 j k hk)
    refine ⟨t, ht, h3, h4, fun i a b ha hb => ?_⟩
    rw [(z.wf t ht).2.2.2, h3, h4] at ha
    rw [e4] at hb
    exact g2 j k hj hk h1 i a b ha hb
end
def DeedD (R : List Str) (x : D) : Prop := ∃ (w : Nat) (wd : Str) (num : Int) (hs : List Int) (b wh : D), x = .tup [.str wd, .int num, .tup (hs.map .int), b, wh] ∧ R[w]? = some wd ∧ 1 ≤ num ∧ num ≤ 41 ∧ hs.length = R.length ∧ hs[w]? = some (num - 1) ∧ (∀ c ∈ hs, 0 ≤ c ∧ c ≤ 41) ∧ BrD R b ∧ Wh R num wh
theorem TBx.mono {h : AH} {kk dd : Addr} {K : Nat → Addr} {m : Nat} {kvs : List (D × D)} {d d' : Nat → Int} {j : Nat} {n : Int} {G : Nat → Int → List Int} (x : TBx h kk dd K m kvs d G j n) (hd : ∀ i, d i ≤ d' i) : TBx h kk dd K m kvs d' G j n := by
  obtain ⟨a, l, h1, h2, h3, h4, h5⟩ := x
  exact ⟨a, l, h1, h2, h3, fun i c hc => by have := h4 i c hc; have := hd i; omega, h5⟩
theorem cut_drop4 {α : Type} (xs : List α) : cut xs (some 4) none = xs.drop 4 := cut_drop xs 4
theorem bump_le (d : Nat → Int) (w : Nat) : ∀ j, d j ≤ if j = w then d w + 1 else d j := fun j => by
  by_cases c : j = w
  · rw [if_pos c, c]; omega
  · rw [if_neg c]; exact Int.le_refl _
theorem ixN_nat {n i : Nat} (h : i < n) : ixN n (i : Int) = some i := by
  unfold ixN
  rw [if_pos (by omega), if_pos (by omega)]
  simp
theorem mod_nat (x : Int) {m : Nat} (hm : 0 < m) : ∃ o : Nat, x % (m : Int) = o ∧ o < m := by
  have h0 := Int.emod_nonneg x (show (m : Int) ≠ 0 by omega)
  have h1 := Int.emod_lt_of_pos x (show (0 : Int) < m by omega)
  exact ⟨(x % (m : Int)).toNat, by omega, by omega⟩
theorem l_house_ok {h : AH} {ns : List Int} {most : Nat} {Q : KD} (hns : ns.length ≤ 63) (hmost : most ≤ 41)
    (q : ∀ rr dd R ds h', Sb h h' → h' rr = some (.lst (R.map .str)) → h' dd = some (.lst (ds.map (Dd.dv R))) → RollOk R → ds.length ≤ 41 → (∀ x ∈ ds, DeedD R (x.dv R)) → House R.length ds → Q (.tup [.ref rr, .ref dd]) h') : f_l_house [.rl (ns.map .int), .int most] h Q := by
  unfold f_l_house
  trivial
  refine newL_i fun c0 nc0 => ?_
  trivial
  refine ⟨by rw [List.length_map, List.length_singleton, SZ]; omega, newL_i fun cc ncc => ?_⟩
  rw [show ns.map D.int ++ [D.int 0] = (ns ++ [0]).map D.int by rw [List.map_append]; rfl]
  obtain ⟨x0, hx0⟩ := at_int (xs := ns ++ [0]) (i := 0) (by simp)
  have ec : up (up h c0 (.lst [.int 0])) cc (.lst ((ns ++ [0]).map D.int)) cc = some (.lst ((ns ++ [0]).map D.int)) := up_same
  have s1 : Sb h (up (up h c0 (.lst [.int 0])) cc (.lst ((ns ++ [0]).map D.int))) := ((Sb.refl h).upf' nc0).upf' ncc
  generalize up (up h c0 (.lst [.int 0])) cc (.lst ((ns ++ [0]).map D.int)) = h1 at ec s1 ⊢
  clear nc0 ncc
  trivial
  refine ⟨_, hx0, ?_⟩
  trivial
  refine l_roll_ok fun rr R h2 nrr s2 er ro => ?_
  have hlo := ro.lo
  have hhi := ro.hi
  have sb2 := s1.trans s2
  clear s1 s2 ec hx0 nrr
  trivial
  rw [List.length_map]
  generalize hm : R.length = m at hlo hhi
  intro kk nkk
  have hrk : rr ≠ kk := fun y => by rw [y, nkk] at er; cases er
  refine ⟨fun j acc g => j ≤ m ∧ ∃ K : Nat → Addr, acc = rfs K j ∧ (∀ i, i < j → g (K i) = some (.lst (List.replicate m (.int 0))) ∧ h2 (K i) = none ∧ K i ≠ kk) ∧ (∀ i i', i < j → i' < j → K i = K i' → i = i') ∧ g kk = some (.lst acc) ∧ Sb h2 g, ?_, ?_, ?_, ?_⟩
  · exact ⟨Nat.zero_le _, fun _ => 0, rfl, (fun i hi => absurd hi (Nat.not_lt_zero _)), (fun i i' hi => absurd hi (Nat.not_lt_zero _)), up_same, (Sb.refl h2).upf' nkk⟩
  · rintro j acc g _ ⟨_, K, rfl, _, _, ek, sg⟩
    exact ⟨sg _ _ er, ek⟩
  · rintro j acc g d ⟨hj, K, rfl, hK, hI, ek, sg⟩ hd
    have hd' : (R.map D.str)[j]? = some d := hd
    have hjl : j < m := by
      have := (List.getElem?_eq_some_iff.mp hd').1
      rw [List.length_map] at this; omega
    clear hd hd'
    trivial
    refine newL_i fun z0 nz0 => ?_
    trivial
    refine ⟨m, rfl, by simp [SZ]; omega, by omega, newL_i fun z nz => ?_⟩
    rw [rep_one]
    have hk0 : kk ≠ z0 := fun y => by rw [← y, ek] at nz0; cases nz0
    have ek1 := up_at (o := .lst [.int 0]) hk0 ek
    have hkz : kk ≠ z := fun y => by rw [← y, ek1] at nz; cases nz
    have ek2 := up_at (o := .lst (List.replicate m (.int 0))) hkz ek1
    have sg1 := sg.upf' nz0 (o := .lst [.int 0])
    have sg2 := sg1.upf' nz (o := .lst (List.replicate m (.int 0)))
    have hz2 : h2 z = none := sg1.nn nz
    have t2 : Sb g (up (up g z0 (.lst [.int 0])) z (.lst (List.replicate m (.int 0)))) := ((Sb.refl g).upf' nz0).upf' nz
    have ez : up (up g z0 (.lst [.int 0])) z (.lst (List.replicate m (.int 0))) z = some (.lst (List.replicate m (.int 0))) := up_same
    have hzn : g z = none := ((Sb.refl g).upf' nz0 (o := .lst [.int 0])).nn nz
    generalize up (up g z0 (.lst [.int 0])) z (.lst (List.replicate m (.int 0))) = g2 at ek2 sg2 t2 ez ⊢
    refine ⟨by rw [rfs_len, SZ]; omega, ek2, ?_⟩
    apply Pt.of
    refine ⟨hjl, fun i => if i = j then z else K i, ?_, fun i hi => ?_, fun i i' hi hi' e => ?_, ?_, sg2.upf nkk⟩
    · rw [rfs_snoc]
    · show up g2 kk _ (if i = j then z else K i) = _ ∧ h2 (if i = j then z else K i) = none ∧ (if i = j then z else K i) ≠ kk
      by_cases c : i = j
      · rw [if_pos c]; exact ⟨up_at hkz.symm ez, hz2, hkz.symm⟩
      · rw [if_neg c]
        obtain ⟨h1, h3, h4⟩ := hK i (by omega)
        exact ⟨up_at h4 (t2 _ _ h1), h3, h4⟩
    · have e : (if i = j then z else K i) = if i' = j then z else K i' := e
      by_cases c1 : i = j
      · by_cases c2 : i' = j
        · rw [c1, c2]
        · rw [if_pos c1, if_neg c2] at e
          have := (hK i' (by omega)).1
          rw [← e, hzn] at this; cases this
      · by_cases c2 : i' = j
        · rw [if_neg c1, if_pos c2] at e
          have := (hK i (by omega)).1
          rw [e, hzn] at this; cases this
        · rw [if_neg c1, if_neg c2] at e; exact hI i i' (by omega) (by omega) e
    · rw [up_same]
  rintro acc g ⟨_, K, rfl, hK, hI, ek, sg⟩
  rw [show (srcL rr (R.map D.str)).ds.length = m by rw [← hm]; exact List.length_map _] at hK hI ek
  trivial
  refine newD_i fun tt ntt => ?_
  have hkt : kk ≠ tt := fun y => by rw [← y, ek] at ntt; cases ntt
  trivial
  refine newL_i fun dd ndd => ?_
  generalize hH : up (up g tt _) dd _ = g1
  have hdt : tt ≠ dd := fun y => (up_none.mp ndd).1 y.symm
  have hkd : kk ≠ dd := fun y => by rw [← y, up_at hkt ek] at ndd; cases ndd
  have t1 : Sb g g1 := by rw [← hH]; exact ((Sb.refl g).upf' ntt).upf' ndd
  have ed1 : g1 dd = some (.lst []) := by rw [← hH]; exact up_same
  have et1 : g1 tt = some (.dic []) := by rw [← hH]; exact up_at hdt up_same
  have htt2 : h2 tt = none := sg.nn ntt
  have hdd2 : h2 dd = none := (sg.upf' ntt (o := .dic [])).nn ndd
  have hgd : g dd = none := ((Sb.refl g).upf' ntt (o := .dic [])).nn ndd
  have sg1 := sg.trans t1
  have HS0 : HS g1 kk tt dd K m (fun _ => List.replicate m 0) [] (fun _ => 0) (fun _ _ => []) := by
    refine ⟨t1 _ _ ek, et1, fun j hj => ?_, hI, fun j hj => ⟨(hK j hj).2.2, fun y => ?_⟩, hkd, fun j hj => List.length_replicate, fun j hj => ?_, fun i hi j c hc => ?_, fun j n hj h1 h2 => by omega⟩
    · rw [List.map_replicate]; exact t1 _ _ (hK j hj).1
    · have := (hK j hj).1
      rw [y, hgd] at this; cases this
    · rw [List.getElem?_replicate, if_pos hj]
    · obtain ⟨_, hc⟩ := List.getElem?_eq_some_iff.mp hc
      rw [List.getElem_replicate] at hc
      omega
  have hK2 : ∀ j, j < m → h2 (K j) = none := fun j hj => (hK j hj).2.1
  clear hH ntt ndd ek hK hI t1 sg et1 hgd
  trivial
  refine newL_i fun zz nzz => ?_
  rw [cut_mapI]
  have hL : (cut ns (some 1) (some (most : Int))).length ≤ 40 := by
    unfold cut sIx
    dsimp only
    rw [if_neg (by omega), if_neg (by omega), List.length_take, List.length_drop]
    have : ((most : Int)).toNat = most := by omega
    rw [this, show (1 : Int).toNat = 1 from rfl]
    omega
  generalize cut ns (some 1) (some (most : Int)) = L at hL
  have hkz : kk ≠ zz := fun y => by have := HS0.kl; rw [y, nzz] at this; cases this
  have htz : tt ≠ zz := fun y => by have := HS0.tl; rw [y, nzz] at this; cases this
  have hdz : dd ≠ zz := fun y => by rw [← y, ed1] at nzz; cases nzz
  have hKz : ∀ j, j < m → K j ≠ zz := fun j hj y => by have := HS0.ke j hj; rw [y, nzz] at this; cases this
  have HS1 := HS0.sb ((Sb.refl g1).upf' nzz (o := .lst (L.map D.int)))
  have ed2 := up_at (o := .lst (L.map D.int)) hdz ed1
  have hz2 : h2 zz = none := sg1.nn nzz
  obtain ⟨hB, ehB⟩ : ∃ hB, hB = up h2 zz (.lst (L.map D.int)) := ⟨_, rfl⟩
  have sB : Sb hB (up g1 zz (.lst (L.map D.int))) := by rw [ehB]; exact sg1.both
  have ezB : hB zz = some (.lst (L.map D.int)) := by rw [ehB]; exact up_same
  have erB : hB rr = some (.lst (R.map D.str)) := by rw [ehB]; exact up_at (fun y => by rw [y, hz2] at er; cases er) er
  have sbB : Sb h hB := by rw [ehB]; exact sb2.upf' hz2
  have hBk : hB kk = none := by rw [ehB]; exact up_at hkz nkk
  have hBt : hB tt = none := by rw [ehB]; exact up_at htz htt2
  have hBd : hB dd = none := by rw [ehB]; exact up_at hdz hdd2
  have hBK : ∀ j, j < m → hB (K j) = none := fun j hj => by rw [ehB]; exact up_at (hKz j hj) (hK2 j hj)
  generalize up g1 zz (.lst (L.map D.int)) = g3 at HS1 ed2 sB ⊢
  have ez3 := sB _ _ ezB
  clear HS0 ed1 hz2 ehB sg1 hK2 hdd2 htt2 sb2 hkz htz hdz hKz nzz er nkk
  trivial
  refine ⟨fun i ρ g => i ≤ L.length ∧ ∃ (x8 x9 x10 x11 x12 x13 x14 x15 x16 x17 x18 : Option D) (K : Nat → Addr) (kn : Nat → List Int) (kvs : List (D × D)) (d : Nat → Int) (G : Nat → Int → List Int) (ds : List Dd), ρ = [some (.rl (ns.map .int)), some (.int most), some (.ref cc), some (.ref rr), some (.int m), some (.ref kk), some (.ref tt), some (.ref dd), x8, x9, x10, x11, x12, x13, x14, x15, x16, x17, x18, none, none] ∧ HS g kk tt dd K m kn kvs d G ∧ g dd = some (.lst (ds.map (Dd.dv R))) ∧ ds.length = i ∧ ((∀ x ∈ ds, DeedD R (x.dv R)) ∧ (∀ y ∈ ds, y.n ≤ 41 ∧ y.hs.length = m ∧ ∀ c ∈ y.hs, 0 ≤ c ∧ c ≤ 41) ∧ VC m G d kn ∧ LD m G d ds) ∧ (∀ j, 0 ≤ d j ∧ d j ≤ i) ∧ kvs.length ≤ i ∧ Sb hB g ∧ (∀ j, j < m → hB (K j) = none), ?_, ?_, ?_, ?_⟩
  · exact ⟨Nat.zero_le _, _, _, _, _, _, _, _, _, _, _, _, K, _, _, _, _, [], rfl, HS1, ed2, rfl, ⟨(fun x hx => by cases hx), (fun x hx => by cases hx), VC.zero m _, ⟨(fun x hx => by cases hx), (fun j n hj h1 h2 => by have h2 : n ≤ (0 : Int) := h2; omega), List.nodup_nil⟩⟩, (fun j => ⟨by omega, by omega⟩), Nat.le_refl _, sB, hBK⟩
  · rintro i ρ g _ ⟨_, x8, x9, x10, x11, x12, x13, x14, x15, x16, x17, x18, K, kn, kvs, d, G, ds, _, _, _, _, _, _, _, sg, _⟩
    exact sg _ _ ezB
  · clear HS1 ed2 sB hBK
    rintro i ρ g e ⟨hi, x8, x9, x10, x11, x12, x13, x14, x15, x16, x17, x18, K, kn, kvs, d, G, ds, rfl, hs, ed, hdl, ⟨hds, hds2, vc, ld⟩, hdd, hkv, sg, hBK⟩ he
    have he' : (enumD 0 (L.map D.int))[i]? = some e := he
    obtain ⟨y, hy, rfl⟩ := enum_get he'
    rw [Nat.zero_add]
    obtain ⟨c, hc, rfl⟩ := get_map hy
    have hil := (List.getElem?_eq_some_iff.mp hc).1
    clear he he' hy
    trivial
    refine l_draws_ok (n := 22) (by omega) fun zd xs g1 nzd s1 ezd hx => ?_
    have hs1 := hs.sb s1
    have ed1 := s1 _ _ ed
    have sg1 := sg.trans s1
    trivial
    obtain ⟨y0, hy0⟩ := at_int (xs := xs) (i := 0) (by omega)
    refine ⟨_, hy0, ?_⟩
    obtain ⟨w, hw, hwm⟩ := mod_nat y0 (m := m) (by omega)
    trivial
    refine ⟨_, hy0, ?_⟩
    rw [hw]
    have hT : 0 ≤ y0 / (m : Int) % 3 ∧ y0 / (m : Int) % 3 < 3 := ⟨Int.emod_nonneg _ (by decide), Int.emod_lt_of_pos _ (by decide)⟩
    clear hw
    trivial
    have hzk : zd ≠ kk := fun y => by have := hs.kl; rw [← y, nzd] at this; cases this
    have hzt : zd ≠ tt := fun y => by have := hs.tl; rw [← y, nzd] at this; cases this
    have hzdd : zd ≠ dd := fun y => by rw [← y, nzd] at ed; cases ed
    have hzK : ∀ j, j < m → zd ≠ K j := fun j hj y => by have := hs.ke j hj; rw [← y, nzd] at this; cases this
    obtain ⟨hC, ehC⟩ : ∃ hC, hC = up hB zd (.lst (xs.map D.int)) := ⟨_, rfl⟩
    have sC : Sb hC g1 := by rw [ehC]; exact sg1.add ezd
    have eC : hC zd = some (.lst (xs.map D.int)) := by rw [ehC]; exact up_same
    have hBz : hB zd = none := sg.nn nzd
    have sBC : Sb hB hC := by rw [ehC]; exact (Sb.refl hB).upf' hBz
    have hCk : hC kk = none := by rw [ehC]; exact up_at hzk.symm hBk
    have hCt : hC tt = none := by rw [ehC]; exact up_at hzt.symm hBt
    have hCd : hC dd = none := by rw [ehC]; exact up_at hzdd.symm hBd
    have hCK : ∀ j, j < m → hC (K j) = none := fun j hj => by rw [ehC]; exact up_at (hzK j hj).symm (hBK j hj)
    clear hzk hzt hzdd hzK ehC hs ed sg s1 nzd ezd
    refine ⟨fun t ρ g => t ≤ (y0 / (m : Int) % 3).toNat ∧ ∃ (x12 x13 x14 x15 : Option D) (K : Nat → Addr) (kn : Nat → List Int), ρ = [some (.rl (ns.map .int)), some (.int most), some (.ref cc), some (.ref rr), some (.int m), some (.ref kk), some (.ref tt), some (.ref dd), some (.int (i : Int)), some (.int c), some (.ref zd), some (.int (w : Int)), x12, x13, x14, x15, x16, x17, x18, none, none] ∧ HS g kk tt dd K m kn kvs d G ∧ VC m G d kn ∧ g dd = some (.lst (ds.map (Dd.dv R))) ∧ Sb hC g ∧ (∀ j, j < m → hC (K j) = none), ?_, ?_, ?_, ?_⟩
    · exact ⟨Nat.zero_le _, _, _, _, _, K, kn, rfl, hs1, vc, ed1, sC, hCK⟩
    · rintro t ρ g _ _
      exact True.intro
    · clear hs1 ed1 sC hCK sg1 vc
      rintro t ρ g e ⟨ht, x12, x13, x14, x15, K, kn, rfl, hs, vc, ed, sC, hCK⟩ he
      obtain ⟨ht', rfl⟩ := rng_get he
      rw [Int.zero_add]
      obtain ⟨y1, hy1⟩ := at_int (xs := xs) (i := 1 + t) (by omega)
      rw [show ((1 + t : Nat) : Int) = 1 + (t : Int) by omega] at hy1
      have ezd := sC _ _ eC
      have ekk := hs.kl
      clear he
      trivial
      refine ⟨_, hy1, ?_⟩
      obtain ⟨o, ho, hom⟩ := mod_nat y1 (m := m) (by omega)
      trivial
      refine ⟨_, hy1, ?_⟩
      rw [ho]
      trivial
      refine ⟨_, atI_nat (rfs_at hom), ?_⟩
      have eKo := hs.ke o hom
      trivial
      refine ⟨_, atI_nat (show ((kn o).map D.int)[o]? = some (D.int (d o)) by rw [List.getElem?_map, hs.dg o hom]; rfl), ?_⟩
      have hdo := hdd o
      have hto0 := Int.emod_nonneg (y1 / (m : Int)) (show d o + 1 ≠ 0 by omega)
      have hto1 := Int.emod_lt_of_pos (y1 / (m : Int)) (show 0 < d o + 1 by omega)
      trivial
      refine ⟨_, atI_nat (rfs_at hwm), ?_⟩
      have eKw := hs.ke w hwm
      obtain ⟨cwo, hcwo⟩ : ∃ c, (kn w)[o]? = some c := ⟨_, List.getElem?_eq_getElem (by rw [hs.len w hwm]; exact hom)⟩
      have hcb := hs.le w hwm o cwo hcwo
      trivial
      refine ⟨_, atI_nat (show ((kn w).map D.int)[o]? = some (D.int cwo) by rw [List.getElem?_map, hcwo]; rfl), ?_⟩
      clear hy1 ho eKo
      generalize y1 / (m : Int) % (d o + 1) = to at hto0 hto1
      trivial
      refine onT_d (fun hgt => ?_) (fun hgt => ?_)
      · have how : o ≠ w := fun e => by
          subst e
          have := hs.dg o hom
          rw [hcwo] at this
          cases this
          omega
        obtain ⟨a, l, e1, e2, e3, e4, e5, e6, e7⟩ := hs.tb o to hom (by omega) (by omega)
        have etl := hs.tl
        trivial
        refine ⟨_, e1, ?_⟩
        trivial
        intro f nf
        refine ⟨fun j acc g' => j ≤ m ∧ ∃ cs : List Int, acc = cs.map .int ∧ cs.length = j ∧ (∀ (t : Nat) c, cs[t]? = some c → ∃ a b, (kn w)[t]? = some a ∧ l[t]? = some b ∧ c = if b > a then b else a) ∧ g' = up g f (.lst acc), ?_, ?_, ?_, ?_⟩
        · exact ⟨Nat.zero_le _, [], rfl, rfl, (fun t c hc => by simp at hc), rfl⟩
        · rintro j acc g' _ ⟨_, cs, rfl, _, _, rfl⟩
          exact ⟨True.intro, up_same⟩
        · rintro j acc g' d ⟨hj, cs, rfl, hcl, hcs, rfl⟩ hd
          obtain ⟨hj', rfl⟩ := rng_get hd
          rw [Int.toNat_natCast] at hj'
          rw [Int.zero_add]
          obtain ⟨va, hva⟩ : ∃ c, (kn w)[j]? = some c := ⟨_, List.getElem?_eq_getElem (by rw [hs.len w hwm]; exact hj')⟩
          obtain ⟨vb, hvb⟩ : ∃ c, l[j]? = some c := ⟨_, List.getElem?_eq_getElem (by rw [e3.2]; exact hj')⟩
          have ekk1 := up_at (o := .lst (cs.map D.int)) (show kk ≠ f by nofun) ekk
          have eKw1 := up_at (o := .lst (cs.map D.int)) (show K w ≠ f by nofun) eKw
          have ea1 := up_at (o := .lst (cs.map D.int)) (show a ≠ f by nofun) e2
          clear hd
          trivial
          refine ⟨_, atI_nat (rfs_at hwm), ?_⟩
          trivial
          refine ⟨_, atI_nat (show ((kn w).map D.int)[j]? = some (D.int va) by rw [List.getElem?_map, hva]; rfl), ?_⟩
          trivial
          refine ⟨_, atI_nat (show (l.map D.int)[j]? = some (D.int vb) by rw [List.getElem?_map, hvb]; rfl), ?_⟩
          trivial
          refine ⟨by rw [List.length_map, SZ]; omega, up_same, ?_⟩
          rw [up_up]
          apply Pt.of
          refine ⟨hj', cs ++ [if vb > va then vb else va], by rw [List.map_append]; rfl, by rw [List.length_append, hcl]; rfl, fun t c hc => ?_, rfl⟩
          by_cases ct : t < cs.length
          · rw [List.getElem?_append_left ct] at hc
            exact hcs t c hc
          · have htj : t = j := by
              have := (List.getElem?_eq_some_iff.mp hc).1
              rw [List.length_append, List.length_singleton] at this
              omega
            rw [htj, List.getElem?_append_right (by omega), hcl, Nat.sub_self] at hc
            cases hc
            rw [htj]
            exact ⟨va, vb, hva, hvb, rfl⟩
        rintro acc g' ⟨_, cs, rfl, hcl, hcs, rfl⟩
        rw [rng_len, Int.toNat_natCast] at hcl
        have s2 : Sb g (up g f (.lst (cs.map D.int))) := (Sb.refl g).upf' nf
        have ef : up g f (.lst (cs.map D.int)) f = some (.lst (cs.map D.int)) := up_same
        have hs2 := hs.sb s2
        have ed2 := s2 _ _ ed
        have sC2 := sC.trans s2
        have hCf : hC f = none := sC.nn nf
        have hfk : f ≠ kk := fun y => by rw [← y, nf] at ekk; cases ekk
        have hfd : f ≠ dd := fun y => by rw [← y, nf] at ed; cases ed
        have hfK : ∀ j, j < m → f ≠ K j := fun j hj y => by have := hs.ke j hj; rw [← y, nf] at this; cases this
        have hft : ∀ j n, j < m → 1 ≤ n → n ≤ d j → ∀ a, dget kvs (.tup [.int (j : Int), .int n]) = some (.ref a) → a ≠ f := fun j n h1 h2 h3 a ha y => by
          obtain ⟨b, l', g1, g2, _⟩ := hs.tb j n h1 h2 h3
          rw [g1] at ha
          cases ha
          rw [y, nf] at g2; cases g2
        have hcd : cs[w]? = some (d w) := by
          obtain ⟨v, hv⟩ : ∃ v, cs[w]? = some v := ⟨_, List.getElem?_eq_getElem (by omega)⟩
          obtain ⟨va, vb, h1, h2, rfl⟩ := hcs w v hv
          rw [hs.dg w hwm] at h1
          cases h1
          have := e4 w vb h2
          rw [hv, if_neg (by omega)]
        have hclo := vc.max hwm hom (to := to) (by omega) (by omega) (cs := cs) (by rw [← e3.1]; exact hcs)
        have hge : ∀ (i : Nat) b c, (G o to)[i]? = some b → cs[i]? = some c → b ≤ c := fun i b c hb hc => by
          obtain ⟨va, vb, h1, h2, rfl⟩ := hcs i c hc
          rw [← e3.1, h2] at hb
          cases hb
          split <;> omega
        have hcle : ∀ (j : Nat) c, cs[j]? = some c → 0 ≤ c ∧ c ≤ d j := fun j c hc => by
          obtain ⟨va, vb, h1, h2, rfl⟩ := hcs j c hc
          have g1 := hs.le w hwm j va h1
          have g2 := e4 j vb h2
          split <;> omega
        have ekk2 := hs2.kl
        generalize up g f (.lst (cs.map D.int)) = g2 at s2 ef hs2 ed2 sC2 ekk2
        trivial
        refine ⟨w, ixN_nat (by rw [rfs_len]; exact hwm), ?_⟩
        have hs3 := hs2.rep hwm ef ⟨hfk, hfd, hfK⟩ hft hcl hcd hcle
        have ed3 := up_at (o := .lst ((rfs K m).set w (.ref f))) hs.kd.symm ed2
        have sC3 : Sb hC (up g2 kk (.lst ((rfs K m).set w (.ref f)))) := sC2.upf hCk
        have hCK3 : ∀ j, j < m → hC ((fun j => if j = w then f else K j) j) = none := fun j hj => by
          show hC (if j = w then f else K j) = none
          by_cases c : j = w
          · rw [if_pos c]; exact hCf
          · rw [if_neg c]; exact hCK j hj
        generalize up g2 kk (.lst ((rfs K m).set w (.ref f))) = g3 at hs3 ed3 sC3 ⊢
        have vc3 := vc.rep (w := w) hclo
        have hge3 : ∀ (i : Nat) b c, (G o to)[i]? = some b → ((fun j => if j = w then cs else kn j) w)[i]? = some c → b ≤ c := fun i b c hb hc => hge i b c hb (by simpa using hc)
        generalize (fun j => if j = w then f else K j) = K3 at hs3 hCK3
        generalize (fun j => if j = w then cs else kn j) = kn3 at hs3 vc3 hge3
        have hto1' : 1 ≤ to := by omega
        have hto2' : to ≤ d o := by omega
        clear hs hs2 ed ed2 ekk eKw ekk2 etl sC sC2 s2 ef hCf hfk hfd hfK hft hcd hcle hcs e1 e2 e4 e5 e6 e7 ezd nf hCK hcwo vc hclo hge e3
        have ekk3 := hs3.kl
        have eKw3 := hs3.ke w hwm
        obtain ⟨c3, hc3⟩ : ∃ c, (kn3 w)[o]? = some c := ⟨_, List.getElem?_eq_getElem (by rw [hs3.len w hwm]; exact hom)⟩
        have hb3 := hs3.le w hwm o c3 hc3
        trivial
        refine ⟨_, atI_nat (rfs_at hwm), ?_⟩
        trivial
        refine ⟨_, atI_nat (show ((kn3 w).map D.int)[o]? = some (D.int c3) by rw [List.getElem?_map, hc3]; rfl), ?_⟩
        trivial
        refine ⟨_, atI_nat (rfs_at hwm), ?_⟩
        trivial
        refine ⟨o, ixN_nat (by rw [List.length_map, hs3.len w hwm]; exact hom), ?_⟩
        rw [← List.map_set]
        have hs4 := hs3.mut (d' := d) hwm (n2 := (kn3 w).set o (if to > c3 then to else c3)) (by rw [List.length_set]; exact hs3.len w hwm) (by rw [List.getElem?_set_ne how]; exact hs3.dg w hwm) (fun j _ _ => rfl) (fun j => Int.le_refl _) (fun j c hc => by
          by_cases cj : o = j
          · subst cj
            rw [List.getElem?_set_self (by rw [hs3.len w hwm]; exact hom)] at hc
            cases hc
            split <;> omega
          · rw [List.getElem?_set_ne cj] at hc
            exact hs3.le w hwm j c hc) hs3.tb
        have hnk := (hs3.nk w hwm).2
        have vc4 := vc3.rep (w := w) (vc3.hear hwm hom hto1' hto2' hge3 hc3)
        apply Pt.of
        exact ⟨ht', _, _, _, _, K3, _, rfl, hs4, vc4, up_at hnk.symm ed3, sC3.upf (hCK3 w hwm), hCK3⟩
      · trivial
        apply Pt.of
        exact ⟨ht', _, _, _, _, K, kn, rfl, hs, vc, ed, sC, hCK⟩
    clear vc
    rintro ρ g ⟨_, x12, x13, x14, x15, K, kn, rfl, hs, vc, ed, sC, hCK⟩
    have hBK' : ∀ j, j < m → hB (K j) = none := fun j hj => sBC.nn (hCK j hj)
    have ekk := hs.kl
    have eKw := hs.ke w hwm
    have hdw := hdd w
    have ezd := sC _ _ eC
    trivial
    refine ⟨_, atI_nat (rfs_at hwm), ?_⟩
    trivial
    refine ⟨_, atI_nat (show ((kn w).map D.int)[w]? = some (D.int (d w)) by rw [List.getElem?_map, hs.dg w hwm]; rfl), ?_⟩
    trivial
    refine ⟨_, atI_nat (rfs_at hwm), ?_⟩
    trivial
    refine tuple_ls eKw ?_
    have hlw := hs.len w hwm
    trivial
    refine newL_i fun a na => ?_
    have t1 : Sb g (up g a (.lst ((kn w).map D.int))) := (Sb.refl g).upf' na
    have ea : up g a (.lst ((kn w).map D.int)) a = some (.lst ((kn w).map D.int)) := up_same
    have hak : a ≠ kk := fun y => by rw [← y, na] at ekk; cases ekk
    have had : a ≠ dd := fun y => by rw [← y, na] at ed; cases ed
    have haK : ∀ j, j < m → a ≠ K j := fun j hj y => by have := hs.ke j hj; rw [← y, na] at this; cases this
    have hs2 := hs.sb t1
    have ed2 := t1 _ _ ed
    have sC2 := sC.trans t1
    have etl2 := hs2.tl
    generalize up g a (.lst ((kn w).map D.int)) = g2 at ea hs2 ed2 sC2 etl2 ⊢
    clear t1 ekk eKw ezd na sC
    have hdt : dd ≠ tt := fun y => by rw [← y, ed2] at etl2; cases etl2
    trivial
    refine ⟨by rw [SZ]; omega, ?_⟩
    obtain ⟨hs3, tb3⟩ := hs2.row hdt hwm (N := d w + 1) (G' := addG G w (d w + 1) (kn w)) rfl ea hlw (hs.le w hwm) ⟨hak, had, haK⟩ (fun j n hj h1 h2 => addG_old (Int.lt_succ _) h2) addG_new
    have vc4 := vc.deed hwm hlw (hs2.dg w hwm) (fun i hi j c hc => hs2.le i hi j c hc)
    have ld4 : ∀ b wh, LD m (addG G w (d w + 1) (kn w)) (fun j => if j = w then d w + 1 else d j) (ds ++ [(⟨w, d w + 1, kn w, b, wh⟩ : Dd)]) := fun b wh => ld.deed hwm (hdd w).1
    clear vc ld
    have ed3 := up_at (o := .dic (dput kvs (.tup [.int (w : Int), .int (d w + 1)]) (.ref a))) hdt ed2
    have sC3 : Sb hC (up g2 tt (.dic (dput kvs (.tup [.int (w : Int), .int (d w + 1)]) (.ref a)))) := sC2.upf hCt
    have hkv3 : (dput kvs (.tup [.int (w : Int), .int (d w + 1)]) (.ref a)).length ≤ i + 1 := by
      have h1 := dput_keysP kvs (.tup [.int (w : Int), .int (d w + 1)]) (.ref a)
      have h2 := congrArg List.length h1
      rw [List.length_map] at h2
      split at h2
      · rw [List.length_map] at h2; omega
      · rw [List.length_append, List.length_map, List.length_singleton] at h2; omega
    generalize up g2 tt (.dic (dput kvs (.tup [.int (w : Int), .int (d w + 1)]) (.ref a))) = g3 at hs3 tb3 ed3 sC3 ⊢
    generalize dput kvs (.tup [.int (w : Int), .int (d w + 1)]) (.ref a) = kvs3 at hs3 tb3 hkv3
    clear hs2 ed2 sC2 etl2 ea hak had haK hs ed
    have ekk3 := hs3.kl
    have eKw3 := hs3.ke w hwm
    trivial
    refine ⟨_, atI_nat (rfs_at hwm), ?_⟩
    trivial
    refine ⟨w, ixN_nat (by rw [List.length_map, hlw]; exact hwm), ?_⟩
    rw [← List.map_set]
    have hs4 := hs3.mut (d' := fun j => if j = w then d w + 1 else d j) hwm (n2 := (kn w).set w (d w + 1)) (by rw [List.length_set]; exact hlw) (by rw [List.getElem?_set_self (by rw [hlw]; exact hwm), if_pos rfl]) (fun j _ hj => if_neg hj) (bump_le d w) (fun j c hc => by
      by_cases cj : w = j
      · subst cj
        rw [List.getElem?_set_self (by rw [hlw]; exact hwm)] at hc
        cases hc
        rw [if_pos rfl]; omega
      · rw [List.getElem?_set_ne cj] at hc
        have := hs3.le w hwm j c hc
        rw [if_neg (fun z => cj z.symm)]; exact this) (fun j n hj h1 h2 => by
      have hmono := bump_le d w
      by_cases cj : j = w
      · subst cj
        rw [if_pos rfl] at h2
        by_cases cn : n = d j + 1
        · rw [cn]; exact tb3.mono hmono
        · exact (hs3.tb j n hj h1 (by omega)).mono hmono
      · rw [if_neg cj] at h2
        exact (hs3.tb j n hj h1 h2).mono hmono)
    have hnk := (hs3.nk w hwm).2
    have ed4 := up_at (o := .lst (((kn w).set w (d w + 1)).map D.int)) hnk.symm ed3
    have sC4 : Sb hC (up g3 (K w) (.lst (((kn w).set w (d w + 1)).map D.int))) := sC3.upf (hCK w hwm)
    have hhs : (kn w)[w]? = some (d w) := hs3.dg w hwm
    have hhle := hs3.le w hwm
    generalize up g3 (K w) (.lst (((kn w).set w (d w + 1)).map D.int)) = g4 at hs4 ed4 sC4 ⊢
    have hd4 : ∀ j, 0 ≤ (fun j => if j = w then d w + 1 else d j) j ∧ (fun j => if j = w then d w + 1 else d j) j ≤ ((i + 1 : Nat) : Int) := fun j => by
      have := hdd j
      show 0 ≤ (if j = w then d w + 1 else d j) ∧ (if j = w then d w + 1 else d j) ≤ _
      split <;> omega
    generalize (fun j => if j = w then d w + 1 else d j) = d4 at hs4 hd4 vc4 ld4
    generalize (fun j => if j = w then (kn w).set w (d w + 1) else kn j) = kn4 at hs4 vc4
    generalize addG G w (d w + 1) (kn w) = G4 at hs4 vc4 ld4
    clear hs3 tb3 ed3 sC3 ekk3 eKw3 hnk
    have ezd4 := sC4 _ _ eC
    have err4 := sC4 _ _ (sBC _ _ erB)
    trivial
    refine newL_i fun u nu => ?_
    rw [cut_mapI, cut_drop4]
    have t5 : Sb g4 (up g4 u (.lst ((xs.drop 4).map D.int))) := (Sb.refl g4).upf' nu
    have eu : up g4 u (.lst ((xs.drop 4).map D.int)) u = some (.lst ((xs.drop 4).map D.int)) := up_same
    have hs5 := hs4.sb t5
    have ed5 := t5 _ _ ed4
    have sC5 := sC4.trans t5
    have ezd5 := t5 _ _ ezd4
    have err5 := t5 _ _ err4
    generalize up g4 u (.lst ((xs.drop 4).map D.int)) = g5 at eu hs5 ed5 sC5 ezd5 err5 ⊢
    clear t5 hs4 ed4 sC4 ezd4 err4 nu
    trivial
    refine l_what_ok (N := d w + 1) eu (by rw [List.length_drop]; omega) err5 ro (by omega) fun wh hwh => ?_
    obtain ⟨wd, hwd⟩ : ∃ wd, R[w]? = some wd := ⟨_, List.getElem?_eq_getElem (by omega)⟩
    trivial
    refine ⟨_, atI_nat (show (R.map D.str)[w]? = some (.str wd) by rw [List.getElem?_map, hwd]; rfl), ?_⟩
    obtain ⟨y3, hy3⟩ := at_int (xs := xs) (i := 3) (by omega)
    trivial
    refine ⟨_, hy3, ?_⟩
    trivial
    refine l_branch_ok err5 ro fun b hb => ?_
    trivial
    refine ⟨by rw [List.length_map, SZ]; omega, ?_⟩
    have ewd : Dd.dv R ⟨w, d w + 1, kn w, b, wh⟩ = .tup [.str wd, .int (d w + 1), .tup ((kn w).map D.int), b, wh] := by unfold Dd.dv; dsimp only; rw [hwd]; rfl
    have emap : ds.map (Dd.dv R) ++ [.tup [.str wd, .int (d w + 1), .tup ((kn w).map D.int), b, wh]] = (ds ++ [(⟨w, d w + 1, kn w, b, wh⟩ : Dd)]).map (Dd.dv R) := by rw [List.map_append, ← ewd]; rfl
    have hs6 := hs5.up_dd ⟨_, ed5⟩ (.lst ((ds ++ [(⟨w, d w + 1, kn w, b, wh⟩ : Dd)]).map (Dd.dv R)))
    rw [emap]
    apply Pt.of
    have hcb : ∀ c ∈ kn w, 0 ≤ c ∧ c ≤ 41 := fun c hc => by
      obtain ⟨j, hj, e⟩ := List.getElem_of_mem hc
      have h1 := hhle j c (by rw [← e]; exact List.getElem?_eq_getElem hj)
      have h2 := hdd j
      omega
    refine ⟨hil, _, _, _, _, _, _, _, _, _, _, _, K, kn4, kvs3, d4, G4, ds ++ [(⟨w, d w + 1, kn w, b, wh⟩ : Dd)], rfl, hs6, up_same, by rw [List.length_append, hdl]; rfl, ⟨fun x hx => ?_, fun x hx => ?_, vc4, ld4 b wh⟩, hd4, hkv3, (sBC.trans sC5).upf hBd, hBK'⟩
    · rcases List.mem_append.mp hx with g' | g'
      · exact hds x g'
      · rw [List.mem_singleton.mp g', ewd]
        exact ⟨w, wd, _, kn w, b, wh, rfl, hwd, by omega, by omega, by rw [hlw, hm], by rw [hhs]; congr 1; omega, hcb, hb, hwh⟩
    · rcases List.mem_append.mp hx with g' | g'
      · exact hds2 x g'
      · rw [List.mem_singleton.mp g']
        exact ⟨by show d w + 1 ≤ 41; omega, hlw, hcb⟩
  rintro ρ g ⟨_, x8, x9, x10, x11, x12, x13, x14, x15, x16, x17, x18, K, kn, kvs, d, G, ds, rfl, hs, ed, hdl, ⟨hds, hds2, vc, ld⟩, hdd, hkv, sg, hBK⟩
  have hl40 : (({ ds := enumD 0 (srcL zz (L.map D.int)).ds, ok := (srcL zz (L.map D.int)).ok } : Src)).ds.length = L.length := by
    show (enumD 0 (L.map D.int)).length = _
    rw [enum_len, List.length_map]
  rw [hl40] at hdl
  trivial
  refine ⟨_, Sb.refl _, q rr dd R ds g (sbB.trans sg) (sg _ _ erB) ed ro (by omega) hds (by rw [hm]; exact house_of vc ld hds2)⟩
end
section
def Le (a b : List Int) : Prop := ∀ (i : Nat) (p q : Int), a[i]? = some p → b[i]? = some q → p ≤ q
theorem Le.refl (a : List Int) : Le a a := fun i p q h1 h2 => by rw [h1] at h2; cases h2; exact Int.le_refl _
theorem Le.trans {a b c : List Int} (hl : a.length ≤ b.length) (x : Le a b) (y : Le b c) : Le a c := fun i p q h1 h2 => by
  have hi := (List.getElem?_eq_some_iff.mp h1).1
  have hb : b[i]? = some (b[i]'(by omega)) := List.getElem?_eq_getElem (by omega)
  exact Int.le_trans (x i p _ h1 hb) (y i _ q hb h2)
theorem sum_le : ∀ {a b : List Int}, a.length = b.length → Le a b → a.sum ≤ b.sum
  | [], [], _, _ => Int.le_refl _
  | p :: a, q :: b, hl, h => by
    have h1 := sum_le (a := a) (b := b) (by simpa using hl) fun i x y e1 e2 => h (i + 1) x y (by simpa using e1) (by simpa using e2)
    have h2 := h 0 p q rfl rfl
    rw [List.sum_cons, List.sum_cons]; omega
theorem sum_lt : ∀ {a b : List Int}, a.length = b.length → Le a b → ∀ {i : Nat} {p q : Int}, a[i]? = some p → b[i]? = some q → p < q → a.sum < b.sum
  | p :: a, q :: b, hl, h, 0, x, y, e1, e2, hlt => by
    have h1 := sum_le (a := a) (b := b) (by simpa using hl) fun i x y e1 e2 => h (i + 1) x y (by simpa using e1) (by simpa using e2)
    cases e1; cases e2
    rw [List.sum_cons, List.sum_cons]; omega
  | p :: a, q :: b, hl, h, i + 1, x, y, e1, e2, hlt => by
    have h1 := sum_lt (a := a) (b := b) (by simpa using hl) (fun i x y e1 e2 => h (i + 1) x y (by simpa using e1) (by simpa using e2)) (i := i) (by simpa using e1) (by simpa using e2) hlt
    have h2 := h 0 p q rfl rfl
    rw [List.sum_cons, List.sum_cons]; omega
abbrev Hf := Nat → Int → Int
structure IsHt (S : List Dd) (H : Hf) : Prop where
  ge : ∀ x ∈ S, 1 ≤ H x.w x.n ∧ ∀ (j : Nat) (k : Int), x.hs[j]? = some k → 1 ≤ k → H j k + 1 ≤ H x.w x.n
  eq : ∀ x ∈ S, H x.w x.n = 1 ∨ ∃ (j : Nat) (k : Int), x.hs[j]? = some k ∧ 1 ≤ k ∧ H x.w x.n = H j k + 1
section
variable {m : Nat} {S : List Dd} {H H' : Hf}
theorem map_inj {α β : Type} {f : α → β} : ∀ {l : List α}, (l.map f).Nodup → ∀ {a b : α}, a ∈ l → b ∈ l → f a = f b → a = b
  | [], _, _, _, h, _, _ => by cases h
  | x :: l, hn, a, b, ha, hb, e => by
    rw [List.map_cons, List.nodup_cons] at hn
    rcases List.mem_cons.mp ha with ha | ha
    · rcases List.mem_cons.mp hb with hb | hb
      · rw [ha, hb]
      · exact absurd (by rw [← ha, e]; exact List.mem_map_of_mem hb) hn.1
    · rcases List.mem_cons.mp hb with hb | hb
      · exact absurd (by rw [← hb, ← e]; exact List.mem_map_of_mem ha) hn.1
      · exact map_inj hn.2 ha hb e
theorem House.name (s : House m S) {x y : Dd} (hx : x ∈ S) (hy : y ∈ S) (h1 : x.w = y.w) (h2 : x.n = y.n) : x = y := map_inj s.nd hx hy (by rw [h1, h2])
/-- the one before, of the same hand -/
theorem House.prev (s : House m S) {x : Dd} (hx : x ∈ S) (h : 2 ≤ x.n) : ∃ y ∈ S, y.w = x.w ∧ y.n = x.n - 1 ∧ Le y.hs x.hs := s.cl x hx x.w (x.n - 1) (s.wf x hx).2.2.2.2.1 (by omega)
theorem House.down (s : House m S) : ∀ (N : Nat) {y : Dd} {v : Int}, y ∈ S → 1 ≤ v → v ≤ y.n → (y.n - v).toNat ≤ N → ∃ x ∈ S, x.w = y.w ∧ x.n = v
  | 0, y, v, hy, h1, h2, hN => ⟨y, hy, rfl, by omega⟩
  | N + 1, y, v, hy, h1, h2, hN => by
    by_cases c : v = y.n
    · exact ⟨y, hy, rfl, c.symm⟩
    · obtain ⟨z, hz, ew, en, _⟩ := s.prev hy (by omega)
      obtain ⟨x, hx, e1, e2⟩ := s.down N hz h1 (by omega) (by omega)
      exact ⟨x, hx, by omega, e2⟩
theorem ht_lt (s : House m S) (a : IsHt S H) : ∀ (N : Nat) {x y : Dd}, x ∈ S → y ∈ S → x.w = y.w → x.n < y.n → (y.n - x.n).toNat ≤ N → H x.w x.n < H y.w y.n
  | 0, x, y, hx, hy, hw, hn, hN => by omega
  | N + 1, x, y, hx, hy, hw, hn, hN => by
    have h1 := (s.wf x hx).2.1
    obtain ⟨z, hz, ew, en, _⟩ := s.prev hy (by omega)
    have h2 := (a.ge y hy).2 y.w (y.n - 1) (s.wf y hy).2.2.2.2.1 (by omega)
    rw [← ew, ← en] at h2
    by_cases c : x.n = z.n
    · rw [show x = z from s.name hx hz (by omega) c]; rw [← ew]; omega
    · have := ht_lt s a N hx hz (by omega) (by omega) (by omega)
      rw [← ew]
      omega
/-- height, then hand -/
def kl (H : Hf) (x y : Dd) : Bool := decide (H x.w x.n < H y.w y.n ∨ (H x.w x.n = H y.w y.n ∧ x.w ≤ y.w))
theorem kl_iff {x y : Dd} : kl H x y = true ↔ (H x.w x.n < H y.w y.n ∨ (H x.w x.n = H y.w y.n ∧ x.w ≤ y.w)) := decide_eq_true_iff
theorem kl_tr (x y z : Dd) (h1 : kl H x y = true) (h2 : kl H y z = true) : kl H x z = true := by rw [kl_iff] at *; omega
theorem kl_to (x y : Dd) : (kl H x y || kl H y x) = true := by rw [Bool.or_eq_true, kl_iff, kl_iff]; omega
theorem kl_anti (s : House m S) (a : IsHt S H) {x y : Dd} (hx : x ∈ S) (hy : y ∈ S) (h1 : kl H x y = true) (h2 : kl H y x = true) : x = y := by
  rw [kl_iff] at h1 h2
  have hw : x.w = y.w := by omega
  by_cases c1 : x.n < y.n
  · have := ht_lt s a _ hx hy hw c1 (Nat.le_refl _); omega
  · by_cases c2 : y.n < x.n
    · have := ht_lt s a _ hy hx hw.symm c2 (Nat.le_refl _); omega
    · exact s.name hx hy hw (by omega)
def IsOrd (S : List Dd) (H : Hf) (O : List Dd) : Prop := O.Perm S ∧ O.Pairwise fun x y => kl H x y = true
theorem ord_uniq (s : House m S) (a : IsHt S H) {O O' : List Dd} (h : IsOrd S H O) (h' : IsOrd S H O') : O = O' :=
  List.Perm.eq_of_pairwise (le := fun x y => kl H x y = true) (fun x y hx hy h1 h2 => kl_anti s a (h.1.mem_iff.mp hx) (h'.1.mem_iff.mp hy) h1 h2) h.2 h'.2 (h.1.trans h'.1.symm)
theorem ord_sort (T : List Dd) (p : T.Perm S) : IsOrd S H (T.mergeSort (kl H)) := ⟨(List.mergeSort_perm T (kl H)).trans p, List.pairwise_mergeSort kl_tr kl_to T⟩
theorem House.perm {T : List Dd} (s : House m S) (p : T.Perm S) : House m T :=
  ⟨fun x hx => s.wf x (p.mem_iff.mp hx), (p.map _).nodup_iff.mpr s.nd, fun x hx j k e1 e2 => let ⟨y, hy, r⟩ := s.cl x (p.mem_iff.mp hx) j k e1 e2; ⟨y, p.mem_iff.mpr hy, r⟩⟩
theorem IsHt.perm {T : List Dd} (a : IsHt S H) (p : T.Perm S) : IsHt T H := ⟨fun x hx => a.ge x (p.mem_iff.mp hx), fun x hx => a.eq x (p.mem_iff.mp hx)⟩
/-- counts of a whole set -/
structure Good (m : Nat) (S : List Dd) (c : List Int) : Prop where
  len : c.length = m
  rg : ∀ (j : Nat) (k : Int), c[j]? = some k → 0 ≤ k ∧ k ≤ 41 ∧ (1 ≤ k → ∃ y ∈ S, y.w = j ∧ y.n = k)
  cl : ∀ y ∈ S, ∀ k : Int, c[y.w]? = some k → y.n ≤ k → Le y.hs c
def inC (c : List Int) (x : Dd) : Bool := decide (x.n ≤ c[x.w]?.getD 0)
theorem Good.at {c : List Int} (g : Good m S c) {j : Nat} (h : j < m) : ∃ k, c[j]? = some k := ⟨_, List.getElem?_eq_getElem (by rw [g.len]; exact h)⟩
theorem inC_iff {c : List Int} {x : Dd} {k : Int} (e : c[x.w]? = some k) : inC c x = true ↔ x.n ≤ k := by unfold inC; rw [e]; exact decide_eq_true_iff
theorem House.sub (s : House m S) {c : List Int} (g : Good m S c) : House m (S.filter (inC c)) := by
  refine ⟨fun x hx => s.wf x (List.mem_filter.mp hx).1, ?_, fun x hx j k e1 e2 => ?_⟩
  · exact List.Nodup.sublist (List.Sublist.map _ List.filter_sublist) s.nd
  · obtain ⟨hx, hc⟩ := List.mem_filter.mp hx
    obtain ⟨y, hy, ew, en, le⟩ := s.cl x hx j k e1 e2
    obtain ⟨kx, ekx⟩ := g.at (s.wf x hx).1
    obtain ⟨ky, eky⟩ := g.at (s.wf y hy).1
    refine ⟨y, List.mem_filter.mpr ⟨hy, (inC_iff eky).mpr ?_⟩, ew, en, le⟩
    have := g.cl x hx kx ekx ((inC_iff ekx).mp hc) j k ky e1 (by rw [← ew]; exact eky)
    omega
theorem IsHt.sub (a : IsHt S H) (p : Dd → Bool) : IsHt (S.filter p) H := ⟨fun x hx => a.ge x (List.mem_filter.mp hx).1, fun x hx => a.eq x (List.mem_filter.mp hx).1⟩
end
end
section
def wdD (R : List Str) (x : Dd) : Str := R[x.w]?.getD PySem.Str.empty
def nmD (R : List Str) (x : Dd) : D := .tup [.str (wdD R x), .int x.n]
def kyD (H : Hf) (x : Dd) : D := .tup [.int (H x.w x.n), .int (x.w : Int)]
theorem wdD_at {R : List Str} {x : Dd} (hw : x.w < R.length) : R[x.w]? = some (wdD R x) := by
  unfold wdD
  rw [List.getElem?_eq_getElem hw]; rfl
theorem nmD_inj {R : List Str} {x y : Dd} (nd : R.Nodup) (hx : x.w < R.length) (hy : y.w < R.length) (e : nmD R x = nmD R y) : x.w = y.w ∧ x.n = y.n := by
  unfold nmD at e
  simp only [D.tup.injEq, List.cons.injEq, D.str.injEq, D.int.injEq, and_true] at e
  refine ⟨?_, e.2⟩
  have h1 := wdD_at hx
  have h2 := wdD_at hy
  rw [e.1] at h1
  obtain ⟨p1, q1⟩ := List.getElem?_eq_some_iff.mp h1
  obtain ⟨p2, q2⟩ := List.getElem?_eq_some_iff.mp h2
  exact (List.getElem_inj nd).mp (q1.trans q2.symm)
theorem nms_nd {R : List Str} {S : List Dd} (nd : R.Nodup) (s : House R.length S) : (S.map (nmD R)).Nodup := by
  have : ∀ {T : List Dd}, (∀ x ∈ T, x.w < R.length) → (T.map fun x => (x.w, x.n)).Nodup → (T.map (nmD R)).Nodup := by
    intro T
    induction T with
    | nil => exact fun _ _ => List.nodup_nil
    | cons x T ih =>
      intro hw hn
      rw [List.map_cons, List.nodup_cons] at hn ⊢
      refine ⟨fun hm => hn.1 ?_, ih (fun y hy => hw y (List.mem_cons_of_mem _ hy)) hn.2⟩
      obtain ⟨y, hy, e⟩ := List.mem_map.mp hm
      obtain ⟨e1, e2⟩ := nmD_inj nd (hw y (List.mem_cons_of_mem _ hy)) (hw x List.mem_cons_self) e
      exact List.mem_map.mpr ⟨y, hy, by rw [e1, e2]⟩
  exact this (fun x hx => (s.wf x hx).1) s.nd
theorem zip_get : ∀ {xs ys : List D} {i : Nat} {d : D}, (zipD xs ys)[i]? = some d → ∃ x y, xs[i]? = some x ∧ ys[i]? = some y ∧ d = .tup [x, y]
  | [], _, _, _, h => by simp [zipD] at h
  | _ :: _, [], _, _, h => by simp [zipD] at h
  | x :: xs, y :: ys, 0, d, h => by simp [zipD] at h; exact ⟨x, y, rfl, rfl, h.symm⟩
  | x :: xs, y :: ys, i + 1, d, h => by
    obtain ⟨u, v, h1, h2, h3⟩ := zip_get (xs := xs) (ys := ys) (i := i) (by simpa [zipD] using h)
    exact ⟨u, v, by simpa using h1, by simpa using h2, h3⟩
theorem zip_len : ∀ (xs ys : List D), (zipD xs ys).length = min xs.length ys.length
  | [], _ => by simp [zipD]
  | _ :: _, [] => by simp [zipD]
  | x :: xs, y :: ys => by simp [zipD, zip_len xs ys]
section
variable {h : AH} {R : List Str} {C p : Addr} {S T U O : List Dd} {H : Hf} {Q : KD}
theorem dv0 {x : Dd} (q : Q (.str (wdD R x)) h) : oIx (x.dv R) (.int 0) h Q := by
  unfold Dd.dv
  refine ix_tup ⟨_, rfl, q⟩
theorem dv1 {x : Dd} (q : Q (.int x.n) h) : oIx (x.dv R) (.int 1) h Q := by
  unfold Dd.dv
  refine ix_tup ⟨_, rfl, q⟩
theorem dv2 {x : Dd} (q : Q (.tup (x.hs.map .int)) h) : oIx (x.dv R) (.int 2) h Q := by
  unfold Dd.dv
  refine ix_tup ⟨_, rfl, q⟩
theorem ky0 {x : Dd} (q : Q (.int (H x.w x.n)) h) : oIx (kyD H x) (.int 0) h Q := by
  unfold kyD
  refine ix_tup ⟨_, rfl, q⟩
theorem nm0 {x : Dd} (q : Q (.str (wdD R x)) h) : oIx (nmD R x) (.int 0) h Q := by
  unfold nmD
  refine ix_tup ⟨_, rfl, q⟩
theorem name_of_ok {x : Dd} (q : Q (nmD R x) h) : f_name_of [x.dv R] h Q := by
  unfold f_name_of
  trivial
  refine dv0 ?_
  trivial
  refine dv1 ?_
  trivial
  apply Pt.of
  exact q
theorem no_less_ok {a b : List Int} (hl : a.length = b.length) (hle : Le b a) (hs : a.length ≤ 41) (q : Q (.bl true) h) : f_are_no_less [.tup (a.map .int), .tup (b.map .int)] h Q := by
  unfold f_are_no_less
  trivial
  intro z nz
  refine ⟨fun i acc g => i ≤ a.length ∧ acc = (List.replicate i true).map D.bl ∧ g = up h z (.lst acc), ?_, ?_, ?_, ?_⟩
  · exact ⟨Nat.zero_le _, rfl, rfl⟩
  · rintro i acc g _ ⟨_, _, rfl⟩
    exact ⟨True.intro, up_same⟩
  · rintro i acc g d ⟨hi, rfl, rfl⟩ hd
    have hd' : (zipD (a.map D.int) (b.map D.int))[i]? = some d := hd
    obtain ⟨x, y, e1, e2, rfl⟩ := zip_get hd'
    obtain ⟨x, f1, rfl⟩ := get_map e1
    obtain ⟨y, f2, rfl⟩ := get_map e2
    have hxy := hle i y x f2 f1
    have hil := (List.getElem?_eq_some_iff.mp f1).1
    clear e1 e2
    clear hd hd'
    trivial
    refine ⟨by rw [List.length_map, List.length_replicate, SZ]; omega, up_same, ?_⟩
    rw [up_up]
    apply Pt.of
    rw [show decide (y ≤ x) = true from decide_eq_true hxy]
    exact ⟨hil, by rw [List.replicate_succ', List.map_append]; rfl, rfl⟩
  rintro acc g ⟨_, rfl, rfl⟩
  trivial
  refine ⟨_, bls_map _, ?_⟩
  refine ⟨h, (Sb.refl h).upf' nz, ?_⟩
  rw [show (List.replicate _ true).all id = true from List.all_eq_true.mpr fun x hx => by rw [List.eq_of_mem_replicate hx]; rfl]
  exact q
end
end
section
def rowJ (c : List Int) (j : Nat) : Nat × Int := (j, c[j]?.getD 0)
def lastJ (c : List Int) : List (Nat × Int) := ((List.range c.length).map (rowJ c)).filter fun p => decide (0 < p.2)
def laD (R : List Str) (p : Nat × Int) : D := .tup [.str (R[p.1]?.getD PySem.Str.empty), .int p.2]
theorem lastJ_mem {c : List Int} {p : Nat × Int} : p ∈ lastJ c ↔ c[p.1]? = some p.2 ∧ 1 ≤ p.2 := by
  unfold lastJ
  rw [List.mem_filter, List.mem_map]
  constructor
  · rintro ⟨⟨j, hj, rfl⟩, h2⟩
    have h2 := of_decide_eq_true h2
    have hj := List.mem_range.mp hj
    unfold rowJ at h2 ⊢
    rw [List.getElem?_eq_getElem hj] at h2 ⊢
    exact ⟨rfl, h2⟩
  · rintro ⟨h1, h2⟩
    refine ⟨⟨p.1, List.mem_range.mpr (List.getElem?_eq_some_iff.mp h1).1, ?_⟩, decide_eq_true (by omega)⟩
    unfold rowJ
    rw [h1]; rfl
section
variable {h : AH} {R : List Str} {C p a1 a2 a3 : Addr} {fs : List (Str × D)} {S T U O : List Dd} {H : Hf} {Q : KD}
theorem lasts_ok {c : List Int} (ep : h p = some (.ins C fs)) (l1 : fs.lookup (Str.ofString "hands") = some (.ref a1)) (e1 : h a1 = some (.lst (R.map .str))) (hl : c.length = R.length) (hs : R.length ≤ 6) (q : ∀ z, h z = none → Q (.ref z) (up h z (.lst ((lastJ c).map (laD R))))) : f_Folk_lasts C [.ref p, .tup (c.map .int)] h Q := by
  unfold f_Folk_lasts
  trivial
  refine ⟨_, l1, ?_⟩
  trivial
  intro z nz
  have hz1 : a1 ≠ z := fun y => by rw [← y, e1] at nz; cases nz
  refine ⟨fun i acc g => i ≤ R.length ∧ acc = (((List.range i).map (rowJ c)).filter fun p => decide (0 < p.2)).map (laD R) ∧ g = up h z (.lst acc), ?_, ?_, ?_, ?_⟩
  · exact ⟨Nat.zero_le _, rfl, rfl⟩
  · rintro i acc g _ ⟨_, _, rfl⟩
    exact ⟨up_at hz1 e1, up_same⟩
  · rintro i acc g d ⟨hi, rfl, rfl⟩ hd
    have hd' : (zipD (R.map D.str) (c.map D.int))[i]? = some d := hd
    obtain ⟨x, y, e1, e2, rfl⟩ := zip_get hd'
    obtain ⟨x, f1, rfl⟩ := get_map e1
    obtain ⟨y, f2, rfl⟩ := get_map e2
    have hil := (List.getElem?_eq_some_iff.mp f1).1
    have hrow : rowJ c i = (i, y) := by unfold rowJ; rw [f2]; rfl
    have hla : laD R (i, y) = .tup [.str x, .int y] := by unfold laD; dsimp only; rw [f1]; rfl
    have hlen := List.length_filter_le (fun p : Nat × Int => decide (0 < p.2)) ((List.range i).map (rowJ c))
    rw [List.length_map, List.length_range] at hlen
    clear e1 e2 hd hd'
    trivial
    refine onT_d (fun c1 => ?_) (fun c1 => ?_)
    · trivial
      refine ⟨by rw [List.length_map, SZ]; omega, up_same, ?_⟩
      rw [up_up]
      apply Pt.of
      refine ⟨hil, ?_, rfl⟩
      rw [List.range_succ, List.map_append, List.map_cons, List.map_nil, hrow, List.filter_append, List.filter_cons, if_pos (decide_eq_true c1), List.filter_nil, List.map_append, List.map_cons, hla]
      rfl
    · trivial
      apply Pt.of
      refine ⟨hil, ?_, rfl⟩
      rw [List.range_succ, List.map_append, List.map_cons, List.map_nil, hrow, List.filter_append, List.filter_cons, if_neg (by rw [decide_eq_true_iff]; exact c1), List.filter_nil, List.append_nil]
  rintro acc g ⟨_, rfl, rfl⟩
  have hzl : (zipD (R.map D.str) (c.map D.int)).length = c.length := by
    rw [zip_len, List.length_map, List.length_map, hl, Nat.min_self]
  rw [show (⟨zipD (srcL a1 (R.map D.str)).ds (c.map D.int), (srcL a1 (R.map D.str)).ok⟩ : Src).ds.length = c.length from hzl]
  trivial
  apply Pt.of
  exact q z nz
/-- one deed taken -/
theorem take_ok {x : Dd} (ep : h p = some (.ins C fs)) (l1 : fs.lookup (Str.ofString "hands") = some (.ref a1)) (l2 : fs.lookup (Str.ofString "table") = some (.ref a2)) (l3 : fs.lookup (Str.ofString "ranks") = some (.ref a3)) (l4 : fs.lookup (Str.ofString "lasts") = none)
    (e1 : h a1 = some (.lst (R.map .str))) (e2 : h a2 = some (.dic (T.map fun x => (nmD R x, x.dv R)))) (e3 : h a3 = some (.dic (U.map fun x => (nmD R x, kyD H x)))) (ro : RollOk R) (s : House R.length S) (pT : T.Perm S) (hU : ∀ y ∈ U, y ∈ S) (nU : (U.map (nmD R)).Nodup) (hUl : U.length ≤ 41) (hx : x ∈ S) (hxU : x ∉ U)
    (hlast : ∀ (j : Nat) (k : Int), x.hs[j]? = some k → 1 ≤ k → ∃ y ∈ U, y.w = j ∧ y.n = k ∧ Le y.hs x.hs) (a : IsHt S H)
    (q : Q .non (up h a3 (.dic ((U ++ [x]).map fun x => (nmD R x, kyD H x))))) : f_Folk_take C [.ref p, x.dv R] h Q := by
  obtain ⟨xw, x1, x41, xl, xd, xc⟩ := s.wf x hx
  have hhi := ro.hi
  have nT : (T.map (nmD R)).Nodup := nms_nd ro.nd (s.perm pT)
  unfold f_Folk_take
  trivial
  refine dv2 ?_
  trivial
  refine lasts_ok ep l1 e1 xl hhi fun z nz => ?_
  have ep1 := up_at (o := .lst ((lastJ x.hs).map (laD R))) (fun y => by rw [y, nz] at ep; cases ep) ep
  have e11 := up_at (o := .lst ((lastJ x.hs).map (laD R))) (fun y => by rw [y, nz] at e1; cases e1) e1
  have e21 := up_at (o := .lst ((lastJ x.hs).map (laD R))) (fun y => by rw [y, nz] at e2; cases e2) e2
  have e31 := up_at (o := .lst ((lastJ x.hs).map (laD R))) (fun y => by rw [y, nz] at e3; cases e3) e3
  have ez : up h z (.lst ((lastJ x.hs).map (laD R))) z = some (.lst ((lastJ x.hs).map (laD R))) := up_same
  have sg : Sb (up h a3 (.dic ((U ++ [x]).map fun x => (nmD R x, kyD H x)))) (up (up h z (.lst ((lastJ x.hs).map (laD R)))) a3 (.dic ((U ++ [x]).map fun x => (nmD R x, kyD H x)))) := ((Sb.refl h).upf' nz).both
  generalize up h z (.lst ((lastJ x.hs).map (laD R))) = g at ep1 e11 e21 e31 ez sg ⊢
  trivial
  refine ⟨fun i ρ g' => i ≤ (lastJ x.hs).length ∧ ∃ (v : Int) (x3 : Option D), ρ = [some (.ref p), some (x.dv R), some (.int v), x3] ∧ g' = g ∧ 1 ≤ v ∧ (∀ i' j k, i' < i → (lastJ x.hs)[i']? = some (j, k) → H j k + 1 ≤ v) ∧ (v = 1 ∨ ∃ j k, (j, k) ∈ lastJ x.hs ∧ v = H j k + 1), ?_, ?_, ?_, ?_⟩
  · exact ⟨Nat.zero_le _, 1, _, rfl, rfl, by omega, fun i' j k h => absurd h (Nat.not_lt_zero _), .inl rfl⟩
  · rintro i ρ g' _ ⟨_, v, x3, rfl, rfl, _⟩
    exact ez
  · rintro i ρ g' d ⟨hi, v, x3, rfl, rfl, hv1, hv2, hv3⟩ hd
    have hd' : ((lastJ x.hs).map (laD R))[i]? = some d := hd
    obtain ⟨⟨j, k⟩, hjk, rfl⟩ := get_map hd'
    have hil := (List.getElem?_eq_some_iff.mp hjk).1
    have hmem := List.mem_of_getElem? hjk
    obtain ⟨m1, m2⟩ := lastJ_mem.mp hmem
    obtain ⟨y, hy, ew, en, hle⟩ := hlast j k m1 m2
    have hla : laD R (j, k) = nmD R y := by unfold laD nmD wdD; rw [ew, en]
    have hin : nmD R y ∈ (U.map fun x => (nmD R x, kyD H x)).map (·.1) := by
      rw [List.map_map]; exact List.mem_map_of_mem (f := nmD R) hy
    have hyS := hU y hy
    have hyT := pT.mem_iff.mpr hyS
    have hyl := (s.wf y hyS).2.2.2.1
    have g1 := dget_map (v := Dd.dv R) nT hyT
    have g2 := dget_map (v := kyD H) nU hy
    rw [hla]
    clear hd hd'
    trivial
    refine ⟨_, l3, ?_⟩
    trivial
    rw [show (!decide (nmD R y ∈ (U.map fun x => (nmD R x, kyD H x)).map (·.1))) = false by rw [decide_eq_true hin]; rfl]
    trivial
    refine dv2 ?_
    trivial
    refine ⟨_, l2, ?_⟩
    trivial
    refine ⟨_, g1, ?_⟩
    trivial
    refine dv2 ?_
    trivial
    refine no_less_ok (xl.trans hyl.symm) hle (by omega) ?_
    trivial
    refine ⟨_, l3, ?_⟩
    trivial
    refine ⟨_, g2, ?_⟩
    trivial
    refine ky0 ?_
    trivial
    apply Pt.of
    refine ⟨hil, _, _, rfl, rfl, ?_, fun i' j' k' hi' e' => ?_, ?_⟩
    · split <;> omega
    · by_cases c : i' = i
      · subst c
        rw [hjk] at e'
        cases e'
        rw [← ew, ← en]
        split <;> omega
      · have := hv2 i' j' k' (by omega) e'
        split <;> omega
    · split
      · exact .inr ⟨j, k, hmem, by rw [← ew, ← en]; omega⟩
      · exact hv3
  rintro ρ g' ⟨_, v, x3, rfl, rfl, hv1, hv2, hv3⟩
  rw [show (srcL z ((lastJ x.hs).map (laD R))).ds.length = (lastJ x.hs).length from List.length_map _] at hv2
  have hv : v = H x.w x.n := by
    obtain ⟨b1, b2⟩ := a.ge x hx
    have b3 := a.eq x hx
    refine Int.le_antisymm ?_ ?_
    · rcases hv3 with c | ⟨j, k, c1, c2⟩
      · omega
      · obtain ⟨m1, m2⟩ := lastJ_mem.mp c1
        have := b2 j k m1 m2
        omega
    · rcases b3 with c | ⟨j, k, c1, c2, c3⟩
      · omega
      · obtain ⟨i', hi', e'⟩ := List.getElem_of_mem (lastJ_mem.mpr (show x.hs[(j, k).1]? = some (j, k).2 ∧ 1 ≤ (j, k).2 from ⟨c1, c2⟩))
        have := hv2 i' j k hi' (by rw [List.getElem?_eq_getElem hi', e'])
        omega
  subst hv
  have hnot : nmD R x ∉ U.map (nmD R) := fun hm => by
    obtain ⟨y, hy, e⟩ := List.mem_map.mp hm
    obtain ⟨f1, f2⟩ := nmD_inj ro.nd (s.wf y (hU y hy)).1 xw e
    exact hxU (s.name (hU y hy) hx f1 f2 ▸ hy)
  trivial
  refine ⟨_, l1, ?_⟩
  trivial
  refine dv0 ?_
  trivial
  refine ⟨fun d hd => by obtain ⟨s, _, rfl⟩ := List.mem_map.mp hd; rfl, rfl, x.w, by rw [List.getElem?_map, wdD_at xw]; rfl, fun i hi e => ?_, ?_⟩
  · rw [List.getElem?_map] at e
    cases hr : R[i]? with
    | none => rw [hr] at e; cases e
    | some u =>
      rw [hr] at e
      have e' : u = wdD R x := by simpa using e
      have h2 := wdD_at xw
      obtain ⟨p1, q1⟩ := List.getElem?_eq_some_iff.mp hr
      obtain ⟨p2, q2⟩ := List.getElem?_eq_some_iff.mp h2
      have := (List.getElem_inj ro.nd).mp (q1.trans (e'.trans q2.symm))
      omega
  trivial
  refine ⟨_, l3, ?_⟩
  trivial
  refine name_of_ok (R := R) ?_
  trivial
  refine ⟨by rw [List.length_map, SZ]; omega, ?_⟩
  rw [dput_newM hnot]
  rw [show (U.map fun x => (nmD R x, kyD H x)) ++ [(nmD R x, D.tup [D.int (H x.w x.n), D.int (x.w : Int)])] = (U ++ [x]).map fun x => (nmD R x, kyD H x) by rw [List.map_append]; rfl]
  exact ⟨_, sg, q⟩
end
end
section
def Chn (T : List Dd) : Prop := ∀ (U : List Dd) (x : Dd) (V : List Dd), T = U ++ x :: V → ∀ (j : Nat) (k : Int), x.hs[j]? = some k → 1 ≤ k → ∃ y ∈ U, y.w = j ∧ y.n = k ∧ Le y.hs x.hs
def sl (a b : Dd) : Bool := decide (a.hs.sum ≤ b.hs.sum)
theorem chn_of {m : Nat} {T : List Dd} (s : House m T) (so : T.Pairwise fun a b => sl a b = true) : Chn T := by
  intro U x V e j k h1 h2
  have hx : x ∈ T := by rw [e]; exact List.mem_append_right _ List.mem_cons_self
  obtain ⟨y, hy, ew, en, le⟩ := s.cl x hx j k h1 h2
  obtain ⟨_, _, _, yl, yd, _⟩ := s.wf y hy
  obtain ⟨_, _, _, xl, _, _⟩ := s.wf x hx
  have hlt : y.hs.sum < x.hs.sum := sum_lt (yl.trans xl.symm) le yd (by rw [ew]; exact h1) (by omega)
  refine ⟨y, ?_, ew, en, le⟩
  rw [e] at hy so
  rcases List.mem_append.mp hy with hy | hy
  · exact hy
  · rcases List.mem_cons.mp hy with hy | hy
    · rw [hy] at hlt; omega
    · have := (List.pairwise_cons.mp (List.pairwise_append.mp so).2.1).1 y hy
      have := of_decide_eq_true this
      omega
theorem sl_tr (a b c : Dd) (h1 : sl a b = true) (h2 : sl b c = true) : sl a c = true := decide_eq_true (Int.le_trans (of_decide_eq_true h1) (of_decide_eq_true h2))
theorem sl_to (a b : Dd) : (sl a b || sl b a) = true := by unfold sl; rw [Bool.or_eq_true, decide_eq_true_iff, decide_eq_true_iff]; omega
theorem max_ex (f : Nat × Int → Int) : ∀ l : List (Nat × Int), ∃ v : Int, 1 ≤ v ∧ (∀ p ∈ l, f p + 1 ≤ v) ∧ (v = 1 ∨ ∃ p ∈ l, v = f p + 1)
  | [] => ⟨1, Int.le_refl _, (fun p h => by cases h), .inl rfl⟩
  | q :: l => by
    obtain ⟨v, h1, h2, h3⟩ := max_ex f l
    by_cases c : f q + 1 ≤ v
    · refine ⟨v, h1, fun p hp => ?_, h3.imp id fun ⟨p, hp, e⟩ => ⟨p, List.mem_cons_of_mem _ hp, e⟩⟩
      rcases List.mem_cons.mp hp with e | hp
      · rw [e]; exact c
      · exact h2 p hp
    · refine ⟨f q + 1, by omega, fun p hp => ?_, .inr ⟨q, List.mem_cons_self, rfl⟩⟩
      rcases List.mem_cons.mp hp with e | hp
      · rw [e]; exact Int.le_refl _
      · have := h2 p hp; omega
theorem ht_ex {T : List Dd} (nd : (T.map fun x => (x.w, x.n)).Nodup) (ch : Chn T) : ∀ n, n ≤ T.length → ∃ H, IsHt (T.take n) H
  | 0, _ => ⟨fun _ _ => 0, ⟨(fun x h => by cases h), (fun x h => by cases h)⟩⟩
  | n + 1, hn => by
    obtain ⟨H, a⟩ := ht_ex nd ch n (by omega)
    obtain ⟨x, hx⟩ : ∃ x, T[n]? = some x := ⟨_, List.getElem?_eq_getElem (by omega)⟩
    have et : T.take (n + 1) = T.take n ++ [x] := by rw [List.take_succ, hx]; rfl
    have eT : T = T.take n ++ x :: T.drop (n + 1) := by
      have := (List.take_append_drop n T).symm
      rw [List.drop_eq_getElem_cons (by omega)] at this
      rw [List.getElem?_eq_getElem (by omega)] at hx
      cases hx
      exact this
    obtain ⟨v, h1, h2, h3⟩ := max_ex (fun p => H p.1 p.2) (lastJ x.hs)
    have nx : ∀ y ∈ T.take n, ¬ (y.w = x.w ∧ y.n = x.n) := fun y hy e => by
      have n2 : ((T.take (n + 1)).map fun x => (x.w, x.n)).Nodup := List.Nodup.sublist (List.Sublist.map _ (List.take_sublist _ _)) nd
      rw [et, List.map_append] at n2
      exact (List.nodup_append.mp n2).2.2 (y.w, y.n) (List.mem_map_of_mem (f := fun x : Dd => (x.w, x.n)) hy) (x.w, x.n) List.mem_cons_self (by rw [e.1, e.2])
    have hx' : ∀ (j : Nat) (k : Int), x.hs[j]? = some k → 1 ≤ k → (if j = x.w ∧ k = x.n then v else H j k) = H j k := fun j k e1 e2 => by
      obtain ⟨y, hy, ew, en, _⟩ := ch _ _ _ eT j k e1 e2
      exact if_neg fun z => nx y hy ⟨by omega, by omega⟩
    have hy' : ∀ y ∈ T.take n, (if y.w = x.w ∧ y.n = x.n then v else H y.w y.n) = H y.w y.n := fun y hy => if_neg (nx y hy)
    have hyl : ∀ y ∈ T.take n, ∀ (j : Nat) (k : Int), y.hs[j]? = some k → 1 ≤ k → (if j = x.w ∧ k = x.n then v else H j k) = H j k := fun y hy j k e1 e2 => by
      obtain ⟨U', V', e⟩ := List.append_of_mem hy
      have eT2 : T = U' ++ y :: (V' ++ T.drop n) := by
        have := (List.take_append_drop n T).symm
        rw [e, List.append_assoc, List.cons_append] at this
        exact this
      obtain ⟨z, hz, ew, en, _⟩ := ch _ _ _ eT2 j k e1 e2
      exact if_neg fun q => nx z (by rw [e]; exact List.mem_append_left _ hz) ⟨by omega, by omega⟩
    refine ⟨fun j k => if j = x.w ∧ k = x.n then v else H j k, ⟨fun y hy => ?_, fun y hy => ?_⟩⟩
    · rw [et] at hy
      rcases List.mem_append.mp hy with hy | hy
      · obtain ⟨b1, b2⟩ := a.ge y hy
        refine ⟨by show 1 ≤ ite _ _ _; rw [hy' y hy]; exact b1, fun j k e1 e2 => ?_⟩
        show ite _ _ _ + 1 ≤ ite _ _ _
        rw [hy' y hy, hyl y hy j k e1 e2]
        exact b2 j k e1 e2
      · rw [List.mem_singleton.mp hy]
        refine ⟨by show 1 ≤ ite _ _ _; rw [if_pos ⟨rfl, rfl⟩]; exact h1, fun j k e1 e2 => ?_⟩
        show ite _ _ _ + 1 ≤ ite (x.w = x.w ∧ x.n = x.n) _ _
        rw [hx' j k e1 e2, if_pos ⟨rfl, rfl⟩]
        exact h2 (j, k) (lastJ_mem.mpr ⟨e1, e2⟩)
    · rw [et] at hy
      rcases List.mem_append.mp hy with hy | hy
      · show ite _ _ _ = 1 ∨ ∃ (j : Nat) (k : Int), y.hs[j]? = some k ∧ 1 ≤ k ∧ ite _ _ _ = ite _ _ _ + 1
        rw [hy' y hy]
        rcases a.eq y hy with c | ⟨j, k, c1, c2, c3⟩
        · exact .inl c
        · exact .inr ⟨j, k, c1, c2, by rw [hyl y hy j k c1 c2]; exact c3⟩
      · rw [List.mem_singleton.mp hy]
        show ite (x.w = x.w ∧ x.n = x.n) _ _ = 1 ∨ ∃ (j : Nat) (k : Int), x.hs[j]? = some k ∧ 1 ≤ k ∧ ite (x.w = x.w ∧ x.n = x.n) _ _ = ite _ _ _ + 1
        rw [if_pos ⟨rfl, rfl⟩]
        rcases h3 with c | ⟨p, c1, c2⟩
        · exact .inl c
        · obtain ⟨m1, m2⟩ := lastJ_mem.mp c1
          exact .inr ⟨p.1, p.2, m1, m2, by rw [hx' _ _ m1 m2]; exact c2⟩
theorem ht_all {m : Nat} {S : List Dd} (s : House m S) : ∃ H O, IsHt S H ∧ IsOrd S H O := by
  have p := List.mergeSort_perm S sl
  have s2 := s.perm p
  obtain ⟨H, a⟩ := ht_ex s2.nd (chn_of s2 (List.pairwise_mergeSort sl_tr sl_to S)) _ (Nat.le_refl _)
  rw [List.take_length] at a
  exact ⟨H, _, a.perm p.symm, ord_sort S (.refl S)⟩
theorem ky_le {H : Hf} (x y : Dd) : dle false (kyD H x) (kyD H y) = kl H x y := by
  unfold kyD kl dle
  simp only [Bool.false_eq_true, if_false, dlt, dltL, Bool.or_false, Bool.and_false, D.int.injEq]
  rw [Bool.eq_iff_iff]
  simp
  omega
theorem up_self {h : AH} {a : Addr} {o : O} (e : h a = some o) : up h a o = h := by
  funext b
  by_cases c : b = a
  · rw [c, up_same, e]
  · rw [up_ne c]
structure FolkAt (h : AH) (C p : Addr) (R : List Str) (S O : List Dd) (H : Hf) : Prop where
  ex : ∃ (a1 a2 a3 a4 : Addr) (T U : List Dd), h p = some (.ins C [(Str.ofString "hands", .ref a1), (Str.ofString "table", .ref a2), (Str.ofString "ranks", .ref a3), (Str.ofString "order", .ref a4)]) ∧ h a1 = some (.lst (R.map .str)) ∧
    h a2 = some (.dic (T.map fun x => (nmD R x, x.dv R))) ∧ h a3 = some (.dic (U.map fun x => (nmD R x, kyD H x))) ∧ h a4 = some (.lst (O.map (nmD R))) ∧ T.Perm S ∧ U.Perm S
theorem FolkAt.sb {h h' : AH} {C p : Addr} {R : List Str} {S O : List Dd} {H : Hf} (x : FolkAt h C p R S O H) (s : Sb h h') : FolkAt h' C p R S O H := by
  obtain ⟨a1, a2, a3, a4, T, U, e0, e1, e2, e3, e4, r⟩ := x.ex
  exact ⟨a1, a2, a3, a4, T, U, s _ _ e0, s _ _ e1, s _ _ e2, s _ _ e3, s _ _ e4, r⟩
end
section
theorem putD_ne {f g : Str} {v x : D} {r : List (Str × D)} (h : g ≠ f) : putD f v ((g, x) :: r) = (g, x) :: putD f v r := by rw [putD, if_neg h]
theorem putD_nil {f : Str} {v : D} : putD f v [] = [(f, v)] := rfl
theorem ky_alk {H : Hf} (x y : Dd) : alk (kyD H x) (kyD H y) = true := rfl
theorem ky_dat {H : Hf} (x : Dd) : dat 12 (kyD H x) = true := rfl
theorem sum_dv {R : List Str} (x : Dd) : sumAt 2 (x.dv R) = x.hs.sum := by
  unfold Dd.dv sumAt
  show (match intsOf (x.hs.map .int) with | some l => l.sum | none => 0) = _
  rw [ints_map]
theorem snd_map {α : Type} (k v : α → D) (T : List α) : (T.map fun x => (k x, v x)).map (·.2) = T.map v := by rw [List.map_map]; rfl
theorem fst_map {α : Type} (k v : α → D) (T : List α) : (T.map fun x => (k x, v x)).map (·.1) = T.map k := by rw [List.map_map]; rfl
end
section
def hasN (U : List Dd) (x : Dd) : Bool := U.any fun y => decide (y.w = x.w ∧ y.n = x.n)
def ddp : List Dd → List Dd → List Dd
  | U, [] => U
  | U, x :: T => ddp (if hasN U x = true then U else U ++ [x]) T
theorem ddp_snoc : ∀ (U T : List Dd) (x : Dd), ddp U (T ++ [x]) = if hasN (ddp U T) x = true then ddp U T else ddp U T ++ [x]
  | U, [], x => rfl
  | U, y :: T, x => by
    show ddp _ (T ++ [x]) = _
    rw [ddp_snoc]
    rfl
theorem dput_same : ∀ {kvs : List (D × D)} {k v : D}, dget kvs k = some v → dput kvs k v = kvs
  | [], _, _, e => by cases e
  | (a, b) :: r, k, v, e => by
    rw [dget] at e
    rw [dput]
    by_cases c : a = k
    · rw [if_pos c] at e ⊢
      cases e; rw [c]
    · rw [if_neg c] at e ⊢
      rw [dput_same e]
theorem hasN_iff {U : List Dd} {x : Dd} : hasN U x = true ↔ ∃ y ∈ U, y.w = x.w ∧ y.n = x.n := by
  unfold hasN
  rw [List.any_eq_true]
  exact ⟨fun ⟨y, hy, e⟩ => ⟨y, hy, of_decide_eq_true e⟩, fun ⟨y, hy, e⟩ => ⟨y, hy, decide_eq_true e⟩⟩
section
variable {h : AH} {R : List Str} {m : Nat} {S T U : List Dd} {Q : KD}
/-- what ddp gives: part of S, no name twice, and all of T is in it -/
theorem ddp_ok (s : House m S) : ∀ {T U : List Dd}, (∀ x ∈ U, x ∈ S) → (∀ x ∈ T, x ∈ S) → (U.map fun x => (x.w, x.n)).Nodup → (∀ x ∈ ddp U T, x ∈ S) ∧ ((ddp U T).map fun x => (x.w, x.n)).Nodup ∧ (∀ x ∈ U, x ∈ ddp U T) ∧ ∀ x ∈ T, x ∈ ddp U T
  | [], U, hU, hT, nd => ⟨hU, nd, fun x h => h, fun x h => by cases h⟩
  | x :: T, U, hU, hT, nd => by
    have hx := hT x List.mem_cons_self
    have hT' : ∀ y ∈ T, y ∈ S := fun y hy => hT y (List.mem_cons_of_mem _ hy)
    by_cases c : hasN U x = true
    · have e : ddp U (x :: T) = ddp U T := by rw [ddp, if_pos c]
      rw [e]
      obtain ⟨h1, h2, h3, h4⟩ := ddp_ok s hU hT' nd
      refine ⟨h1, h2, h3, fun y hy => ?_⟩
      rcases List.mem_cons.mp hy with hy | hy
      · obtain ⟨z, hz, e1, e2⟩ := hasN_iff.mp c
        rw [hy, ← s.name (hU z hz) hx e1 e2]
        exact h3 z hz
      · exact h4 y hy
    · have e : ddp U (x :: T) = ddp (U ++ [x]) T := by rw [ddp, if_neg c]
      rw [e]
      have hU' : ∀ y ∈ U ++ [x], y ∈ S := fun y hy => by
        rcases List.mem_append.mp hy with hy | hy
        · exact hU y hy
        · rw [List.mem_singleton.mp hy]; exact hx
      have nd' : ((U ++ [x]).map fun x => (x.w, x.n)).Nodup := by
        rw [List.map_append]
        refine List.nodup_append.mpr ⟨nd, by simp, fun a ha b hb e => c ?_⟩
        rw [List.map_cons, List.map_nil, List.mem_singleton] at hb
        obtain ⟨y, hy, rfl⟩ := List.mem_map.mp ha
        rw [hb] at e
        simp only [Prod.mk.injEq] at e
        exact hasN_iff.mpr ⟨y, hy, e⟩
      obtain ⟨h1, h2, h3, h4⟩ := ddp_ok s hU' hT' nd'
      refine ⟨h1, h2, fun y hy => h3 y (List.mem_append_left _ hy), fun y hy => ?_⟩
      rcases List.mem_cons.mp hy with hy | hy
      · rw [hy]; exact h3 x (List.mem_append_right _ List.mem_cons_self)
      · exact h4 y hy
theorem sub_len (s : House m S) {U : List Dd} (nd : U.Nodup) (hU : ∀ x ∈ U, x ∈ S) : U.length ≤ S.length := by
  have n2 : S.Nodup := List.Pairwise.of_map _ (fun a b q1 q2 => q1 (by rw [q2])) s.nd
  have p : (S.filter (hasN U)).Perm U := (List.perm_ext_iff_of_nodup (List.Pairwise.filter _ n2) nd).mpr fun x => by
    rw [List.mem_filter, hasN_iff]
    constructor
    · rintro ⟨hx, y, hy, e1, e2⟩
      rw [← s.name (hU y hy) hx e1 e2]; exact hy
    · intro hx
      exact ⟨hU x hx, x, hx, rfl, rfl⟩
  rw [← p.length_eq]
  exact List.length_filter_le _ _
theorem ddp_perm (s : House m S) {T : List Dd} (hT : ∀ x ∈ T, x ∈ S) (hS : ∀ x ∈ S, x ∈ T) : (ddp [] T).Perm S := by
  obtain ⟨h1, h2, _, h4⟩ := ddp_ok s (U := []) (T := T) (fun x h => by cases h) hT List.nodup_nil
  have n1 : (ddp [] T).Nodup := List.Pairwise.of_map _ (fun a b q1 q2 => q1 (by rw [q2])) h2
  have n2 : S.Nodup := List.Pairwise.of_map _ (fun a b q1 q2 => q1 (by rw [q2])) s.nd
  exact (List.perm_ext_iff_of_nodup n1 n2).mpr fun x => ⟨fun h => h1 x h, fun h => h4 x (hS x h)⟩
theorem table_of2_ok {a : Addr} (ea : h a = some (.lst (T.map (Dd.dv R)))) (ro : RollOk R) (s : House R.length S) (hT : ∀ x ∈ T, x ∈ S) (hl : S.length ≤ 41) (hd : ∀ x ∈ S, G.dat 7 (x.dv R) = true) (q : ∀ z, h z = none → Q (.ref z) (up h z (.dic ((ddp [] T).map fun x => (nmD R x, x.dv R))))) : f_table_of [.ref a] h Q := by
  unfold f_table_of
  trivial
  refine newD_i fun z nz => ?_
  have haz : a ≠ z := fun y => by rw [← y, ea] at nz; cases nz
  trivial
  refine ⟨fun i ρ g => i ≤ T.length ∧ ∃ x2, ρ = [some (.ref a), some (.ref z), x2] ∧ g = up h z (.dic ((ddp [] (T.take i)).map fun x => (nmD R x, x.dv R))), ?_, ?_, ?_, ?_⟩
  · exact ⟨Nat.zero_le _, _, rfl, rfl⟩
  · rintro i ρ g _ ⟨_, x2, rfl, rfl⟩
    exact up_at haz ea
  · rintro i ρ g d ⟨hi, x2, rfl, rfl⟩ hd'
    have hd' : (T.map (Dd.dv R))[i]? = some d := hd'
    obtain ⟨x, hx, rfl⟩ := get_map hd'
    have hil := (List.getElem?_eq_some_iff.mp hx).1
    have hxS := hT x (List.mem_of_getElem? hx)
    have hdx := hd x hxS
    have et : T.take (i + 1) = T.take i ++ [x] := by rw [List.take_succ, hx]; rfl
    obtain ⟨h1, h2, _, _⟩ := ddp_ok s (U := []) (T := T.take i) (fun x h => by cases h) (fun y hy => hT y (List.mem_of_mem_take hy)) List.nodup_nil
    have es := ddp_snoc [] (T.take i) x
    rw [← et] at es
    generalize ddp [] (T.take i) = U at h1 h2 es ⊢
    have nU : (U.map (nmD R)).Nodup := by
      have nd : U.Nodup := List.Pairwise.of_map _ (fun a b q1 q2 => q1 (by rw [q2])) h2
      refine List.pairwise_map.mpr (List.Pairwise.imp_of_mem (fun {x y} hx hy hne e => hne ?_) nd)
      obtain ⟨e1, e2⟩ := nmD_inj ro.nd (s.wf x (h1 x hx)).1 (s.wf y (h1 y hy)).1 e
      exact s.name (h1 x hx) (h1 y hy) e1 e2
    have hUl : U.length ≤ 41 := by
      have nd : U.Nodup := List.Pairwise.of_map _ (fun a b q1 q2 => q1 (by rw [q2])) h2
      exact Nat.le_trans (sub_len s nd h1) hl
    clear hd'
    trivial
    refine name_of_ok (R := R) ?_
    trivial
    by_cases c : hasN U x = true
    · obtain ⟨y, hy, e1, e2⟩ := hasN_iff.mp c
      have hyx := s.name (h1 y hy) hxS e1 e2
      subst hyx
      have hg := dget_map (k := nmD R) (v := Dd.dv R) nU hy
      rw [hg]
      refine oNe_same (Dv.dat hdx) (Dv.dat hdx) ?_
      trivial
      refine name_of_ok (R := R) ?_
      trivial
      refine ⟨by rw [List.length_map, SZ]; omega, ?_⟩
      rw [up_up]
      apply Pt.of
      refine ⟨hil, _, rfl, ?_⟩
      rw [dput_same hg, es, if_pos c]
    · have hnot : nmD R x ∉ U.map (nmD R) := fun hm => by
        obtain ⟨y, hy, e⟩ := List.mem_map.mp hm
        obtain ⟨e1, e2⟩ := nmD_inj ro.nd (s.wf y (h1 y hy)).1 (s.wf x hxS).1 e
        exact c (hasN_iff.mpr ⟨y, hy, e1, e2⟩)
      rw [dget_noneM hnot]
      refine oNe_same (Dv.dat hdx) (Dv.dat hdx) ?_
      trivial
      refine name_of_ok (R := R) ?_
      trivial
      refine ⟨by rw [List.length_map, SZ]; omega, ?_⟩
      rw [up_up]
      apply Pt.of
      refine ⟨hil, _, rfl, ?_⟩
      rw [dput_newM hnot, es, if_neg c, List.map_append]
      rfl
  rintro ρ g ⟨_, x2, rfl, rfl⟩
  trivial
  apply Pt.of
  rw [show (T.take (srcL a (T.map (Dd.dv R))).ds.length) = T from List.take_of_length_le (by rw [show (srcL a (T.map (Dd.dv R))).ds.length = T.length from List.length_map _]; exact Nat.le_refl _)]
  exact q z nz
end
theorem ht_past {m : Nat} {S : List Dd} {H : Hf} (s : House m S) (a : IsHt S H) {x : Dd} (hx : x ∈ S) : H x.w x.n = 1 ∨ ∃ y ∈ S, inC x.hs y = true ∧ H x.w x.n = H y.w y.n + 1 := by
  rcases a.eq x hx with e | ⟨j, k, e1, e2, e3⟩
  · exact .inl e
  · obtain ⟨y, hy, ew, en, _⟩ := s.cl x hx j k e1 e2
    exact .inr ⟨y, hy, (inC_iff (by rw [ew]; exact e1)).mpr (by omega), by rw [ew, en]; exact e3⟩
theorem ht_chain {m : Nat} {S : List Dd} {H : Hf} (s : House m S) (a : IsHt S H) : ∀ (k : Nat) (x : Dd), x ∈ S → H x.w x.n = (k : Int) + 1 → ∃ U : List Dd, U.Nodup ∧ (∀ u ∈ U, u ∈ S ∧ H u.w u.n ≤ (k : Int) + 1) ∧ U.length = k + 1
  | 0, x, hx, e => ⟨[x], by simp, fun u hu => by rw [List.mem_singleton.mp hu]; exact ⟨hx, by omega⟩, rfl⟩
  | k + 1, x, hx, e => by
    rcases ht_past s a hx with e1 | ⟨y, hy, _, e1⟩
    · omega
    · obtain ⟨U, h1, h2, h3⟩ := ht_chain s a k y hy (by omega)
      refine ⟨U ++ [x], List.nodup_append.mpr ⟨h1, by simp, fun u hu v hv e2 => ?_⟩, fun u hu => ?_, by rw [List.length_append, h3]; rfl⟩
      · rw [List.mem_singleton.mp hv] at e2
        have := (h2 u hu).2
        rw [e2] at this
        omega
      · rcases List.mem_append.mp hu with hu | hu
        · exact ⟨(h2 u hu).1, by have := (h2 u hu).2; omega⟩
        · rw [List.mem_singleton.mp hu]; exact ⟨hx, by omega⟩
theorem ht_bound {m : Nat} {S : List Dd} {H : Hf} (s : House m S) (a : IsHt S H) {x : Dd} (hx : x ∈ S) : H x.w x.n ≤ S.length := by
  have h1 := (a.ge x hx).1
  obtain ⟨U, n, hU, hl⟩ := ht_chain s a (H x.w x.n - 1).toNat x hx (by omega)
  have := sub_len s n fun u hu => (hU u hu).1
  omega
theorem past_lt {m : Nat} {S : List Dd} {H : Hf} (s : House m S) (a : IsHt S H) {x y : Dd} (hx : x ∈ S) (hy : y ∈ S) (hc : inC x.hs y = true) : H y.w y.n < H x.w x.n := by
  have hyw := (s.wf y hy).1
  obtain ⟨k, hk⟩ : ∃ k, x.hs[y.w]? = some k := ⟨_, List.getElem?_eq_getElem (by rw [(s.wf x hx).2.2.2.1]; exact hyw)⟩
  have hle := (inC_iff hk).mp hc
  have h1 := (s.wf y hy).2.1
  obtain ⟨z, hz, ew, en, _⟩ := s.cl x hx y.w k hk (by omega)
  have h2 := (a.ge x hx).2 y.w k hk (by omega)
  by_cases c : y.n = k
  · rw [← c] at h2; omega
  · have := ht_lt s a _ hy hz ew.symm (by omega) (Nat.le_refl _)
    rw [ew, en] at this
    omega
section
variable {h : AH} {R : List Str} {C r d : Addr} {S T0 O : List Dd} {H : Hf} {Q : KD}
theorem make2_ok (er : h r = some (.lst (R.map .str))) (ed : h d = some (.lst (T0.map (Dd.dv R)))) (ro : RollOk R) (s : House R.length S) (hT : ∀ x ∈ T0, x ∈ S) (hS : ∀ x ∈ S, x ∈ T0) (hl : S.length ≤ 41) (hd : ∀ x ∈ S, G.dat 7 (x.dv R) = true) (a : IsHt S H) (o : IsOrd S H O)
    (q : ∀ p h', h p = none → Sb h h' → (∀ g, (∀ b o, h b = none → h' b = some o → g b = some o) → FolkAt g C p R S O H) → Q (.ref p) h') : oMake C (f_Folk___init__ C) [.ref r, .ref d] h Q := by
  refine make_i fun p np => ?_
  have pT : (ddp [] T0).Perm S := ddp_perm s hT hS
  unfold f_Folk___init__
  have hrp : r ≠ p := fun y => by rw [y, np] at er; cases er
  have hdp : d ≠ p := fun y => by rw [y, np] at ed; cases ed
  have er0 := up_at (o := .ins C []) hrp er
  have ed0 := up_at (o := .ins C []) hdp ed
  have ep0 : up h p (.ins C []) p = some (.ins C []) := up_same
  have s0 : Sb h (up h p (.ins C [])) := (Sb.refl h).upf' np
  generalize up h p (.ins C []) = h0 at er0 ed0 ep0 s0 ⊢
  trivial
  refine newL_i fun a1 n1 => ?_
  have n1h : h a1 = none := s0.nn n1
  have h1p : p ≠ a1 := fun y => by rw [← y, ep0] at n1; cases n1
  have h1d : d ≠ a1 := fun y => by rw [← y, ed0] at n1; cases n1
  have ep1 := up_at (o := .lst (R.map .str)) h1p ep0
  have ed1 := up_at (o := .lst (R.map .str)) h1d ed0
  have e11 : up h0 a1 (.lst (R.map .str)) a1 = some (.lst (R.map .str)) := up_same
  have s1 := s0.upf' n1 (o := .lst (R.map .str))
  generalize up h0 a1 (.lst (R.map .str)) = h1 at ep1 ed1 e11 s1 ⊢
  trivial
  rw [putD_nil]
  have ep2 : up h1 p (.ins C [(Str.ofString "hands", .ref a1)]) p = some (.ins C [(Str.ofString "hands", .ref a1)]) := up_same
  have ed2 := up_at (o := .ins C [(Str.ofString "hands", .ref a1)]) hdp ed1
  have e12 := up_at (o := .ins C [(Str.ofString "hands", .ref a1)]) h1p.symm e11
  have s2 := s1.upf (o := .ins C [(Str.ofString "hands", .ref a1)]) np
  generalize up h1 p (.ins C [(Str.ofString "hands", .ref a1)]) = h2 at ep2 ed2 e12 s2 ⊢
  clear ep1 ed1 e11 s1 ep0 ed0 er0 s0
  refine table_of2_ok ed2 ro s hT hl hd fun a2 n2 => ?_
  have n2h : h a2 = none := s2.nn n2
  clear ed2
  generalize ddp [] T0 = T1 at pT ⊢
  have h2p : p ≠ a2 := fun y => by rw [← y, ep2] at n2; cases n2
  have h21 : a1 ≠ a2 := fun y => by rw [← y, e12] at n2; cases n2
  have ep3 := up_at (o := .dic (T1.map fun x => (nmD R x, x.dv R))) h2p ep2
  have e13 := up_at (o := .dic (T1.map fun x => (nmD R x, x.dv R))) h21 e12
  have e23 : up h2 a2 (.dic (T1.map fun x => (nmD R x, x.dv R))) a2 = some (.dic (T1.map fun x => (nmD R x, x.dv R))) := up_same
  have s3 := s2.upf' n2 (o := .dic (T1.map fun x => (nmD R x, x.dv R)))
  generalize up h2 a2 (.dic (T1.map fun x => (nmD R x, x.dv R))) = h3 at ep3 e13 e23 s3 ⊢
  clear ep2 e12 s2
  trivial
  rw [putD_ne (by decide), putD_nil]
  have ep4 : up h3 p (.ins C [(Str.ofString "hands", .ref a1), (Str.ofString "table", .ref a2)]) p = some (.ins C [(Str.ofString "hands", .ref a1), (Str.ofString "table", .ref a2)]) := up_same
  have e14 := up_at (o := .ins C [(Str.ofString "hands", .ref a1), (Str.ofString "table", .ref a2)]) h1p.symm e13
  have e24 := up_at (o := .ins C [(Str.ofString "hands", .ref a1), (Str.ofString "table", .ref a2)]) h2p.symm e23
  have s4 := s3.upf (o := .ins C [(Str.ofString "hands", .ref a1), (Str.ofString "table", .ref a2)]) np
  generalize up h3 p (.ins C [(Str.ofString "hands", .ref a1), (Str.ofString "table", .ref a2)]) = h4 at ep4 e14 e24 s4 ⊢
  clear ep3 e13 e23 s3
  trivial
  refine newD_i fun a3 n3 => ?_
  have h3p : p ≠ a3 := fun y => by rw [← y, ep4] at n3; cases n3
  have h31 : a1 ≠ a3 := fun y => by rw [← y, e14] at n3; cases n3
  have h32 : a2 ≠ a3 := fun y => by rw [← y, e24] at n3; cases n3
  have n3h : h a3 = none := s4.nn n3
  have ep5 := up_at (o := .dic []) h3p ep4
  have e15 := up_at (o := .dic []) h31 e14
  have e25 := up_at (o := .dic []) h32 e24
  have e35 : up h4 a3 (.dic []) a3 = some (.dic []) := up_same
  have s5 := s4.upf' n3 (o := .dic [])
  generalize up h4 a3 (.dic []) = h5 at ep5 e15 e25 e35 s5 ⊢
  clear ep4 e14 e24 s4
  trivial
  rw [putD_ne (by decide), putD_ne (by decide), putD_nil]
  have ep6 : up h5 p (.ins C [(Str.ofString "hands", .ref a1), (Str.ofString "table", .ref a2), (Str.ofString "ranks", .ref a3)]) p = some (.ins C [(Str.ofString "hands", .ref a1), (Str.ofString "table", .ref a2), (Str.ofString "ranks", .ref a3)]) := up_same
  have e16 := up_at (o := .ins C [(Str.ofString "hands", .ref a1), (Str.ofString "table", .ref a2), (Str.ofString "ranks", .ref a3)]) h1p.symm e15
  have e26 := up_at (o := .ins C [(Str.ofString "hands", .ref a1), (Str.ofString "table", .ref a2), (Str.ofString "ranks", .ref a3)]) h2p.symm e25
  have e36 := up_at (o := .ins C [(Str.ofString "hands", .ref a1), (Str.ofString "table", .ref a2), (Str.ofString "ranks", .ref a3)]) h3p.symm e35
  have s6 := s5.upf (o := .ins C [(Str.ofString "hands", .ref a1), (Str.ofString "table", .ref a2), (Str.ofString "ranks", .ref a3)]) np
  generalize up h5 p (.ins C [(Str.ofString "hands", .ref a1), (Str.ofString "table", .ref a2), (Str.ofString "ranks", .ref a3)]) = h6 at ep6 e16 e26 e36 s6 ⊢
  clear ep5 e15 e25 e35 s5 n1 n2 n3
  trivial
  refine ⟨fun v hv => ?_, ?_⟩
  · rw [snd_map] at hv
    obtain ⟨x, _, rfl⟩ := List.mem_map.mp hv
    exact ⟨_, x.hs, rfl, rfl⟩
  rw [snd_map, ← List.map_mergeSort (r := sl) (s := fun a b => decide (sumAt 2 a ≤ sumAt 2 b)) (f := Dd.dv R) (fun x _ y _ => by unfold sl; rw [sum_dv, sum_dv])]
  have pm := List.mergeSort_perm T1 sl
  have so := List.pairwise_mergeSort sl_tr sl_to T1
  generalize T1.mergeSort sl = T at pm so
  have pTS := pm.trans pT
  have hTl : T.length = S.length := pTS.length_eq
  have ch := chn_of (s.perm pTS) so
  have nT : (T.map (nmD R)).Nodup := nms_nd ro.nd (s.perm pTS)
  have ndT : T.Nodup := List.Pairwise.of_map _ (fun a b h1 h2 => h1 (by rw [h2])) nT
  refine newL_i fun z nz => ?_
  have hzp : p ≠ z := fun y => by rw [← y, ep6] at nz; cases nz
  have hz1 : a1 ≠ z := fun y => by rw [← y, e16] at nz; cases nz
  have hz2 : a2 ≠ z := fun y => by rw [← y, e26] at nz; cases nz
  have hz3 : a3 ≠ z := fun y => by rw [← y, e36] at nz; cases nz
  have ep7 := up_at (o := .lst (T.map (Dd.dv R))) hzp ep6
  have e17 := up_at (o := .lst (T.map (Dd.dv R))) hz1 e16
  have e27 := up_at (o := .lst (T.map (Dd.dv R))) hz2 e26
  have e37 := up_at (o := .lst (T.map (Dd.dv R))) hz3 e36
  have ez7 : up h6 z (.lst (T.map (Dd.dv R))) z = some (.lst (T.map (Dd.dv R))) := up_same
  have s7 := s6.upf' nz (o := .lst (T.map (Dd.dv R)))
  generalize up h6 z (.lst (T.map (Dd.dv R))) = h7 at ep7 e17 e27 e37 ez7 s7 ⊢
  clear ep6 e16 e26 e36 s6 nz
  trivial
  refine ⟨fun i ρ g => i ≤ T.length ∧ ∃ x3, ρ = [some (.ref p), some (.ref r), some (.ref d), x3] ∧ g = up h7 a3 (.dic ((T.take i).map fun x => (nmD R x, kyD H x))), ?_, ?_, ?_, ?_⟩
  · exact ⟨Nat.zero_le _, _, rfl, (up_self e37).symm⟩
  · rintro i ρ g _ ⟨_, x3, rfl, rfl⟩
    exact up_at hz3.symm ez7
  · rintro i ρ g e ⟨hi, x3, rfl, rfl⟩ he
    have he' : (T.map (Dd.dv R))[i]? = some e := he
    obtain ⟨x, hx, rfl⟩ := get_map he'
    have hil := (List.getElem?_eq_some_iff.mp hx).1
    have et : T.take (i + 1) = T.take i ++ [x] := by rw [List.take_succ, hx]; rfl
    have eT : T = T.take i ++ x :: T.drop (i + 1) := by
      have := (List.take_append_drop i T).symm
      rw [List.drop_eq_getElem_cons hil] at this
      rw [List.getElem?_eq_getElem hil] at hx
      cases hx
      exact this
    have nxt : x ∉ T.take i := fun hm => by
      have n2 : (T.take (i + 1)).Nodup := List.Nodup.sublist (List.take_sublist _ _) ndT
      rw [et] at n2
      exact (List.nodup_append.mp n2).2.2 x hm x List.mem_cons_self rfl
    clear he he'
    trivial
    refine take_ok (h := up h7 a3 (.dic ((T.take i).map fun x => (nmD R x, kyD H x)))) (T := T1) (U := T.take i) (S := S) (up_at h3p ep7) rfl rfl rfl rfl (up_at h31 e17) (up_at h32 e27) up_same ro s pT (fun y hy => pTS.mem_iff.mp (List.mem_of_mem_take hy)) (List.Nodup.sublist (List.Sublist.map _ (List.take_sublist _ _)) nT) (by rw [List.length_take]; omega) (pTS.mem_iff.mp (List.mem_of_getElem? hx)) nxt (ch _ _ _ eT) a ?_
    trivial
    rw [up_up]
    apply Pt.of
    exact ⟨hil, _, rfl, by rw [et]⟩
  rintro ρ g ⟨_, x3, rfl, rfl⟩
  rw [show (T.take (srcL z (T.map (Dd.dv R))).ds.length) = T from List.take_of_length_le (by rw [show (srcL z (T.map (Dd.dv R))).ds.length = T.length from List.length_map _]; exact Nat.le_refl _)]
  have ep8 := up_at (o := .dic (T.map fun x => (nmD R x, kyD H x))) h3p ep7
  have e18 := up_at (o := .dic (T.map fun x => (nmD R x, kyD H x))) h31 e17
  have e28 := up_at (o := .dic (T.map fun x => (nmD R x, kyD H x))) h32 e27
  have e38 : up h7 a3 (.dic (T.map fun x => (nmD R x, kyD H x))) a3 = some (.dic (T.map fun x => (nmD R x, kyD H x))) := up_same
  have s8 := s7.upf (o := .dic (T.map fun x => (nmD R x, kyD H x))) n3h
  generalize up h7 a3 (.dic (T.map fun x => (nmD R x, kyD H x))) = h8 at ep8 e18 e28 e38 s8 ⊢
  clear ep7 e17 e27 e37 ez7 s7
  have hda : ∀ x ∈ T, dAt (T.map fun x => (nmD R x, kyD H x)) (nmD R x) = kyD H x := fun x hx => by unfold dAt; rw [dget_map nT hx]; rfl
  trivial
  refine ⟨_, _, rfl, e38, fun k hk => ?_, ?_, ?_⟩
  · rw [fst_map] at hk
    obtain ⟨x, hx, rfl⟩ := List.mem_map.mp hk
    exact ⟨_, dget_map nT hx⟩
  · rw [fst_map, List.map_map, show List.map (dAt (T.map fun x => (nmD R x, kyD H x)) ∘ nmD R) T = T.map (kyD H) from List.map_congr_left fun x hx => hda x hx]
    refine ⟨fun u hu v hv => ?_, fun u hu => ?_, .inl fun u hu => ?_⟩
    · obtain ⟨x, _, rfl⟩ := List.mem_map.mp hu
      obtain ⟨y, _, rfl⟩ := List.mem_map.mp hv
      exact ky_alk x y
    · obtain ⟨x, _, rfl⟩ := List.mem_map.mp hu
      exact ky_dat x
    · obtain ⟨x, _, rfl⟩ := List.mem_map.mp hu
      exact ⟨_, _, rfl⟩
  rw [fst_map, ← List.map_mergeSort (r := kl H) (s := fun a b => dle false (dAt (T.map fun x => (nmD R x, kyD H x)) a) (dAt (T.map fun x => (nmD R x, kyD H x)) b)) (f := nmD R) (fun x hx y hy => by rw [hda x hx, hda y hy, ky_le]), ord_uniq s a (ord_sort T pTS) o]
  refine newL_i fun a4 n4 => ?_
  have n4h : h a4 = none := s8.nn n4
  have h4p : p ≠ a4 := fun y => by rw [← y, ep8] at n4; cases n4
  have ep9 := up_at (o := .lst (O.map (nmD R))) h4p ep8
  have e19 := up_at (o := .lst (O.map (nmD R))) (fun y => by rw [y, n4] at e18; cases e18) e18
  have e29 := up_at (o := .lst (O.map (nmD R))) (fun y => by rw [y, n4] at e28; cases e28) e28
  have e39 := up_at (o := .lst (O.map (nmD R))) (fun y => by rw [y, n4] at e38; cases e38) e38
  have e49 : up h8 a4 (.lst (O.map (nmD R))) a4 = some (.lst (O.map (nmD R))) := up_same
  have s9 := s8.upf' n4 (o := .lst (O.map (nmD R)))
  generalize up h8 a4 (.lst (O.map (nmD R))) = h9 at ep9 e19 e29 e39 e49 s9 ⊢
  trivial
  rw [putD_ne (by decide), putD_ne (by decide), putD_ne (by decide), putD_nil]
  apply Pt.of
  exact ⟨rfl, q p _ np (s9.upf np) fun g hg => ⟨a1, a2, a3, a4, T1, T, hg _ _ np up_same, hg _ _ n1h (up_at h1p.symm e19), hg _ _ n2h (up_at h2p.symm e29), hg _ _ n3h (up_at h3p.symm e39), hg _ _ n4h (up_at h4p.symm e49), pT, pTS⟩⟩
end
end
section
theorem ints_dat (c : List Int) : dat 7 (.tup (c.map .int)) = true := datL_iff.mpr fun d hd => by
  obtain ⟨x, _, rfl⟩ := List.mem_map.mp hd
  rfl
theorem nms_dat (R : List Str) (l : List Dd) : datL 7 (l.map (nmD R)) = true := datL_iff.mpr fun d hd => by
  obtain ⟨x, _, rfl⟩ := List.mem_map.mp hd
  rfl
section
variable {h : AH} {R : List Str} {C p r : Addr} {S O : List Dd} {H : Hf} {Q : KD}
theorem FolkAt.ins (f : FolkAt h C p R S O H) : ∃ a1 a2 a3 a4 : Addr, h p = some (.ins C [(Str.ofString "hands", .ref a1), (Str.ofString "table", .ref a2), (Str.ofString "ranks", .ref a3), (Str.ofString "order", .ref a4)]) := by
  obtain ⟨a1, a2, a3, a4, T, U, e0, _⟩ := f.ex
  exact ⟨a1, a2, a3, a4, e0⟩
theorem idx_ok (ro : RollOk R) {x : Dd} (xw : x.w < R.length) {P : Nat → Prop} (q : P x.w) : (∀ d ∈ R.map D.str, pl 8 d = true) ∧ pl 8 (.str (wdD R x)) = true ∧ ∃ j : Nat, (R.map D.str)[j]? = some (.str (wdD R x)) ∧ (∀ i, i < j → (R.map D.str)[i]? ≠ some (.str (wdD R x))) ∧ P j := by
  refine ⟨fun d hd => by obtain ⟨s, _, rfl⟩ := List.mem_map.mp hd; rfl, rfl, x.w, by rw [List.getElem?_map, wdD_at xw]; rfl, fun i hi e => ?_, q⟩
  rw [List.getElem?_map] at e
  cases hr : R[i]? with
  | none => rw [hr] at e; cases e
  | some u =>
    rw [hr] at e
    have e' : u = wdD R x := by simpa using e
    have h2 := wdD_at xw
    obtain ⟨p1, q1⟩ := List.getElem?_eq_some_iff.mp hr
    obtain ⟨p2, q2⟩ := List.getElem?_eq_some_iff.mp h2
    have := (List.getElem_inj ro.nd).mp (q1.trans (e'.trans q2.symm))
    omega
end
section
variable {h : AH} {R : List Str} {C p : Addr} {S O : List Dd} {H : Hf} {Q : KD}
theorem names_ok (f : FolkAt h C p R S O H) (q : ∀ z, h z = none → Q (.ref z) (up h z (.lst (O.map (nmD R))))) : f_Folk_names C [.ref p] h Q := by
  obtain ⟨a1, a2, a3, a4, T, U, e0, e1, e2, e3, e4, pT, pU⟩ := f.ex
  unfold f_Folk_names
  trivial
  refine newL_i fun z nz => ?_
  apply Pt.of
  exact q z nz
theorem roll_tells (f : FolkAt h C p R S O H) (q : ∀ z, h z = none → Q (.ref z) (up h z (.lst (R.map .str)))) : f_Folk_roll C [.ref p] h Q := by
  obtain ⟨a1, a2, a3, a4, T, U, e0, e1, e2, e3, e4, pT, pU⟩ := f.ex
  unfold f_Folk_roll
  trivial
  refine newL_i fun z nz => ?_
  apply Pt.of
  exact q z nz
theorem deed_ok (f : FolkAt h C p R S O H) (ro : RollOk R) (s : House R.length S) {x : Dd} (hx : x ∈ S) (q : Q (x.dv R) h) : f_Folk_deed C [.ref p, nmD R x] h Q := by
  obtain ⟨a1, a2, a3, a4, T, U, e0, e1, e2, e3, e4, pT, pU⟩ := f.ex
  unfold f_Folk_deed
  trivial
  refine ⟨_, dget_map (v := Dd.dv R) (nms_nd ro.nd (s.perm pT)) (pT.mem_iff.mpr hx), ?_⟩
  trivial
  apply Pt.of
  exact q
theorem key_ok (f : FolkAt h C p R S O H) (ro : RollOk R) (s : House R.length S) {x : Dd} (hx : x ∈ S) (q : Q (kyD H x) h) : f_Folk_key C [.ref p, nmD R x] h Q := by
  obtain ⟨a1, a2, a3, a4, T, U, e0, e1, e2, e3, e4, pT, pU⟩ := f.ex
  unfold f_Folk_key
  trivial
  refine ⟨_, dget_map (v := kyD H) (nms_nd ro.nd (s.perm pU)) (pU.mem_iff.mpr hx), ?_⟩
  trivial
  apply Pt.of
  exact q
theorem has_ok (f : FolkAt h C p R S O H) {x : Dd} (q : Q (.bl (decide (nmD R x ∈ S.map (nmD R)))) h) : f_Folk_has C [.ref p, nmD R x] h Q := by
  obtain ⟨a1, a2, a3, a4, T, U, e0, e1, e2, e3, e4, pT, pU⟩ := f.ex
  unfold f_Folk_has
  trivial
  apply Pt.of
  rw [fst_map, show decide (nmD R x ∈ T.map (nmD R)) = decide (nmD R x ∈ S.map (nmD R)) from decide_eq_decide.mpr (pT.map _).mem_iff]
  exact q
theorem deeds_ok (f : FolkAt h C p R S O H) (ro : RollOk R) (s : House R.length S) (o : O.Perm S) (hl : S.length ≤ 41) (q : ∀ z, h z = none → Q (.ref z) (up h z (.lst (O.map (Dd.dv R))))) : f_Folk_deeds C [.ref p] h Q := by
  obtain ⟨a1, a2, a3, a4, T, U, e0, e1, e2, e3, e4, pT, pU⟩ := f.ex
  have hOl : O.length ≤ 41 := by rw [o.length_eq]; exact hl
  unfold f_Folk_deeds
  trivial
  intro z nz
  have e0' : ∀ l, up h z (.lst l) p = _ := fun l => up_at (fun y => by rw [y, nz] at e0; cases e0) e0
  have e2' : ∀ l, up h z (.lst l) a2 = _ := fun l => up_at (fun y => by rw [y, nz] at e2; cases e2) e2
  have e4' : ∀ l, up h z (.lst l) a4 = _ := fun l => up_at (fun y => by rw [y, nz] at e4; cases e4) e4
  refine ⟨fun i acc g => i ≤ O.length ∧ acc = (O.take i).map (Dd.dv R) ∧ g = up h z (.lst acc), ?_, ?_, ?_, ?_⟩
  · exact ⟨Nat.zero_le _, rfl, rfl⟩
  · rintro i acc g _ ⟨_, _, rfl⟩
    exact ⟨e4' _, up_same⟩
  · rintro i acc g d ⟨hi, rfl, rfl⟩ hd
    have hd' : (O.map (nmD R))[i]? = some d := hd
    obtain ⟨x, hx, rfl⟩ := get_map hd'
    have hil := (List.getElem?_eq_some_iff.mp hx).1
    have e0x := e0' ((O.take i).map (Dd.dv R))
    have e2x := e2' ((O.take i).map (Dd.dv R))
    clear hd hd'
    trivial
    refine ⟨_, dget_map (v := Dd.dv R) (nms_nd ro.nd (s.perm pT)) (pT.mem_iff.mpr (o.mem_iff.mp (List.mem_of_getElem? hx))), ?_⟩
    trivial
    refine ⟨by rw [List.length_map, List.length_take, SZ]; omega, up_same, ?_⟩
    rw [up_up]
    apply Pt.of
    exact ⟨hil, by rw [List.take_succ, hx, List.map_append]; rfl, rfl⟩
  rintro acc g ⟨_, rfl, rfl⟩
  rw [show (srcL a4 (O.map (nmD R))).ds.length = O.length from List.length_map _, List.take_length]
  trivial
  apply Pt.of
  exact q z nz
end
section
variable {h : AH} {R : List Str} {C p : Addr} {S O : List Dd} {H : Hf} {Q : KD}
theorem wd_iff (ro : RollOk R) {x : Dd} {j : Nat} {u : Str} (hx : x.w < R.length) (hj : R[j]? = some u) : wdD R x = u ↔ x.w = j := by
  obtain ⟨p1, q1⟩ := List.getElem?_eq_some_iff.mp hj
  obtain ⟨p2, q2⟩ := List.getElem?_eq_some_iff.mp (wdD_at hx)
  rw [← q1, ← q2]
  exact List.getElem_inj ro.nd
theorem counts_ok (f : FolkAt h C p R S O H) (ro : RollOk R) (s : House R.length S) (o : O.Perm S) (hl : S.length ≤ 41) {c : List Int} (hc : c.length = R.length) (hcnt : ∀ (j : Nat) (k : Int), c[j]? = some k → ((O.filter fun x => decide (x.w = j)).length : Int) = k) (q : Q (.tup (c.map .int)) h) : f_Folk_counts C [.ref p] h Q := by
  obtain ⟨a1, a2, a3, a4, T, U, e0, e1, e2, e3, e4, pT, pU⟩ := f.ex
  have hOl : O.length ≤ 41 := by rw [o.length_eq]; exact hl
  have hhi := ro.hi
  unfold f_Folk_counts
  trivial
  refine newL_i fun z nz => ?_
  have s0 : Sb h (up h z (.lst [])) := (Sb.refl h).upf' nz
  have ez : up h z (.lst []) z = some (.lst []) := up_same
  generalize up h z (.lst []) = h0 at s0 ez ⊢
  have e00 := s0 _ _ e0
  have e01 := s0 _ _ e1
  trivial
  refine ⟨fun i ρ g => i ≤ R.length ∧ ∃ x2, ρ = [some (.ref p), some (.ref z), x2, none] ∧ g z = some (.lst ((c.take i).map .int)) ∧ Sb h g, ?_, ?_, ?_, ?_⟩
  · exact ⟨Nat.zero_le _, _, rfl, ez, s0⟩
  · rintro i ρ g _ ⟨_, x2, rfl, _, sg⟩
    exact sg _ _ e1
  · clear ez s0 e00 e01
    rintro i ρ g d ⟨hi, x2, rfl, ez, sg⟩ hd
    have hd' : (R.map D.str)[i]? = some d := hd
    obtain ⟨u, hu, rfl⟩ := get_map hd'
    have hil := (List.getElem?_eq_some_iff.mp hu).1
    obtain ⟨k, hk⟩ : ∃ k, c[i]? = some k := ⟨_, List.getElem?_eq_getElem (by omega)⟩
    have hck := hcnt i k hk
    have f0 := sg _ _ e0
    have f4 := sg _ _ e4
    clear hd hd'
    trivial
    intro y ny
    have hzy : z ≠ y := fun e => by rw [e, ny] at ez; cases ez
    have f4' : ∀ l, up g y (.lst l) a4 = _ := fun l => up_at (fun e => by rw [e, ny] at f4; cases f4) f4
    refine ⟨fun t acc g' => t ≤ O.length ∧ acc = ((O.take t).filter fun x => decide (x.w = i)).map (nmD R) ∧ g' = up g y (.lst acc), ?_, ?_, ?_, ?_⟩
    · exact ⟨Nat.zero_le _, rfl, rfl⟩
    · rintro t acc g' _ ⟨_, _, rfl⟩
      exact ⟨f4' _, up_same⟩
    · rintro t acc g' e ⟨ht, rfl, rfl⟩ he
      have he' : (O.map (nmD R))[t]? = some e := he
      obtain ⟨x, hx, rfl⟩ := get_map he'
      have htl := (List.getElem?_eq_some_iff.mp hx).1
      have hxw := (s.wf x (o.mem_iff.mp (List.mem_of_getElem? hx))).1
      have hfl := List.length_filter_le (fun x : Dd => decide (x.w = i)) (O.take t)
      rw [List.length_take] at hfl
      have et : (O.take (t + 1)).filter (fun x => decide (x.w = i)) = (O.take t).filter (fun x => decide (x.w = i)) ++ (if decide (x.w = i) = true then [x] else []) := by
        rw [List.take_succ, hx, List.filter_append]
        congr 1
        show List.filter _ [x] = _
        rw [List.filter_cons, List.filter_nil]
      have hwi := wd_iff ro hxw hu
      clear he he'
      trivial
      refine nm0 ?_
      trivial
      refine oEq_ss ?_
      trivial
      refine onT_d (fun c1 => ?_) (fun c1 => ?_)
      · trivial
        refine ⟨by rw [List.length_map, SZ]; omega, up_same, ?_⟩
        rw [up_up]
        apply Pt.of
        refine ⟨htl, ?_, rfl⟩
        rw [et, if_pos (decide_eq_true (hwi.mp c1)), List.map_append]
        rfl
      · trivial
        apply Pt.of
        refine ⟨htl, ?_, rfl⟩
        rw [et, if_neg (by rw [decide_eq_true_iff]; exact fun z => c1 (hwi.mpr z)), List.append_nil]
    rintro acc g' ⟨_, rfl, rfl⟩
    rw [show (srcL a4 (O.map (nmD R))).ds.length = O.length from List.length_map _, List.take_length]
    have ez2 := up_at (o := .lst ((O.filter fun x => decide (x.w = i)).map (nmD R))) hzy ez
    have s2 : Sb h (up g y (.lst ((O.filter fun x => decide (x.w = i)).map (nmD R)))) := sg.upf' ny
    have ey : up g y (.lst ((O.filter fun x => decide (x.w = i)).map (nmD R))) y = some (.lst ((O.filter fun x => decide (x.w = i)).map (nmD R))) := up_same
    generalize up g y (.lst ((O.filter fun x => decide (x.w = i)).map (nmD R))) = g2 at ez2 s2 ey ⊢
    trivial
    refine ⟨by rw [List.length_map, List.length_take, SZ]; omega, ?_⟩
    apply Pt.of
    refine ⟨hil, _, rfl, ?_, s2.upf nz⟩
    rw [up_same, List.take_succ, hk, List.map_append, List.length_map, hck]
    rfl
  rintro ρ g ⟨_, x2, rfl, ez, sg⟩
  rw [show (srcL a1 (R.map D.str)).ds.length = c.length from (List.length_map _).trans hc.symm, List.take_length] at ez
  trivial
  refine tuple_ls ez ?_
  exact ⟨h, sg, q⟩
end
end
section
section
variable {h : AH} {R : List Str} {r : Addr} {S : List Dd} {H : Hf} {Q : KD}
theorem is_past_ok {x y : Dd} (er : h r = some (.lst (R.map .str))) (ro : RollOk R) (s : House R.length S) (hx : x ∈ S) (hy : y ∈ S) (q : Q (.bl (inC x.hs y)) h) : f_l_is_past [.ref r, x.dv R, y.dv R] h Q := by
  have yw := (s.wf y hy).1
  obtain ⟨k, hk⟩ : ∃ k, x.hs[y.w]? = some k := ⟨_, List.getElem?_eq_getElem (by rw [(s.wf x hx).2.2.2.1]; exact yw)⟩
  unfold f_l_is_past
  trivial
  refine dv1 ?_
  trivial
  refine dv2 ?_
  trivial
  refine dv0 ?_
  trivial
  refine idx_ok ro yw ?_
  trivial
  refine ⟨_, atI_nat (show (x.hs.map D.int)[y.w]? = some (.int k) by rw [List.getElem?_map, hk]; rfl), ?_⟩
  trivial
  apply Pt.of
  rw [show decide (y.n ≤ k) = inC x.hs y from by unfold inC; rw [hk]; rfl]
  exact q
/-- the heights by name -/
def htD (R : List Str) (H : Hf) (x : Dd) : D × D := (nmD R x, .int (H x.w x.n))
theorem key2_ok {x : Dd} {a : Addr} {U : List Dd} (er : h r = some (.lst (R.map .str))) (ea : h a = some (.dic (U.map (htD R H)))) (pU : U.Perm S) (ro : RollOk R) (s : House R.length S) (hx : x ∈ S) (q : Q (kyD H x) h) : f_l_key [.ref r, .ref a, x.dv R] h Q := by
  have xw := (s.wf x hx).1
  unfold f_l_key
  trivial
  refine dv0 ?_
  trivial
  refine dv1 ?_
  trivial
  refine ⟨_, dget_map (k := nmD R) (v := fun x => .int (H x.w x.n)) (nms_nd ro.nd (s.perm pU)) (pU.mem_iff.mpr hx), ?_⟩
  trivial
  refine dv0 ?_
  trivial
  refine idx_ok ro xw ?_
  trivial
  apply Pt.of
  exact q
end
end
section
theorem dmax_is : ∀ (l : List Int) (a v : Int), v ∈ a :: l → (∀ x ∈ a :: l, x ≤ v) → dmax (.int a) (l.map .int) = .int v
  | [], a, v, hm, _ => by rw [List.mem_singleton.mp hm]; rfl
  | b :: l, a, v, hm, hb => by
    show dmax (if dlt (.int a) (.int b) = true then D.int b else .int a) (l.map .int) = _
    have h1 := hb a List.mem_cons_self
    have h2 := hb b (List.mem_cons_of_mem _ List.mem_cons_self)
    rw [dlt]
    by_cases c : a < b
    · rw [if_pos (decide_eq_true c)]
      refine dmax_is l b v ?_ fun x hx => hb x (List.mem_cons_of_mem _ hx)
      rcases List.mem_cons.mp hm with e | hm
      · omega
      · exact hm
    · rw [if_neg (by rw [decide_eq_true_iff]; exact c)]
      refine dmax_is l a v ?_ fun x hx => by
        rcases List.mem_cons.mp hx with e | hx
        · rw [e]; exact h1
        · exact hb x (List.mem_cons_of_mem _ (List.mem_cons_of_mem _ hx))
      rcases List.mem_cons.mp hm with e | hm
      · rw [e]; exact List.mem_cons_self
      · rcases List.mem_cons.mp hm with e | hm
        · rw [show v = a by omega]; exact List.mem_cons_self
        · exact List.mem_cons_of_mem _ hm
theorem maxL_ints {h : AH} {x : D} {L : List Int} {v : Int} {Q : KD} (e : lsOf h x = some (L.map .int)) (hm : v ∈ L) (hb : ∀ x ∈ L, x ≤ v) (q : Q (.int v) h) : bMax [x] h Q := by
  cases L with
  | nil => cases hm
  | cons n ns =>
    refine max_ls e ⟨⟨fun a ha b hb => ?_, fun a ha => ?_⟩, ?_⟩
    · obtain ⟨x, _, rfl⟩ := List.mem_map.mp (show a ∈ (n :: ns).map D.int from ha)
      obtain ⟨y, _, rfl⟩ := List.mem_map.mp (show b ∈ (n :: ns).map D.int from hb)
      rfl
    · obtain ⟨x, _, rfl⟩ := List.mem_map.mp (show a ∈ (n :: ns).map D.int from ha)
      exact ⟨rfl, by simp⟩
    · rw [dmax_is ns n v hm hb]; exact q
section
variable {h : AH} {R : List Str} {r d : Addr} {S T : List Dd} {H : Hf} {Q : KD}
theorem mixed_ok {c : Int} (ed : h d = some (.lst (T.map (Dd.dv R)))) (hT : T.length ≤ 1000) (q : ∀ (z : Addr) (T' : List Dd), h z = none → T'.Perm T → Q (.ref z) (up h z (.lst (T'.map (Dd.dv R))))) : f_l_mixed_up [.ref d, .int c] h Q := by
  unfold f_l_mixed_up
  trivial
  refine newL_i fun z nz => ?_
  have hdz : d ≠ z := fun y => by rw [← y, ed] at nz; cases nz
  trivial
  refine ⟨fun i ρ g => i ≤ T.length ∧ ∃ (x3 x4 x5 : Option D) (T' : List Dd), ρ = [some (.ref d), some (.int c), some (.ref z), x3, x4, x5] ∧ T'.Perm (T.take i) ∧ g = up h z (.lst (T'.map (Dd.dv R))), ?_, ?_, ?_, ?_⟩
  · exact ⟨Nat.zero_le _, _, _, _, [], rfl, .refl _, rfl⟩
  · rintro i ρ g _ ⟨_, x3, x4, x5, T', rfl, _, rfl⟩
    exact up_at hdz ed
  · rintro i ρ g e ⟨hi, x3, x4, x5, T', rfl, pT, rfl⟩ he
    have he' : (enumD 0 (T.map (Dd.dv R)))[i]? = some e := he
    obtain ⟨y, hy, rfl⟩ := enum_get he'
    rw [Nat.zero_add]
    obtain ⟨x, hx, rfl⟩ := get_map hy
    have hil := (List.getElem?_eq_some_iff.mp hx).1
    have ez : up h z (.lst (T'.map (Dd.dv R))) z = some (.lst (T'.map (Dd.dv R))) := up_same
    have hTl : T'.length = i := by rw [pT.length_eq, List.length_take]; omega
    clear he he' hy
    trivial
    obtain ⟨o1, ho1, ho2⟩ := mod_nat (c % 10 ^ Int.toNat 20 + 48271 * (i : Int) * (i : Int)) (m := T'.length + 1) (by omega)
    refine ⟨o1, by rw [List.length_map, ← ho1]; rfl, by omega, by rw [List.length_map, SZ]; omega, ?_⟩
    rw [up_up]
    apply Pt.of
    refine ⟨hil, _, _, _, T'.take o1 ++ [x] ++ T'.drop o1, rfl, ?_, by rw [List.map_append, List.map_append, List.map_take, List.map_drop]; rfl⟩
    have e1 : T.take (i + 1) = T.take i ++ [x] := by rw [List.take_succ, hx]; rfl
    rw [e1]
    have p1 : (T'.take o1 ++ [x] ++ T'.drop o1).Perm (T' ++ [x]) := by
      have p2 : (T'.take o1 ++ ([x] ++ T'.drop o1)).Perm (T'.take o1 ++ (T'.drop o1 ++ [x])) := List.Perm.append_left _ List.perm_append_comm
      rw [← List.append_assoc, ← List.append_assoc, List.take_append_drop] at p2
      exact p2
    exact p1.trans (pT.append_right _)
  rintro ρ g ⟨_, x3, x4, x5, T', rfl, pT, rfl⟩
  rw [show (enumD 0 (srcL d (T.map (Dd.dv R))).ds).length = T.length from (enum_len _ _).trans (List.length_map _), List.take_length] at pT
  trivial
  apply Pt.of
  exact q z T' nz pT
/-- the heights told: what the rounds have -/
structure HtR (h g : AH) (R : List Str) (S U : List Dd) (H : Hf) (z : Addr) : Prop where
  sb : Sb h g
  at_ : g z = some (.dic (U.map (htD R H)))
  sub : ∀ x ∈ U, x ∈ S
  nd : U.Nodup
theorem HtR.ext {g g' : AH} {U : List Dd} {z : Addr} (x : HtR h g R S U H z) (s : Sb g g') : HtR h g' R S U H z := ⟨x.sb.trans s, s _ _ x.at_, x.sub, x.nd⟩
theorem HtR.nds {g : AH} {U : List Dd} {z : Addr} (x : HtR h g R S U H z) (ro : RollOk R) (s : House R.length S) : (U.map (nmD R)).Nodup := by
  refine List.pairwise_map.mpr (List.Pairwise.imp_of_mem (fun {a b} ha hb hne e => hne ?_) x.nd)
  obtain ⟨e1, e2⟩ := nmD_inj ro.nd (s.wf a (x.sub a ha)).1 (s.wf b (x.sub b hb)).1 e
  exact s.name (x.sub a ha) (x.sub b hb) e1 e2
theorem HtR.in_iff {g : AH} {U : List Dd} {z : Addr} (x : HtR h g R S U H z) (ro : RollOk R) (s : House R.length S) {y : Dd} (hy : y ∈ S) : nmD R y ∈ (U.map (htD R H)).map (·.1) ↔ y ∈ U := by
  rw [List.map_map]
  constructor
  · intro hm
    obtain ⟨a, ha, e⟩ := List.mem_map.mp hm
    obtain ⟨e1, e2⟩ := nmD_inj ro.nd (s.wf a (x.sub a ha)).1 (s.wf y hy).1 e
    rw [← s.name (x.sub a ha) hy e1 e2]
    exact ha
  · intro h
    exact List.mem_map.mpr ⟨y, h, rfl⟩
open Classical in
theorem heights_ok (er : h r = some (.lst (R.map .str))) (ed : h d = some (.lst (S.map (Dd.dv R)))) (ro : RollOk R) (s : House R.length S) (hl : S.length ≤ 41) (a : IsHt S H) (q : ∀ (z : Addr) (U : List Dd) (h' : AH), Sb h h' → h' z = some (.dic (U.map (htD R H))) → U.Perm S → Q (.ref z) h') : f_l_heights [.ref r, .ref d] h Q := by
  unfold f_l_heights
  trivial
  refine newD_i fun z nz => ?_
  have hz0 : HtR h (up h z (.dic [])) R S [] H z := ⟨(Sb.refl h).upf' nz, up_same, fun x hx => (by cases hx), List.nodup_nil⟩
  generalize up h z (.dic []) = g0 at hz0 ⊢
  have ed0 := hz0.sb _ _ ed
  trivial
  refine ⟨fun t ρ g => t ≤ S.length ∧ ∃ (x3 x4 x5 x6 x7 x8 : Option D) (U : List Dd), ρ = [some (.ref r), some (.ref d), some (.ref z), x3, x4, x5, x6, x7, x8] ∧ HtR h g R S U H z ∧ ∀ x ∈ S, H x.w x.n ≤ t → x ∈ U, ?_, ?_, ?_, ?_⟩
  · exact ⟨Nat.zero_le _, _, _, _, _, _, _, [], rfl, hz0, fun x hx hh => by have := (a.ge x hx).1; omega⟩
  · rintro t ρ g ht ⟨_, x3, x4, x5, x6, x7, x8, U, rfl, hu, hU⟩
    exact True.intro
  · rintro t ρ g e ⟨ht, x3, x4, x5, x6, x7, x8, U, rfl, hu, hU⟩ he
    have edg := hu.sb _ _ ed
    have htl : t < S.length := by
      have he1 : t < (srcV (rng 0 (↑(S.map (Dd.dv R)).length : Int).toNat)).ds.length := (List.getElem?_eq_some_iff.mp he).1
      rw [rng_len, Int.toNat_natCast, List.length_map] at he1
      exact he1
    trivial
    refine ⟨fun i ρ g => i ≤ S.length ∧ ∃ (x4 x5 x6 x7 x8 : Option D) (U : List Dd), ρ = [some (.ref r), some (.ref d), some (.ref z), some e, x4, x5, x6, x7, x8] ∧ HtR h g R S U H z ∧ (∀ x ∈ S, H x.w x.n ≤ t → x ∈ U) ∧ ∀ x ∈ S.take i, H x.w x.n ≤ t + 1 → x ∈ U, ?_, ?_, ?_, ?_⟩
    · exact ⟨Nat.zero_le _, _, _, _, _, _, U, rfl, hu, hU, fun x hx => by cases hx⟩
    · rintro i ρ g _ ⟨_, x4, x5, x6, x7, x8, U, rfl, hu, _⟩
      exact hu.sb _ _ ed
    · clear x4 x5 x6 x7 x8 U hu hU edg
      rintro i ρ g e ⟨hi, x4, x5, x6, x7, x8, U, rfl, hu, hU, hUi⟩ he
      have he' : (S.map (Dd.dv R))[i]? = some e := he
      obtain ⟨x, hx, rfl⟩ := get_map he'
      have hil := (List.getElem?_eq_some_iff.mp hx).1
      have hxS := List.mem_of_getElem? hx
      have erg := hu.sb _ _ er
      have edg := hu.sb _ _ ed
      clear he he'
      trivial
      refine dv0 ?_
      trivial
      refine dv1 ?_
      trivial
      refine comp_ok S (Dd.dv R) (inC x.hs) (nmD R) rfl (by omega) (fun h' s' => s' _ _ edg) (fun y hy h' s' KY KN hY hN => ?_) fun z1 nz1 => ?_
      · have er' := s' _ _ erg
        trivial
        refine is_past_ok er' ro s hxS hy ?_
        cases ep : inC x.hs y with
        | true =>
          trivial
          refine dv0 ?_
          trivial
          refine dv1 ?_
          trivial
          exact hY ep _ (Sb.refl _)
        | false =>
          trivial
          exact hN ep _ (Sb.refl _)
      have hu1 := hu.ext ((Sb.refl _).upn nz1 (o := .lst ((S.filter (inC x.hs)).map (nmD R))))
      have ez1 : up g z1 (.lst ((S.filter (inC x.hs)).map (nmD R))) z1 = some (.lst ((S.filter (inC x.hs)).map (nmD R))) := up_same
      generalize up g z1 (.lst ((S.filter (inC x.hs)).map (nmD R))) = g1 at hu1 ez1 ⊢
      have eU1 := hu1.at_
      clear hu nz1 erg edg
      trivial
      have et : S.take (i + 1) = S.take i ++ [x] := by rw [List.take_succ, hx]; rfl
      rw [show decide (D.tup [D.str (wdD R x), D.int x.n] ∈ (U.map (htD R H)).map (fun x => x.fst)) = decide (x ∈ U) from decide_eq_decide.mpr (hu1.in_iff ro s hxS)]
      by_cases c : x ∈ U
      · rw [decide_eq_true c]
        trivial
        apply Pt.of
        refine ⟨hil, _, _, _, _, _, U, rfl, hu1, hU, fun y hy hh => ?_⟩
        rw [et] at hy
        rcases List.mem_append.mp hy with hy | hy
        · exact hUi y hy hh
        · rw [List.mem_singleton.mp hy]; exact c
      rw [decide_eq_false c]
      trivial
      refine comp_ok (S.filter (inC x.hs)) (nmD R) (fun y => decide (y ∉ U)) (nmD R) rfl (Nat.le_trans (List.length_filter_le _ _) (by omega)) (fun h' s' => s' _ _ ez1) (fun y hy h' s' KY KN hY hN => ?_) fun z2 nz2 => ?_
      · have hyS := (List.mem_filter.mp hy).1
        have eU2 := s' _ _ eU1
        trivial
        rw [show decide (nmD R y ∈ (U.map (htD R H)).map (fun x => x.fst)) = decide (y ∈ U) from decide_eq_decide.mpr (hu1.in_iff ro s hyS)]
        by_cases cy : y ∈ U
        · rw [decide_eq_true cy]
          trivial
          exact hN (decide_eq_false (fun z => z cy)) _ (Sb.refl _)
        · rw [decide_eq_false cy]
          trivial
          exact hY (decide_eq_true cy) _ (Sb.refl _)
      have hu2 := hu1.ext ((Sb.refl _).upn nz2 (o := .lst (((S.filter (inC x.hs)).filter (fun y => decide (y ∉ U))).map (nmD R))))
      have ez12 := ((Sb.refl _).upn nz2 (o := .lst (((S.filter (inC x.hs)).filter (fun y => decide (y ∉ U))).map (nmD R)))) _ _ ez1
      have ez2 : up g1 z2 (.lst (((S.filter (inC x.hs)).filter (fun y => decide (y ∉ U))).map (nmD R))) z2 = some (.lst (((S.filter (inC x.hs)).filter (fun y => decide (y ∉ U))).map (nmD R))) := up_same
      generalize up g1 z2 (.lst (((S.filter (inC x.hs)).filter (fun y => decide (y ∉ U))).map (nmD R))) = g2 at hu2 ez12 ez2 ⊢
      have eU2 := hu2.at_
      clear hu1 nz2 ez1 eU1
      trivial
      refine newL_i fun z3 nz3 => ?_
      have s3 : Sb g2 (up g2 z3 (.lst [])) := (Sb.refl _).upn nz3
      have eo3 : up g2 z3 (.lst []) z3 = some (.lst []) := up_same
      generalize up g2 z3 (.lst []) = g3 at s3 eo3 ⊢
      have hu3 := hu2.ext s3
      have ez13 := s3 _ _ ez12
      have ez23 := s3 _ _ ez2
      clear hu2 ez12 ez2 eU2 nz3 s3
      refine oEq_nil (Dv.lst (n := 11) ez23 (.dat (nms_dat R _) (by omega))) (Dv.lst (n := 11) eo3 .nil) ?_
      have eU3 := hu3.at_
      rw [List.isEmpty_map]
      cases ce : ((S.filter (inC x.hs)).filter (fun y => decide (y ∉ U))).isEmpty with
      | false =>
        trivial
        apply Pt.of
        refine ⟨hil, _, _, _, _, _, U, rfl, hu3, hU, fun y hy hh => ?_⟩
        rw [et] at hy
        rcases List.mem_append.mp hy with hy | hy
        · exact hUi y hy hh
        · rw [List.mem_singleton.mp hy] at hh ⊢
          exfalso
          obtain ⟨v, hv⟩ := List.exists_mem_of_ne_nil ((S.filter (inC x.hs)).filter (fun y => decide (y ∉ U))) (fun e => by rw [e] at ce; cases ce)
          obtain ⟨hv1, hv2⟩ := List.mem_filter.mp hv
          obtain ⟨hv3, hv4⟩ := List.mem_filter.mp hv1
          have h1 := past_lt s a hxS hv3 hv4
          have h2 := of_decide_eq_true hv2
          exact h2 (hU v hv3 (by omega))
      | true =>
        have hall : ∀ y ∈ S, inC x.hs y = true → y ∈ U := fun y hy hi => Classical.byContradiction fun hn => by
          have : y ∈ (S.filter (inC x.hs)).filter (fun y => decide (y ∉ U)) := List.mem_filter.mpr ⟨List.mem_filter.mpr ⟨hy, hi⟩, decide_eq_true hn⟩
          rw [List.isEmpty_iff.mp ce] at this
          cases this
        trivial
        refine comp_ok (S.filter (inC x.hs)) (nmD R) (fun _ => true) (fun y => .int (H y.w y.n)) rfl (Nat.le_trans (List.length_filter_le _ _) (by omega)) (fun h' s' => s' _ _ ez13) (fun y hy h' s' KY KN hY hN => ?_) fun z4 nz4 => ?_
        · obtain ⟨hyS, hyc⟩ := List.mem_filter.mp hy
          have eU4 := s' _ _ eU3
          trivial
          refine ⟨_, dget_map (k := nmD R) (v := fun x => .int (H x.w x.n)) (hu3.nds ro s) (hall y hyS hyc), ?_⟩
          trivial
          exact hY rfl _ (Sb.refl _)
        rw [show (S.filter (inC x.hs)).filter (fun _ => true) = S.filter (inC x.hs) from List.filter_eq_self.mpr fun _ _ => rfl]
        have s4 : Sb g3 (up g3 z4 (.lst ((S.filter (inC x.hs)).map fun y => .int (H y.w y.n)))) := (Sb.refl _).upn nz4
        have eo4 : up g3 z4 (.lst ((S.filter (inC x.hs)).map fun y => .int (H y.w y.n))) z4 = some (.lst ((S.filter (inC x.hs)).map fun y => .int (H y.w y.n))) := up_same
        generalize up g3 z4 (.lst ((S.filter (inC x.hs)).map fun y => .int (H y.w y.n))) = g4 at s4 eo4 ⊢
        have hu4 := hu3.ext s4
        clear hu3 ez13 ez23 eU3 nz4 s4 eo3
        have eU4 := hu4.at_
        trivial
        refine newL_i fun z5 nz5 => ?_
        have s5 : Sb g4 (up g4 z5 (.lst [.int 0])) := (Sb.refl _).upn nz5
        have eo5 : up g4 z5 (.lst [.int 0]) z5 = some (.lst [.int 0]) := up_same
        generalize up g4 z5 (.lst [.int 0]) = g5 at s5 eo5 ⊢
        have hu5 := hu4.ext s5
        have eo45 := s5 _ _ eo4
        clear hu4 nz5 s5 eo4 eU4
        have eU5 := hu5.at_
        trivial
        refine ⟨by have := List.length_filter_le (inC x.hs) S; rw [List.length_map, List.length_singleton, SZ]; omega, ?_⟩
        refine newL_i fun z6 nz6 => ?_
        have eL : (S.filter (inC x.hs)).map (fun y => D.int (H y.w y.n)) ++ [.int 0] = (((S.filter (inC x.hs)).map fun (y : Dd) => H y.w y.n) ++ [0]).map .int := by rw [List.map_append, List.map_map]; rfl
        rw [eL]
        have s6 : Sb g5 (up g5 z6 (.lst ((((S.filter (inC x.hs)).map fun (y : Dd) => H y.w y.n) ++ [0]).map .int))) := (Sb.refl _).upn nz6
        have eo6 : up g5 z6 (.lst ((((S.filter (inC x.hs)).map fun (y : Dd) => H y.w y.n) ++ [0]).map .int)) z6 = some (.lst ((((S.filter (inC x.hs)).map fun (y : Dd) => H y.w y.n) ++ [0]).map .int)) := up_same
        generalize up g5 z6 (.lst ((((S.filter (inC x.hs)).map fun (y : Dd) => H y.w y.n) ++ [0]).map .int)) = g6 at s6 eo6 ⊢
        have hu6 := hu5.ext s6
        clear hu5 nz6 s6 eo45 eo5 eU5 eL
        have eU6 := hu6.at_
        have hge := (a.ge x hxS).1
        trivial
        refine maxL_ints (v := H x.w x.n - 1) (ls_lst eo6) ?_ (fun n hn => ?_) ?_
        · rcases ht_past s a hxS with e1 | ⟨y, hy, h1, h2⟩
          · exact List.mem_append_right _ (by rw [show H x.w x.n - 1 = 0 by omega]; exact List.mem_singleton.mpr rfl)
          · exact List.mem_append_left _ (List.mem_map.mpr ⟨y, List.mem_filter.mpr ⟨hy, h1⟩, by omega⟩)
        · rcases List.mem_append.mp hn with hn | hn
          · obtain ⟨y, hy, rfl⟩ := List.mem_map.mp hn
            obtain ⟨h1, h2⟩ := List.mem_filter.mp hy
            have := past_lt s a hxS h1 h2
            omega
          · rw [List.mem_singleton.mp hn]; omega
        have hsz : U.length ≤ 41 := Nat.le_trans (sub_len s hu6.nd hu6.sub) hl
        trivial
        refine ⟨by rw [List.length_map, SZ]; omega, ?_⟩
        apply Pt.of
        have hnU : nmD R x ∉ (U.map (htD R H)).map (·.1) := fun hm => c ((hu6.in_iff ro s hxS).mp hm)
        refine ⟨hil, _, _, _, _, _, U ++ [x], rfl, ⟨?_, ?_, fun y hy => ?_, ?_⟩, fun y hy hh => List.mem_append_left _ (hU y hy hh), fun y hy hh => ?_⟩
        · exact hu6.sb.upf nz
        · rw [up_same, show (1 : Int) + (H x.w x.n - 1) = H x.w x.n by omega, show D.tup [D.str (wdD R x), D.int x.n] = nmD R x from rfl, dput_new hnU, List.map_append]
          rfl
        · rcases List.mem_append.mp hy with hy | hy
          · exact hu6.sub y hy
          · rw [List.mem_singleton.mp hy]; exact hxS
        · exact List.nodup_append.mpr ⟨hu6.nd, by simp, fun a ha b hb e => c (by rw [List.mem_singleton.mp hb] at e; rw [← e]; exact ha)⟩
        · rw [et] at hy
          rcases List.mem_append.mp hy with hy | hy
          · exact List.mem_append_left _ (hUi y hy hh)
          · exact List.mem_append_right _ hy
    · rintro ρ g ⟨_, x4, x5, x6, x7, x8, U, rfl, hu, hU, hUi⟩
      rw [show (srcL d (S.map (Dd.dv R))).ds.length = S.length from List.length_map _, List.take_length] at hUi
      apply Pt.of
      exact ⟨htl, _, _, _, _, _, _, U, rfl, hu, fun y hy hh => hUi y hy (by omega)⟩
  · rintro ρ g ⟨_, x3, x4, x5, x6, x7, x8, U, rfl, hu, hU⟩
    trivial
    apply Pt.of
    have e : (srcV (rng 0 (↑(S.map (Dd.dv R)).length : Int).toNat)).ds.length = S.length := by rw [rng_len, Int.toNat_natCast, List.length_map]
    rw [e] at hU
    have n2 : S.Nodup := List.Pairwise.of_map _ (fun a b q1 q2 => q1 (by rw [q2])) s.nd
    exact q z U g hu.sb hu.at_ ((List.perm_ext_iff_of_nodup hu.nd n2).mpr fun y => ⟨fun hy => hu.sub y hy, fun hy => hU y hy (ht_bound s a hy)⟩)
end
end
section
theorem sortBy_dv {S O : List Dd} {R : List Str} {H : Hf} {m : Nat} (s : House m S) (a : IsHt S H) (o : IsOrd S H O) : sortBy (S.map (Dd.dv R)) (S.map (kyD H)) = O.map (Dd.dv R) := by
  unfold sortBy
  rw [List.zip_map, show S.zip S = S.map fun x => (x, x) from by induction S with | nil => rfl | cons x l ih => rw [List.zip_cons_cons, List.map_cons]; rw [show l.zip l = l.map fun x => (x, x) from by clear ih s a o; induction l with | nil => rfl | cons y l ih => rw [List.zip_cons_cons, List.map_cons, ih]], List.map_map]
  rw [← List.map_mergeSort (r := kl H) (s := fun a b : D × D => dle false a.2 b.2) (f := (Prod.map (Dd.dv R) (kyD H)) ∘ fun x => (x, x)) (fun x _ y _ => (ky_le (H := H) x y).symm), ord_uniq s a (ord_sort S (.refl S)) o, List.map_map]
  rfl
def cntJ (S : List Dd) (j : Nat) : Int := ((S.filter fun x => decide (x.w = j)).length : Int)
theorem strs_dat (R : List Str) : datL 7 (R.map D.str) = true := datL_iff.mpr fun d hd => by
  obtain ⟨x, _, rfl⟩ := List.mem_map.mp hd
  rfl
theorem map_range {α : Type} (f : Str → α) (R : List Str) : R.map f = (List.range R.length).map fun j => f (R[j]?.getD PySem.Str.empty) := by
  apply List.ext_getElem?
  intro i
  rw [List.getElem?_map, List.getElem?_map]
  by_cases hi : i < R.length
  · rw [List.getElem?_range hi, List.getElem?_eq_getElem hi, Option.map_some, Option.map_some, List.getElem?_eq_getElem hi]
    rfl
  · rw [List.getElem?_eq_none (by omega), List.getElem?_eq_none (by rw [List.length_range]; omega)]
    rfl
section
variable {h : AH} {R : List Str} {C p r d z : Addr} {S O : List Dd} {H : Hf} {Q : KD}
theorem right_ok {U : List Dd} (f : FolkAt h C p R S O H) (er : h r = some (.lst (R.map .str))) (ed : h d = some (.lst (S.map (Dd.dv R)))) (ez : h z = some (.dic (U.map (htD R H)))) (pU : U.Perm S) (ro : RollOk R) (s : House R.length S) (a : IsHt S H) (o : IsOrd S H O) (hl : S.length ≤ 41) (hd : ∀ x ∈ S, dat 7 (x.dv R) = true) (q : ∀ h', Sb h h' → Q (.bl true) h') :
    f_l_right C [.ref p, .ref r, .ref d, .ref z] h Q := by
  have hOl : O.length ≤ 41 := by rw [o.1.length_eq]; exact hl
  have hhi := ro.hi
  have hdO : datL 7 (O.map (Dd.dv R)) = true := datL_iff.mpr fun e he => by
    obtain ⟨x, hx, rfl⟩ := List.mem_map.mp he
    exact hd x (o.1.mem_iff.mp hx)
  unfold f_l_right
  trivial
  rw [show lsOf h (D.ref d) = some (S.map (Dd.dv R)) from ls_lst ed]
  refine ⟨⟨S.map (kyD H), by rw [List.length_map, List.length_map], ⟨fun u hu v hv => ?_, fun u hu => ?_, .inl fun u hu => ?_⟩, fun i e k he hk => ?_, ?_⟩⟩
  · obtain ⟨x, _, rfl⟩ := List.mem_map.mp hu
    obtain ⟨y, _, rfl⟩ := List.mem_map.mp hv
    exact ky_alk x y
  · obtain ⟨x, _, rfl⟩ := List.mem_map.mp hu
    exact ky_dat x
  · obtain ⟨x, _, rfl⟩ := List.mem_map.mp hu
    exact ⟨_, _, rfl⟩
  · obtain ⟨x, hx, rfl⟩ := get_map he
    rw [List.getElem?_map, hx] at hk
    have hk' : kyD H x = k := Option.some.inj hk
    trivial
    refine key2_ok er ez pU ro s (List.mem_of_getElem? hx) ?_
    exact ⟨hk', Sb.refl _⟩
  rw [sortBy_dv s a o]
  refine newL_i fun z1 nz1 => ?_
  have s1 : Sb h (up h z1 (.lst (O.map (Dd.dv R)))) := (Sb.refl _).upn nz1
  have eo1 : up h z1 (.lst (O.map (Dd.dv R))) z1 = some (.lst (O.map (Dd.dv R))) := up_same
  generalize up h z1 (.lst (O.map (Dd.dv R))) = g1 at s1 eo1 ⊢
  have f1 := f.sb s1
  have er1 := s1 _ _ er
  have ed1 := s1 _ _ ed
  have ez1 := s1 _ _ ez
  clear nz1 f er ed ez
  obtain ⟨b1, b2, b3, b4, i1⟩ := f1.ins
  trivial
  refine roll_tells f1 fun z2 nz2 => ?_
  have s2 : Sb g1 (up g1 z2 (.lst (R.map .str))) := (Sb.refl _).upn nz2
  have eo2 : up g1 z2 (.lst (R.map .str)) z2 = some (.lst (R.map .str)) := up_same
  generalize up g1 z2 (.lst (R.map .str)) = g2 at s2 eo2 ⊢
  have f2 := f1.sb s2
  have er2 := s2 _ _ er1
  have ed2 := s2 _ _ ed1
  have ez2 := s2 _ _ ez1
  have eo12 := s2 _ _ eo1
  have s2 := s1.trans s2
  clear nz2 f1 er1 ed1 ez1 eo1 s1 i1
  obtain ⟨b1, b2, b3, b4, i2⟩ := f2.ins
  trivial
  refine oNe_same (Dv.lst (n := 11) eo2 (.dat (strs_dat R) (by omega))) (Dv.lst (n := 11) er2 (.dat (strs_dat R) (by omega))) ?_
  trivial
  refine deeds_ok f2 ro s o.1 hl fun z3 nz3 => ?_
  have s3 : Sb g2 (up g2 z3 (.lst (O.map (Dd.dv R)))) := (Sb.refl _).upn nz3
  have eo3 : up g2 z3 (.lst (O.map (Dd.dv R))) z3 = some (.lst (O.map (Dd.dv R))) := up_same
  generalize up g2 z3 (.lst (O.map (Dd.dv R))) = g3 at s3 eo3 ⊢
  have f3 := f2.sb s3
  have er3 := s3 _ _ er2
  have ed3 := s3 _ _ ed2
  have ez3 := s3 _ _ ez2
  have eo13 := s3 _ _ eo12
  have s3 := s2.trans s3
  clear nz3 f2 er2 ed2 ez2 eo12 s2 i2 eo2
  obtain ⟨b1, b2, b3, b4, i3⟩ := f3.ins
  trivial
  refine oNe_same (Dv.lst (n := 11) eo3 (.dat hdO (by omega))) (Dv.lst (n := 11) eo13 (.dat hdO (by omega))) ?_
  trivial
  refine names_ok f3 fun z4 nz4 => ?_
  have s4 : Sb g3 (up g3 z4 (.lst (O.map (nmD R)))) := (Sb.refl _).upn nz4
  have eo4 : up g3 z4 (.lst (O.map (nmD R))) z4 = some (.lst (O.map (nmD R))) := up_same
  generalize up g3 z4 (.lst (O.map (nmD R))) = g4 at s4 eo4 ⊢
  have f4 := f3.sb s4
  have er4 := s4 _ _ er3
  have ed4 := s4 _ _ ed3
  have ez4 := s4 _ _ ez3
  have eo14 := s4 _ _ eo13
  have s4 := s3.trans s4
  clear nz4 f3 er3 ed3 ez3 eo13 s3 i3 eo3
  trivial
  refine comp_ok O (Dd.dv R) (fun _ => true) (nmD R) rfl (by omega) (fun h' s' => s' _ _ eo14) (fun y hy h' s' KY KN hY hN => ?_) fun z5 nz5 => ?_
  · trivial
    refine dv0 ?_
    trivial
    refine dv1 ?_
    trivial
    exact hY rfl _ (Sb.refl _)
  rw [show O.filter (fun _ => true) = O from List.filter_eq_self.mpr fun _ _ => rfl]
  have s5 : Sb g4 (up g4 z5 (.lst (O.map (nmD R)))) := (Sb.refl _).upn nz5
  have eo5 : up g4 z5 (.lst (O.map (nmD R))) z5 = some (.lst (O.map (nmD R))) := up_same
  generalize up g4 z5 (.lst (O.map (nmD R))) = g5 at s5 eo5 ⊢
  have f5 := f4.sb s5
  have er5 := s5 _ _ er4
  have ed5 := s5 _ _ ed4
  have ez5 := s5 _ _ ez4
  have eo45 := s5 _ _ eo4
  have s5 := s4.trans s5
  clear nz5 f4 er4 ed4 ez4 eo14 s4 eo4
  obtain ⟨b1, b2, b3, b4, i5⟩ := f5.ins
  trivial
  refine oNe_same (Dv.lst (n := 11) eo45 (.dat (nms_dat R O) (by omega))) (Dv.lst (n := 11) eo5 (.dat (nms_dat R O) (by omega))) ?_
  trivial
  refine counts_ok (c := (List.range R.length).map (cntJ S)) f5 ro s o.1 hl (by rw [List.length_map, List.length_range]) (fun j k e => ?_) ?_
  · rw [List.getElem?_map] at e
    by_cases hj : j < R.length
    · rw [List.getElem?_range hj] at e
      have e' : cntJ S j = k := Option.some.inj e
      rw [← e']
      exact congrArg Nat.cast (o.1.filter _).length_eq
    · rw [List.getElem?_eq_none (by rw [List.length_range]; omega)] at e
      cases e
  trivial
  refine comp_ok (List.range R.length) (fun j => .str (R[j]?.getD PySem.Str.empty)) (fun _ => true) (fun j => .int (cntJ S j)) (map_range D.str R) (by rw [List.length_range]; omega) (fun h' s' => s' _ _ er5) (fun j hj h' s' KY KN hY hN => ?_) fun z6 nz6 => ?_
  · have hj := List.mem_range.mp hj
    have ed6 := s' _ _ ed5
    trivial
    refine comp_ok S (Dd.dv R) (fun x => decide (x.w = j)) (Dd.dv R) rfl (by omega) (fun h2 s2 => s2 _ _ ed6) (fun y hy h2 s2 KY KN hY hN => ?_) fun z7 nz7 => ?_
    · trivial
      refine dv0 ?_
      trivial
      refine oEq_ss ?_
      have hwy := (s.wf y hy).1
      rw [show decide (wdD R y = R[j]?.getD PySem.Str.empty) = decide (y.w = j) from decide_eq_decide.mpr (wd_iff ro hwy (by rw [List.getElem?_eq_getElem hj]; rfl))]
      cases cy : decide (y.w = j) with
      | true => trivial; exact hY cy _ (Sb.refl _)
      | false => trivial; exact hN cy _ (Sb.refl _)
    have s7 := (Sb.refl h').upn nz7 (o := .lst ((S.filter fun x => decide (x.w = j)).map (Dd.dv R)))
    trivial
    rw [List.length_map]
    exact hY rfl _ s7
  rw [show (List.range R.length).filter (fun _ => true) = List.range R.length from List.filter_eq_self.mpr fun _ _ => rfl]
  have s6 : Sb g5 (up g5 z6 (.lst ((List.range R.length).map fun j => .int (cntJ S j)))) := (Sb.refl _).upn nz6
  have eo6 : up g5 z6 (.lst ((List.range R.length).map fun j => .int (cntJ S j))) z6 = some (.lst (((List.range R.length).map (cntJ S)).map .int)) := by rw [up_same, List.map_map]; rfl
  generalize up g5 z6 (.lst ((List.range R.length).map fun j => .int (cntJ S j))) = g6 at s6 eo6 ⊢
  have f6 := f5.sb s6
  have er6 := s6 _ _ er5
  have ed6 := s6 _ _ ed5
  have ez6 := s6 _ _ ez5
  have s6 := s5.trans s6
  clear nz6 f5 er5 ed5 ez5 s5 eo45 eo5 i5
  obtain ⟨b1, b2, b3, b4, i6⟩ := f6.ins
  trivial
  refine tuple_ls eo6 ?_
  trivial
  refine oNe_same (Dv.dat (m := 7) (ints_dat _)) (Dv.dat (m := 7) (ints_dat _)) ?_
  trivial
  refine for_ok S (Dd.dv R) (fun i ρ => ∃ x5 x6 x7 : Option D, ρ = [some (.ref p), some (.ref r), some (.ref d), some (.ref z), some (.ref z1), x5, x6, x7, none]) rfl (fun h' s' => s' _ _ ed6) ⟨_, _, _, rfl⟩ (fun i x ρ hx e h' s' K hK => ?_) fun ρ e => ?_
  · obtain ⟨x5, x6, x7, rfl⟩ := e
    have hxS := List.mem_of_getElem? hx
    have f7 := f6.sb s'
    have er7 := s' _ _ er6
    have ez7 := s' _ _ ez6
    obtain ⟨c1, c2, c3, c4, i7⟩ := f7.ins
    trivial
    refine dv0 ?_
    trivial
    refine dv1 ?_
    trivial
    refine key_ok f7 ro s hxS ?_
    trivial
    refine has_ok f7 (x := x) ?_
    rw [decide_eq_true (List.mem_map_of_mem hxS)]
    trivial
    refine deed_ok f7 ro s hxS ?_
    trivial
    refine oNe_same (Dv.dat (hd x hxS)) (Dv.dat (hd x hxS)) ?_
    trivial
    unfold kyD
    trivial
    refine key2_ok er7 ez7 pU ro s hxS ?_
    trivial
    refine oNe_same (Dv.dat (m := 7) rfl) (Dv.dat (m := 7) rfl) ?_
    trivial
    exact hK _ _ ⟨_, _, _, rfl⟩ (Sb.refl _)
  · obtain ⟨x5, x6, x7, rfl⟩ := e
    trivial
    apply Pt.of
    exact q _ s6
end
end
section
theorem nd_len {α : Type} [DecidableEq α] : ∀ {U S : List α}, U.Nodup → (∀ x ∈ U, x ∈ S) → U.length ≤ S.length
  | [], S, _, _ => Nat.zero_le _
  | x :: U, S, nd, hs => by
    have hx := hs x List.mem_cons_self
    obtain ⟨n1, n2⟩ := List.nodup_cons.mp nd
    have h1 : U.length ≤ (S.erase x).length := nd_len n2 fun y hy => (List.mem_erase_of_ne (fun e => n1 (by rw [← e]; exact hy))).mpr (hs y (List.mem_cons_of_mem _ hy))
    rw [List.length_erase_of_mem hx] at h1
    have := List.length_pos_of_mem hx
    rw [List.length_cons]
    omega
theorem n_le_cnt {m : Nat} {S : List Dd} (s : House m S) {x : Dd} (hx : x ∈ S) : x.n ≤ cntJ S x.w := by
  have h1 := (s.wf x hx).2.1
  have h2 : ((List.range x.n.toNat).map fun (i : Nat) => (i : Int) + 1).length ≤ ((S.filter fun y => decide (y.w = x.w)).map (·.n)).length := by
    refine nd_len ?_ fun v hv => ?_
    · refine List.pairwise_map.mpr (List.Pairwise.imp (fun {a b} hne e => hne (by omega)) List.nodup_range)
    · obtain ⟨i, hi, rfl⟩ := List.mem_map.mp hv
      have hi := List.mem_range.mp hi
      obtain ⟨y, hy, e1, e2⟩ := s.down _ hx (v := (i : Int) + 1) (by omega) (by omega) (Nat.le_refl _)
      exact List.mem_map.mpr ⟨y, List.mem_filter.mpr ⟨hy, decide_eq_true e1⟩, e2⟩
  rw [List.length_map, List.length_map, List.length_range] at h2
  unfold cntJ
  omega
theorem step_map (k : Int) (ds : List Dd) (f : Dd → D) : ∃ T2 : List Dd, stepD k (ds.map f) = T2.map f ∧ ∀ x ∈ T2, x ∈ ds := by
  refine ⟨(stepIx ds.length k).filterMap fun i => ds[i]?, ?_, fun x hx => ?_⟩
  · unfold stepD
    rw [List.length_map, List.map_filterMap]
    congr 1
    funext i
    rw [List.getElem?_map]
  · obtain ⟨i, _, hi⟩ := List.mem_filterMap.mp hx
    exact List.mem_of_getElem? hi
/-- what lies beside the old objects is kept -/
structure Kf (h h' g : AH) : Prop where
  kp : ∀ b o, h b = none → h' b = some o → g b = some o
  nn : ∀ b, g b = none → h' b = none
section
variable {h h' g g' : AH} {a : Addr} {o o1 : O}
theorem Kf.refl (h h' : AH) : Kf h h' h' := ⟨fun _ _ _ e => e, fun _ e => e⟩
theorem Kf.sb (k : Kf h h' g) (s : Sb g g') : Kf h h' g' := ⟨fun b o e1 e2 => s _ _ (k.kp b o e1 e2), fun b e => k.nn b (s.nn e)⟩
theorem Kf.old (k : Kf h h' g) (e : h a = some o1) (o : O) : Kf h h' (up g a o) := ⟨fun b o' e1 e2 => up_at (fun z => by rw [z, e] at e1; cases e1) (k.kp b o' e1 e2), fun b e => k.nn b (up_nn e).1⟩
theorem Kf.new (k : Kf h h' g) (e : h' a = none) (o : O) : Kf h h' (up g a o) := ⟨fun b o' e1 e2 => up_at (fun z => by rw [z, e] at e2; cases e2) (k.kp b o' e1 e2), fun b e => k.nn b (up_nn e).1⟩
end
section
variable {h : AH} {R : List Str} {C p : Addr} {S O : List Dd} {H : Hf} {Q : KD}
theorem has2_ok (f : FolkAt h C p R S O H) {u : Str} {n : Int} (hn : ∀ x ∈ S, wdD R x = u → x.n ≠ n) (q : Q (.bl false) h) : f_Folk_has C [.ref p, .tup [.str u, .int n]] h Q := by
  obtain ⟨a1, a2, a3, a4, T, U, e0, e1, e2, e3, e4, pT, pU⟩ := f.ex
  unfold f_Folk_has
  trivial
  apply Pt.of
  rw [fst_map, decide_eq_false (fun hm => by
    obtain ⟨x, hx, e⟩ := List.mem_map.mp hm
    unfold nmD at e
    simp only [D.tup.injEq, List.cons.injEq, D.str.injEq, D.int.injEq, and_true] at e
    exact hn x (pT.mem_iff.mp hx) e.1 e.2)]
  exact q
end
theorem newL_s' {h : AH} {l : List D} {Q : KD} (q : ∀ z h', h z = none → Sb h h' → h' z = some (.lst l) → Q (.ref z) h') : newL l h Q := newL_i fun z nz => q z _ nz ((Sb.refl h).upn nz) up_same
theorem up_ex {h : AH} {z : Addr} (o : O) (nz : h z = none) : ∃ g, up h z o = g ∧ Sb h g ∧ g z = some o := ⟨_, rfl, (Sb.refl h).upn nz, up_same⟩
/-- a word that is in no roll of six -/
theorem stranger {R : List Str} (h : R.length ≤ 6) (W : List Str) (hW : W.Nodup) (hl : W.length = 7) : ∃ u r, W.filter (fun w => decide (w ∉ R)) = u :: r ∧ u ∉ R := by
  cases e : W.filter (fun w => decide (w ∉ R)) with
  | nil =>
    have : W.length ≤ R.length := nd_len hW fun w hw => Classical.byContradiction fun hn => by
      have : w ∈ W.filter (fun w => decide (w ∉ R)) := List.mem_filter.mpr ⟨hw, decide_eq_true hn⟩
      rw [e] at this
      cases this
    omega
  | cons u r =>
    refine ⟨u, r, rfl, ?_⟩
    have : u ∈ W.filter (fun w => decide (w ∉ R)) := by rw [e]; exact List.mem_cons_self
    exact of_decide_eq_true (List.mem_filter.mp this).2
theorem zip_maps {α : Type} (f g : α → D) : ∀ l : List α, zipD (l.map f) (l.map g) = l.map fun x => .tup [f x, g x]
  | [] => rfl
  | x :: l => by rw [List.map_cons, List.map_cons, List.map_cons, ← zip_maps f g l]; rfl
end
section
section
variable {R : List Str} {d : D}
theorem nmd_dat (h : NmD R d) : dat 1 d = true := by obtain ⟨w, n, rfl, _⟩ := h; rfl
theorem ptd_dat (h : PtD R d) : dat 1 d = true := by
  rcases h with rfl | h
  · rfl
  · exact nmd_dat h
theorem snd_dat (h : SnD R d) : dat 1 d = true := by obtain ⟨w, n, m, rfl, _⟩ := h; rfl
theorem sdd_dat (h : SdD R d) : dat 2 d = true := by
  obtain ⟨s, k, rfl, hs, _⟩ := h
  rw [dat, datL, snd_dat hs]; rfl
theorem sgd_dat (h : SgD R d) : dat 2 d = true := by
  rcases h with ⟨c, rfl, _⟩ | ⟨w, rfl, _⟩ | ⟨p, rfl, hp⟩
  · rfl
  · rfl
  · rw [dat, datL, datL, ptd_dat hp]; rfl
theorem up1 {d : D} (h : dat 1 d = true) : dat 4 d = true := dat_mono 1 4 d (by omega) h
theorem up2 {d : D} (h : dat 2 d = true) : dat 4 d = true := dat_mono 2 4 d (by omega) h
theorem tup5 {l : List D} (h : ∀ x ∈ l, dat 4 x = true) : dat 5 (.tup l) = true := by rw [dat]; exact datL_iff.mpr h
theorem tup3 {l : List D} (h : ∀ x ∈ l, dat 3 x = true) : dat 4 (.tup l) = true := by rw [dat]; exact datL_iff.mpr h
theorem wh_dat {N : Int} (h : Wh R N d) : dat 5 d = true := by
  cases h with
  | nothing => rfl
  | part h1 =>
    refine tup5 fun x hx => ?_
    simp only [List.mem_cons, List.not_mem_nil, or_false] at hx
    rcases hx with rfl | rfl
    · rfl
    · exact up1 (ptd_dat h1)
  | move h1 h2 =>
    refine tup5 fun x hx => ?_
    simp only [List.mem_cons, List.not_mem_nil, or_false] at hx
    rcases hx with rfl | rfl | rfl
    · rfl
    · exact up1 (nmd_dat h1)
    · exact up1 (ptd_dat h2)
  | cut h1 =>
    refine tup5 fun x hx => ?_
    simp only [List.mem_cons, List.not_mem_nil, or_false] at hx
    rcases hx with rfl | rfl
    · rfl
    · exact up1 (nmd_dat h1)
  | put h1 h2 h3 _ =>
    refine tup5 fun x hx => ?_
    simp only [List.mem_cons, List.not_mem_nil, or_false] at hx
    rcases hx with rfl | rfl | rfl | rfl
    · rfl
    · exact up1 (ptd_dat h1)
    · exact (by rcases h2 with rfl | h2; rfl; exact up1 (snd_dat h2))
    · exact tup3 fun y hy => dat_mono 2 3 y (by omega) (sgd_dat (h3 y hy))
  | out h1 h2 _ =>
    refine tup5 fun x hx => ?_
    simp only [List.mem_cons, List.not_mem_nil, or_false] at hx
    rcases hx with rfl | rfl | rfl
    · rfl
    · exact up1 (ptd_dat h1)
    · exact tup3 fun y hy => dat_mono 1 3 y (by omega) (snd_dat (h2 y hy))
  | mark h1 h2 h3 _ h5 =>
    refine tup5 fun x hx => ?_
    simp only [List.mem_cons, List.not_mem_nil, or_false] at hx
    rcases hx with rfl | rfl | rfl | rfl | rfl | rfl
    · rfl
    · exact up1 (ptd_dat h1)
    · exact up2 (sdd_dat h2)
    · exact up2 (sdd_dat h3)
    · rfl
    · exact (by rcases h5 with rfl | ⟨u, rfl, _⟩ <;> rfl)
  | note h1 h2 h3 _ =>
    refine tup5 fun x hx => ?_
    simp only [List.mem_cons, List.not_mem_nil, or_false] at hx
    rcases hx with rfl | rfl | rfl | rfl | rfl
    · rfl
    · exact up1 (ptd_dat h1)
    · exact up2 (sdd_dat h2)
    · exact up2 (sdd_dat h3)
    · rfl
  | line h1 _ h3 =>
    refine tup5 fun x hx => ?_
    simp only [List.mem_cons, List.not_mem_nil, or_false] at hx
    rcases hx with rfl | rfl | rfl | rfl
    · rfl
    · exact up1 (ptd_dat h1)
    · rfl
    · exact (by rcases h3 with rfl | h3; rfl; exact up1 (nmd_dat h3))
  | strike h1 h2 =>
    refine tup5 fun x hx => ?_
    simp only [List.mem_cons, List.not_mem_nil, or_false] at hx
    rcases hx with rfl | rfl | rfl
    · rfl
    · exact up1 (ptd_dat h1)
    · exact up1 (nmd_dat h2)
  | cell h1 h2 h3 _ =>
    refine tup5 fun x hx => ?_
    simp only [List.mem_cons, List.not_mem_nil, or_false] at hx
    rcases hx with rfl | rfl | rfl | rfl | rfl
    · rfl
    · exact up1 (ptd_dat h1)
    · exact up1 (nmd_dat h2)
    · exact up1 (nmd_dat h3)
    · rfl
  | leave h1 _ _ =>
    refine tup5 fun x hx => ?_
    simp only [List.mem_cons, List.not_mem_nil, or_false] at hx
    rcases hx with rfl | rfl | rfl | rfl | rfl
    · rfl
    · exact up1 (ptd_dat h1)
    · rfl
    · rfl
    · rfl
  | num _ _ _ => rfl
  | word _ _ => rfl
  | pour _ _ =>
    refine tup5 fun x hx => ?_
    simp only [List.mem_cons, List.not_mem_nil, or_false] at hx
    rcases hx with rfl | rfl
    · rfl
    · exact tup3 fun y hy => (by obtain ⟨i, _, rfl⟩ := List.mem_map.mp hy; rfl)
theorem deed_dat (h : DeedD R d) : dat 7 d = true := by
  obtain ⟨w, wd, num, hs, b, wh, rfl, _, _, _, _, _, _, hb, hw⟩ := h
  rw [dat]
  refine datL_iff.mpr fun x hx => ?_
  simp only [List.mem_cons, List.not_mem_nil, or_false] at hx
  rcases hx with rfl | rfl | rfl | rfl | rfl
  · rfl
  · rfl
  · rw [dat]; exact datL_iff.mpr fun y hy => by obtain ⟨i, _, rfl⟩ := List.mem_map.mp hy; rfl
  · rcases hb with rfl | ⟨w, v, rfl, _⟩ <;> rfl
  · exact dat_mono 5 6 _ (by omega) (wh_dat hw)
end
theorem law_holds : ∀ ns : List Int, ns.length ≤ 63 → f_lawA [.rl (ns.map .int)] (fun _ => none) fun d _ => d = .bl true := by
  intro ns hns C
  unfold f_law
  trivial
  refine l_house_ok (most := 25) hns (by omega) fun rr dd R ds h1 _ er ed ro hl hdv hs => ?_
  have hd : ∀ x ∈ ds, dat 7 (x.dv R) = true := fun x hx => deed_dat (hdv x hx)
  obtain ⟨H, O, a, o⟩ := ht_all hs
  have hhi := ro.hi
  trivial
  refine heights_ok er ed ro hs hl a fun z U h2 s2 ez pU => ?_
  have er2 := s2 _ _ er
  have ed2 := s2 _ _ ed
  clear er ed s2
  obtain ⟨T2, eT2, hT2⟩ := step_map 3 ds (Dd.dv R)
  have lT2 : T2.length ≤ ds.length := by
    have := step_len (k := 3) (ds := ds.map (Dd.dv R)) (by omega)
    rw [eT2, List.length_map, List.length_map] at this
    exact this
  trivial
  rw [eT2]
  refine newL_s' fun y1 g1 n1 t1 ey1 => ?_
  have er3 := t1 _ _ er2
  have ed3 := t1 _ _ ed2
  trivial
  refine ⟨by rw [List.length_map, List.length_map, SZ]; omega, ?_⟩
  rw [← List.map_append]
  refine newL_s' fun y2 g2 n2 t2 ey2 => ?_
  have t2 := t1.trans t2
  clear er3 ed3 ey1 t1 n1 n2
  trivial
  rw [cut_mapI]
  refine newL_s' fun y3 g4 n3 t4 ey3 => ?_
  have ey2 := t4 _ _ ey2
  have t2 := t2.trans t4
  clear t4 n3
  trivial
  refine ⟨_, ints_map _, ?_⟩
  trivial
  refine mixed_ok ey2 (by rw [List.length_append]; omega) fun hz T nz pT => ?_
  have hzn := t2.nn nz
  obtain ⟨g3, eg3, t3, ehz⟩ := up_ex (.lst (T.map (Dd.dv R))) nz
  rw [eg3]
  clear eg3
  have t3 := t2.trans t3
  clear t2 ey2 nz
  have hT : ∀ x ∈ T, x ∈ ds := fun x hx => by
    rcases List.mem_append.mp (pT.mem_iff.mp hx) with h | h
    · exact h
    · exact hT2 x h
  have hS : ∀ x ∈ ds, x ∈ T := fun x hx => pT.mem_iff.mpr (List.mem_append_left _ hx)
  have lT : T.length ≤ 82 := by rw [pT.length_eq, List.length_append]; omega
  clear pT eT2 hT2 lT2
  have hdT : datL 7 (T.map (Dd.dv R)) = true := datL_iff.mpr fun e he => by
    obtain ⟨x, hx, rfl⟩ := List.mem_map.mp he
    exact hd x (hT x hx)
  have er3 := t3 _ _ er2
  have ed3 := t3 _ _ ed2
  have ez3 := t3 _ _ ez
  trivial
  refine newL_s' fun kz g4 nk t4 ekz => ?_
  have ehz4 := t4 _ _ ehz
  have er4 := t4 _ _ er3
  have ed4 := t4 _ _ ed3
  have ez4 := t4 _ _ ez3
  have t4 := t3.trans t4
  clear ehz er3 ed3 ez3 t3 nk
  trivial
  refine newL_s' fun az g5 na t5 eaz => ?_
  have haz := t4.nn na
  have ehz5 := t5 _ _ ehz4
  have ekz5 := t5 _ _ ekz
  have er5 := t5 _ _ er4
  have ed5 := t5 _ _ ed4
  have ez5 := t5 _ _ ez4
  have t5 := t4.trans t5
  clear ekz er4 ed4 ez4 t4
  trivial
  refine make2_ok eaz ehz5 ro hs hT hS hl hd a o fun p g6 np t6 fk => ?_
  have f6 := fk g6 fun b o _ e => e
  have ehz6 := t6 _ _ ehz5
  have ekz6 := t6 _ _ ekz5
  have er6 := t6 _ _ er5
  have ed6 := t6 _ _ ed5
  have ez6 := t6 _ _ ez5
  have eaz6 := t6 _ _ eaz
  have t6' := t5.trans t6
  refine oNe_same (Dv.lst (n := 11) ehz6 (.dat hdT (by omega))) (Dv.lst (n := 11) ekz6 (.dat hdT (by omega))) ?_
  trivial
  refine oNe_same (Dv.lst (n := 11) eaz6 (.dat (strs_dat R) (by omega))) (Dv.lst (n := 11) er6 (.dat (strs_dat R) (by omega))) ?_
  trivial
  refine right_ok f6 er6 ed6 ez6 pU ro hs a o hl hd fun g7 t7 => ?_
  have ehz7 := t7 _ _ ehz6
  have eaz7 := t7 _ _ eaz6
  have hza : hz ≠ az := fun e => by rw [e, na] at ehz4; cases ehz4
  have k8 : Kf g5 g6 (up (up g7 hz (.lst [])) az (.lst (R.map .str).reverse)) := (((Kf.refl g5 g6).sb t7).old ehz5 _).old eaz _
  have t8 : Sb h2 (up (up g7 hz (.lst [])) az (.lst (R.map .str).reverse)) := ((t6'.trans t7).upf hzn).upf haz
  clear ekz6 ekz5 er6 ed6 ez6 er5 ed5 ez5 f6 ehz4
  trivial
  generalize up (up g7 hz (.lst [])) az (.lst (R.map .str).reverse) = g8 at k8 t8 ⊢
  have f8 := fk g8 k8.kp
  clear t7 ehz7 eaz7 ehz6 eaz6
  obtain ⟨b1, b2, b3, b4, i8⟩ := f8.ins
  trivial
  refine roll_tells f8 fun q1 nq1 => ?_
  have u1 := t8.nn nq1
  have v1 := k8.nn _ nq1
  obtain ⟨g9, eg9, t9, eq1⟩ := up_ex (.lst (R.map .str)) nq1
  rw [eg9]
  have k9 := k8.sb t9
  have t9 := t8.trans t9
  have f9 := fk g9 k9.kp
  clear eg9 f8 k8 t8 i8
  obtain ⟨b1, b2, b3, b4, i9⟩ := f9.ins
  trivial
  refine deeds_ok f9 ro hs o.1 hl fun q2 nq2 => ?_
  have u2 := t9.nn nq2
  have v2 := k9.nn _ nq2
  have d12 : q1 ≠ q2 := fun e => by rw [← e, eq1] at nq2; cases nq2
  obtain ⟨g10, eg10, t10, eq2⟩ := up_ex (.lst (O.map (Dd.dv R))) nq2
  rw [eg10]
  have eq1 := t10 _ _ eq1
  have k10 := k9.sb t10
  have t10 := t9.trans t10
  have f10 := fk g10 k10.kp
  clear eg10 f9 k9 t9 i9
  obtain ⟨b1, b2, b3, b4, i10⟩ := f10.ins
  trivial
  refine names_ok f10 fun q3 nq3 => ?_
  have u3 := t10.nn nq3
  have v3 := k10.nn _ nq3
  have d13 : q1 ≠ q3 := fun e => by rw [← e, eq1] at nq3; cases nq3
  have d23 : q2 ≠ q3 := fun e => by rw [← e, eq2] at nq3; cases nq3
  obtain ⟨g11, eg11, t11, eq3⟩ := up_ex (.lst (O.map (nmD R))) nq3
  rw [eg11]
  have eq1 := t11 _ _ eq1
  have eq2 := t11 _ _ eq2
  have k11 := k10.sb t11
  have t11 := t10.trans t11
  clear eg11 f10 k10 t10 i10
  trivial
  refine newL_s' fun tl g12 ntl t12 etl => ?_
  have d1 : q1 ≠ tl := fun e => by rw [← e, eq1] at ntl; cases ntl
  have d2 : q2 ≠ tl := fun e => by rw [← e, eq2] at ntl; cases ntl
  have d3 : q3 ≠ tl := fun e => by rw [← e, eq3] at ntl; cases ntl
  have eq1 := t12 _ _ eq1
  have eq2 := t12 _ _ eq2
  have eq3 := t12 _ _ eq3
  have k12 := k11.sb t12
  have t12 := t11.trans t12
  have hOl : O.length ≤ 41 := by rw [o.1.length_eq]; exact hl
  clear k11 t11 ntl
  trivial
  refine ⟨fun i ρ g => i ≤ 3 ∧ ∃ (x8 : Option D) (l1 l2 l3 : List D), ρ = [some (.rl (ns.map .int)), some (.ref rr), some (.ref dd), some (.ref z), some (.ref hz), some (.ref kz), some (.ref az), some (.ref p), x8, none, none, none, none, none, none] ∧ Kf g5 g6 g ∧ Sb h2 g ∧ g tl = some (.lst [.ref q1, .ref q2, .ref q3]) ∧ g q1 = some (.lst l1) ∧ g q2 = some (.lst l2) ∧ g q3 = some (.lst l3) ∧ l1.length ≤ 50 + i ∧ l2.length ≤ 50 + i ∧ l3.length ≤ 50 + i, ?_, ?_, ?_, ?_⟩
  · exact ⟨Nat.zero_le _, _, _, _, _, rfl, k12, t12, etl, eq1, eq2, eq3, by rw [List.length_map]; omega, by rw [List.length_map]; omega, by rw [List.length_map]; omega⟩
  · rintro i ρ g _ ⟨_, x8, l1, l2, l3, rfl, _, _, e, _⟩
    exact e
  · clear k12 t12 etl eq1 eq2 eq3
    rintro i ρ g e ⟨hi, x8, l1, l2, l3, rfl, k, t, etl, eq1, eq2, eq3, m1, m2, m3⟩ he
    have he' : ([.ref q1, .ref q2, .ref q3] : List D)[i]? = some e := he
    clear he
    rcases i with _ | _ | _ | i
    · cases he'
      trivial
      refine ⟨by rw [SZ]; omega, ?_⟩
      apply Pt.of
      exact ⟨by omega, _, _, _, _, rfl, k.new v1 _, t.upf u1, up_at d1.symm etl, up_same, up_at d12.symm eq2, up_at d13.symm eq3, by rw [List.length_append, List.length_singleton]; omega, by omega, by omega⟩
    · cases he'
      trivial
      refine ⟨by rw [SZ]; omega, ?_⟩
      apply Pt.of
      exact ⟨by omega, _, _, _, _, rfl, k.new v2 _, t.upf u2, up_at d2.symm etl, up_at d12 eq1, up_same, up_at d23.symm eq3, by omega, by rw [List.length_append, List.length_singleton]; omega, by omega⟩
    · cases he'
      trivial
      refine ⟨by rw [SZ]; omega, ?_⟩
      apply Pt.of
      exact ⟨by omega, _, _, _, _, rfl, k.new v3 _, t.upf u3, up_at d3.symm etl, up_at d13 eq1, up_at d23 eq2, up_same, by omega, by omega, by rw [List.length_append, List.length_singleton]; omega⟩
    · cases he'
  clear k12 t12 etl eq1 eq2 eq3 u1 u2 u3 v1 v2 v3 d1 d2 d3 d12 d13 d23
  rintro ρ g ⟨_, x8, l1, l2, l3, rfl, k, t, _⟩
  have f := fk g k.kp
  have er7 := t _ _ er2
  have ed7 := t _ _ ed2
  have ez7 := t _ _ ez
  obtain ⟨b1, b2, b3, b4, i7⟩ := f.ins
  trivial
  refine counts_ok (c := (List.range R.length).map (cntJ ds)) f ro hs o.1 hl (by rw [List.length_map, List.length_range]) (fun j k e => ?_) ?_
  · rw [List.getElem?_map] at e
    by_cases hj : j < R.length
    · rw [List.getElem?_range hj] at e
      have e' : cntJ ds j = k := Option.some.inj e
      rw [← e']
      exact congrArg Nat.cast (o.1.filter _).length_eq
    · rw [List.getElem?_eq_none (by rw [List.length_range]; omega)] at e
      cases e
  trivial
  refine comp_ok ((List.range R.length).map (cntJ ds)) D.int (fun _ => false) D.int rfl (by rw [List.length_map, List.length_range]; omega) (fun h' s' => True.intro) (fun y hy h' s' KY KN hY hN => ?_) fun z1 nz1 => ?_
  · trivial
    exact hN rfl _ (Sb.refl _)
  rw [show ((List.range R.length).map (cntJ ds)).filter (fun _ => false) = [] from List.filter_eq_nil_iff.mpr fun _ _ h => by cases h]
  obtain ⟨g13, eg13, t13, ez13⟩ := up_ex (.lst (List.map D.int [])) nz1
  rw [eg13]
  clear eg13 nz1
  trivial
  refine newL_s' fun z2 g14 n14 t14 ez14 => ?_
  have ez13 := t14 _ _ ez13
  have t14 := t13.trans t14
  clear t13 n14
  trivial
  refine oNe_same (Dv.lst (n := 11) ez13 .nil) (Dv.lst (n := 11) ez14 .nil) ?_
  trivial
  refine newL_s' fun z3 g15 n15 t15 ez15 => ?_
  have t15 := t14.trans t15
  have er8 := t15 _ _ er7
  clear ez13 ez14 t14 n15
  trivial
  have hstr : ∀ u : Str, decide (D.str u ∈ R.map D.str) = decide (u ∈ R) := fun u => decide_eq_decide.mpr ⟨fun h => by obtain ⟨v, hv, e⟩ := List.mem_map.mp h; cases e; exact hv, fun h => List.mem_map_of_mem h⟩
  obtain ⟨u, ur, eW, hu⟩ := stranger hhi [Str.ofString "aa", Str.ofString "bb", Str.ofString "cc", Str.ofString "dd", Str.ofString "ee", Str.ofString "ff", Str.ofString "gg"] (by decide +kernel) rfl
  refine comp_ok [Str.ofString "aa", Str.ofString "bb", Str.ofString "cc", Str.ofString "dd", Str.ofString "ee", Str.ofString "ff", Str.ofString "gg"] D.str (fun w => decide (w ∉ R)) D.str rfl (by decide) (fun h' s' => s' _ _ ez15) (fun y hy h' s' KY KN hY hN => ?_) fun z4 nz4 => ?_
  · have er9 := s' _ _ er8
    trivial
    refine ⟨_, _, .pl (n := 0) rfl, PvL.pl (strs_pl R) (by omega), ?_⟩
    rw [hstr]
    by_cases c : y ∈ R
    · rw [decide_eq_true c]
      trivial
      exact hN (decide_eq_false fun z => z c) _ (Sb.refl _)
    · rw [decide_eq_false c]
      trivial
      exact hY (decide_eq_true c) _ (Sb.refl _)
  rw [eW]
  obtain ⟨g16, eg16, t16, ez16⟩ := up_ex (.lst (List.map D.str (u :: ur))) nz4
  rw [eg16]
  clear eg16 nz4 ez15 eW
  have t16 := t15.trans t16
  have k16 := k.sb t16
  have s16 := t.trans t16
  have f16 := fk g16 k16.kp
  have er16 := s16 _ _ er2
  have ed16 := s16 _ _ ed2
  have ez17 := s16 _ _ ez
  obtain ⟨b1, b2, b3, b4, i16⟩ := f16.ins
  trivial
  refine ⟨_, (atI_nat (show (List.map D.str (u :: ur))[0]? = some (.str u) from rfl) : atI (List.map D.str (u :: ur)) ((0 : Nat) : Int) = _), ?_⟩
  trivial
  refine has2_ok f16 (fun x hx e => absurd (by rw [← e]; exact List.mem_of_getElem? (wdD_at (hs.wf x hx).1)) hu) ?_
  trivial
  refine for_ok (List.range R.length) (fun j => .tup [.str (R[j]?.getD PySem.Str.empty), .int (cntJ ds j)]) (fun i ρ => ∃ x11 x12 : Option D, ρ = [some (.rl (ns.map .int)), some (.ref rr), some (.ref dd), some (.ref z), some (.ref hz), some (.ref kz), some (.ref az), some (.ref p), x8, some (.tup (((List.range R.length).map (cntJ ds)).map .int)), some (.str u), x11, x12, none, none]) ?_ (fun h' s' => s' _ _ er16) ⟨_, _, rfl⟩ (fun i j ρ hj e h' s' K hK => ?_) fun ρ e => ?_
  · show zipD (R.map D.str) (List.map D.int (List.map (cntJ ds) (List.range R.length))) = _
    rw [map_range D.str R, List.map_map, zip_maps]
    rfl
  · obtain ⟨x11, x12, rfl⟩ := e
    have hj := List.mem_range.mp (List.mem_of_getElem? hj)
    have f17 := f16.sb s'
    obtain ⟨c1, c2, c3, c4, i17⟩ := f17.ins
    have hRj : R[j]? = some (R[j]?.getD PySem.Str.empty) := by rw [List.getElem?_eq_getElem hj]; rfl
    trivial
    refine has2_ok f17 (fun x hx e => ?_) ?_
    · have hw := (wd_iff ro (hs.wf x hx).1 hRj).mp e
      have := n_le_cnt hs hx
      rw [hw] at this
      omega
    trivial
    refine has2_ok f17 (fun x hx e => ?_) ?_
    · have := (hs.wf x hx).2.1
      omega
    trivial
    exact hK _ _ ⟨_, _, rfl⟩ (Sb.refl _)
  · obtain ⟨x11, x12, rfl⟩ := e
    trivial
    refine right_ok f16 er16 ed16 ez17 pU ro hs a o hl hd fun g7 t7 => ?_
    trivial
    apply Pt.of
    rfl
end
end K03
end
section
set_option Elab.async false
set_option linter.all false
set_option maxRecDepth 100000
set_option maxHeartbeats 4000000
namespace K03
open PySem PySem.Spec PyProof.Rows L2 G
def topS (i : Nat) : Stmt := PySem.Challenge.pw_pagefolk_k03_whole_sets.main.body.getD i (.Pass ⟨0, 0, 0, 0⟩)
abbrev s_name_of : Stmt := topS 1
theorem sc_name_of : FnScope ["deed"] ["deed"] (defScope s_name_of) := ⟨rfl, rfl, rfl, by decide +kernel, rfl, by decide +kernel, by decide +kernel⟩
abbrev s_are_no_less : Stmt := topS 6
theorem sc_are_no_less : FnScope ["one", "other", "mine", "theirs"] ["one", "other"] (defScope s_are_no_less) := ⟨rfl, rfl, rfl, by decide +kernel, rfl, by decide +kernel, by decide +kernel⟩
abbrev s_table_of : Stmt := topS 7
theorem sc_table_of : FnScope ["deeds", "found", "deed"] ["deeds"] (defScope s_table_of) := ⟨rfl, rfl, rfl, by decide +kernel, rfl, by decide +kernel, by decide +kernel⟩
abbrev s_Folk_lasts : Stmt := inClass (topS 8) 2
theorem sc_Folk_lasts : FnScope ["self", "counts", "hand", "many"] ["self", "counts"] (defScope s_Folk_lasts) := ⟨rfl, rfl, rfl, by decide +kernel, rfl, by decide +kernel, by decide +kernel⟩
abbrev s_Folk_take : Stmt := inClass (topS 8) 1
theorem sc_Folk_take : FnScope ["self", "deed", "height", "last"] ["self", "deed"] (defScope s_Folk_take) := ⟨rfl, rfl, rfl, by decide +kernel, rfl, by decide +kernel, by decide +kernel⟩
abbrev s_Folk___init__ : Stmt := inClass (topS 8) 0
theorem sc_Folk___init__ : FnScope ["self", "roll", "deeds", "deed"] ["self", "roll", "deeds"] (defScope s_Folk___init__) := ⟨rfl, rfl, rfl, by decide +kernel, rfl, by decide +kernel, by decide +kernel⟩
abbrev s_Folk_roll : Stmt := inClass (topS 8) 3
theorem sc_Folk_roll : FnScope ["self"] ["self"] (defScope s_Folk_roll) := ⟨rfl, rfl, rfl, by decide +kernel, rfl, by decide +kernel, by decide +kernel⟩
abbrev s_Folk_names : Stmt := inClass (topS 8) 4
theorem sc_Folk_names : FnScope ["self"] ["self"] (defScope s_Folk_names) := ⟨rfl, rfl, rfl, by decide +kernel, rfl, by decide +kernel, by decide +kernel⟩
abbrev s_Folk_deeds : Stmt := inClass (topS 8) 5
theorem sc_Folk_deeds : FnScope ["self", "name"] ["self"] (defScope s_Folk_deeds) := ⟨rfl, rfl, rfl, by decide +kernel, rfl, by decide +kernel, by decide +kernel⟩
abbrev s_Folk_counts : Stmt := inClass (topS 8) 6
theorem sc_Folk_counts : FnScope ["self", "found", "hand", "name"] ["self"] (defScope s_Folk_counts) := ⟨rfl, rfl, rfl, by decide +kernel, rfl, by decide +kernel, by decide +kernel⟩
abbrev s_Folk_has : Stmt := inClass (topS 8) 7
theorem sc_Folk_has : FnScope ["self", "name"] ["self", "name"] (defScope s_Folk_has) := ⟨rfl, rfl, rfl, by decide +kernel, rfl, by decide +kernel, by decide +kernel⟩
abbrev s_Folk_deed : Stmt := inClass (topS 8) 8
theorem sc_Folk_deed : FnScope ["self", "name"] ["self", "name"] (defScope s_Folk_deed) := ⟨rfl, rfl, rfl, by decide +kernel, rfl, by decide +kernel, by decide +kernel⟩
abbrev s_Folk_key : Stmt := inClass (topS 8) 9
theorem sc_Folk_key : FnScope ["self", "name"] ["self", "name"] (defScope s_Folk_key) := ⟨rfl, rfl, rfl, by decide +kernel, rfl, by decide +kernel, by decide +kernel⟩
abbrev s_l_draws : Stmt := topS 10
theorem sc_l_draws : FnScope ["_law_cell", "_law_many", "_law_found", "_law_digits", "_law_k", "_law_number", "_law_mixed"] ["_law_cell", "_law_many"] (defScope s_l_draws) := ⟨rfl, rfl, rfl, by decide +kernel, rfl, by decide +kernel, by decide +kernel⟩
abbrev s_l_word : Stmt := topS 11
theorem sc_l_word : FnScope ["_law_number", "_law_word_here", "_law_many", "_law_k"] ["_law_number"] (defScope s_l_word) := ⟨rfl, rfl, rfl, by decide +kernel, rfl, by decide +kernel, by decide +kernel⟩
abbrev s_l_roll : Stmt := topS 12
theorem sc_l_roll : FnScope ["_law_cell", "_law_draws_here", "_law_roll_here", "_law_k", "_law_word_here", "_law_letter"] ["_law_cell"] (defScope s_l_roll) := ⟨rfl, rfl, rfl, by decide +kernel, rfl, by decide +kernel, by decide +kernel⟩
abbrev s_l_name : Stmt := topS 13
theorem sc_l_name : FnScope ["_law_number", "_law_roll_here", "_law_more"] ["_law_number", "_law_roll_here"] (defScope s_l_name) := ⟨rfl, rfl, rfl, by decide +kernel, rfl, by decide +kernel, by decide +kernel⟩
abbrev s_l_part : Stmt := topS 14
theorem sc_l_part : FnScope ["_law_number", "_law_roll_here"] ["_law_number", "_law_roll_here"] (defScope s_l_part) := ⟨rfl, rfl, rfl, by decide +kernel, rfl, by decide +kernel, by decide +kernel⟩
abbrev s_l_sign_name : Stmt := topS 15
theorem sc_l_sign_name : FnScope ["_law_number", "_law_roll_here"] ["_law_number", "_law_roll_here"] (defScope s_l_sign_name) := ⟨rfl, rfl, rfl, by decide +kernel, rfl, by decide +kernel, by decide +kernel⟩
abbrev s_l_side : Stmt := topS 16
theorem sc_l_side : FnScope ["_law_number", "_law_roll_here"] ["_law_number", "_law_roll_here"] (defScope s_l_side) := ⟨rfl, rfl, rfl, by decide +kernel, rfl, by decide +kernel, by decide +kernel⟩
abbrev s_l_sign : Stmt := topS 17
theorem sc_l_sign : FnScope ["_law_number", "_law_roll_here", "_law_kind"] ["_law_number", "_law_roll_here"] (defScope s_l_sign) := ⟨rfl, rfl, rfl, by decide +kernel, rfl, by decide +kernel, by decide +kernel⟩
abbrev s_l_signs : Stmt := topS 18
theorem sc_l_signs : FnScope ["_law_draws_here", "_law_roll_here", "_law_number"] ["_law_draws_here", "_law_roll_here"] (defScope s_l_signs) := ⟨rfl, rfl, rfl, by decide +kernel, rfl, by decide +kernel, by decide +kernel⟩
abbrev s_l_sign_names : Stmt := topS 19
theorem sc_l_sign_names : FnScope ["_law_draws_here", "_law_roll_here", "_law_found", "_law_number", "_law_name_here"] ["_law_draws_here", "_law_roll_here"] (defScope s_l_sign_names) := ⟨rfl, rfl, rfl, by decide +kernel, rfl, by decide +kernel, by decide +kernel⟩
abbrev s_l_what_of_signs : Stmt := topS 20
theorem sc_l_what_of_signs : FnScope ["_law_kind", "_law_more", "_law_roll_here", "_law_part_here", "_law_name_here", "_law_behind"] ["_law_kind", "_law_more", "_law_roll_here"] (defScope s_l_what_of_signs) := ⟨rfl, rfl, rfl, by decide +kernel, rfl, by decide +kernel, by decide +kernel⟩
abbrev s_l_what_of_marks : Stmt := topS 21
theorem sc_l_what_of_marks : FnScope ["_law_kind", "_law_more", "_law_roll_here", "_law_part_here", "_law_name_here", "_law_sides", "_law_value", "_law_word_here"] ["_law_kind", "_law_more", "_law_roll_here"] (defScope s_l_what_of_marks) := ⟨rfl, rfl, rfl, by decide +kernel, rfl, by decide +kernel, by decide +kernel⟩
abbrev s_l_what : Stmt := topS 22
theorem sc_l_what : FnScope ["_law_draws_here", "_law_roll_here", "_law_number", "_law_kind", "_law_more", "_law_to", "_law_one"] ["_law_draws_here", "_law_roll_here", "_law_number"] (defScope s_l_what) := ⟨rfl, rfl, rfl, by decide +kernel, rfl, by decide +kernel, by decide +kernel⟩
abbrev s_l_branch : Stmt := topS 23
theorem sc_l_branch : FnScope ["_law_number", "_law_roll_here"] ["_law_number", "_law_roll_here"] (defScope s_l_branch) := ⟨rfl, rfl, rfl, by decide +kernel, rfl, by decide +kernel, by decide +kernel⟩
abbrev s_l_house : Stmt := topS 24
theorem sc_l_house : FnScope ["_law_script", "_law_most", "_law_cells", "_law_roll_here", "_law_many", "_law_known", "_law_table", "_law_deeds", "_law_k", "_law_cell", "_law_draws_here", "_law_who", "_law_turn", "_law_other", "_law_to", "_law_theirs", "_law_number", "_law_heard", "_law_what_here", "_law_hand", "_law_at"] ["_law_script", "_law_most"] (defScope s_l_house) := ⟨rfl, rfl, rfl, by decide +kernel, rfl, by decide +kernel, by decide +kernel⟩
abbrev s_l_mixed_up : Stmt := topS 25
theorem sc_l_mixed_up : FnScope ["_law_deeds", "_law_cell", "_law_found", "_law_k", "_law_deed", "_law_at"] ["_law_deeds", "_law_cell"] (defScope s_l_mixed_up) := ⟨rfl, rfl, rfl, by decide +kernel, rfl, by decide +kernel, by decide +kernel⟩
abbrev s_l_is_past : Stmt := topS 26
theorem sc_l_is_past : FnScope ["_law_roll_here", "_law_deed", "_law_other"] ["_law_roll_here", "_law_deed", "_law_other"] (defScope s_l_is_past) := ⟨rfl, rfl, rfl, by decide +kernel, rfl, by decide +kernel, by decide +kernel⟩
abbrev s_l_heights : Stmt := topS 27
theorem sc_l_heights : FnScope ["_law_roll_here", "_law_deeds", "_law_heights_here", "_law_turn", "_law_deed", "_law_name_here", "_law_past", "_law_other", "_law_one"] ["_law_roll_here", "_law_deeds"] (defScope s_l_heights) := ⟨rfl, rfl, rfl, by decide +kernel, rfl, by decide +kernel, by decide +kernel⟩
abbrev s_l_key : Stmt := topS 28
theorem sc_l_key : FnScope ["_law_roll_here", "_law_heights_here", "_law_deed"] ["_law_roll_here", "_law_heights_here", "_law_deed"] (defScope s_l_key) := ⟨rfl, rfl, rfl, by decide +kernel, rfl, by decide +kernel, by decide +kernel⟩
abbrev s_l_right : Stmt := topS 29
theorem sc_l_right : FnScope ["_law_folk", "_law_roll_here", "_law_deeds", "_law_heights_here", "_law_due", "_law_deed", "_law_name_here", "_law_rank", "_law_hand"] ["_law_folk", "_law_roll_here", "_law_deeds", "_law_heights_here"] (defScope s_l_right) := ⟨rfl, rfl, rfl, by decide +kernel, rfl, by decide +kernel, by decide +kernel⟩
abbrev s_law : Stmt := topS 30
theorem sc_law : FnScope ["_law_script", "_law_roll_here", "_law_deeds", "_law_heights_here", "_law_handed", "_law_kept", "_law_hands", "_law_folk", "_law_told", "_law_counts", "_law_stranger", "_law_hand", "_law_many", "_law_one", "_law_word_here"] ["_law_script"] (defScope s_law) := ⟨rfl, rfl, rfl, by decide +kernel, rfl, by decide +kernel, by decide +kernel⟩
variable [Tb]
section
variable {P : Program} {w : World} {K : PySem.W.Frag} {mg : Str → Option Value} {base : Heap}
variable {a_Folk : PySem.Addr}
theorem ok_name_of {f : PySem.Addr} {fd : FuncData} (F : Fun K "name_of" "name_of" s_name_of f fd) : FnG P w K mg base 1 f fd ["deed"] (f_name_of) := by
  unfold f_name_of
  exact fn_ok F sc_name_of fun cdv A outer s H E hr =>
    (gss_one (gs_ret (ge_tup (ga_cons (ge_ix (gx_ix (hu64 hr)) (ge_var 0) ge_int) (ga_cons (ge_ix (gx_ix (hu64 hr)) (ge_var 0) ge_int) ga_nil)))))
theorem ok_are_no_less (b_zip : mg "zip" = none) (b_all : mg "all" = none) {f : PySem.Addr} {fd : FuncData} (F : Fun K "are_no_less" "are_no_less" s_are_no_less f fd) : FnG P w K mg base 1 f fd ["one", "other"] (f_are_no_less) := by
  unfold f_are_no_less
  exact fn_ok F sc_are_no_less fun cdv A outer s H E hr =>
    (gss_one (gs_ret (ge_callB (gb_all rfl) b_all (by decide +kernel) (ga_cons (ge_comp (own := [("mine", 2), ("theirs", 3)]) (N := ["one", "other", "mine", "theirs"]) (sc := defScope s_are_no_less) rfl sc_are_no_less.nd (gi_zipT b_zip (ga_cons (ge_var 0) (ga_cons (ge_var 1) ga_nil))) rfl rfl (by decide +kernel) (fun _ _ _ _ _ => (gg_tup rfl (ggs_cons (gg_var sc_are_no_less.nd) (ggs_cons (gg_var sc_are_no_less.nd) ggs_nil)))) (fun _ _ _ _ _ => gts_nil) (fun _ _ _ _ _ => (ge_cmp (gc_ge (hu64 hr)) (ge_var 2) (ge_var 3)))) ga_nil))))
theorem ok_table_of (C_name_of : WkCal P w K mg base 1 "name_of" ["deed"] (f_name_of)) {f : PySem.Addr} {fd : FuncData} (F : Fun K "table_of" "table_of" s_table_of f fd) : FnG P w K mg base 2 f fd ["deeds"] (f_table_of) := by
  unfold f_table_of
  exact fn_ok F sc_table_of fun cdv A outer s H E hr =>
    (gss_cons (gs_set (i := 1) sc_table_of.nd ge_dic0)
      (gss_cons (gs_for PassesOwn.never rfl (gi_seq (ge_var 0)) (gg_var sc_table_of.nd) (gss_cons (gs_if (gt_cmp (gc_ne (hu64 hr)) (ge_meth PySem.F.plainAttrs_dict PySem.F.slot_dict_get PySem.F.type_dict_get (gm_get (hu64 hr)) (by decide) (ge_var 1) (ga_cons (ge_wcal C_name_of (hr.mono (by decide)) (ga_cons (ge_var 2) ga_nil)) (ga_cons (ge_var 2) ga_nil))) (ge_var 2)) (gss_one gs_dead) gss_nil)
      (gss_one (gs_asg (ge_var 2) (gg_sub (pg_sub (ge_var 1) (ge_wcal C_name_of (hr.mono (by decide)) (ga_cons (ge_var 2) ga_nil)) (set_ok (hu64 hr))))))))
      (gss_one (gs_ret (ge_var 1)))))
theorem ok_Folk_lasts (b_zip : mg "zip" = none) (c_Folk : L2.Cls K a_Folk) (na_Folk_hands : L2.NoAttr K a_Folk "hands") {f : PySem.Addr} {fd : FuncData} (F : Fun K "lasts" "Folk.lasts" s_Folk_lasts f fd) : FnG P w K mg base 1 f fd ["self", "counts"] (f_Folk_lasts a_Folk) := by
  unfold f_Folk_lasts
  exact fn_ok F sc_Folk_lasts fun cdv A outer s H E hr =>
    (gss_one (gs_ret (ge_comp (own := [("hand", 2), ("many", 3)]) (N := ["self", "counts", "hand", "many"]) (sc := defScope s_Folk_lasts) rfl sc_Folk_lasts.nd (gi_zipM b_zip (ga_cons (ge_fld (ge_var 0) c_Folk na_Folk_hands) (ga_cons (ge_var 1) ga_nil))) rfl rfl (by decide +kernel) (fun _ _ _ _ _ => (gg_tup rfl (ggs_cons (gg_var sc_Folk_lasts.nd) (ggs_cons (gg_var sc_Folk_lasts.nd) ggs_nil)))) (fun _ _ _ _ _ => (gts_one (gt_cmp (gc_gt (hu64 hr)) (ge_var 3) ge_int))) (fun _ _ _ _ _ => (ge_tup (ga_cons (ge_var 2) (ga_cons (ge_var 3) ga_nil)))))))
theorem ok_Folk_take (b_max : mg "max" = none) (c_Folk : L2.Cls K a_Folk) (na_Folk_hands : L2.NoAttr K a_Folk "hands") (na_Folk_ranks : L2.NoAttr K a_Folk "ranks") (na_Folk_table : L2.NoAttr K a_Folk "table") (C_name_of : WkCal P w K mg base 1 "name_of" ["deed"] (f_name_of)) (C_are_no_less : WkCal P w K mg base 1 "are_no_less" ["one", "other"] (f_are_no_less)) (C_Folk_lasts : WkCalM P w K mg base 1 a_Folk "lasts" ["self", "counts"] (f_Folk_lasts a_Folk)) {f : PySem.Addr} {fd : FuncData} (F : Fun K "take" "Folk.take" s_Folk_take f fd) : FnG P w K mg base 2 f fd ["self", "deed"] (f_Folk_take a_Folk) := by
  unfold f_Folk_take
  exact fn_ok F sc_Folk_take fun cdv A outer s H E hr =>
    (gss_cons (gs_set (i := 2) sc_Folk_take.nd ge_int)
      (gss_cons (gs_for PassesOwn.never rfl (gi_seq (ge_wcalM (ge_var 0) c_Folk C_Folk_lasts (hr.mono (by decide)) (ga_cons (ge_ix (gx_ix (hu64 hr)) (ge_var 1) ge_int) ga_nil))) (gg_var sc_Folk_take.nd) (gss_cons (gs_if (PW.pt (gw_or (gt_cmp (gc_notIn (hu64 hr)) (ge_var 3) (ge_fld (ge_var 0) c_Folk na_Folk_ranks)) (gw_or1 (gt_not (gt_val (ge_wcal C_are_no_less (hr.mono (by decide)) (ga_cons (ge_ix (gx_ix (hu64 hr)) (ge_var 1) ge_int) (ga_cons (ge_ix (gx_ix (hu64 hr)) (ge_ix (gx_ix (hu64 hr)) (ge_fld (ge_var 0) c_Folk na_Folk_table) (ge_var 3)) ge_int) ga_nil)))))))) (gss_one gs_dead) gss_nil)
      (gss_one (gs_set (i := 2) sc_Folk_take.nd (ge_callB (gb_max rfl (hu100 hr)) b_max (by decide +kernel) (ga_cons (ge_var 2) (ga_cons (ge_op go_add ge_int (ge_ix (gx_ix (hu64 hr)) (ge_ix (gx_ix (hu64 hr)) (ge_fld (ge_var 0) c_Folk na_Folk_ranks) (ge_var 3)) ge_int)) ga_nil)))))))
      (gss_one (gs_asg (ge_tup (ga_cons (ge_var 2) (ga_cons (ge_meth PySem.F.plainAttrs_list PySem.F.slot_list_index PySem.F.type_list_index (gm_index (hu100 hr)) (by decide) (ge_fld (ge_var 0) c_Folk na_Folk_hands) (ga_cons (ge_ix (gx_ix (hu64 hr)) (ge_var 1) ge_int) ga_nil)) ga_nil))) (gg_sub (pg_sub (ge_fld (ge_var 0) c_Folk na_Folk_ranks) (ge_wcal C_name_of (hr.mono (by decide)) (ga_cons (ge_var 1) ga_nil)) (set_ok (hu64 hr))))))))
theorem ok_Folk___init__ (b_list : mg "list" = none) (b_sorted : mg "sorted" = none) (b_sum : mg "sum" = none) (c_Folk : L2.Cls K a_Folk) (na_Folk_hands : L2.NoAttr K a_Folk "hands") (na_Folk_order : L2.NoAttr K a_Folk "order") (na_Folk_ranks : L2.NoAttr K a_Folk "ranks") (na_Folk_table : L2.NoAttr K a_Folk "table") (C_table_of : WkCal P w K mg base 2 "table_of" ["deeds"] (f_table_of)) (C_Folk_take : WkCalM P w K mg base 2 a_Folk "take" ["self", "deed"] (f_Folk_take a_Folk)) {f c_ P_ : PySem.Addr} {fd : FuncData} (F : FunC K "__init__" "Folk.__init__" s_Folk___init__ f fd c_) (TB : LamX.TabB base mg c_ P_) (hmT : (P_, lamQ "Folk.__init__") ∈ Tb.T) (hu : ∀ p ∈ Tb.T, p.1 = P_ → p.2 = lamQ "Folk.__init__") : FnG P w K mg base 3 f fd ["self", "roll", "deeds"] (f_Folk___init__ a_Folk) := by
  unfold f_Folk___init__
  exact fn_okC F sc_Folk___init__ fun A outer s H E hr =>
    (gss_cons (gs_fld (ge_var 0) (ge_callTy (gb_list rfl) b_list (by decide +kernel) (ga_cons (ge_var 1) ga_nil)) c_Folk na_Folk_hands)
      (gss_cons (gs_fld (ge_var 0) (ge_wcal C_table_of (hr.mono (by decide)) (ga_cons (ge_var 2) ga_nil)) c_Folk na_Folk_table)
      (gss_cons (gs_fld (ge_var 0) ge_dic0 c_Folk na_Folk_ranks)
      (gss_cons (gs_for PassesOwn.never rfl (gi_seq (ge_sortVS rfl b_sorted b_sum TB rfl hmT hu (hu100 hr) (hdp hr) (ge_fld (ge_var 0) c_Folk na_Folk_table))) (gg_var sc_Folk___init__.nd) (gss_one (gs_exp (ge_wcalM (ge_var 0) c_Folk C_Folk_take (hr.mono (by decide)) (ga_cons (ge_var 3) ga_nil)))))
      (gss_one (gs_fld (ge_var 0) (ge_sortKF (i := 0) rfl b_sorted TB rfl hmT hu (hu100 hr) (hdp hr) c_Folk na_Folk_ranks (ge_fld (ge_var 0) c_Folk na_Folk_ranks)) c_Folk na_Folk_order))))))
theorem ok_Folk_roll (b_list : mg "list" = none) (c_Folk : L2.Cls K a_Folk) (na_Folk_hands : L2.NoAttr K a_Folk "hands") {f : PySem.Addr} {fd : FuncData} (F : Fun K "roll" "Folk.roll" s_Folk_roll f fd) : FnG P w K mg base 1 f fd ["self"] (f_Folk_roll a_Folk) := by
  unfold f_Folk_roll
  exact fn_ok F sc_Folk_roll fun cdv A outer s H E hr =>
    (gss_one (gs_ret (ge_callTy (gb_list rfl) b_list (by decide +kernel) (ga_cons (ge_fld (ge_var 0) c_Folk na_Folk_hands) ga_nil))))
theorem ok_Folk_names (b_list : mg "list" = none) (c_Folk : L2.Cls K a_Folk) (na_Folk_order : L2.NoAttr K a_Folk "order") {f : PySem.Addr} {fd : FuncData} (F : Fun K "names" "Folk.names" s_Folk_names f fd) : FnG P w K mg base 1 f fd ["self"] (f_Folk_names a_Folk) := by
  unfold f_Folk_names
  exact fn_ok F sc_Folk_names fun cdv A outer s H E hr =>
    (gss_one (gs_ret (ge_callTy (gb_list rfl) b_list (by decide +kernel) (ga_cons (ge_fld (ge_var 0) c_Folk na_Folk_order) ga_nil))))
theorem ok_Folk_deeds (c_Folk : L2.Cls K a_Folk) (na_Folk_order : L2.NoAttr K a_Folk "order") (na_Folk_table : L2.NoAttr K a_Folk "table") {f : PySem.Addr} {fd : FuncData} (F : Fun K "deeds" "Folk.deeds" s_Folk_deeds f fd) : FnG P w K mg base 1 f fd ["self"] (f_Folk_deeds a_Folk) := by
  unfold f_Folk_deeds
  exact fn_ok F sc_Folk_deeds fun cdv A outer s H E hr =>
    (gss_one (gs_ret (ge_comp (own := [("name", 1)]) (N := ["self", "name"]) (sc := defScope s_Folk_deeds) rfl sc_Folk_deeds.nd (gi_seq (ge_fld (ge_var 0) c_Folk na_Folk_order)) rfl rfl (by decide +kernel) (fun _ _ _ _ _ => (gg_var sc_Folk_deeds.nd)) (fun _ _ _ _ _ => gts_nil) (fun _ _ _ _ _ => (ge_ix (gx_ix (hu64 hr)) (ge_fld (ge_var 0) c_Folk na_Folk_table) (ge_var 1))))))
theorem ok_Folk_counts (b_len : mg "len" = none) (b_tuple : mg "tuple" = none) (c_Folk : L2.Cls K a_Folk) (na_Folk_hands : L2.NoAttr K a_Folk "hands") (na_Folk_order : L2.NoAttr K a_Folk "order") {f : PySem.Addr} {fd : FuncData} (F : Fun K "counts" "Folk.counts" s_Folk_counts f fd) : FnG P w K mg base 1 f fd ["self"] (f_Folk_counts a_Folk) := by
  unfold f_Folk_counts
  exact fn_ok F sc_Folk_counts fun cdv A outer s H E hr =>
    (gss_cons (gs_set (i := 1) sc_Folk_counts.nd (ge_lst ga_nil))
      (gss_cons (gs_for PassesOwn.never rfl (gi_seq (ge_fld (ge_var 0) c_Folk na_Folk_hands)) (gg_var sc_Folk_counts.nd) (gss_one (gs_exp (ge_meth PySem.F.plainAttrs_list PySem.F.slot_list_append PySem.F.type_list_append gm_append (by decide) (ge_var 1) (ga_cons (ge_callB gb_len b_len PySem.boot_len (ga_cons (ge_comp (own := [("name", 3)]) (N := ["self", "found", "hand", "name"]) (sc := defScope s_Folk_counts) rfl sc_Folk_counts.nd (gi_seq (ge_fld (ge_var 0) c_Folk na_Folk_order)) rfl rfl (by decide +kernel) (fun _ _ _ _ _ => (gg_var sc_Folk_counts.nd)) (fun _ _ _ _ _ => (gts_one (gt_cmp (gc_eq (hu64 hr)) (ge_ix (gx_ix (hu64 hr)) (ge_var 3) ge_int) (ge_var 2)))) (fun _ _ _ _ _ => (ge_var 3))) ga_nil)) ga_nil)))))
      (gss_one (gs_ret (ge_callTy gb_tuple b_tuple (by decide +kernel) (ga_cons (ge_var 1) ga_nil))))))
theorem ok_Folk_has (c_Folk : L2.Cls K a_Folk) (na_Folk_table : L2.NoAttr K a_Folk "table") {f : PySem.Addr} {fd : FuncData} (F : Fun K "has" "Folk.has" s_Folk_has f fd) : FnG P w K mg base 1 f fd ["self", "name"] (f_Folk_has a_Folk) := by
  unfold f_Folk_has
  exact fn_ok F sc_Folk_has fun cdv A outer s H E hr =>
    (gss_one (gs_ret (ge_cmp (gc_in (hu64 hr)) (ge_var 1) (ge_fld (ge_var 0) c_Folk na_Folk_table))))
theorem ok_Folk_deed (c_Folk : L2.Cls K a_Folk) (na_Folk_table : L2.NoAttr K a_Folk "table") {f : PySem.Addr} {fd : FuncData} (F : Fun K "deed" "Folk.deed" s_Folk_deed f fd) : FnG P w K mg base 1 f fd ["self", "name"] (f_Folk_deed a_Folk) := by
  unfold f_Folk_deed
  exact fn_ok F sc_Folk_deed fun cdv A outer s H E hr =>
    (gss_one (gs_ret (ge_ix (gx_ix (hu64 hr)) (ge_fld (ge_var 0) c_Folk na_Folk_table) (ge_var 1))))
theorem ok_Folk_key (c_Folk : L2.Cls K a_Folk) (na_Folk_ranks : L2.NoAttr K a_Folk "ranks") {f : PySem.Addr} {fd : FuncData} (F : Fun K "key" "Folk.key" s_Folk_key f fd) : FnG P w K mg base 1 f fd ["self", "name"] (f_Folk_key a_Folk) := by
  unfold f_Folk_key
  exact fn_ok F sc_Folk_key fun cdv A outer s H E hr =>
    (gss_one (gs_ret (ge_ix (gx_ix (hu64 hr)) (ge_fld (ge_var 0) c_Folk na_Folk_ranks) (ge_var 1))))
theorem ok_l_draws (b_max : mg "max" = none) (b_range : mg "range" = none) {f : PySem.Addr} {fd : FuncData} (F : Fun K "_law_draws" "_law_draws" s_l_draws f fd) : FnG P w K mg base 1 f fd ["_law_cell", "_law_many"] (f_l_draws) := by
  unfold f_l_draws
  exact fn_ok F sc_l_draws fun cdv A outer s H E hr =>
    (gss_cons (gs_set (i := 2) sc_l_draws.nd (ge_lst ga_nil))
      (gss_cons (gs_set (i := 3) sc_l_draws.nd (ge_callB (gb_max rfl (hu100 hr)) b_max (by decide +kernel) (ga_cons ge_int (ga_cons (ge_op go_sub (ge_var 0) (ge_op go_pow ge_int ge_int)) ga_nil))))
      (gss_cons (gs_for PassesOwn.never rfl (gi_rng1 b_range (ga_cons (ge_var 1) ga_nil)) (gg_var sc_l_draws.nd) (gss_cons (gs_set (i := 5) sc_l_draws.nd (ge_op go_mod (ge_op go_mul (ge_op go_add (ge_op go_add (ge_op go_mod (ge_var 0) ge_int) (ge_op go_mul (ge_op go_mul ge_int (ge_var 4)) (ge_var 4))) ge_int) ge_int) ge_int))
      (gss_cons (gs_set (i := 5) sc_l_draws.nd (ge_op go_mod (ge_op go_mul (ge_var 5) (ge_var 5)) ge_int))
      (gss_cons (gs_set (i := 6) sc_l_draws.nd (ge_op go_div (ge_op go_mul (ge_op go_mul (ge_op go_mul (ge_var 5) (ge_op go_add (ge_var 5) ge_int)) ge_int) (ge_op go_add (ge_op go_add (ge_var 5) (ge_var 4)) ge_int)) ge_int))
      (gss_cons (gs_if (gt_cmp (gc_gt (hu64 hr)) (ge_var 3) ge_int) (gss_one (gs_set (i := 6) sc_l_draws.nd (ge_var 3))) gss_nil)
      (gss_cons (gs_exp (ge_meth PySem.F.plainAttrs_list PySem.F.slot_list_append PySem.F.type_list_append gm_append (by decide) (ge_var 2) (ga_cons (ge_op go_mod (ge_var 6) (ge_op go_pow ge_int ge_int)) ga_nil)))
      (gss_one (gs_set (i := 3) sc_l_draws.nd (ge_op go_divW (ge_var 3) (ge_op go_pow ge_int ge_int))))))))))
      (gss_one (gs_ret (ge_var 2))))))
theorem ok_l_word (b_range : mg "range" = none) {f : PySem.Addr} {fd : FuncData} (F : Fun K "_law_word" "_law_word" s_l_word f fd) : FnG P w K mg base 1 f fd ["_law_number"] (f_l_word) := by
  unfold f_l_word
  exact fn_ok F sc_l_word fun cdv A outer s H E hr =>
    (gss_cons (gs_set (i := 1) sc_l_word.nd ge_str)
      (gss_cons (gs_set (i := 2) sc_l_word.nd (ge_op go_add ge_int (ge_op go_mod (ge_var 0) ge_int)))
      (gss_cons (gs_set (i := 0) sc_l_word.nd (ge_op go_div (ge_var 0) ge_int))
      (gss_cons (gs_for PassesOwn.never rfl (gi_rng1 b_range (ga_cons (ge_var 2) ga_nil)) (gg_var sc_l_word.nd) (gss_cons (gs_set (i := 1) sc_l_word.nd (ge_op go_add (ge_var 1) (ge_ix (gx_ix (hu64 hr)) ge_str (ge_op go_mod (ge_var 0) ge_int))))
      (gss_one (gs_set (i := 0) sc_l_word.nd (ge_op go_div (ge_var 0) ge_int)))))
      (gss_one (gs_ret (ge_var 1)))))))
theorem ok_l_roll (b_range : mg "range" = none) (C_l_draws : WkCal P w K mg base 1 "_law_draws" ["_law_cell", "_law_many"] (f_l_draws)) (C_l_word : WkCal P w K mg base 1 "_law_word" ["_law_number"] (f_l_word)) {f : PySem.Addr} {fd : FuncData} (F : Fun K "_law_roll" "_law_roll" s_l_roll f fd) : FnG P w K mg base 2 f fd ["_law_cell"] (f_l_roll) := by
  unfold f_l_roll
  exact fn_ok F sc_l_roll fun cdv A outer s H E hr =>
    (gss_cons (gs_set (i := 1) sc_l_roll.nd (ge_wcal C_l_draws (hr.mono (by decide)) (ga_cons (ge_var 0) (ga_cons ge_int ga_nil))))
      (gss_cons (gs_set (i := 2) sc_l_roll.nd (ge_lst ga_nil))
      (gss_cons (gs_for PassesOwn.never rfl (gi_rng1 b_range (ga_cons (ge_op go_add ge_int (ge_op go_mod (ge_ix (gx_ix (hu64 hr)) (ge_var 1) ge_int) ge_int)) ga_nil)) (gg_var sc_l_roll.nd) (gss_cons (gs_set (i := 4) sc_l_roll.nd (ge_wcal C_l_word (hr.mono (by decide)) (ga_cons (ge_ix (gx_ix (hu64 hr)) (ge_var 1) (ge_op go_add ge_int (ge_var 3))) ga_nil)))
      (gss_cons (gs_for PassesOwn.never rfl (gi_txt ge_str) (gg_var sc_l_roll.nd) (gss_one (gs_if (gt_cmp (gc_in (hu64 hr)) (ge_var 4) (ge_var 2)) (gss_one (gs_set (i := 4) sc_l_roll.nd (ge_op go_add (ge_slice (ge_var 4) go_none (go_some ge_int)) (ge_var 5)))) gss_nil)))
      (gss_one (gs_exp (ge_meth PySem.F.plainAttrs_list PySem.F.slot_list_append PySem.F.type_list_append gm_append (by decide) (ge_var 2) (ga_cons (ge_var 4) ga_nil)))))))
      (gss_one (gs_ret (ge_var 2))))))
theorem ok_l_name (b_len : mg "len" = none) {f : PySem.Addr} {fd : FuncData} (F : Fun K "_law_name" "_law_name" s_l_name f fd) : FnG P w K mg base 1 f fd ["_law_number", "_law_roll_here"] (f_l_name) := by
  unfold f_l_name
  exact fn_ok F sc_l_name fun cdv A outer s H E hr =>
    (gss_cons (gs_set (i := 2) sc_l_name.nd (ge_op go_div (ge_var 0) (ge_callB gb_len b_len PySem.boot_len (ga_cons (ge_var 1) ga_nil))))
      (gss_one (gs_ret (ge_tup (ga_cons (ge_ix (gx_ix (hu64 hr)) (ge_var 1) (ge_op go_mod (ge_var 0) (ge_callB gb_len b_len PySem.boot_len (ga_cons (ge_var 1) ga_nil)))) (ga_cons (ge_op go_add ge_int (ge_op go_mod (ge_op go_div (ge_var 2) ge_int) (ge_ix (gx_ix (hu64 hr)) (ge_lst (ga_cons ge_int (ga_cons (ge_op go_pow ge_int ge_int) ga_nil))) (ge_op go_mod (ge_var 2) ge_int)))) ga_nil))))))
theorem ok_l_part (C_l_name : WkCal P w K mg base 1 "_law_name" ["_law_number", "_law_roll_here"] (f_l_name)) {f : PySem.Addr} {fd : FuncData} (F : Fun K "_law_part" "_law_part" s_l_part f fd) : FnG P w K mg base 2 f fd ["_law_number", "_law_roll_here"] (f_l_part) := by
  unfold f_l_part
  exact fn_ok F sc_l_part fun cdv A outer s H E hr =>
    (gss_cons (gs_if (gt_cmp (gc_eq (hu64 hr)) (ge_op go_mod (ge_var 0) ge_int) ge_int) (gss_one (gs_ret (ge_tup (ga_cons ge_str (ga_cons ge_int ga_nil))))) gss_nil)
      (gss_one (gs_ret (ge_wcal C_l_name (hr.mono (by decide)) (ga_cons (ge_op go_div (ge_var 0) ge_int) (ga_cons (ge_var 1) ga_nil))))))
theorem ok_l_sign_name (b_int : mg "int" = none) (C_l_name : WkCal P w K mg base 1 "_law_name" ["_law_number", "_law_roll_here"] (f_l_name)) {f : PySem.Addr} {fd : FuncData} (F : Fun K "_law_sign_name" "_law_sign_name" s_l_sign_name f fd) : FnG P w K mg base 2 f fd ["_law_number", "_law_roll_here"] (f_l_sign_name) := by
  unfold f_l_sign_name
  exact fn_ok F sc_l_sign_name fun cdv A outer s H E hr =>
    (gss_one (gs_ret (ge_op go_add (ge_wcal C_l_name (hr.mono (by decide)) (ga_cons (ge_op go_div (ge_var 0) ge_int) (ga_cons (ge_var 1) ga_nil))) (ge_tup (ga_cons (ge_ix (gx_ix (hu64 hr)) (ge_lst (ga_cons (ge_op go_mod (ge_op go_div (ge_var 0) ge_int) ge_int) (ga_cons (ge_op go_pow ge_int ge_int) ga_nil))) (ge_callTy gb_int b_int (by decide +kernel) (ga_cons (ge_cmp (gc_eq (hu64 hr)) (ge_op go_mod (ge_var 0) ge_int) ge_int) ga_nil))) ga_nil)))))
theorem ok_l_side (C_l_sign_name : WkCal P w K mg base 2 "_law_sign_name" ["_law_number", "_law_roll_here"] (f_l_sign_name)) {f : PySem.Addr} {fd : FuncData} (F : Fun K "_law_side" "_law_side" s_l_side f fd) : FnG P w K mg base 3 f fd ["_law_number", "_law_roll_here"] (f_l_side) := by
  unfold f_l_side
  exact fn_ok F sc_l_side fun cdv A outer s H E hr =>
    (gss_one (gs_ret (ge_tup (ga_cons (ge_wcal C_l_sign_name (hr.mono (by decide)) (ga_cons (ge_op go_div (ge_var 0) ge_int) (ga_cons (ge_var 1) ga_nil))) (ga_cons (ge_ix (gx_ix (hu64 hr)) (ge_lst (ga_cons ge_str (ga_cons ge_str ga_nil))) (ge_op go_mod (ge_var 0) ge_int)) ga_nil)))))
theorem ok_l_sign (C_l_word : WkCal P w K mg base 1 "_law_word" ["_law_number"] (f_l_word)) (C_l_part : WkCal P w K mg base 2 "_law_part" ["_law_number", "_law_roll_here"] (f_l_part)) {f : PySem.Addr} {fd : FuncData} (F : Fun K "_law_sign" "_law_sign" s_l_sign f fd) : FnG P w K mg base 3 f fd ["_law_number", "_law_roll_here"] (f_l_sign) := by
  unfold f_l_sign
  exact fn_ok F sc_l_sign fun cdv A outer s H E hr =>
    (gss_cons (gs_set (i := 2) sc_l_sign.nd (ge_op go_mod (ge_var 0) ge_int))
      (gss_cons (gs_if (gt_cmp (gc_lt (hu64 hr)) (ge_var 2) ge_int) (gss_one (gs_ret (ge_ix (gx_ix (hu64 hr)) ge_str (ge_var 2)))) gss_nil)
      (gss_cons (gs_if (gt_cmp (gc_eq (hu64 hr)) (ge_var 2) ge_int) (gss_one (gs_ret (ge_tup (ga_cons ge_str (ga_cons (ge_wcal C_l_word (hr.mono (by decide)) (ga_cons (ge_op go_div (ge_var 0) ge_int) ga_nil)) ga_nil))))) gss_nil)
      (gss_one (gs_ret (ge_tup (ga_cons ge_str (ga_cons (ge_wcal C_l_part (hr.mono (by decide)) (ga_cons (ge_op go_div (ge_var 0) ge_int) (ga_cons (ge_var 1) ga_nil))) ga_nil))))))))
theorem ok_l_signs (b_tuple : mg "tuple" = none) (C_l_sign : WkCal P w K mg base 3 "_law_sign" ["_law_number", "_law_roll_here"] (f_l_sign)) {f : PySem.Addr} {fd : FuncData} (F : Fun K "_law_signs" "_law_signs" s_l_signs f fd) : FnG P w K mg base 4 f fd ["_law_draws_here", "_law_roll_here"] (f_l_signs) := by
  unfold f_l_signs
  exact fn_ok F sc_l_signs fun cdv A outer s H E hr =>
    (gss_one (gs_ret (ge_callTy gb_tuple b_tuple (by decide +kernel) (ga_cons (ge_comp (own := [("_law_number", 2)]) (N := ["_law_draws_here", "_law_roll_here", "_law_number"]) (sc := defScope s_l_signs) rfl sc_l_signs.nd (gi_seq (ge_slice (ge_var 0) go_none (go_some (ge_op go_add ge_int (ge_op go_mod (ge_ix (gx_ix (hu64 hr)) (ge_var 0) ge_int) ge_int))))) rfl rfl (by decide +kernel) (fun _ _ _ _ _ => (gg_var sc_l_signs.nd)) (fun _ _ _ _ _ => gts_nil) (fun _ _ _ _ _ => (ge_wcal C_l_sign (hr.mono (by decide)) (ga_cons (ge_op go_div (ge_var 2) ge_int) (ga_cons (ge_var 1) ga_nil))))) ga_nil))))
theorem ok_l_sign_names (b_tuple : mg "tuple" = none) (C_l_sign_name : WkCal P w K mg base 2 "_law_sign_name" ["_law_number", "_law_roll_here"] (f_l_sign_name)) {f : PySem.Addr} {fd : FuncData} (F : Fun K "_law_sign_names" "_law_sign_names" s_l_sign_names f fd) : FnG P w K mg base 3 f fd ["_law_draws_here", "_law_roll_here"] (f_l_sign_names) := by
  unfold f_l_sign_names
  exact fn_ok F sc_l_sign_names fun cdv A outer s H E hr =>
    (gss_cons (gs_set (i := 2) sc_l_sign_names.nd (ge_lst ga_nil))
      (gss_cons (gs_for PassesOwn.never rfl (gi_seq (ge_slice (ge_var 0) go_none (go_some (ge_op go_add ge_int (ge_op go_mod (ge_ix (gx_ix (hu64 hr)) (ge_var 0) ge_int) ge_int))))) (gg_var sc_l_sign_names.nd) (gss_cons (gs_set (i := 4) sc_l_sign_names.nd (ge_wcal C_l_sign_name (hr.mono (by decide)) (ga_cons (ge_op go_div (ge_var 3) ge_int) (ga_cons (ge_var 1) ga_nil))))
      (gss_one (gs_if (gt_cmp (gc_notIn (hu64 hr)) (ge_var 4) (ge_var 2)) (gss_one (gs_exp (ge_meth PySem.F.plainAttrs_list PySem.F.slot_list_append PySem.F.type_list_append gm_append (by decide) (ge_var 2) (ga_cons (ge_var 4) ga_nil)))) gss_nil))))
      (gss_one (gs_ret (ge_callTy gb_tuple b_tuple (by decide +kernel) (ga_cons (ge_var 2) ga_nil))))))
theorem ok_l_what_of_signs (b_int : mg "int" = none) (C_l_name : WkCal P w K mg base 1 "_law_name" ["_law_number", "_law_roll_here"] (f_l_name)) (C_l_part : WkCal P w K mg base 2 "_law_part" ["_law_number", "_law_roll_here"] (f_l_part)) (C_l_sign_name : WkCal P w K mg base 2 "_law_sign_name" ["_law_number", "_law_roll_here"] (f_l_sign_name)) (C_l_signs : WkCal P w K mg base 4 "_law_signs" ["_law_draws_here", "_law_roll_here"] (f_l_signs)) (C_l_sign_names : WkCal P w K mg base 3 "_law_sign_names" ["_law_draws_here", "_law_roll_here"] (f_l_sign_names)) {f : PySem.Addr} {fd : FuncData} (F : Fun K "_law_what_of_signs" "_law_what_of_signs" s_l_what_of_signs f fd) : FnG P w K mg base 5 f fd ["_law_kind", "_law_more", "_law_roll_here"] (f_l_what_of_signs) := by
  unfold f_l_what_of_signs
  exact fn_ok F sc_l_what_of_signs fun cdv A outer s H E hr =>
    (gss_cons (gs_set (i := 3) sc_l_what_of_signs.nd (ge_wcal C_l_part (hr.mono (by decide)) (ga_cons (ge_ix (gx_ix (hu64 hr)) (ge_var 1) ge_int) (ga_cons (ge_var 2) ga_nil))))
      (gss_cons (gs_set (i := 4) sc_l_what_of_signs.nd (ge_wcal C_l_name (hr.mono (by decide)) (ga_cons (ge_ix (gx_ix (hu64 hr)) (ge_var 1) ge_int) (ga_cons (ge_var 2) ga_nil))))
      (gss_cons (gs_set (i := 5) sc_l_what_of_signs.nd (ge_ix (gx_ix (hu64 hr)) (ge_lst (ga_cons ge_non (ga_cons (ge_wcal C_l_sign_name (hr.mono (by decide)) (ga_cons (ge_op go_div (ge_ix (gx_ix (hu64 hr)) (ge_var 1) ge_int) ge_int) (ga_cons (ge_var 2) ga_nil))) ga_nil))) (ge_callTy gb_int b_int (by decide +kernel) (ga_cons (ge_cmp (gc_gt (hu64 hr)) (ge_op go_mod (ge_ix (gx_ix (hu64 hr)) (ge_var 1) ge_int) ge_int) ge_int) ga_nil))))
      (gss_cons (gs_if (gt_cmp (gc_eq (hu64 hr)) (ge_var 0) ge_int) (gss_one (gs_ret (ge_tup (ga_cons ge_str (ga_cons (ge_var 3) ga_nil))))) gss_nil)
      (gss_cons (gs_if (gt_cmp (gc_eq (hu64 hr)) (ge_var 0) ge_int) (gss_one (gs_ret (ge_tup (ga_cons ge_str (ga_cons (ge_var 4) (ga_cons (ge_var 3) ga_nil)))))) gss_nil)
      (gss_cons (gs_if (gt_cmp (gc_eq (hu64 hr)) (ge_var 0) ge_int) (gss_one (gs_ret (ge_tup (ga_cons ge_str (ga_cons (ge_var 4) ga_nil))))) gss_nil)
      (gss_cons (gs_if (gt_cmp (gc_eq (hu64 hr)) (ge_var 0) ge_int) (gss_one (gs_ret (ge_tup (ga_cons ge_str (ga_cons (ge_var 3) (ga_cons (ge_var 5) (ga_cons (ge_wcal C_l_signs (hr.mono (by decide)) (ga_cons (ge_slice (ge_var 1) (go_some ge_int) go_none) (ga_cons (ge_var 2) ga_nil))) ga_nil))))))) gss_nil)
      (gss_cons (gs_if (gt_cmp (gc_eq (hu64 hr)) (ge_var 0) ge_int) (gss_one (gs_ret (ge_tup (ga_cons ge_str (ga_cons (ge_var 3) (ga_cons (ge_wcal C_l_sign_names (hr.mono (by decide)) (ga_cons (ge_slice (ge_var 1) (go_some ge_int) go_none) (ga_cons (ge_var 2) ga_nil))) ga_nil)))))) gss_nil)
      (gss_one (gs_ret (ge_tup (ga_cons ge_str ga_nil))))))))))))
theorem ok_l_what_of_marks (b_int : mg "int" = none) (C_l_word : WkCal P w K mg base 1 "_law_word" ["_law_number"] (f_l_word)) (C_l_name : WkCal P w K mg base 1 "_law_name" ["_law_number", "_law_roll_here"] (f_l_name)) (C_l_part : WkCal P w K mg base 2 "_law_part" ["_law_number", "_law_roll_here"] (f_l_part)) (C_l_side : WkCal P w K mg base 3 "_law_side" ["_law_number", "_law_roll_here"] (f_l_side)) {f : PySem.Addr} {fd : FuncData} (F : Fun K "_law_what_of_marks" "_law_what_of_marks" s_l_what_of_marks f fd) : FnG P w K mg base 4 f fd ["_law_kind", "_law_more", "_law_roll_here"] (f_l_what_of_marks) := by
  unfold f_l_what_of_marks
  exact fn_ok F sc_l_what_of_marks fun cdv A outer s H E hr =>
    (gss_cons (gs_set (i := 3) sc_l_what_of_marks.nd (ge_wcal C_l_part (hr.mono (by decide)) (ga_cons (ge_ix (gx_ix (hu64 hr)) (ge_var 1) ge_int) (ga_cons (ge_var 2) ga_nil))))
      (gss_cons (gs_set (i := 4) sc_l_what_of_marks.nd (ge_wcal C_l_name (hr.mono (by decide)) (ga_cons (ge_ix (gx_ix (hu64 hr)) (ge_var 1) ge_int) (ga_cons (ge_var 2) ga_nil))))
      (gss_cons (gs_set (i := 5) sc_l_what_of_marks.nd (ge_tup (ga_cons (ge_wcal C_l_side (hr.mono (by decide)) (ga_cons (ge_ix (gx_ix (hu64 hr)) (ge_var 1) ge_int) (ga_cons (ge_var 2) ga_nil))) (ga_cons (ge_wcal C_l_side (hr.mono (by decide)) (ga_cons (ge_ix (gx_ix (hu64 hr)) (ge_var 1) ge_int) (ga_cons (ge_var 2) ga_nil))) ga_nil))))
      (gss_cons (gs_if (gt_cmp (gc_eq (hu64 hr)) (ge_var 0) ge_int) (gss_cons (gs_set (i := 6) sc_l_what_of_marks.nd (ge_ix (gx_ix (hu64 hr)) (ge_lst (ga_cons ge_non (ga_cons (ge_wcal C_l_word (hr.mono (by decide)) (ga_cons (ge_op go_div (ge_ix (gx_ix (hu64 hr)) (ge_var 1) ge_int) ge_int) ga_nil)) ga_nil))) (ge_callTy gb_int b_int (by decide +kernel) (ga_cons (ge_cmp (gc_gt (hu64 hr)) (ge_op go_mod (ge_ix (gx_ix (hu64 hr)) (ge_var 1) ge_int) ge_int) ge_int) ga_nil))))
      (gss_one (gs_ret (ge_op go_add (ge_op go_add (ge_tup (ga_cons ge_str (ga_cons (ge_var 3) ga_nil))) (ge_var 5)) (ge_tup (ga_cons (ge_wcal C_l_word (hr.mono (by decide)) (ga_cons (ge_ix (gx_ix (hu64 hr)) (ge_var 1) ge_int) ga_nil)) (ga_cons (ge_var 6) ga_nil))))))) gss_nil)
      (gss_cons (gs_if (gt_cmp (gc_eq (hu64 hr)) (ge_var 0) ge_int) (gss_one (gs_ret (ge_op go_add (ge_op go_add (ge_tup (ga_cons ge_str (ga_cons (ge_var 3) ga_nil))) (ge_var 5)) (ge_tup (ga_cons (ge_wcal C_l_word (hr.mono (by decide)) (ga_cons (ge_ix (gx_ix (hu64 hr)) (ge_var 1) ge_int) ga_nil)) ga_nil))))) gss_nil)
      (gss_cons (gs_if (gt_cmp (gc_eq (hu64 hr)) (ge_var 0) ge_int) (gss_one (gs_ret (ge_tup (ga_cons ge_str (ga_cons (ge_var 3) (ga_cons (ge_ix (gx_ix (hu64 hr)) (ge_lst (ga_cons ge_str (ga_cons ge_str ga_nil))) (ge_op go_mod (ge_ix (gx_ix (hu64 hr)) (ge_var 1) ge_int) ge_int)) (ga_cons (ge_ix (gx_ix (hu64 hr)) (ge_lst (ga_cons ge_non (ga_cons (ge_var 4) ga_nil))) (ge_callTy gb_int b_int (by decide +kernel) (ga_cons (ge_cmp (gc_gt (hu64 hr)) (ge_op go_mod (ge_op go_div (ge_ix (gx_ix (hu64 hr)) (ge_var 1) ge_int) ge_int) ge_int) ge_int) ga_nil))) ga_nil))))))) gss_nil)
      (gss_cons (gs_if (gt_cmp (gc_eq (hu64 hr)) (ge_var 0) ge_int) (gss_one (gs_ret (ge_tup (ga_cons ge_str (ga_cons (ge_var 3) (ga_cons (ge_var 4) ga_nil)))))) gss_nil)
      (gss_cons (gs_set (i := 7) sc_l_what_of_marks.nd (ge_ix (gx_ix (hu64 hr)) (ge_lst (ga_cons ge_str (ga_cons (ge_wcal C_l_word (hr.mono (by decide)) (ga_cons (ge_op go_div (ge_ix (gx_ix (hu64 hr)) (ge_var 1) ge_int) ge_int) ga_nil)) ga_nil))) (ge_callTy gb_int b_int (by decide +kernel) (ga_cons (ge_cmp (gc_gt (hu64 hr)) (ge_op go_mod (ge_ix (gx_ix (hu64 hr)) (ge_var 1) ge_int) ge_int) ge_int) ga_nil))))
      (gss_one (gs_ret (ge_tup (ga_cons ge_str (ga_cons (ge_var 3) (ga_cons (ge_var 4) (ga_cons (ge_wcal C_l_name (hr.mono (by decide)) (ga_cons (ge_ix (gx_ix (hu64 hr)) (ge_var 1) ge_int) (ga_cons (ge_var 2) ga_nil))) (ga_cons (ge_var 7) ga_nil))))))))))))))))
theorem ok_l_what (b_len : mg "len" = none) (b_tuple : mg "tuple" = none) (C_l_word : WkCal P w K mg base 1 "_law_word" ["_law_number"] (f_l_word)) (C_l_part : WkCal P w K mg base 2 "_law_part" ["_law_number", "_law_roll_here"] (f_l_part)) (C_l_what_of_signs : WkCal P w K mg base 5 "_law_what_of_signs" ["_law_kind", "_law_more", "_law_roll_here"] (f_l_what_of_signs)) (C_l_what_of_marks : WkCal P w K mg base 4 "_law_what_of_marks" ["_law_kind", "_law_more", "_law_roll_here"] (f_l_what_of_marks)) {f : PySem.Addr} {fd : FuncData} (F : Fun K "_law_what" "_law_what" s_l_what f fd) : FnG P w K mg base 6 f fd ["_law_draws_here", "_law_roll_here", "_law_number"] (f_l_what) := by
  unfold f_l_what
  exact fn_ok F sc_l_what fun cdv A outer s H E hr =>
    (gss_cons (gs_set (i := 3) sc_l_what.nd (ge_op go_mod (ge_ix (gx_ix (hu64 hr)) (ge_var 0) ge_int) ge_int))
      (gss_cons (gs_set (i := 4) sc_l_what.nd (ge_slice (ge_var 0) (go_some ge_int) go_none))
      (gss_cons (gs_if (gt_cmp (gc_lt (hu64 hr)) (ge_var 3) ge_int) (gss_one (gs_ret (ge_wcal C_l_what_of_signs (hr.mono (by decide)) (ga_cons (ge_var 3) (ga_cons (ge_var 4) (ga_cons (ge_var 1) ga_nil)))))) gss_nil)
      (gss_cons (gs_if (gt_cmp (gc_lt (hu64 hr)) (ge_var 3) ge_int) (gss_one (gs_ret (ge_wcal C_l_what_of_marks (hr.mono (by decide)) (ga_cons (ge_var 3) (ga_cons (ge_var 4) (ga_cons (ge_var 1) ga_nil)))))) gss_nil)
      (gss_cons (gs_if (gt_cmp (gc_eq (hu64 hr)) (ge_var 3) ge_int) (gss_cons (gs_set (i := 5) sc_l_what.nd (ge_ix (gx_ix (hu64 hr)) (ge_lst (ga_cons ge_str (ga_cons ge_str (ga_cons ge_str (ga_cons ge_str ga_nil))))) (ge_op go_mod (ge_ix (gx_ix (hu64 hr)) (ge_var 4) ge_int) ge_int)))
      (gss_one (gs_ret (ge_tup (ga_cons ge_str (ga_cons (ge_wcal C_l_part (hr.mono (by decide)) (ga_cons (ge_ix (gx_ix (hu64 hr)) (ge_var 4) ge_int) (ga_cons (ge_var 1) ga_nil))) (ga_cons (ge_ix (gx_ix (hu64 hr)) (ge_var 1) (ge_op go_mod (ge_ix (gx_ix (hu64 hr)) (ge_var 4) ge_int) (ge_callB gb_len b_len PySem.boot_len (ga_cons (ge_var 1) ga_nil)))) (ga_cons (ge_var 5) (ga_cons (ge_cmp (gc_eq (hu64 hr)) (ge_op go_mod (ge_ix (gx_ix (hu64 hr)) (ge_var 4) ge_int) ge_int) ge_int) ga_nil))))))))) gss_nil)
      (gss_cons (gs_if (PW.pt (gw_and (gt_cmp (gc_lt (hu64 hr)) (ge_var 3) ge_int) (gw_and1 (gt_cmp (gc_gt (hu64 hr)) (ge_var 2) ge_int)))) (gss_one (gs_ret (ge_tup (ga_cons (ge_ix (gx_ix (hu64 hr)) (ge_lst (ga_cons ge_str (ga_cons ge_str ga_nil))) (ge_op go_sub (ge_var 3) ge_int)) (ga_cons (ge_op go_add ge_int (ge_op go_mod (ge_ix (gx_ix (hu64 hr)) (ge_var 4) ge_int) (ge_op go_sub (ge_var 2) ge_int))) ga_nil))))) gss_nil)
      (gss_cons (gs_if (PW.pt (gw_or (gt_cmp (gc_eq (hu64 hr)) (ge_var 3) ge_int) (gw_or1 (gt_cmp (gc_eq (hu64 hr)) (ge_var 3) ge_int)))) (gss_one (gs_ret (ge_tup (ga_cons (ge_ix (gx_ix (hu64 hr)) (ge_lst (ga_cons ge_str (ga_cons ge_str ga_nil))) (ge_op go_sub (ge_var 3) ge_int)) (ga_cons (ge_wcal C_l_word (hr.mono (by decide)) (ga_cons (ge_ix (gx_ix (hu64 hr)) (ge_var 4) ge_int) ga_nil)) ga_nil))))) gss_nil)
      (gss_cons (gs_if (gt_cmp (gc_eq (hu64 hr)) (ge_var 3) ge_int) (gss_one (gs_ret (ge_tup (ga_cons ge_str (ga_cons (ge_callTy gb_tuple b_tuple (by decide +kernel) (ga_cons (ge_comp (own := [("_law_one", 6)]) (N := ["_law_draws_here", "_law_roll_here", "_law_number", "_law_kind", "_law_more", "_law_to", "_law_one"]) (sc := defScope s_l_what) rfl sc_l_what.nd (gi_seq (ge_slice (ge_var 4) go_none (go_some (ge_callB gb_len b_len PySem.boot_len (ga_cons (ge_var 1) ga_nil))))) rfl rfl (by decide +kernel) (fun _ _ _ _ _ => (gg_var sc_l_what.nd)) (fun _ _ _ _ _ => gts_nil) (fun _ _ _ _ _ => (ge_op go_mod (ge_var 6) (ge_ix (gx_ix (hu64 hr)) (ge_lst (ga_cons ge_int (ga_cons (ge_op go_add (ge_op go_pow ge_int ge_int) ge_int) ga_nil))) (ge_op go_mod (ge_op go_div (ge_var 6) ge_int) ge_int))))) ga_nil)) ga_nil))))) gss_nil)
      (gss_one (gs_ret (ge_tup (ga_cons ge_str ga_nil))))))))))))
theorem ok_l_branch (b_len : mg "len" = none) (C_l_word : WkCal P w K mg base 1 "_law_word" ["_law_number"] (f_l_word)) {f : PySem.Addr} {fd : FuncData} (F : Fun K "_law_branch" "_law_branch" s_l_branch f fd) : FnG P w K mg base 2 f fd ["_law_number", "_law_roll_here"] (f_l_branch) := by
  unfold f_l_branch
  exact fn_ok F sc_l_branch fun cdv A outer s H E hr =>
    (gss_cons (gs_if (gt_cmp (gc_eq (hu64 hr)) (ge_op go_mod (ge_var 0) ge_int) ge_int) (gss_one (gs_ret ge_non)) gss_nil)
      (gss_one (gs_ret (ge_tup (ga_cons (ge_ix (gx_ix (hu64 hr)) (ge_var 1) (ge_op go_mod (ge_op go_div (ge_var 0) ge_int) (ge_callB gb_len b_len PySem.boot_len (ga_cons (ge_var 1) ga_nil)))) (ga_cons (ge_wcal C_l_word (hr.mono (by decide)) (ga_cons (ge_op go_div (ge_var 0) ge_int) ga_nil)) ga_nil))))))
theorem ok_l_house (b_max : mg "max" = none) (b_list : mg "list" = none) (b_len : mg "len" = none) (b_tuple : mg "tuple" = none) (b_range : mg "range" = none) (b_enumerate : mg "enumerate" = none) (C_l_draws : WkCal P w K mg base 1 "_law_draws" ["_law_cell", "_law_many"] (f_l_draws)) (C_l_roll : WkCal P w K mg base 2 "_law_roll" ["_law_cell"] (f_l_roll)) (C_l_what : WkCal P w K mg base 6 "_law_what" ["_law_draws_here", "_law_roll_here", "_law_number"] (f_l_what)) (C_l_branch : WkCal P w K mg base 2 "_law_branch" ["_law_number", "_law_roll_here"] (f_l_branch)) {f : PySem.Addr} {fd : FuncData} (F : Fun K "_law_house" "_law_house" s_l_house f fd) : FnG P w K mg base 7 f fd ["_law_script", "_law_most"] (f_l_house) := by
  unfold f_l_house
  exact fn_ok F sc_l_house fun cdv A outer s H E hr =>
    (gss_cons (gs_set (i := 2) sc_l_house.nd (ge_op go_addL (ge_var 0) (ge_lst (ga_cons ge_int ga_nil))))
      (gss_cons (gs_set (i := 3) sc_l_house.nd (ge_wcal C_l_roll (hr.mono (by decide)) (ga_cons (ge_ix (gx_ix (hu64 hr)) (ge_var 2) ge_int) ga_nil)))
      (gss_cons (gs_set (i := 4) sc_l_house.nd (ge_callB gb_len b_len PySem.boot_len (ga_cons (ge_var 3) ga_nil)))
      (gss_cons (gs_set (i := 5) sc_l_house.nd (ge_comp (own := [("_law_hand", 19)]) (N := ["_law_script", "_law_most", "_law_cells", "_law_roll_here", "_law_many", "_law_known", "_law_table", "_law_deeds", "_law_k", "_law_cell", "_law_draws_here", "_law_who", "_law_turn", "_law_other", "_law_to", "_law_theirs", "_law_number", "_law_heard", "_law_what_here", "_law_hand", "_law_at"]) (sc := defScope s_l_house) rfl sc_l_house.nd (gi_seq (ge_var 3)) rfl rfl (by decide +kernel) (fun _ _ _ _ _ => (gg_var sc_l_house.nd)) (fun _ _ _ _ _ => gts_nil) (fun _ _ _ _ _ => (ge_op go_mul (ge_lst (ga_cons ge_int ga_nil)) (ge_var 4)))))
      (gss_cons (gs_set (i := 6) sc_l_house.nd ge_dic0)
      (gss_cons (gs_set (i := 7) sc_l_house.nd (ge_lst ga_nil))
      (gss_cons (gs_for PassesOwn.never rfl (gi_enum b_enumerate (ga_cons (ge_slice (ge_var 0) (go_some ge_int) (go_some (ge_var 1))) ga_nil)) (gg_tup rfl (ggs_cons (gg_var sc_l_house.nd) (ggs_cons (gg_var sc_l_house.nd) ggs_nil))) (gss_cons (gs_set (i := 10) sc_l_house.nd (ge_wcal C_l_draws (hr.mono (by decide)) (ga_cons (ge_op go_add (ge_var 9) (ge_op go_mul (ge_op go_mul (ge_op go_mul ge_int ge_int) (ge_var 8)) (ge_var 8))) (ga_cons ge_int ga_nil))))
      (gss_cons (gs_set (i := 11) sc_l_house.nd (ge_op go_mod (ge_ix (gx_ix (hu64 hr)) (ge_var 10) ge_int) (ge_var 4)))
      (gss_cons (gs_for PassesOwn.never rfl (gi_rng1 b_range (ga_cons (ge_op go_mod (ge_op go_div (ge_ix (gx_ix (hu64 hr)) (ge_var 10) ge_int) (ge_var 4)) ge_int) ga_nil)) (gg_var sc_l_house.nd) (gss_cons (gs_set (i := 13) sc_l_house.nd (ge_op go_mod (ge_ix (gx_ix (hu64 hr)) (ge_var 10) (ge_op go_add ge_int (ge_var 12))) (ge_var 4)))
      (gss_cons (gs_set (i := 14) sc_l_house.nd (ge_op go_mod (ge_op go_div (ge_ix (gx_ix (hu64 hr)) (ge_var 10) (ge_op go_add ge_int (ge_var 12))) (ge_var 4)) (ge_op go_add (ge_ix (gx_ix (hu64 hr)) (ge_ix (gx_ix (hu64 hr)) (ge_var 5) (ge_var 13)) (ge_var 13)) ge_int)))
      (gss_one (gs_if (gt_cmp (gc_gt (hu64 hr)) (ge_var 14) (ge_ix (gx_ix (hu64 hr)) (ge_ix (gx_ix (hu64 hr)) (ge_var 5) (ge_var 11)) (ge_var 13))) (gss_cons (gs_set (i := 15) sc_l_house.nd (ge_ix (gx_ix (hu64 hr)) (ge_var 6) (ge_tup (ga_cons (ge_var 13) (ga_cons (ge_var 14) ga_nil)))))
      (gss_cons (gs_asg (ge_comp (own := [("_law_at", 20)]) (N := ["_law_script", "_law_most", "_law_cells", "_law_roll_here", "_law_many", "_law_known", "_law_table", "_law_deeds", "_law_k", "_law_cell", "_law_draws_here", "_law_who", "_law_turn", "_law_other", "_law_to", "_law_theirs", "_law_number", "_law_heard", "_law_what_here", "_law_hand", "_law_at"]) (sc := defScope s_l_house) rfl sc_l_house.nd (gi_rng1 b_range (ga_cons (ge_var 4) ga_nil)) rfl rfl (by decide +kernel) (fun _ _ _ _ _ => (gg_var sc_l_house.nd)) (fun _ _ _ _ _ => gts_nil) (fun _ _ _ _ _ => (ge_callB (gb_max rfl (hu100 hr)) b_max (by decide +kernel) (ga_cons (ge_ix (gx_ix (hu64 hr)) (ge_ix (gx_ix (hu64 hr)) (ge_var 5) (ge_var 11)) (ge_var 20)) (ga_cons (ge_ix (gx_ix (hu64 hr)) (ge_var 15) (ge_var 20)) ga_nil))))) (gg_sub (pg_sub (ge_var 5) (ge_var 11) (set_ok (hu64 hr)))))
      (gss_one (gs_asg (ge_callB (gb_max rfl (hu100 hr)) b_max (by decide +kernel) (ga_cons (ge_ix (gx_ix (hu64 hr)) (ge_ix (gx_ix (hu64 hr)) (ge_var 5) (ge_var 11)) (ge_var 13)) (ga_cons (ge_var 14) ga_nil))) (gg_sub (pg_sub (ge_ix (gx_ix (hu64 hr)) (ge_var 5) (ge_var 11)) (ge_var 13) (set_ok (hu64 hr)))))))) gss_nil)))))
      (gss_cons (gs_set (i := 16) sc_l_house.nd (ge_op go_add (ge_ix (gx_ix (hu64 hr)) (ge_ix (gx_ix (hu64 hr)) (ge_var 5) (ge_var 11)) (ge_var 11)) ge_int))
      (gss_cons (gs_set (i := 17) sc_l_house.nd (ge_callTy gb_tuple b_tuple (by decide +kernel) (ga_cons (ge_ix (gx_ix (hu64 hr)) (ge_var 5) (ge_var 11)) ga_nil)))
      (gss_cons (gs_asg (ge_callTy (gb_list rfl) b_list (by decide +kernel) (ga_cons (ge_var 17) ga_nil)) (gg_sub (pg_sub (ge_var 6) (ge_tup (ga_cons (ge_var 11) (ga_cons (ge_var 16) ga_nil))) (set_ok (hu64 hr)))))
      (gss_cons (gs_asg (ge_var 16) (gg_sub (pg_sub (ge_ix (gx_ix (hu64 hr)) (ge_var 5) (ge_var 11)) (ge_var 11) (set_ok (hu64 hr)))))
      (gss_cons (gs_set (i := 18) sc_l_house.nd (ge_wcal C_l_what (hr.mono (by decide)) (ga_cons (ge_slice (ge_var 10) (go_some ge_int) go_none) (ga_cons (ge_var 3) (ga_cons (ge_var 16) ga_nil)))))
      (gss_one (gs_exp (ge_meth PySem.F.plainAttrs_list PySem.F.slot_list_append PySem.F.type_list_append gm_append (by decide) (ge_var 7) (ga_cons (ge_tup (ga_cons (ge_ix (gx_ix (hu64 hr)) (ge_var 3) (ge_var 11)) (ga_cons (ge_var 16) (ga_cons (ge_var 17) (ga_cons (ge_wcal C_l_branch (hr.mono (by decide)) (ga_cons (ge_ix (gx_ix (hu64 hr)) (ge_var 10) ge_int) (ga_cons (ge_var 3) ga_nil))) (ga_cons (ge_var 18) ga_nil)))))) ga_nil)))))))))))))
      (gss_one (gs_ret (ge_tup (ga_cons (ge_var 3) (ga_cons (ge_var 7) ga_nil))))))))))))
theorem ok_l_mixed_up (b_len : mg "len" = none) (b_enumerate : mg "enumerate" = none) {f : PySem.Addr} {fd : FuncData} (F : Fun K "_law_mixed_up" "_law_mixed_up" s_l_mixed_up f fd) : FnG P w K mg base 1 f fd ["_law_deeds", "_law_cell"] (f_l_mixed_up) := by
  unfold f_l_mixed_up
  exact fn_ok F sc_l_mixed_up fun cdv A outer s H E hr =>
    (gss_cons (gs_set (i := 2) sc_l_mixed_up.nd (ge_lst ga_nil))
      (gss_cons (gs_for PassesOwn.never rfl (gi_enum b_enumerate (ga_cons (ge_var 0) ga_nil)) (gg_tup rfl (ggs_cons (gg_var sc_l_mixed_up.nd) (ggs_cons (gg_var sc_l_mixed_up.nd) ggs_nil))) (gss_cons (gs_set (i := 5) sc_l_mixed_up.nd (ge_op go_mod (ge_op go_add (ge_op go_mod (ge_var 1) (ge_op go_pow ge_int ge_int)) (ge_op go_mul (ge_op go_mul ge_int (ge_var 3)) (ge_var 3))) (ge_op go_add (ge_callB gb_len b_len PySem.boot_len (ga_cons (ge_var 2) ga_nil)) ge_int)))
      (gss_one (gs_exp (ge_meth PySem.F.plainAttrs_list PySem.F.slot_list_insert PySem.F.type_list_insert gm_insert (by decide) (ge_var 2) (ga_cons (ge_var 5) (ga_cons (ge_var 4) ga_nil)))))))
      (gss_one (gs_ret (ge_var 2)))))
theorem ok_l_is_past {f : PySem.Addr} {fd : FuncData} (F : Fun K "_law_is_past" "_law_is_past" s_l_is_past f fd) : FnG P w K mg base 1 f fd ["_law_roll_here", "_law_deed", "_law_other"] (f_l_is_past) := by
  unfold f_l_is_past
  exact fn_ok F sc_l_is_past fun cdv A outer s H E hr =>
    (gss_one (gs_ret (ge_cmp (gc_le (hu64 hr)) (ge_ix (gx_ix (hu64 hr)) (ge_var 2) ge_int) (ge_ix (gx_ix (hu64 hr)) (ge_ix (gx_ix (hu64 hr)) (ge_var 1) ge_int) (ge_meth PySem.F.plainAttrs_list PySem.F.slot_list_index PySem.F.type_list_index (gm_index (hu100 hr)) (by decide) (ge_var 0) (ga_cons (ge_ix (gx_ix (hu64 hr)) (ge_var 2) ge_int) ga_nil))))))
theorem ok_l_heights (b_max : mg "max" = none) (b_len : mg "len" = none) (b_range : mg "range" = none) (C_l_is_past : WkCal P w K mg base 1 "_law_is_past" ["_law_roll_here", "_law_deed", "_law_other"] (f_l_is_past)) {f : PySem.Addr} {fd : FuncData} (F : Fun K "_law_heights" "_law_heights" s_l_heights f fd) : FnG P w K mg base 2 f fd ["_law_roll_here", "_law_deeds"] (f_l_heights) := by
  unfold f_l_heights
  exact fn_ok F sc_l_heights fun cdv A outer s H E hr =>
    (gss_cons (gs_set (i := 2) sc_l_heights.nd ge_dic0)
      (gss_cons (gs_for PassesOwn.never rfl (gi_rng1 b_range (ga_cons (ge_callB gb_len b_len PySem.boot_len (ga_cons (ge_var 1) ga_nil)) ga_nil)) (gg_var sc_l_heights.nd) (gss_one (gs_for PassesOwn.never rfl (gi_seq (ge_var 1)) (gg_var sc_l_heights.nd) (gss_cons (gs_set (i := 5) sc_l_heights.nd (ge_tup (ga_cons (ge_ix (gx_ix (hu64 hr)) (ge_var 4) ge_int) (ga_cons (ge_ix (gx_ix (hu64 hr)) (ge_var 4) ge_int) ga_nil))))
      (gss_cons (gs_setComp (i := 6) (own := [("_law_other", 7)]) (N := ["_law_roll_here", "_law_deeds", "_law_heights_here", "_law_turn", "_law_deed", "_law_name_here", "_law_past", "_law_other", "_law_one"]) (sc := defScope s_l_heights) rfl sc_l_heights.nd (gi_seq (ge_var 1)) rfl rfl (by decide +kernel) (fun _ _ _ _ _ => (gg_var sc_l_heights.nd)) (fun _ _ _ _ _ => (gts_one (gt_val (ge_wcal C_l_is_past (hr.mono (by decide)) (ga_cons (ge_var 0) (ga_cons (ge_var 4) (ga_cons (ge_var 7) ga_nil))))))) (fun _ _ _ _ _ => (ge_tup (ga_cons (ge_ix (gx_ix (hu64 hr)) (ge_var 7) ge_int) (ga_cons (ge_ix (gx_ix (hu64 hr)) (ge_var 7) ge_int) ga_nil)))) (sw_true rfl rfl rfl (by decide +kernel)))
      (gss_one (gs_if (PW.pt (gw_and (gt_cmp (gc_notIn (hu64 hr)) (ge_var 5) (ge_var 2)) (gw_and1 (gt_cmp (gc_eq (hu64 hr)) (ge_comp (own := [("_law_one", 8)]) (N := ["_law_roll_here", "_law_deeds", "_law_heights_here", "_law_turn", "_law_deed", "_law_name_here", "_law_past", "_law_other", "_law_one"]) (sc := defScope s_l_heights) rfl sc_l_heights.nd (gi_seq (ge_var 6)) rfl rfl (by decide +kernel) (fun _ _ _ _ _ => (gg_var sc_l_heights.nd)) (fun _ _ _ _ _ => (gts_one (gt_cmp (gc_notIn (hu64 hr)) (ge_var 8) (ge_var 2)))) (fun _ _ _ _ _ => (ge_var 8))) (ge_lst ga_nil))))) (gss_one (gs_asg (ge_op go_add ge_int (ge_callB (gb_max rfl (hu100 hr)) b_max (by decide +kernel) (ga_cons (ge_op go_add (ge_comp (own := [("_law_one", 8)]) (N := ["_law_roll_here", "_law_deeds", "_law_heights_here", "_law_turn", "_law_deed", "_law_name_here", "_law_past", "_law_other", "_law_one"]) (sc := defScope s_l_heights) rfl sc_l_heights.nd (gi_seq (ge_var 6)) rfl rfl (by decide +kernel) (fun _ _ _ _ _ => (gg_var sc_l_heights.nd)) (fun _ _ _ _ _ => gts_nil) (fun _ _ _ _ _ => (ge_ix (gx_ix (hu64 hr)) (ge_var 2) (ge_var 8)))) (ge_lst (ga_cons ge_int ga_nil))) ga_nil))) (gg_sub (pg_sub (ge_var 2) (ge_var 5) (set_ok (hu64 hr)))))) gss_nil)))))))
      (gss_one (gs_ret (ge_var 2)))))
theorem ok_l_key {f : PySem.Addr} {fd : FuncData} (F : Fun K "_law_key" "_law_key" s_l_key f fd) : FnG P w K mg base 1 f fd ["_law_roll_here", "_law_heights_here", "_law_deed"] (f_l_key) := by
  unfold f_l_key
  exact fn_ok F sc_l_key fun cdv A outer s H E hr =>
    (gss_one (gs_ret (ge_tup (ga_cons (ge_ix (gx_ix (hu64 hr)) (ge_var 1) (ge_tup (ga_cons (ge_ix (gx_ix (hu64 hr)) (ge_var 2) ge_int) (ga_cons (ge_ix (gx_ix (hu64 hr)) (ge_var 2) ge_int) ga_nil)))) (ga_cons (ge_meth PySem.F.plainAttrs_list PySem.F.slot_list_index PySem.F.type_list_index (gm_index (hu100 hr)) (by decide) (ge_var 0) (ga_cons (ge_ix (gx_ix (hu64 hr)) (ge_var 2) ge_int) ga_nil)) ga_nil)))))
theorem ok_l_right (b_sorted : mg "sorted" = none) (b_len : mg "len" = none) (b_tuple : mg "tuple" = none) (b_int : mg "int" = none) (b_isinstance : mg "isinstance" = none) (b_bool : mg "bool" = none) (c_Folk : L2.Cls K a_Folk) (C_Folk_roll : WkCalM P w K mg base 1 a_Folk "roll" ["self"] (f_Folk_roll a_Folk)) (C_Folk_names : WkCalM P w K mg base 1 a_Folk "names" ["self"] (f_Folk_names a_Folk)) (C_Folk_deeds : WkCalM P w K mg base 1 a_Folk "deeds" ["self"] (f_Folk_deeds a_Folk)) (C_Folk_counts : WkCalM P w K mg base 1 a_Folk "counts" ["self"] (f_Folk_counts a_Folk)) (C_Folk_has : WkCalM P w K mg base 1 a_Folk "has" ["self", "name"] (f_Folk_has a_Folk)) (C_Folk_deed : WkCalM P w K mg base 1 a_Folk "deed" ["self", "name"] (f_Folk_deed a_Folk)) (C_Folk_key : WkCalM P w K mg base 1 a_Folk "key" ["self", "name"] (f_Folk_key a_Folk)) (C_l_key : WkCal P w K mg base 1 "_law_key" ["_law_roll_here", "_law_heights_here", "_law_deed"] (f_l_key)) {f c_ P_ : PySem.Addr} {fd : FuncData} (F : FunC K "_law_right" "_law_right" s_l_right f fd c_) (TB : LamX.TabB base mg c_ P_) (hmT : (P_, lamQ "_law_right") ∈ Tb.T) (hu : ∀ p ∈ Tb.T, p.1 = P_ → p.2 = lamQ "_law_right") : FnG P w K mg base 5 f fd ["_law_folk", "_law_roll_here", "_law_deeds", "_law_heights_here"] (f_l_right a_Folk) := by
  unfold f_l_right
  exact fn_okC F sc_l_right fun A outer s H E hr =>
    (gss_cons (gs_set (i := 4) sc_l_right.nd (ge_sortL (N := ["_law_deed", "_law_roll_here", "_law_heights_here"]) (fr := ["_law_roll_here", "_law_heights_here"]) (js := [1, 3]) (x := "_law_deed") (k := 1) b_sorted TB rfl hmT hu (hr.mono (by decide)) (ge_var 2) (NdefX.nscope_by (by decide +kernel)) rfl (fun _ _ _ _ _ _ hr => (ge_wcal C_l_key (hr.mono (by decide)) (ga_cons (ge_var 1) (ga_cons (ge_var 2) (ga_cons (ge_var 0) ga_nil))))) (NdefX.ndef_free (sc := defScope s_l_right) (fr := ["_law_roll_here", "_law_heights_here"]) (by decide +kernel)) (NdefX.ndef_fr (sc := defScope s_l_right) (by decide +kernel)) rfl))
      (gss_cons (gs_if (PW.pt (gw_or (gt_cmp (gc_ne (hu64 hr)) (ge_wcalM0 (ge_var 0) c_Folk C_Folk_roll (hr.mono (by decide))) (ge_var 1)) (gw_or (gt_cmp (gc_ne (hu64 hr)) (ge_wcalM0 (ge_var 0) c_Folk C_Folk_deeds (hr.mono (by decide))) (ge_var 4)) (gw_or1 (gt_cmp (gc_ne (hu64 hr)) (ge_wcalM0 (ge_var 0) c_Folk C_Folk_names (hr.mono (by decide))) (ge_comp (own := [("_law_deed", 5)]) (N := ["_law_folk", "_law_roll_here", "_law_deeds", "_law_heights_here", "_law_due", "_law_deed", "_law_name_here", "_law_rank", "_law_hand"]) (sc := defScope s_l_right) rfl sc_l_right.nd (gi_seq (ge_var 4)) rfl rfl (by decide +kernel) (fun _ _ _ _ _ => (gg_var sc_l_right.nd)) (fun _ _ _ _ _ => gts_nil) (fun _ _ _ _ _ => (ge_tup (ga_cons (ge_ix (gx_ix (hu64 hr)) (ge_var 5) ge_int) (ga_cons (ge_ix (gx_ix (hu64 hr)) (ge_var 5) ge_int) ga_nil)))))))))) (gss_one (gs_ret ge_bl)) gss_nil)
      (gss_cons (gs_if (gt_cmp (gc_ne (hu64 hr)) (ge_wcalM0 (ge_var 0) c_Folk C_Folk_counts (hr.mono (by decide))) (ge_callTy gb_tuple b_tuple (by decide +kernel) (ga_cons (ge_comp (own := [("_law_hand", 8)]) (N := ["_law_folk", "_law_roll_here", "_law_deeds", "_law_heights_here", "_law_due", "_law_deed", "_law_name_here", "_law_rank", "_law_hand"]) (sc := defScope s_l_right) rfl sc_l_right.nd (gi_seq (ge_var 1)) rfl rfl (by decide +kernel) (fun _ _ _ _ _ => (gg_var sc_l_right.nd)) (fun _ _ _ _ _ => gts_nil) (fun _ _ _ _ _ => (ge_callB gb_len b_len PySem.boot_len (ga_cons (ge_comp (own := [("_law_deed", 5)]) (N := ["_law_folk", "_law_roll_here", "_law_deeds", "_law_heights_here", "_law_due", "_law_deed", "_law_name_here", "_law_rank", "_law_hand"]) (sc := _) rfl sc_l_right.nd (gi_seq (ge_var 2)) rfl rfl (by kernel_rfl) (fun _ _ _ _ _ => (gg_var sc_l_right.nd)) (fun _ _ _ _ _ => (gts_one (gt_cmp (gc_eq (hu64 hr)) (ge_ix (gx_ix (hu64 hr)) (ge_var 5) ge_int) (ge_var 8)))) (fun _ _ _ _ _ => (ge_var 5))) ga_nil)))) ga_nil))) (gss_one (gs_ret ge_bl)) gss_nil)
      (gss_cons (gs_for PassesOwn.never rfl (gi_seq (ge_var 2)) (gg_var sc_l_right.nd) (gss_cons (gs_set (i := 6) sc_l_right.nd (ge_tup (ga_cons (ge_ix (gx_ix (hu64 hr)) (ge_var 5) ge_int) (ga_cons (ge_ix (gx_ix (hu64 hr)) (ge_var 5) ge_int) ga_nil))))
      (gss_cons (gs_set (i := 7) sc_l_right.nd (ge_wcalM (ge_var 0) c_Folk C_Folk_key (hr.mono (by decide)) (ga_cons (ge_var 6) ga_nil)))
      (gss_cons (gs_if (PW.pt (gw_or (gt_notB (ge_wcalM (ge_var 0) c_Folk C_Folk_has (hr.mono (by decide)) (ga_cons (ge_var 6) ga_nil))) (gw_or (gt_cmp (gc_ne (hu64 hr)) (ge_wcalM (ge_var 0) c_Folk C_Folk_deed (hr.mono (by decide)) (ga_cons (ge_var 6) ga_nil)) (ge_var 5)) (gw_or1 (gt_not (gt_val (ge_isT (T := "tuple") (by decide) (ge_var 7) b_isinstance b_tuple (by decide +kernel)))))))) (gss_one (gs_ret ge_bl)) gss_nil)
      (gss_one (gs_if (PW.pt (gw_or (gt_cmp (gc_ne (hu64 hr)) (ge_var 7) (ge_wcal C_l_key (hr.mono (by decide)) (ga_cons (ge_var 1) (ga_cons (ge_var 3) (ga_cons (ge_var 5) ga_nil))))) (gw_or (gt_val (ge_isT (T := "bool") (by decide) (ge_ix (gx_ix (hu64 hr)) (ge_var 7) ge_int) b_isinstance b_bool (by decide +kernel))) (gw_or1 (gt_not (gt_val (ge_isT (T := "int") (by decide) (ge_ix (gx_ix (hu64 hr)) (ge_var 7) ge_int) b_isinstance b_int (by decide +kernel)))))))) (gss_one (gs_ret ge_bl)) gss_nil))))))
      (gss_one (gs_ret ge_bl))))))
theorem ok_law (b_zip : mg "zip" = none) (b_list : mg "list" = none) (b_sum : mg "sum" = none) (b_len : mg "len" = none) (b_tuple : mg "tuple" = none) (b_isinstance : mg "isinstance" = none) (b_bool : mg "bool" = none) (c_Folk : L2.Cls K a_Folk) (g_Folk : mg "Folk" = some (.ref a_Folk)) (C_Folk___init__ : WkCalI P w K mg base 3 a_Folk ["self", "roll", "deeds"] (f_Folk___init__ a_Folk)) (C_Folk_roll : WkCalM P w K mg base 1 a_Folk "roll" ["self"] (f_Folk_roll a_Folk)) (C_Folk_names : WkCalM P w K mg base 1 a_Folk "names" ["self"] (f_Folk_names a_Folk)) (C_Folk_deeds : WkCalM P w K mg base 1 a_Folk "deeds" ["self"] (f_Folk_deeds a_Folk)) (C_Folk_counts : WkCalM P w K mg base 1 a_Folk "counts" ["self"] (f_Folk_counts a_Folk)) (C_Folk_has : WkCalM P w K mg base 1 a_Folk "has" ["self", "name"] (f_Folk_has a_Folk)) (C_l_house : WkCal P w K mg base 7 "_law_house" ["_law_script", "_law_most"] (f_l_house)) (C_l_mixed_up : WkCal P w K mg base 1 "_law_mixed_up" ["_law_deeds", "_law_cell"] (f_l_mixed_up)) (C_l_heights : WkCal P w K mg base 2 "_law_heights" ["_law_roll_here", "_law_deeds"] (f_l_heights)) (C_l_right : WkCal P w K mg base 5 "_law_right" ["_law_folk", "_law_roll_here", "_law_deeds", "_law_heights_here"] (f_l_right a_Folk)) {f : PySem.Addr} {fd : FuncData} (F : Fun K "law" "law" s_law f fd) : FnG P w K mg base 8 f fd ["_law_script"] (f_law a_Folk) := by
  unfold f_law
  exact fn_ok F sc_law fun cdv A outer s H E hr =>
    (gss_cons (gs_asg (ge_wcal C_l_house (hr.mono (by decide)) (ga_cons (ge_var 0) (ga_cons ge_int ga_nil))) (gg_tup rfl (ggs_cons (gg_var sc_law.nd) (ggs_cons (gg_var sc_law.nd) ggs_nil))))
      (gss_cons (gs_set (i := 3) sc_law.nd (ge_wcal C_l_heights (hr.mono (by decide)) (ga_cons (ge_var 1) (ga_cons (ge_var 2) ga_nil))))
      (gss_cons (gs_set (i := 4) sc_law.nd (ge_wcal C_l_mixed_up (hr.mono (by decide)) (ga_cons (ge_op go_add (ge_var 2) (ge_step (ge_var 2) ge_int)) (ga_cons (ge_op go_add (ge_callB gb_len b_len PySem.boot_len (ga_cons (ge_var 0) ga_nil)) (ge_callB (gb_sum rfl) b_sum (by decide +kernel) (ga_cons (ge_slice (ge_var 0) go_none (go_some ge_int)) ga_nil))) ga_nil))))
      (gss_cons (gs_set (i := 5) sc_law.nd (ge_callTy (gb_list rfl) b_list (by decide +kernel) (ga_cons (ge_var 4) ga_nil)))
      (gss_cons (gs_set (i := 6) sc_law.nd (ge_callTy (gb_list rfl) b_list (by decide +kernel) (ga_cons (ge_var 1) ga_nil)))
      (gss_cons (gs_set (i := 7) sc_law.nd (ge_wcalI C_Folk___init__ (hr.mono (by decide)) g_Folk (ga_cons (ge_var 6) (ga_cons (ge_var 4) ga_nil))))
      (gss_cons (gs_if (PW.pt (gw_or (gt_cmp (gc_ne (hu64 hr)) (ge_var 4) (ge_var 5)) (gw_or (gt_cmp (gc_ne (hu64 hr)) (ge_var 6) (ge_var 1)) (gw_or1 (gt_not (gt_val (ge_wcal C_l_right (hr.mono (by decide)) (ga_cons (ge_var 7) (ga_cons (ge_var 1) (ga_cons (ge_var 2) (ga_cons (ge_var 3) ga_nil))))))))))) (gss_one (gs_ret ge_bl)) gss_nil)
      (gss_cons (gs_exp (ge_meth0 PySem.F.plainAttrs_list PySem.F.slot_list_clear PySem.F.type_list_clear gm_clear (by decide) (ge_var 4)))
      (gss_cons (gs_exp (ge_meth0 PySem.F.plainAttrs_list PySem.F.slot_list_reverse PySem.F.type_list_reverse gm_reverse (by decide) (ge_var 6)))
      (gss_cons (gs_for PassesOwn.never rfl (gi_seq (ge_lst (ga_cons (ge_wcalM0 (ge_var 7) c_Folk C_Folk_roll (hr.mono (by decide))) (ga_cons (ge_wcalM0 (ge_var 7) c_Folk C_Folk_deeds (hr.mono (by decide))) (ga_cons (ge_wcalM0 (ge_var 7) c_Folk C_Folk_names (hr.mono (by decide))) ga_nil))))) (gg_var sc_law.nd) (gss_one (gs_exp (ge_meth PySem.F.plainAttrs_list PySem.F.slot_list_append PySem.F.type_list_append gm_append (by decide) (ge_var 8) (ga_cons ge_non ga_nil)))))
      (gss_cons (gs_set (i := 9) sc_law.nd (ge_wcalM0 (ge_var 7) c_Folk C_Folk_counts (hr.mono (by decide))))
      (gss_cons (gs_if (PW.pt (gw_or (gt_not (gt_val (ge_isT (T := "tuple") (by decide) (ge_var 9) b_isinstance b_tuple (by decide +kernel)))) (gw_or1 (gt_cmp (gc_ne (hu64 hr)) (ge_comp (own := [("_law_one", 13)]) (N := ["_law_script", "_law_roll_here", "_law_deeds", "_law_heights_here", "_law_handed", "_law_kept", "_law_hands", "_law_folk", "_law_told", "_law_counts", "_law_stranger", "_law_hand", "_law_many", "_law_one", "_law_word_here"]) (sc := defScope s_law) rfl sc_law.nd (gi_seq (ge_var 9)) rfl rfl (by decide +kernel) (fun _ _ _ _ _ => (gg_var sc_law.nd)) (fun _ _ _ _ _ => (gts_one (gt_val (ge_isT (T := "bool") (by decide) (ge_var 13) b_isinstance b_bool (by decide +kernel))))) (fun _ _ _ _ _ => (ge_var 13))) (ge_lst ga_nil))))) (gss_one (gs_ret ge_bl)) gss_nil)
      (gss_cons (gs_set (i := 10) sc_law.nd (ge_ix (gx_ix (hu64 hr)) (ge_comp (own := [("_law_word_here", 14)]) (N := ["_law_script", "_law_roll_here", "_law_deeds", "_law_heights_here", "_law_handed", "_law_kept", "_law_hands", "_law_folk", "_law_told", "_law_counts", "_law_stranger", "_law_hand", "_law_many", "_law_one", "_law_word_here"]) (sc := defScope s_law) rfl sc_law.nd (gi_seq (ge_lst (ga_cons ge_str (ga_cons ge_str (ga_cons ge_str (ga_cons ge_str (ga_cons ge_str (ga_cons ge_str (ga_cons ge_str ga_nil))))))))) rfl rfl (by decide +kernel) (fun _ _ _ _ _ => (gg_var sc_law.nd)) (fun _ _ _ _ _ => (gts_one (gt_cmp (gc_notIn (hu64 hr)) (ge_var 14) (ge_var 1)))) (fun _ _ _ _ _ => (ge_var 14))) ge_int))
      (gss_cons (gs_if (gt_notB (ge_wcalM (ge_var 7) c_Folk C_Folk_has (hr.mono (by decide)) (ga_cons (ge_tup (ga_cons (ge_var 10) (ga_cons ge_int ga_nil))) ga_nil))) (gss_one (gs_ret ge_bl)) gss_nil)
      (gss_cons (gs_for PassesOwn.never rfl (gi_zipM b_zip (ga_cons (ge_var 1) (ga_cons (ge_var 9) ga_nil))) (gg_tup rfl (ggs_cons (gg_var sc_law.nd) (ggs_cons (gg_var sc_law.nd) ggs_nil))) (gss_one (gs_if (PW.pt (gw_or (gt_notB (ge_wcalM (ge_var 7) c_Folk C_Folk_has (hr.mono (by decide)) (ga_cons (ge_tup (ga_cons (ge_var 11) (ga_cons (ge_op go_add (ge_var 12) ge_int) ga_nil))) ga_nil))) (gw_or1 (gt_notB (ge_wcalM (ge_var 7) c_Folk C_Folk_has (hr.mono (by decide)) (ga_cons (ge_tup (ga_cons (ge_var 11) (ga_cons ge_int ga_nil))) ga_nil)))))) (gss_one (gs_ret ge_bl)) gss_nil)))
      (gss_one (gs_ret (ge_wcal C_l_right (hr.mono (by decide)) (ga_cons (ge_var 7) (ga_cons (ge_var 1) (ga_cons (ge_var 2) (ga_cons (ge_var 3) ga_nil))))))))))))))))))))))
end
theorem all_mk {l : PySem.W.OpenLaw} {w : World} {K : PySem.W.Frag} {h : Heap} {mg : Str → Option Value} {fa : PySem.Addr} (X : K.In h) (G : h.Ns mainGlobals mg) (hfa : mg "law" = some (.ref fa))
    {C_Folk : PySem.Addr} (K_Folk : WkC K "Folk" C_Folk) (n_Folk_hands : L2.NoAttr K C_Folk "hands") (n_Folk_ranks : L2.NoAttr K C_Folk "ranks") (n_Folk_table : L2.NoAttr K C_Folk "table") (n_Folk_order : L2.NoAttr K C_Folk "order") (A0 : WkA K "name_of" "name_of" s_name_of) (A1 : WkA K "are_no_less" "are_no_less" s_are_no_less) (A2 : WkA K "table_of" "table_of" s_table_of) (A3 : WkM K C_Folk "lasts" "Folk.lasts" s_Folk_lasts) (A4 : WkM K C_Folk "take" "Folk.take" s_Folk_take)
    {f5 : PySem.Addr} {oc5 kV5 dc5 pm5 cd5 ct5 : Value} {od5 an5 : Option PySem.Addr} {sl5 : Array (Option Value)} (a5 : PySem.W.findIn K (.ref C_Folk) "__init__" = some (some (.ref f5))) (i5 : PySem.W.isFn K (.ref f5) = true) (l5 : K.lookup f5 = some ⟨oc5, od5, .func (PySem.W.fnOf "__init__" "Folk.__init__" (defArgs s_Folk___init__) (defBody s_Folk___init__) (defScope s_Folk___init__) .none kV5 dc5 pm5 an5 cd5 ct5), sl5⟩) (c5 : PySem.W.codeIn K cd5 "Folk.__init__" = true) (k5 : PySem.W.keepIn K (.ref f5) = true) (A6 : WkM K C_Folk "roll" "Folk.roll" s_Folk_roll) (A7 : WkM K C_Folk "names" "Folk.names" s_Folk_names) (A8 : WkM K C_Folk "deeds" "Folk.deeds" s_Folk_deeds) (A9 : WkM K C_Folk "counts" "Folk.counts" s_Folk_counts) (A10 : WkM K C_Folk "has" "Folk.has" s_Folk_has) (A11 : WkM K C_Folk "deed" "Folk.deed" s_Folk_deed) (A12 : WkM K C_Folk "key" "Folk.key" s_Folk_key) (A13 : WkA K "_law_draws" "_law_draws" s_l_draws) (A14 : WkA K "_law_word" "_law_word" s_l_word) (A15 : WkA K "_law_roll" "_law_roll" s_l_roll) (A16 : WkA K "_law_name" "_law_name" s_l_name) (A17 : WkA K "_law_part" "_law_part" s_l_part) (A18 : WkA K "_law_sign_name" "_law_sign_name" s_l_sign_name) (A19 : WkA K "_law_side" "_law_side" s_l_side) (A20 : WkA K "_law_sign" "_law_sign" s_l_sign) (A21 : WkA K "_law_signs" "_law_signs" s_l_signs) (A22 : WkA K "_law_sign_names" "_law_sign_names" s_l_sign_names) (A23 : WkA K "_law_what_of_signs" "_law_what_of_signs" s_l_what_of_signs) (A24 : WkA K "_law_what_of_marks" "_law_what_of_marks" s_l_what_of_marks) (A25 : WkA K "_law_what" "_law_what" s_l_what) (A26 : WkA K "_law_branch" "_law_branch" s_l_branch) (A27 : WkA K "_law_house" "_law_house" s_l_house) (A28 : WkA K "_law_mixed_up" "_law_mixed_up" s_l_mixed_up) (A29 : WkA K "_law_is_past" "_law_is_past" s_l_is_past) (A30 : WkA K "_law_heights" "_law_heights" s_l_heights) (A31 : WkA K "_law_key" "_law_key" s_l_key)
    {f32 : PySem.Addr} {oc32 kV32 dc32 pm32 cd32 ct32 : Value} {od32 an32 : Option PySem.Addr} {sl32 : Array (Option Value)} (a32 : PySem.W.nsIn K mainGlobals "_law_right" = some (some (.ref f32))) (l32 : K.lookup f32 = some ⟨oc32, od32, .func (PySem.W.fnOf "_law_right" "_law_right" (defArgs s_l_right) (defBody s_l_right) (defScope s_l_right) .none kV32 dc32 pm32 an32 cd32 ct32), sl32⟩) (c32 : PySem.W.codeIn K cd32 "_law_right" = true) (k32 : PySem.W.keepIn K (.ref f32) = true)
    {f33 : PySem.Addr} {oc33 kV33 dc33 pm33 cd33 ct33 : Value} {od33 an33 : Option PySem.Addr} {sl33 : Array (Option Value)} (a33 : PySem.W.nsIn K mainGlobals "law" = some (some (.ref f33))) (l33 : K.lookup f33 = some ⟨oc33, od33, .func (PySem.W.fnOf "law" "law" (defArgs s_law) (defBody s_law) (defScope s_law) .none kV33 dc33 pm33 an33 cd33 ct33), sl33⟩) (c33 : PySem.W.codeIn K cd33 "law" = true) (k33 : PySem.W.keepIn K (.ref f33) = true) (z_zip : PySem.W.nsIn K mainGlobals "zip" = some none) (z_all : PySem.W.nsIn K mainGlobals "all" = some none) (z_max : PySem.W.nsIn K mainGlobals "max" = some none) (z_list : PySem.W.nsIn K mainGlobals "list" = some none) (z_sorted : PySem.W.nsIn K mainGlobals "sorted" = some none) (z_sum : PySem.W.nsIn K mainGlobals "sum" = some none) (z_len : PySem.W.nsIn K mainGlobals "len" = some none) (z_tuple : PySem.W.nsIn K mainGlobals "tuple" = some none) (z_range : PySem.W.nsIn K mainGlobals "range" = some none) (z_int : PySem.W.nsIn K mainGlobals "int" = some none) (z_enumerate : PySem.W.nsIn K mainGlobals "enumerate" = some none) (z_isinstance : PySem.W.nsIn K mainGlobals "isinstance" = some none) (z_bool : PySem.W.nsIn K mainGlobals "bool" = some none) {lc5 lP5 : PySem.Addr} (e5 : cd5 = .ref lc5) {lc32 lP32 : PySem.Addr} (e32 : cd32 = .ref lc32) (hm5 : (lP5, lamQ "Folk.__init__") ∈ Tb.T) (hu5 : ∀ p ∈ Tb.T, p.1 = lP5 → p.2 = lamQ "Folk.__init__") (hm32 : (lP32, lamQ "_law_right") ∈ Tb.T) (hu32 : ∀ p ∈ Tb.T, p.1 = lP32 → p.2 = lamQ "_law_right") :
    ∃ fd : FuncData, (∀ (s : Shared) (v : Value), BindsTo s fd ⟨[v], []⟩ [("_law_script", v)]) ∧ ∀ base : Heap, K.In base → base.Ns mainGlobals mg → LamX.TabB base mg lc5 lP5 → LamX.TabB base mg lc32 lP32 → FnOk l.prog w K mg base CX0 8 fa fd ["_law_script"] (spG K w f_lawA) := by
  have e := hfa.symm.trans (PySem.W.mg_of X G a33)
  cases e
  refine ⟨PySem.W.fnOf "law" "law" (defArgs s_law) (defBody s_law) (defScope s_law) .none kV33 dc33 pm33 an33 cd33 ct33, fun s v => .of_eq rfl, fun base _ _ T5 T32 => ?_⟩
  have b_zip := PySem.W.mg_none_of X G z_zip
  have b_all := PySem.W.mg_none_of X G z_all
  have b_max := PySem.W.mg_none_of X G z_max
  have b_list := PySem.W.mg_none_of X G z_list
  have b_sorted := PySem.W.mg_none_of X G z_sorted
  have b_sum := PySem.W.mg_none_of X G z_sum
  have b_len := PySem.W.mg_none_of X G z_len
  have b_tuple := PySem.W.mg_none_of X G z_tuple
  have b_range := PySem.W.mg_none_of X G z_range
  have b_int := PySem.W.mg_none_of X G z_int
  have b_enumerate := PySem.W.mg_none_of X G z_enumerate
  have b_isinstance := PySem.W.mg_none_of X G z_isinstance
  have b_bool := PySem.W.mg_none_of X G z_bool
  have c_Folk := K_Folk.cls
  have g_Folk := PySem.W.mg_of X G K_Folk.a
  have C_name_of := wkCal (ps := ["deed"]) (P := l.prog) (w := w) (base := base) X G A0 (fun _ _ _ _ _ _ us hl => match us, hl with | [_], _ => rfl) fun F => ok_name_of F
  have C_are_no_less := wkCal (ps := ["one", "other"]) (P := l.prog) (w := w) (base := base) X G A1 (fun _ _ _ _ _ _ us hl => match us, hl with | [_, _], _ => rfl) fun F => ok_are_no_less b_zip b_all F
  have C_table_of := wkCal (ps := ["deeds"]) (P := l.prog) (w := w) (base := base) X G A2 (fun _ _ _ _ _ _ us hl => match us, hl with | [_], _ => rfl) fun F => ok_table_of C_name_of F
  have C_Folk_lasts := wkCalM (ps := ["self", "counts"]) (mg := mg) (P := l.prog) (w := w) (base := base) A3 (fun _ _ _ _ _ _ us hl => match us, hl with | [_, _], _ => rfl) fun F => ok_Folk_lasts b_zip c_Folk n_Folk_hands F
  have C_Folk_take := wkCalM (ps := ["self", "deed"]) (mg := mg) (P := l.prog) (w := w) (base := base) A4 (fun _ _ _ _ _ _ us hl => match us, hl with | [_, _], _ => rfl) fun F => ok_Folk_take b_max c_Folk n_Folk_hands n_Folk_ranks n_Folk_table C_name_of C_are_no_less C_Folk_lasts F
  have F5 := fun_mk (st := s_Folk___init__) l5 c5 k5
  have FC5 := func_mk (st := s_Folk___init__) l5 c5 e5
  have b5 := F5.binds (ps := ["self", "roll", "deeds"]) (fun _ _ _ _ _ _ us hl => match us, hl with | [_, _, _], _ => rfl)
  have G_Folk___init__ := ok_Folk___init__ (mg := mg) (P := l.prog) (w := w) (base := base) b_list b_sorted b_sum c_Folk n_Folk_hands n_Folk_order n_Folk_ranks n_Folk_table C_table_of C_Folk_take FC5 T5 hm5 hu5
  let C_Folk___init__ : WkCalI l.prog w K mg base 3 C_Folk ["self", "roll", "deeds"] (f_Folk___init__ C_Folk) := ⟨f5, _, G_Folk___init__, ⟨K_Folk.mkk, a5, i5, K_Folk.kc⟩, b5⟩
  have C_Folk_roll := wkCalM (ps := ["self"]) (mg := mg) (P := l.prog) (w := w) (base := base) A6 (fun _ _ _ _ _ _ us hl => match us, hl with | [_], _ => rfl) fun F => ok_Folk_roll b_list c_Folk n_Folk_hands F
  have C_Folk_names := wkCalM (ps := ["self"]) (mg := mg) (P := l.prog) (w := w) (base := base) A7 (fun _ _ _ _ _ _ us hl => match us, hl with | [_], _ => rfl) fun F => ok_Folk_names b_list c_Folk n_Folk_order F
  have C_Folk_deeds := wkCalM (ps := ["self"]) (mg := mg) (P := l.prog) (w := w) (base := base) A8 (fun _ _ _ _ _ _ us hl => match us, hl with | [_], _ => rfl) fun F => ok_Folk_deeds c_Folk n_Folk_order n_Folk_table F
  have C_Folk_counts := wkCalM (ps := ["self"]) (mg := mg) (P := l.prog) (w := w) (base := base) A9 (fun _ _ _ _ _ _ us hl => match us, hl with | [_], _ => rfl) fun F => ok_Folk_counts b_len b_tuple c_Folk n_Folk_hands n_Folk_order F
  have C_Folk_has := wkCalM (ps := ["self", "name"]) (mg := mg) (P := l.prog) (w := w) (base := base) A10 (fun _ _ _ _ _ _ us hl => match us, hl with | [_, _], _ => rfl) fun F => ok_Folk_has c_Folk n_Folk_table F
  have C_Folk_deed := wkCalM (ps := ["self", "name"]) (mg := mg) (P := l.prog) (w := w) (base := base) A11 (fun _ _ _ _ _ _ us hl => match us, hl with | [_, _], _ => rfl) fun F => ok_Folk_deed c_Folk n_Folk_table F
  have C_Folk_key := wkCalM (ps := ["self", "name"]) (mg := mg) (P := l.prog) (w := w) (base := base) A12 (fun _ _ _ _ _ _ us hl => match us, hl with | [_, _], _ => rfl) fun F => ok_Folk_key c_Folk n_Folk_ranks F
  have C_l_draws := wkCal (ps := ["_law_cell", "_law_many"]) (P := l.prog) (w := w) (base := base) X G A13 (fun _ _ _ _ _ _ us hl => match us, hl with | [_, _], _ => rfl) fun F => ok_l_draws b_max b_range F
  have C_l_word := wkCal (ps := ["_law_number"]) (P := l.prog) (w := w) (base := base) X G A14 (fun _ _ _ _ _ _ us hl => match us, hl with | [_], _ => rfl) fun F => ok_l_word b_range F
  have C_l_roll := wkCal (ps := ["_law_cell"]) (P := l.prog) (w := w) (base := base) X G A15 (fun _ _ _ _ _ _ us hl => match us, hl with | [_], _ => rfl) fun F => ok_l_roll b_range C_l_draws C_l_word F
  have C_l_name := wkCal (ps := ["_law_number", "_law_roll_here"]) (P := l.prog) (w := w) (base := base) X G A16 (fun _ _ _ _ _ _ us hl => match us, hl with | [_, _], _ => rfl) fun F => ok_l_name b_len F
  have C_l_part := wkCal (ps := ["_law_number", "_law_roll_here"]) (P := l.prog) (w := w) (base := base) X G A17 (fun _ _ _ _ _ _ us hl => match us, hl with | [_, _], _ => rfl) fun F => ok_l_part C_l_name F
  have C_l_sign_name := wkCal (ps := ["_law_number", "_law_roll_here"]) (P := l.prog) (w := w) (base := base) X G A18 (fun _ _ _ _ _ _ us hl => match us, hl with | [_, _], _ => rfl) fun F => ok_l_sign_name b_int C_l_name F
  have C_l_side := wkCal (ps := ["_law_number", "_law_roll_here"]) (P := l.prog) (w := w) (base := base) X G A19 (fun _ _ _ _ _ _ us hl => match us, hl with | [_, _], _ => rfl) fun F => ok_l_side C_l_sign_name F
  have C_l_sign := wkCal (ps := ["_law_number", "_law_roll_here"]) (P := l.prog) (w := w) (base := base) X G A20 (fun _ _ _ _ _ _ us hl => match us, hl with | [_, _], _ => rfl) fun F => ok_l_sign C_l_word C_l_part F
  have C_l_signs := wkCal (ps := ["_law_draws_here", "_law_roll_here"]) (P := l.prog) (w := w) (base := base) X G A21 (fun _ _ _ _ _ _ us hl => match us, hl with | [_, _], _ => rfl) fun F => ok_l_signs b_tuple C_l_sign F
  have C_l_sign_names := wkCal (ps := ["_law_draws_here", "_law_roll_here"]) (P := l.prog) (w := w) (base := base) X G A22 (fun _ _ _ _ _ _ us hl => match us, hl with | [_, _], _ => rfl) fun F => ok_l_sign_names b_tuple C_l_sign_name F
  have C_l_what_of_signs := wkCal (ps := ["_law_kind", "_law_more", "_law_roll_here"]) (P := l.prog) (w := w) (base := base) X G A23 (fun _ _ _ _ _ _ us hl => match us, hl with | [_, _, _], _ => rfl) fun F => ok_l_what_of_signs b_int C_l_name C_l_part C_l_sign_name C_l_signs C_l_sign_names F
  have C_l_what_of_marks := wkCal (ps := ["_law_kind", "_law_more", "_law_roll_here"]) (P := l.prog) (w := w) (base := base) X G A24 (fun _ _ _ _ _ _ us hl => match us, hl with | [_, _, _], _ => rfl) fun F => ok_l_what_of_marks b_int C_l_word C_l_name C_l_part C_l_side F
  have C_l_what := wkCal (ps := ["_law_draws_here", "_law_roll_here", "_law_number"]) (P := l.prog) (w := w) (base := base) X G A25 (fun _ _ _ _ _ _ us hl => match us, hl with | [_, _, _], _ => rfl) fun F => ok_l_what b_len b_tuple C_l_word C_l_part C_l_what_of_signs C_l_what_of_marks F
  have C_l_branch := wkCal (ps := ["_law_number", "_law_roll_here"]) (P := l.prog) (w := w) (base := base) X G A26 (fun _ _ _ _ _ _ us hl => match us, hl with | [_, _], _ => rfl) fun F => ok_l_branch b_len C_l_word F
  have C_l_house := wkCal (ps := ["_law_script", "_law_most"]) (P := l.prog) (w := w) (base := base) X G A27 (fun _ _ _ _ _ _ us hl => match us, hl with | [_, _], _ => rfl) fun F => ok_l_house b_max b_list b_len b_tuple b_range b_enumerate C_l_draws C_l_roll C_l_what C_l_branch F
  have C_l_mixed_up := wkCal (ps := ["_law_deeds", "_law_cell"]) (P := l.prog) (w := w) (base := base) X G A28 (fun _ _ _ _ _ _ us hl => match us, hl with | [_, _], _ => rfl) fun F => ok_l_mixed_up b_len b_enumerate F
  have C_l_is_past := wkCal (ps := ["_law_roll_here", "_law_deed", "_law_other"]) (P := l.prog) (w := w) (base := base) X G A29 (fun _ _ _ _ _ _ us hl => match us, hl with | [_, _, _], _ => rfl) fun F => ok_l_is_past F
  have C_l_heights := wkCal (ps := ["_law_roll_here", "_law_deeds"]) (P := l.prog) (w := w) (base := base) X G A30 (fun _ _ _ _ _ _ us hl => match us, hl with | [_, _], _ => rfl) fun F => ok_l_heights b_max b_len b_range C_l_is_past F
  have C_l_key := wkCal (ps := ["_law_roll_here", "_law_heights_here", "_law_deed"]) (P := l.prog) (w := w) (base := base) X G A31 (fun _ _ _ _ _ _ us hl => match us, hl with | [_, _, _], _ => rfl) fun F => ok_l_key F
  have F32 := fun_mk (st := s_l_right) l32 c32 k32
  have FC32 := func_mk (st := s_l_right) l32 c32 e32
  have b32 := F32.binds (ps := ["_law_folk", "_law_roll_here", "_law_deeds", "_law_heights_here"]) (fun _ _ _ _ _ _ us hl => match us, hl with | [_, _, _, _], _ => rfl)
  have G_l_right := ok_l_right (mg := mg) (P := l.prog) (w := w) (base := base) b_sorted b_len b_tuple b_int b_isinstance b_bool c_Folk C_Folk_roll C_Folk_names C_Folk_deeds C_Folk_counts C_Folk_has C_Folk_deed C_Folk_key C_l_key FC32 T32 hm32 hu32
  let C_l_right : WkCal l.prog w K mg base 5 "_law_right" ["_law_folk", "_law_roll_here", "_law_deeds", "_law_heights_here"] (f_l_right C_Folk) := ⟨f32, _, G_l_right, PySem.W.mg_of X G a32, k32, b32⟩
  have F33 := fun_mk (st := s_law) l33 c33 k33
  have G_law := ok_law (mg := mg) (P := l.prog) (w := w) (base := base) b_zip b_list b_sum b_len b_tuple b_isinstance b_bool c_Folk g_Folk C_Folk___init__ C_Folk_roll C_Folk_names C_Folk_deeds C_Folk_counts C_Folk_has C_l_house C_l_mixed_up C_l_heights C_l_right F33
  exact FnOk.imp G_law fun vs H Q E ⟨ds, h, Q0, r, A, q, k⟩ => ⟨ds, h, Q0, r, A, q _, k⟩
end K03
namespace K03
open PySem PySem.Spec PyProof.Rows L2 G
theorem law_at {l : PySem.W.OpenLaw} {w : World} {K : PySem.W.Frag} {h : Heap} {mg : Str → Option Value} {fa : PySem.Addr} (X : K.In h) (G : h.Ns mainGlobals mg) (hfa : mg "law" = some (.ref fa))
    {C_Folk : PySem.Addr} (K_Folk : WkC K "Folk" C_Folk) (n_Folk_hands : L2.NoAttr K C_Folk "hands") (n_Folk_ranks : L2.NoAttr K C_Folk "ranks") (n_Folk_table : L2.NoAttr K C_Folk "table") (n_Folk_order : L2.NoAttr K C_Folk "order") (A0 : WkA K "name_of" "name_of" s_name_of) (A1 : WkA K "are_no_less" "are_no_less" s_are_no_less) (A2 : WkA K "table_of" "table_of" s_table_of) (A3 : WkM K C_Folk "lasts" "Folk.lasts" s_Folk_lasts) (A4 : WkM K C_Folk "take" "Folk.take" s_Folk_take)
    {f5 : PySem.Addr} {oc5 kV5 dc5 pm5 cd5 ct5 : Value} {od5 an5 : Option PySem.Addr} {sl5 : Array (Option Value)} (a5 : PySem.W.findIn K (.ref C_Folk) "__init__" = some (some (.ref f5))) (i5 : PySem.W.isFn K (.ref f5) = true) (l5 : K.lookup f5 = some ⟨oc5, od5, .func (PySem.W.fnOf "__init__" "Folk.__init__" (defArgs s_Folk___init__) (defBody s_Folk___init__) (defScope s_Folk___init__) .none kV5 dc5 pm5 an5 cd5 ct5), sl5⟩) (c5 : PySem.W.codeIn K cd5 "Folk.__init__" = true) (k5 : PySem.W.keepIn K (.ref f5) = true) (A6 : WkM K C_Folk "roll" "Folk.roll" s_Folk_roll) (A7 : WkM K C_Folk "names" "Folk.names" s_Folk_names) (A8 : WkM K C_Folk "deeds" "Folk.deeds" s_Folk_deeds) (A9 : WkM K C_Folk "counts" "Folk.counts" s_Folk_counts) (A10 : WkM K C_Folk "has" "Folk.has" s_Folk_has) (A11 : WkM K C_Folk "deed" "Folk.deed" s_Folk_deed) (A12 : WkM K C_Folk "key" "Folk.key" s_Folk_key) (A13 : WkA K "_law_draws" "_law_draws" s_l_draws) (A14 : WkA K "_law_word" "_law_word" s_l_word) (A15 : WkA K "_law_roll" "_law_roll" s_l_roll) (A16 : WkA K "_law_name" "_law_name" s_l_name) (A17 : WkA K "_law_part" "_law_part" s_l_part) (A18 : WkA K "_law_sign_name" "_law_sign_name" s_l_sign_name) (A19 : WkA K "_law_side" "_law_side" s_l_side) (A20 : WkA K "_law_sign" "_law_sign" s_l_sign) (A21 : WkA K "_law_signs" "_law_signs" s_l_signs) (A22 : WkA K "_law_sign_names" "_law_sign_names" s_l_sign_names) (A23 : WkA K "_law_what_of_signs" "_law_what_of_signs" s_l_what_of_signs) (A24 : WkA K "_law_what_of_marks" "_law_what_of_marks" s_l_what_of_marks) (A25 : WkA K "_law_what" "_law_what" s_l_what) (A26 : WkA K "_law_branch" "_law_branch" s_l_branch) (A27 : WkA K "_law_house" "_law_house" s_l_house) (A28 : WkA K "_law_mixed_up" "_law_mixed_up" s_l_mixed_up) (A29 : WkA K "_law_is_past" "_law_is_past" s_l_is_past) (A30 : WkA K "_law_heights" "_law_heights" s_l_heights) (A31 : WkA K "_law_key" "_law_key" s_l_key)
    {f32 : PySem.Addr} {oc32 kV32 dc32 pm32 cd32 ct32 : Value} {od32 an32 : Option PySem.Addr} {sl32 : Array (Option Value)} (a32 : PySem.W.nsIn K mainGlobals "_law_right" = some (some (.ref f32))) (l32 : K.lookup f32 = some ⟨oc32, od32, .func (PySem.W.fnOf "_law_right" "_law_right" (defArgs s_l_right) (defBody s_l_right) (defScope s_l_right) .none kV32 dc32 pm32 an32 cd32 ct32), sl32⟩) (c32 : PySem.W.codeIn K cd32 "_law_right" = true) (k32 : PySem.W.keepIn K (.ref f32) = true)
    {f33 : PySem.Addr} {oc33 kV33 dc33 pm33 cd33 ct33 : Value} {od33 an33 : Option PySem.Addr} {sl33 : Array (Option Value)} (a33 : PySem.W.nsIn K mainGlobals "law" = some (some (.ref f33))) (l33 : K.lookup f33 = some ⟨oc33, od33, .func (PySem.W.fnOf "law" "law" (defArgs s_law) (defBody s_law) (defScope s_law) .none kV33 dc33 pm33 an33 cd33 ct33), sl33⟩) (c33 : PySem.W.codeIn K cd33 "law" = true) (k33 : PySem.W.keepIn K (.ref f33) = true) (z_zip : PySem.W.nsIn K mainGlobals "zip" = some none) (z_all : PySem.W.nsIn K mainGlobals "all" = some none) (z_max : PySem.W.nsIn K mainGlobals "max" = some none) (z_list : PySem.W.nsIn K mainGlobals "list" = some none) (z_sorted : PySem.W.nsIn K mainGlobals "sorted" = some none) (z_sum : PySem.W.nsIn K mainGlobals "sum" = some none) (z_len : PySem.W.nsIn K mainGlobals "len" = some none) (z_tuple : PySem.W.nsIn K mainGlobals "tuple" = some none) (z_range : PySem.W.nsIn K mainGlobals "range" = some none) (z_int : PySem.W.nsIn K mainGlobals "int" = some none) (z_enumerate : PySem.W.nsIn K mainGlobals "enumerate" = some none) (z_isinstance : PySem.W.nsIn K mainGlobals "isinstance" = some none) (z_bool : PySem.W.nsIn K mainGlobals "bool" = some none) {lc5 lP5 : PySem.Addr} (e5 : cd5 = .ref lc5) {lc32 lP32 : PySem.Addr} (e32 : cd32 = .ref lc32) (h5 : PySem.W.codeHdIn K lc5 lP5 = true) (t5 : h.get? lP5 = some { cls := .none, data := .fields #[] }) (n5 : K.lookup lP5 = none) (h32 : PySem.W.codeHdIn K lc32 lP32 = true) (t32 : h.get? lP32 = some { cls := .none, data := .fields #[] }) (n32 : K.lookup lP32 = none) (d5_32 : lP5 ≠ lP32) : LamX.LawAtS l w K CX0 8 63 "_law_script" mg fa h := by
  letI : Tb := ⟨[(lP5, lamQ "Folk.__init__"), (lP32, lamQ "_law_right")]⟩
  have hm5 : (lP5, lamQ "Folk.__init__") ∈ Tb.T := List.mem_cons_self
  have hu5 : ∀ p ∈ Tb.T, p.1 = lP5 → p.2 = lamQ "Folk.__init__" := fun p hp q => by
    have hp : p ∈ [(lP5, lamQ "Folk.__init__"), (lP32, lamQ "_law_right")] := hp
    simp only [List.mem_cons, List.not_mem_nil, or_false] at hp
    rcases hp with hp | hp
    · rw [hp]
    · rw [hp] at q; exact absurd q (fun z => d5_32 z.symm)
  have hm32 : (lP32, lamQ "_law_right") ∈ Tb.T := (List.mem_cons_of_mem _ List.mem_cons_self)
  have hu32 : ∀ p ∈ Tb.T, p.1 = lP32 → p.2 = lamQ "_law_right" := fun p hp q => by
    have hp : p ∈ [(lP5, lamQ "Folk.__init__"), (lP32, lamQ "_law_right")] := hp
    simp only [List.mem_cons, List.not_mem_nil, or_false] at hp
    rcases hp with hp | hp
    · rw [hp] at q; exact absurd q d5_32
    · rw [hp]
  obtain ⟨fd, hb, hF⟩ := all_mk (l := l) (w := w) X G hfa K_Folk n_Folk_hands n_Folk_ranks n_Folk_table n_Folk_order A0 A1 A2 A3 A4 a5 i5 l5 c5 k5 A6 A7 A8 A9 A10 A11 A12 A13 A14 A15 A16 A17 A18 A19 A20 A21 A22 A23 A24 A25 A26 A27 A28 A29 A30 A31 a32 l32 c32 k32 a33 l33 c33 k33 z_zip z_all z_max z_list z_sorted z_sum z_len z_tuple z_range z_int z_enumerate z_isinstance z_bool e5 e32 hm5 hu5 hm32 hu32
  refine ⟨fd, [(lc5, lP5), (lc32, lP32)], spT K [(lc5, lP5), (lc32, lP32)] 63, ?_, ?_, ?_, hb, fun H a ns hl _ hT hS => ⟨a, ns, rfl, hl, hT, hS, rfl⟩, fun base hk hn hTB => froz law_holds (fun p hp => ?_) (hF base hk hn (hTB _ List.mem_cons_self) (hTB _ (List.mem_cons_of_mem _ List.mem_cons_self)))⟩
  · intro p hp
    simp only [List.mem_cons, List.not_mem_nil, or_false] at hp
    rcases hp with rfl | rfl
    · exact t5
    · exact t32
  · intro p hp
    simp only [List.mem_cons, List.not_mem_nil, or_false] at hp
    rcases hp with rfl | rfl
    · exact n5
    · exact n32
  · intro p hp
    simp only [List.mem_cons, List.not_mem_nil, or_false] at hp
    rcases hp with rfl | rfl
    · exact PySem.W.codeHd_of_K X h5
    · exact PySem.W.codeHd_of_K X h32
  · have hp : p ∈ [(lP5, lamQ "Folk.__init__"), (lP32, lamQ "_law_right")] := hp
    simp only [List.mem_cons, List.not_mem_nil, or_false] at hp
    rcases hp with rfl | rfl
    · exact ⟨lc5, List.mem_cons_self⟩
    · exact ⟨lc32, (List.mem_cons_of_mem _ List.mem_cons_self)⟩
end K03
open PySem PySem.W PyProof.Rows
set_option maxHeartbeats 0 in
theorem PySem.Challenge.cw_pagefolk_k03_whole_sets_holds : PySem.Challenge.rw_pagefolk_k03_whole_sets.Holds := by
  refine K03.Hd.hd ?_
  k_fill
  refine LamX.walk_ofTs (l := PySem.Challenge.rw_pagefolk_k03_whole_sets) (n := 63) (k := 8) (x := "_law_script") (CX := fun _ => L2.CX0) rfl (by decide) (by kernel_rfl) ⟨rfl, by decide, by decide⟩ (fun w h Y => _root_.G.kmK_in (fun P => by kernel_rfl) Y) ?F (fun _ _ _ _ _ h => h)
  case F =>
    intro w mg fa h Y KX G hmg0
    have hmg : mg ("law" : PySem.Str) = some (.ref fa) := by
      have e : (HeadRun.topDef PySem.Challenge.pw_pagefolk_k03_whole_sets 30).name = ("law" : PySem.Str) := by kernel_rfl
      rw [← e]
      exact hmg0
    have hT := _root_.G.kmK_tabs Y
    refine' K03.law_at KX G hmg ?K_Folk ?n_Folk_hands ?n_Folk_ranks ?n_Folk_table ?n_Folk_order ?A0 ?A1 ?A2 ?A3 ?A4 ?a5 ?i5 ?l5 ?c5 ?k5 ?A6 ?A7 ?A8 ?A9 ?A10 ?A11 ?A12 ?A13 ?A14 ?A15 ?A16 ?A17 ?A18 ?A19 ?A20 ?A21 ?A22 ?A23 ?A24 ?A25 ?A26 ?A27 ?A28 ?A29 ?A30 ?A31 ?a32 ?l32 ?c32 ?k32 ?a33 ?l33 ?c33 ?k33 ?z_zip ?z_all ?z_max ?z_list ?z_sorted ?z_sum ?z_len ?z_tuple ?z_range ?z_int ?z_enumerate ?z_isinstance ?z_bool ?e5 ?e32 ?h5 ?t5 ?n5 ?h32 ?t32 ?n32 ?d5_32
    (case K_Folk => exact ⟨by k_is, by k_is, by k_is, by k_is, by k_is, by k_is, by k_is⟩)
    (case n_Folk_hands | n_Folk_ranks | n_Folk_table | n_Folk_order => unfold L2.NoAttr; k_is)
    (case A0 | A1 | A2 => exact _root_.G.wka_mk (by k_is) (by k_is) (by k_is) (by k_is))
    (case A3 | A4 => exact _root_.G.wkm_mk (by k_is) (by k_is) (by k_is) (by k_is) (by k_is))
    (case a5 | i5 | l5 | c5 | k5 => k_is)
    (case A6 | A7 | A8 | A9 | A10 | A11 | A12 => exact _root_.G.wkm_mk (by k_is) (by k_is) (by k_is) (by k_is) (by k_is))
    (case A13 | A14 | A15 | A16 | A17 | A18 | A19 | A20 | A21 | A22 | A23 | A24 | A25 | A26 | A27 | A28 | A29 | A30 | A31 => exact _root_.G.wka_mk (by k_is) (by k_is) (by k_is) (by k_is))
    (case a32 | l32 | c32 | k32 | a33 | l33 | c33 | k33 | z_zip | z_all | z_max | z_list | z_sorted | z_sum | z_len | z_tuple | z_range | z_int | z_enumerate | z_isinstance | z_bool => k_is)
    (case e5 => exact rfl); (case e32 => exact rfl)
    first | ((case t5 => exact hT _ (List.mem_cons_self)); (case t32 => exact hT _ ((List.mem_cons_of_mem _ List.mem_cons_self))); (case h5 => exact rfl); (case h32 => exact rfl)) | ((case t5 => exact hT _ ((List.mem_cons_of_mem _ List.mem_cons_self))); (case t32 => exact hT _ (List.mem_cons_self)); (case h5 => exact rfl); (case h32 => exact rfl))
    (case n5 => kernel_rfl); (case n32 => kernel_rfl); (case d5_32 => decide)
end
